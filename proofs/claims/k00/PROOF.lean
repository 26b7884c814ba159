import PyProof.Rows.All
import PySem.Challenge.RW_hingewebs_k00_whole_words
import HandS.ForExc
import HandS.Comp
import HandS.IsInst
import HandS.Wide
import HandS.Gcd
import HandS.TryMany
import HandS.CallSlots
import HandS.Flow
import HandS.Zip
import HandS.Iter
import HandS.NoneIn
import HandS.TupAny
import HandS.TupMul
import HandS.ExcIs
import HandS.Style
import HandS.EndBits
import HandS.ForMost
import HandS.Dict
import HandS.Deep
import HandS.More
import HandS.Walk
import KE.GoesEnum
import KE.GoesZip
import KE.DataMinMax
import HandS.Conv
import HandS.SortInts
import HandS.Strs
import HandS.Replace
import HandS.FStr
import HandS.StrSplit
import KE.KExcSuper
import HandS.ExcInit
import HandS.ExcField
import KE.KExcLine
import HandS.SetFor
set_option linter.all false
set_option Elab.async false
set_option maxRecDepth 100000
/-! The D layer: values as trees. -/
namespace DL
open PySem PySem.Spec PyProof.Rows L2

inductive D where
  | non | bl (b : Bool) | int (i : Int) | str (x : Str)
  | tup (xs : List D) | lst (xs : List D)
  | fn (i : Nat) | ref (n : Nat) | scr (xs : List Int)
  /-- a tuple that is known to have no dict of its own -/
  | pt (xs : List D)

inductive Cell where
  | lst (xs : List D)
  | dic (locked : Bool) (kvs : List (Key × D))

structure S where
  r : List (Option D)
  m : List Cell

inductive Ex where
  | mk (i : Nat) (fs : List D)

inductive R (α : Type) where
  | ok (a : α) (s : S)
  | raise (e : Ex) (s : S)
  | stuck

structure Gh where
  A : Addr → Prop
  fp : Nat → List Addr
  mu : List Addr
def Gh.Own (g : Gh) (b : Addr) : Prop := (∃ i, b ∈ g.fp i) ∨ b ∈ g.mu

structure Tb where
  fn : Nat → Option Addr
  exc : Nat → Option Addr
  fld : Nat → List Str

def imm : HO → Bool
  | .tup _ => true
  | .frz _ _ => true
  | _ => false
/-- what no cell is -/
def imo : HO → Bool
  | .tup _ => true
  | .frz _ (.tup _) => true
  | .frz _ (.lst _) => true
  | _ => false
theorem imo_imm {o : HO} (h : imo o = true) : imm o = true := by
  cases o <;> simp [imo, imm] at h ⊢

structure Step (g : Gh) (H : Hp) (g' : Gh) (H' : Hp) : Prop where
  aa : ∀ b, g.A b → g'.A b
  an : ∀ b, g'.A b → g.A b ∨ g.Own b ∨ H b = none
  on : ∀ b, g'.Own b → g.Own b ∨ H b = none
  fr : ∀ b o, H b = some o → ¬ g.Own b → H' b = some o
  im : ∀ b o, H b = some o → imm o = true → H' b = some o
  tr : ∀ b, H' b = none → H b = none
  mu : g.mu <+: g'.mu

theorem Step.refl (g : Gh) (H : Hp) : Step g H g H :=
  ⟨fun _ h => h, fun _ h => .inl h, fun _ h => .inl h, fun _ _ h _ => h, fun _ _ h _ => h, fun _ h => h, List.prefix_refl _⟩
theorem Step.trans {g g1 g2 : Gh} {H H1 H2 : Hp} (a : Step g H g1 H1) (b : Step g1 H1 g2 H2) : Step g H g2 H2 where
  aa := fun x h => b.aa x (a.aa x h)
  an := fun x h => by
    rcases b.an x h with h | h | h
    · exact a.an x h
    · exact .inr (a.on x h)
    · exact .inr (.inr (a.tr x h))
  on := fun x h => by
    rcases b.on x h with h | h
    · exact a.on x h
    · exact .inr (a.tr x h)
  fr := fun x o h n => b.fr x o (a.fr x o h n) fun q => by
    rcases a.on x q with q | q
    · exact n q
    · rw [h] at q; cases q
  im := fun x o h i => b.im x o (a.im x o h i) i
  tr := fun x h => a.tr x (b.tr x h)
  mu := a.mu.trans b.mu

structure WF (g : Gh) (H : Hp) : Prop where
  ta : ∀ b, g.A b → ∃ o, H b = some o
  ot : ∀ b, g.Own b → ∃ o, H b = some o ∧ imo o = false
  ao : ∀ b, g.A b → ¬ g.Own b
  nf : ∀ i, (g.fp i).Nodup
  df : ∀ i j b, b ∈ g.fp i → b ∈ g.fp j → i = j
  fm : ∀ i b, b ∈ g.fp i → b ∉ g.mu
  nm : g.mu.Nodup

/-! ### what a value stands for -/
section
variable (K : PySem.W.Frag) (T : Tb) (g : Gh) (H : Hp)
def ScrOk (a : Addr) (xs : List V) : Prop :=
  (g.A a ∧ H a = some (.lst xs)) ∨ (∃ o, H a = some (.frz o (.lst xs))) ∨
    ∃ (o : Obj) (its : Array Value) (n : Nat), K.lookup a = some o ∧ o.cls = .type "list" ∧ o.dict = none ∧ o.data = .seq its n ∧ its.size ≤ sizeLine ∧ Vals xs its.toList
mutual
def Rp : D → V → Prop
  | .non, v => v = .non
  | .bl b, v => v = .bl b
  | .int i, v => v = .int i
  | .str x, v => v = .str x
  | .tup ds, v => ∃ a vs, v = .ref a ∧ SqT K H a vs ∧ Rps ds vs
  | .lst ds, v => ∃ a vs, v = .ref a ∧ g.A a ∧ H a = some (.lst vs) ∧ Rps ds vs
  | .fn i, v => ∃ a, v = .ref a ∧ T.fn i = some a
  | .ref n, v => ∃ a, v = .ref a ∧ g.mu[n]? = some a
  | .scr xs, v => ∃ a, v = .ref a ∧ ScrOk K g H a (xs.map V.int)
  | .pt ds, v => ∃ a vs o, v = .ref a ∧ H a = some (.frz o (.tup vs)) ∧ o.dict = none ∧ Rps ds vs
def Rps : List D → List V → Prop
  | [], vs => vs = []
  | d :: ds, vs => ∃ v r, vs = v :: r ∧ Rp d v ∧ Rps ds r
end
end

section
variable {K : PySem.W.Frag} {T : Tb} {g g' : Gh} {H H' : Hp}
/-- what a value leans on stays -/
structure Sub (g : Gh) (H : Hp) (g' : Gh) (H' : Hp) : Prop where
  aa : ∀ b, g.A b → g'.A b
  fa : ∀ b o, g.A b → H b = some o → H' b = some o
  im : ∀ b o, H b = some o → imo o = true → H' b = some o
  mu : g.mu <+: g'.mu
theorem Step.sub (wf : WF g H) (s : Step g H g' H') : Sub g H g' H' := ⟨s.aa, fun b o a h => s.fr b o h (wf.ao b a), fun b o h i => s.im b o h (imo_imm i), s.mu⟩
theorem SqT.sub (s : Sub g H g' H') {a : Addr} {vs : List V} (h : SqT K H a vs) : SqT K H' a vs := by
  rcases h with (h | ⟨o, h⟩) | h
  · exact .inl (.inl (s.im _ _ h rfl))
  · exact .inl (.inr ⟨o, s.im _ _ h rfl⟩)
  · exact .inr h
theorem ScrOk.sub (s : Sub g H g' H') {a : Addr} {vs : List V} (h : ScrOk K g H a vs) : ScrOk K g' H' a vs := by
  rcases h with ⟨h1, h2⟩ | ⟨o, h⟩ | h
  · exact .inl ⟨s.aa _ h1, s.fa _ _ h1 h2⟩
  · exact .inr (.inl ⟨o, s.im _ _ h rfl⟩)
  · exact .inr (.inr h)
mutual
theorem Rp.sub (s : Sub g H g' H') : ∀ {d : D} {v : V}, Rp K T g H d v → Rp K T g' H' d v
  | .non, v, h => by simpa [Rp] using h
  | .bl b, v, h => by simpa [Rp] using h
  | .int i, v, h => by simpa [Rp] using h
  | .str x, v, h => by simpa [Rp] using h
  | .tup ds, v, h => by
    simp only [Rp] at h ⊢
    obtain ⟨a, vs, e, q, r⟩ := h
    exact ⟨a, vs, e, SqT.sub s q, Rps.sub s r⟩
  | .lst ds, v, h => by
    simp only [Rp] at h ⊢
    obtain ⟨a, vs, e, q1, q2, r⟩ := h
    exact ⟨a, vs, e, s.aa _ q1, s.fa _ _ q1 q2, Rps.sub s r⟩
  | .fn i, v, h => by simpa [Rp] using h
  | .ref n, v, h => by
    simp only [Rp] at h ⊢
    obtain ⟨a, e, q⟩ := h
    refine ⟨a, e, ?_⟩
    obtain ⟨t, ht⟩ := s.mu
    rw [← ht]
    rw [List.getElem?_append_left]
    · exact q
    · exact (List.getElem?_eq_some_iff.mp q).1
  | .scr xs, v, h => by
    simp only [Rp] at h ⊢
    obtain ⟨a, e, q⟩ := h
    exact ⟨a, e, ScrOk.sub s q⟩
  | .pt ds, v, h => by
    simp only [Rp] at h ⊢
    obtain ⟨a, vs, o, e, q, z, r⟩ := h
    exact ⟨a, vs, o, e, s.im _ _ q rfl, z, Rps.sub s r⟩
theorem Rps.sub (s : Sub g H g' H') : ∀ {ds : List D} {vs : List V}, Rps K T g H ds vs → Rps K T g' H' ds vs
  | [], vs, h => by simpa [Rps] using h
  | d :: ds, vs, h => by
    simp only [Rps] at h ⊢
    obtain ⟨v, r, e, h1, h2⟩ := h
    exact ⟨v, r, e, Rp.sub s h1, Rps.sub s h2⟩
end
theorem SqT.step (wf : WF g H) (s : Step g H g' H') {a : Addr} {vs : List V} (h : SqT K H a vs) : SqT K H' a vs := SqT.sub (s.sub wf) h
theorem ScrOk.step (wf : WF g H) (s : Step g H g' H') {a : Addr} {vs : List V} (h : ScrOk K g H a vs) : ScrOk K g' H' a vs := ScrOk.sub (s.sub wf) h
theorem Rp.step (wf : WF g H) (s : Step g H g' H') {d : D} {v : V} (h : Rp K T g H d v) : Rp K T g' H' d v := Rp.sub (s.sub wf) h
theorem Rps.step (wf : WF g H) (s : Step g H g' H') {ds : List D} {vs : List V} (h : Rps K T g H ds vs) : Rps K T g' H' ds vs := Rps.sub (s.sub wf) h

theorem Rps.length : ∀ {ds : List D} {vs : List V}, Rps K T g H ds vs → vs.length = ds.length
  | [], vs, h => by
    simp only [Rps] at h
    rw [h]
    rfl
  | d :: ds, vs, h => by
    simp only [Rps] at h
    obtain ⟨v, r, e, _, h2⟩ := h
    rw [e, List.length_cons, List.length_cons, h2.length]
theorem Rps.get : ∀ {ds : List D} {vs : List V} {i : Nat} {d : D}, Rps K T g H ds vs → ds[i]? = some d → ∃ v, vs[i]? = some v ∧ Rp K T g H d v
  | [], _, _, _, _, e => by simp at e
  | d :: ds, vs, 0, d', h, e => by
    simp only [Rps] at h
    obtain ⟨v, r, e1, h1, _⟩ := h
    simp at e
    subst e e1
    exact ⟨v, rfl, h1⟩
  | d :: ds, vs, i + 1, d', h, e => by
    simp only [Rps] at h
    obtain ⟨v, r, e1, _, h2⟩ := h
    subst e1
    obtain ⟨v', q1, q2⟩ := Rps.get h2 (i := i) (by simpa using e)
    exact ⟨v', by simpa using q1, q2⟩
theorem Rps.append : ∀ {ds es : List D} {vs ws : List V}, Rps K T g H ds vs → Rps K T g H es ws → Rps K T g H (ds ++ es) (vs ++ ws)
  | [], es, vs, ws, h, h' => by
    simp only [Rps] at h
    subst h
    exact h'
  | d :: ds, es, vs, ws, h, h' => by
    simp only [Rps] at h
    obtain ⟨v, r, e1, h1, h2⟩ := h
    subst e1
    show Rps K T g H (d :: (ds ++ es)) (v :: (r ++ ws))
    simp only [Rps]
    exact ⟨v, _, rfl, h1, h2.append h'⟩
theorem Rps.one {d : D} {v : V} (h : Rp K T g H d v) : Rps K T g H [d] [v] := by
  simp only [Rps]
  exact ⟨v, [], rfl, h, rfl⟩
theorem Rps.cons {d : D} {v : V} {ds : List D} {vs : List V} (h : Rp K T g H d v) (h2 : Rps K T g H ds vs) : Rps K T g H (d :: ds) (v :: vs) := by
  simp only [Rps]
  exact ⟨v, vs, rfl, h, h2⟩
theorem Rps.nil : Rps K T g H [] [] := by simp only [Rps]
theorem Rps.set : ∀ {ds : List D} {vs : List V} {d : D} {v : V} (i : Nat), Rps K T g H ds vs → Rp K T g H d v → Rps K T g H (ds.set i d) (vs.set i v)
  | [], vs, d, v, i, h, _ => by
    simp only [Rps] at h
    subst h
    exact Rps.nil
  | d :: ds, vs, d', v', 0, h, h' => by
    simp only [Rps] at h
    obtain ⟨v, r, e1, h1, h2⟩ := h
    subst e1
    exact Rps.cons h' h2
  | d :: ds, vs, d', v', i + 1, h, h' => by
    simp only [Rps] at h
    obtain ⟨v, r, e1, h1, h2⟩ := h
    subst e1
    exact Rps.cons h1 (h2.set i h')
theorem Rps.take : ∀ {ds : List D} {vs : List V} (n : Nat), Rps K T g H ds vs → Rps K T g H (ds.take n) (vs.take n)
  | _, _, 0, _ => by simpa using Rps.nil
  | [], vs, n + 1, h => by
    simp only [Rps] at h
    subst h
    exact Rps.nil
  | d :: ds, vs, n + 1, h => by
    simp only [Rps] at h
    obtain ⟨v, r, e1, h1, h2⟩ := h
    subst e1
    exact Rps.cons h1 (h2.take n)
theorem Rps.drop : ∀ {ds : List D} {vs : List V} (n : Nat), Rps K T g H ds vs → Rps K T g H (ds.drop n) (vs.drop n)
  | _, _, 0, h => by simpa using h
  | [], vs, n + 1, h => by
    simp only [Rps] at h
    subst h
    simpa using Rps.nil
  | d :: ds, vs, n + 1, h => by
    simp only [Rps] at h
    obtain ⟨v, r, e1, h1, h2⟩ := h
    subst e1
    exact h2.drop n
theorem Rps.reverse : ∀ {ds : List D} {vs : List V}, Rps K T g H ds vs → Rps K T g H ds.reverse vs.reverse
  | [], vs, h => by
    simp only [Rps] at h
    subst h
    exact Rps.nil
  | d :: ds, vs, h => by
    simp only [Rps] at h
    obtain ⟨v, r, e1, h1, h2⟩ := h
    subst e1
    rw [List.reverse_cons, List.reverse_cons]
    exact h2.reverse.append (.one h1)

/-! ### the state -/
inductive Fl where
  | sh | o1 | o2
abbrev Fls := List Fl
def fl (Γ : Fls) (i : Nat) : Fl := Γ.getD i .sh

def L2R (K : PySem.W.Frag) (T : Tb) (g : Gh) (H : Hp) : List Addr → List (List D) → Prop
  | [], dss => dss = []
  | b :: bs, dss => ∃ ds r ws, dss = ds :: r ∧ H b = some (.lst ws) ∧ Rps K T g H ds ws ∧ L2R K T g H bs r

def SlR (K : PySem.W.Frag) (T : Tb) (g : Gh) (H : Hp) (i : Nat) : Fl → Option V → Option D → Prop
  | .sh, some v, some d => Rp K T g H d v
  | .sh, none, none => True
  | .o1, some v, some d => ∃ a vs ds, v = .ref a ∧ d = .lst ds ∧ g.fp i = [a] ∧ H a = some (.lst vs) ∧ Rps K T g H ds vs
  | .o2, some v, some d => ∃ a bs dss, v = .ref a ∧ d = .lst (dss.map D.lst) ∧ g.fp i = a :: bs ∧ H a = some (.lst (bs.map V.ref)) ∧ L2R K T g H bs dss
  | _, _, _ => False

def CellR (K : PySem.W.Frag) (T : Tb) (g : Gh) (H : Hp) (a : Addr) : Cell → Prop
  | .lst ds => ∃ vs, H a = some (.lst vs) ∧ Rps K T g H ds vs
  | .dic false kvs => ∃ vs, H a = some (.dK ((kvs.map (·.1)).zip vs)) ∧ Rps K T g H (kvs.map (·.2)) vs
  | .dic true kvs => ∃ vs od, H a = some (.frz od (.dK ((kvs.map (·.1)).zip vs))) ∧ Rps K T g H (kvs.map (·.2)) vs

structure MR (K : PySem.W.Frag) (T : Tb) (g : Gh) (H : Hp) (m : List Cell) : Prop where
  len : g.mu.length = m.length
  at_ : ∀ (n : Nat) (c : Cell) (a : Addr), m[n]? = some c → g.mu[n]? = some a → CellR K T g H a c

structure SR (K : PySem.W.Frag) (T : Tb) (Γ : Fls) (g : Gh) (σ : L2.St) (H : Hp) (st : S) : Prop where
  wf : WF g H
  len : σ.length = st.r.length
  sl : ∀ i, i < σ.length → SlR K T g H i (fl Γ i) (σ.getD i none) (st.r.getD i none)
  me : MR K T g H st.m

theorem L2R.sub (s : Sub g H g' H') : ∀ {bs : List Addr} {dss : List (List D)}, (∀ b ∈ bs, H' b = H b) → L2R K T g H bs dss → L2R K T g' H' bs dss
  | [], _, _, h => h
  | b :: bs, dss, k, h => by
    obtain ⟨ds, r, ws, e, h1, h2, h3⟩ := h
    exact ⟨ds, r, ws, e, (k b List.mem_cons_self).trans h1, h2.sub s, h3.sub s fun b hb => k b (List.mem_cons_of_mem _ hb)⟩
theorem L2R.step (wf : WF g H) (s : Step g H g' H') {bs : List Addr} {dss : List (List D)} (k : ∀ b ∈ bs, H' b = H b) (h : L2R K T g H bs dss) : L2R K T g' H' bs dss := h.sub (s.sub wf) k
theorem SlR.sub (s : Sub g H g' H') {i : Nat} (hf : g'.fp i = g.fp i) (k : ∀ b ∈ g.fp i, H' b = H b) :
    ∀ {f : Fl} {v : Option V} {d : Option D}, SlR K T g H i f v d → SlR K T g' H' i f v d
  | .sh, some v, some d, h => Rp.sub s h
  | .sh, none, none, _ => True.intro
  | .sh, none, some _, h => h.elim
  | .sh, some _, none, h => h.elim
  | .o1, some v, some d, h => by
    obtain ⟨a, vs, ds, e1, e2, e3, h1, h2⟩ := h
    exact ⟨a, vs, ds, e1, e2, hf.trans e3, (k a (by rw [e3]; exact List.mem_cons_self)).trans h1, h2.sub s⟩
  | .o1, none, _, h => by cases ‹Option D› <;> exact h.elim
  | .o1, some _, none, h => h.elim
  | .o2, some v, some d, h => by
    obtain ⟨a, bs, dss, e1, e2, e3, h1, h2⟩ := h
    exact ⟨a, bs, dss, e1, e2, hf.trans e3, (k a (by rw [e3]; exact List.mem_cons_self)).trans h1, h2.sub s fun b hb => k b (by rw [e3]; exact List.mem_cons_of_mem _ hb)⟩
  | .o2, none, _, h => by cases ‹Option D› <;> exact h.elim
  | .o2, some _, none, h => h.elim
theorem SlR.step (wf : WF g H) (s : Step g H g' H') {i : Nat} (hf : g'.fp i = g.fp i) (k : ∀ b ∈ g.fp i, H' b = H b) {f : Fl} {v : Option V} {d : Option D} (h : SlR K T g H i f v d) : SlR K T g' H' i f v d := h.sub (s.sub wf) hf k
theorem CellR.sub (s : Sub g H g' H') {a : Addr} (k : H' a = H a) {c : Cell} (q : CellR K T g H a c) : CellR K T g' H' a c := by
  cases c with
  | lst ds =>
    obtain ⟨vs, q1, q2⟩ := q
    exact ⟨vs, k.trans q1, q2.sub s⟩
  | dic lk kvs =>
    cases lk with
    | false =>
      obtain ⟨vs, q1, q2⟩ := q
      exact ⟨vs, k.trans q1, q2.sub s⟩
    | true =>
      obtain ⟨vs, od, q1, q2⟩ := q
      exact ⟨vs, od, k.trans q1, q2.sub s⟩
theorem MR.sub (s : Sub g H g' H') (hm : g'.mu = g.mu) (k : ∀ b ∈ g.mu, H' b = H b) {m : List Cell} (h : MR K T g H m) : MR K T g' H' m where
  len := by rw [hm]; exact h.len
  at_ := fun n c a h1 h2 => by
    rw [hm] at h2
    have q := h.at_ n c a h1 h2
    cases c with
    | lst ds =>
      obtain ⟨vs, q1, q2⟩ := q
      exact ⟨vs, (k a (List.mem_of_getElem? h2)).trans q1, q2.sub s⟩
    | dic lk kvs =>
      cases lk with
      | false =>
        obtain ⟨vs, q1, q2⟩ := q
        exact ⟨vs, (k a (List.mem_of_getElem? h2)).trans q1, q2.sub s⟩
      | true =>
        obtain ⟨vs, od, q1, q2⟩ := q
        exact ⟨vs, od, (k a (List.mem_of_getElem? h2)).trans q1, q2.sub s⟩
theorem MR.step (wf : WF g H) (s : Step g H g' H') (hm : g'.mu = g.mu) (k : ∀ b ∈ g.mu, H' b = H b) {m : List Cell} (h : MR K T g H m) : MR K T g' H' m := h.sub (s.sub wf) hm k
/-- own cells kept -/
theorem SR.sub {Γ : Fls} {σ : L2.St} {st : S} (h : SR K T Γ g σ H st) (s : Sub g H g' H') (wf' : WF g' H') (hf : g'.fp = g.fp) (hm : g'.mu = g.mu) (k : ∀ b, g.Own b → H' b = H b) : SR K T Γ g' σ H' st where
  wf := wf'
  len := h.len
  sl := fun i hi => (h.sl i hi).sub s (by rw [hf]) fun b hb => k b (.inl ⟨i, hb⟩)
  me := h.me.sub s hm fun b hb => k b (.inr hb)
theorem SR.step {Γ : Fls} {σ : L2.St} {st : S} (h : SR K T Γ g σ H st) (s : Step g H g' H') (wf' : WF g' H') (hf : g'.fp = g.fp) (hm : g'.mu = g.mu) (k : ∀ b, g.Own b → H' b = H b) : SR K T Γ g' σ H' st := h.sub (s.sub h.wf) wf' hf hm k
/-- the slots' own cells kept, the store another -/
theorem SR.re {Γ : Fls} {σ : L2.St} {st : S} {m : List Cell} (h : SR K T Γ g σ H st) (s : Sub g H g' H') (wf' : WF g' H') (hf : g'.fp = g.fp) (k : ∀ i b, b ∈ g.fp i → H' b = H b) (me : MR K T g' H' m) : SR K T Γ g' σ H' { st with m := m } where
  wf := wf'
  len := h.len
  sl := fun i hi => (h.sl i hi).sub s (by rw [hf]) fun b hb => k i b hb
  me := me

/-- a new object, not listed -/
theorem Step.new {p : Addr} {o : HO} (hp : H p = none) : Step g H g (upd H p o) :=
  ⟨fun _ h => h, fun _ h => .inl h, fun _ h => .inl h, fun b o' h _ => by rw [upd_ne (ne_of_none h hp)]; exact h, fun b o' h _ => by rw [upd_ne (ne_of_none h hp)]; exact h,
    fun b h => by
      by_cases e : b = p
      · rw [e]; exact hp
      · rw [upd_ne e] at h; exact h, List.prefix_refl _⟩
theorem WF.new {p : Addr} {o : HO} (h : WF g H) (hp : H p = none) : WF g (upd H p o) where
  ta := fun b hb => by
    obtain ⟨o', e⟩ := h.ta b hb
    exact ⟨o', by rw [upd_ne (ne_of_none e hp)]; exact e⟩
  ot := fun b hb => by
    obtain ⟨o', e, i⟩ := h.ot b hb
    exact ⟨o', by rw [upd_ne (ne_of_none e hp)]; exact e, i⟩
  ao := h.ao
  nf := h.nf
  df := h.df
  fm := h.fm
  nm := h.nm
theorem WF.nota {p : Addr} (h : WF g H) (hp : H p = none) : ¬ g.A p := fun q => by
  obtain ⟨o, e⟩ := h.ta p q
  rw [hp] at e; cases e
theorem WF.noto {p : Addr} (h : WF g H) (hp : H p = none) : ¬ g.Own p := fun q => by
  obtain ⟨o, e, _⟩ := h.ot p q
  rw [hp] at e; cases e
theorem SR.new {Γ : Fls} {σ : L2.St} {st : S} {p : Addr} {o : HO} (h : SR K T Γ g σ H st) (hp : H p = none) : SR K T Γ g σ (upd H p o) st :=
  h.step (.new hp) (h.wf.new hp) rfl rfl fun b hb => by
    obtain ⟨o', e, _⟩ := h.wf.ot b hb
    rw [upd_ne (ne_of_none e hp)]
/-- a tracked object becomes listed -/
def Gh.add (g : Gh) (p : Addr) : Gh := { g with A := fun b => g.A b ∨ b = p }
theorem Step.add {p : Addr} {Hs : Hp} {gs : Gh} (s : Step gs Hs g H) (hp : Hs p = none) : Step gs Hs (g.add p) H where
  aa := fun b h => .inl (s.aa b h)
  an := fun b h => by
    rcases h with h | h
    · exact s.an b h
    · rw [h]; exact .inr (.inr hp)
  on := s.on
  fr := s.fr
  im := s.im
  tr := s.tr
  mu := s.mu
theorem WF.add {p : Addr} {o : HO} (h : WF g H) (ho : H p = some o) (no : ¬ g.Own p) : WF (g.add p) H where
  ta := fun b hb => by
    rcases hb with hb | hb
    · exact h.ta b hb
    · rw [hb]; exact ⟨o, ho⟩
  ot := h.ot
  ao := fun b hb => by
    rcases hb with hb | hb
    · exact h.ao b hb
    · rw [hb]; exact no
  nf := h.nf
  df := h.df
  fm := h.fm
  nm := h.nm
/-- the ghost alone grows -/
theorem Step.grow {p : Addr} : ∀ (b : Addr), g.A b → (g.add p).A b := fun _ h => .inl h
mutual
theorem Rp.add {p : Addr} : ∀ {d : D} {v : V}, Rp K T g H d v → Rp K T (g.add p) H d v
  | .non, v, h => by simpa [Rp] using h
  | .bl b, v, h => by simpa [Rp] using h
  | .int i, v, h => by simpa [Rp] using h
  | .str x, v, h => by simpa [Rp] using h
  | .tup ds, v, h => by
    simp only [Rp] at h ⊢
    obtain ⟨a, vs, e, q, r⟩ := h
    exact ⟨a, vs, e, q, Rps.add r⟩
  | .lst ds, v, h => by
    simp only [Rp] at h ⊢
    obtain ⟨a, vs, e, q1, q2, r⟩ := h
    exact ⟨a, vs, e, .inl q1, q2, Rps.add r⟩
  | .fn i, v, h => by simpa [Rp] using h
  | .ref n, v, h => by
    simp only [Rp] at h ⊢
    exact h
  | .scr xs, v, h => by
    simp only [Rp] at h ⊢
    obtain ⟨a, e, q⟩ := h
    refine ⟨a, e, ?_⟩
    rcases q with ⟨q1, q2⟩ | q | q
    · exact .inl ⟨.inl q1, q2⟩
    · exact .inr (.inl q)
    · exact .inr (.inr q)
  | .pt ds, v, h => by
    simp only [Rp] at h ⊢
    obtain ⟨a, vs, o, e, q, z, r⟩ := h
    exact ⟨a, vs, o, e, q, z, Rps.add r⟩
theorem Rps.add {p : Addr} : ∀ {ds : List D} {vs : List V}, Rps K T g H ds vs → Rps K T (g.add p) H ds vs
  | [], vs, h => by simpa [Rps] using h
  | d :: ds, vs, h => by
    simp only [Rps] at h ⊢
    obtain ⟨v, r, e, h1, h2⟩ := h
    exact ⟨v, r, e, Rp.add h1, Rps.add h2⟩
end
theorem L2R.add {p : Addr} : ∀ {bs : List Addr} {dss : List (List D)}, L2R K T g H bs dss → L2R K T (g.add p) H bs dss
  | [], _, h => h
  | b :: bs, dss, h => by
    obtain ⟨ds, r, ws, e, h1, h2, h3⟩ := h
    exact ⟨ds, r, ws, e, h1, h2.add, h3.add⟩
theorem SR.add {Γ : Fls} {σ : L2.St} {st : S} {p : Addr} {o : HO} (h : SR K T Γ g σ H st) (ho : H p = some o) (no : ¬ g.Own p) : SR K T Γ (g.add p) σ H st where
  wf := h.wf.add ho no
  len := h.len
  sl := fun i hi => by
    have q := h.sl i hi
    generalize σ.getD i none = v at q
    generalize st.r.getD i none = d at q
    generalize fl Γ i = f at q
    cases f <;> cases v <;> cases d <;> first
      | exact q
      | exact Rp.add q
      | (obtain ⟨a, vs, ds, e1, e2, e3, h1, h2⟩ := q; exact ⟨a, vs, ds, e1, e2, e3, h1, h2.add⟩)
      | (obtain ⟨a, vs, ds, e1, e2, e3, h1, h2⟩ := q; exact ⟨a, vs, ds, e1, e2, e3, h1, L2R.add h2⟩)
  me := ⟨h.me.len, fun n c a h1 h2 => by
    have q := h.me.at_ n c a h1 h2
    cases c with
    | lst ds =>
      obtain ⟨vs, q1, q2⟩ := q
      exact ⟨vs, q1, q2.add⟩
    | dic lk kvs =>
      cases lk with
      | false =>
        obtain ⟨vs, q1, q2⟩ := q
        exact ⟨vs, q1, q2.add⟩
      | true =>
        obtain ⟨vs, od, q1, q2⟩ := q
        exact ⟨vs, od, q1, q2.add⟩⟩
end
end DL

set_option linter.all false
set_option Elab.async false
set_option maxRecDepth 100000
namespace DL
open PySem PySem.Spec PyProof.Rows L2

/-- a step of an expression: the slots' own cells stay -/
structure QStep (g : Gh) (H : Hp) (g' : Gh) (H' : Hp) : Prop extends Step g H g' H' where
  qf : g'.fp = g.fp
  qo : ∀ i b, b ∈ g.fp i → H' b = H b
theorem QStep.refl (g : Gh) (H : Hp) : QStep g H g H := ⟨.refl g H, rfl, fun _ _ _ => rfl⟩
theorem QStep.trans {g g1 g2 : Gh} {H H1 H2 : Hp} (a : QStep g H g1 H1) (b : QStep g1 H1 g2 H2) : QStep g H g2 H2 :=
  ⟨a.toStep.trans b.toStep, b.qf.trans a.qf, fun i x h => (b.qo i x (by rw [a.qf]; exact h)).trans (a.qo i x h)⟩

inductive Mo where
  | sh | f1 | f2 | b1 | b2
/-- a fresh address -/
def Fresh (g : Gh) (H0 : Hp) (a : Addr) : Prop := ¬ g.A a ∧ ¬ g.Own a ∧ H0 a = none
def RpM (K : PySem.W.Frag) (T : Tb) (g : Gh) (H0 H : Hp) : Mo → D → V → Prop
  | .sh, d, v => Rp K T g H d v
  | .f1, d, v => match d with
    | .lst ds => ∃ a vs, v = .ref a ∧ H a = some (.lst vs) ∧ Fresh g H0 a ∧ Rps K T g H ds vs
    | d => Rp K T g H d v
  | .b1, d, v => match d with
    | .lst ds => ∃ a vs, v = .ref a ∧ H a = some (.lst vs) ∧ a ∉ g.mu ∧ Rps K T g H ds vs
    | d => Rp K T g H d v
  | .f2, d, v => match d with
    | .lst es => ∃ a bs dss, v = .ref a ∧ es = dss.map D.lst ∧ H a = some (.lst (bs.map V.ref)) ∧ (a :: bs).Nodup ∧ (∀ b ∈ a :: bs, Fresh g H0 b) ∧ L2R K T g H bs dss
    | d => Rp K T g H d v
  | .b2, d, v => match d with
    | .lst es => ∃ a bs dss, v = .ref a ∧ es = dss.map D.lst ∧ H a = some (.lst (bs.map V.ref)) ∧ (∀ b ∈ a :: bs, b ∉ g.mu) ∧ L2R K T g H bs dss
    | d => Rp K T g H d v

section
variable {K : PySem.W.Frag} {T : Tb} {g g' : Gh} {H H' H0 H1 : Hp} {d : D} {v : V}
theorem Fresh.step {a : Addr} {o : HO} (s : Step g H g' H') (e : H a = some o) (f : Fresh g H0 a) : Fresh g' H0 a := by
  refine ⟨fun q => ?_, fun q => ?_, f.2.2⟩
  · rcases s.an a q with q | q | q
    · exact f.1 q
    · exact f.2.1 q
    · rw [e] at q; cases q
  · rcases s.on a q with q | q
    · exact f.2.1 q
    · rw [e] at q; cases q
theorem L2R.tracked : ∀ {bs : List Addr} {dss : List (List D)}, L2R K T g H bs dss → ∀ b ∈ bs, ∃ ws, H b = some (.lst ws)
  | [], _, _, b, hb => by simp at hb
  | b :: bs, dss, h, c, hc => by
    obtain ⟨ds, r, ws, e, h1, h2, h3⟩ := h
    rcases List.mem_cons.mp hc with rfl | hc
    · exact ⟨ws, h1⟩
    · exact h3.tracked c hc
theorem stay_fresh {a : Addr} {o : HO} (s : Step g H g' H') (f : Fresh g H0 a) (e : H a = some o) : H' a = some o := s.fr a o e f.2.1
theorem stay_b {a : Addr} {o : HO} (s : QStep g H g' H') (f : a ∉ g.mu) (e : H a = some o) : H' a = some o := by
  by_cases q : ∃ i, a ∈ g.fp i
  · obtain ⟨i, q⟩ := q
    exact (s.qo i a q).trans e
  · exact s.fr a o e fun z => by
      rcases z with z | z
      · exact q z
      · exact f z
theorem mu_b {a : Addr} {o : HO} (wf' : WF g' H') (s : QStep g H g' H') (f : a ∉ g.mu) (e : H a = some o) : a ∉ g'.mu := fun z => by
  rcases s.on a (.inr z) with (⟨i, q⟩ | q) | q
  · exact wf'.fm i a (by rw [s.qf]; exact q) z
  · exact f q
  · rw [e] at q; cases q
theorem RpM.step (wf : WF g H) (wf' : WF g' H') (s : QStep g H g' H') {m : Mo} (h : RpM K T g H0 H m d v) : RpM K T g' H0 H' m d v := by
  cases m with
  | sh => exact Rp.step wf s.toStep h
  | f1 =>
    cases d with
    | lst ds =>
      obtain ⟨a, vs, e, h1, h2, h3⟩ := h
      exact ⟨a, vs, e, stay_fresh s.toStep h2 h1, h2.step s.toStep h1, h3.step wf s.toStep⟩
    | _ => exact Rp.step wf s.toStep h
  | b1 =>
    cases d with
    | lst ds =>
      obtain ⟨a, vs, e, h1, h2, h3⟩ := h
      exact ⟨a, vs, e, stay_b s h2 h1, mu_b wf' s h2 h1, h3.step wf s.toStep⟩
    | _ => exact Rp.step wf s.toStep h
  | f2 =>
    cases d with
    | lst ds =>
      obtain ⟨a, bs, dss, e, e2, h1, nd, h2, h3⟩ := h
      refine ⟨a, bs, dss, e, e2, stay_fresh s.toStep (h2 a List.mem_cons_self) h1, nd, fun b hb => ?_, h3.step wf s.toStep fun b hb => ?_⟩
      · rcases List.mem_cons.mp hb with rfl | hb'
        · exact (h2 _ hb).step s.toStep h1
        · obtain ⟨ws, z⟩ := h3.tracked b hb'
          exact (h2 b hb).step s.toStep z
      · obtain ⟨ws, z⟩ := h3.tracked b hb
        rw [stay_fresh s.toStep (h2 b (List.mem_cons_of_mem _ hb)) z, z]
    | _ => exact Rp.step wf s.toStep h
  | b2 =>
    cases d with
    | lst ds =>
      obtain ⟨a, bs, dss, e, e2, h1, h2, h3⟩ := h
      refine ⟨a, bs, dss, e, e2, stay_b s (h2 a List.mem_cons_self) h1, fun b hb => ?_, h3.step wf s.toStep fun b hb => ?_⟩
      · rcases List.mem_cons.mp hb with rfl | hb'
        · exact mu_b wf' s (h2 _ hb) h1
        · obtain ⟨ws, z⟩ := h3.tracked b hb'
          exact mu_b wf' s (h2 b hb) z
      · obtain ⟨ws, z⟩ := h3.tracked b hb
        rw [stay_b s (h2 b (List.mem_cons_of_mem _ hb)) z, z]
    | _ => exact Rp.step wf s.toStep h
theorem RpM.base {m : Mo} (tr : ∀ b, H1 b = none → H0 b = none) (h : RpM K T g H1 H m d v) : RpM K T g H0 H m d v := by
  cases m with
  | sh => exact h
  | b1 => exact h
  | b2 => exact h
  | f1 =>
    cases d with
    | lst ds =>
      obtain ⟨a, vs, e, h1, h2, h3⟩ := h
      exact ⟨a, vs, e, h1, ⟨h2.1, h2.2.1, tr _ h2.2.2⟩, h3⟩
    | _ => exact h
  | f2 =>
    cases d with
    | lst ds =>
      obtain ⟨a, bs, dss, e, e2, h1, nd, h2, h3⟩ := h
      exact ⟨a, bs, dss, e, e2, h1, nd, fun b hb => ⟨(h2 b hb).1, (h2 b hb).2.1, tr _ (h2 b hb).2.2⟩, h3⟩
    | _ => exact h
end

/-! ### exceptions -/
def ExR (K : PySem.W.Frag) (T : Tb) (g : Gh) (H : Hp) : Ex → Value → Option Addr → Prop
  | .mk i fs, cls, dd => ∃ C, T.exc i = some C ∧ cls = .ref C ∧ (fs = [] ∧ dd = none ∨ fs ≠ [] ∧ ∃ dx vs, dd = some dx ∧ H dx = some (.xd ((T.fld i).zip vs)) ∧ Rps K T g H fs vs ∧ (T.fld i).length = fs.length)

/-! ### what is wanted behind an expression -/
section
variable (K : PySem.W.Frag) (T : Tb) (Γ : Fls) (σ : L2.St) (g : Gh) (H : Hp)
def PostX (W : WX) (e : Ex) (st : S) : Prop := ∀ cls dd H' g', Step g H g' H' → SR K T [] g' σ H' st → ExR K T g' H' e cls dd → W cls dd σ H'
def PostE (m : Mo) (W : WX) (Q : VK) : R D → Prop
  | .ok d st => ∀ v H' g', QStep g H g' H' → SR K T Γ g' σ H' st → RpM K T g' H H' m d v → Q v H'
  | .raise e st => PostX K T σ g H W e st
  | .stuck => False
def PostA (W : WX) (Q : List V → Hp → Prop) : R (List D) → Prop
  | .ok ds st => ∀ vs H' g', QStep g H g' H' → SR K T Γ g' σ H' st → Rps K T g' H' ds vs → Q vs H'
  | .raise e st => PostX K T σ g H W e st
  | .stuck => False
def PostT (W : WX) (Q : Bool → Hp → Prop) : R Bool → Prop
  | .ok b st => ∀ H' g', QStep g H g' H' → SR K T Γ g' σ H' st → Q b H'
  | .raise e st => PostX K T σ g H W e st
  | .stuck => False
end
def te (K : PySem.W.Frag) (T : Tb) (Γ : Fls) (m : Mo) (W : WX) (f : S → R D) : TE := fun σ H Q => ∃ g st, SR K T Γ g σ H st ∧ PostE K T Γ σ g H m W Q (f st)
def ta (K : PySem.W.Frag) (T : Tb) (Γ : Fls) (W : WX) (f : S → R (List D)) : TA := fun σ H Q => ∃ g st, SR K T Γ g σ H st ∧ PostA K T Γ σ g H W Q (f st)
def tt (K : PySem.W.Frag) (T : Tb) (Γ : Fls) (W : WX) (f : S → R Bool) : TT := fun σ H Q => ∃ g st, SR K T Γ g σ H st ∧ PostT K T Γ σ g H W Q (f st)
structure JE (T : Tb) (X : Cx) (Γ : Fls) (e : Expr) (m : Mo) (f : S → R D) : Prop where
  run : ∀ W, Takes X W → PE X e (te X.K T Γ m W f)
structure JA (T : Tb) (X : Cx) (Γ : Fls) (es : List Expr) (f : S → R (List D)) : Prop where
  run : ∀ W, Takes X W → PA X es (ta X.K T Γ W f)
structure JT (T : Tb) (X : Cx) (Γ : Fls) (e : Expr) (f : S → R Bool) : Prop where
  run : ∀ W, Takes X W → PT X e (tt X.K T Γ W f)
structure JW (T : Tb) (X : Cx) (Γ : Fls) (e : Expr) (f : S → R Bool) : Prop where
  run : ∀ W, Takes X W → PW X e (tt X.K T Γ W f)

section
variable {K : PySem.W.Frag} {T : Tb} {Γ : Fls} {σ : L2.St} {g g' : Gh} {H H' : Hp} {m : Mo} {W : WX}
theorem PostX.shift {e : Ex} {st : S} (s : Step g H g' H') (h : PostX K T σ g H W e st) : PostX K T σ g' H' W e st := fun cls dd H2 g2 s2 => h cls dd H2 g2 (s.trans s2)
theorem PostE.shift {Q : VK} {r : R D} (s : QStep g H g' H') (h : PostE K T Γ σ g H m W Q r) : PostE K T Γ σ g' H' m W Q r := by
  cases r with
  | ok d st => exact fun v H2 g2 s2 r2 p => h v H2 g2 (s.trans s2) r2 (p.base s.tr)
  | raise e st => exact PostX.shift s.toStep h
  | stuck => exact h
theorem PostA.shift {Q : List V → Hp → Prop} {r : R (List D)} (s : QStep g H g' H') (h : PostA K T Γ σ g H W Q r) : PostA K T Γ σ g' H' W Q r := by
  cases r with
  | ok d st => exact fun v H2 g2 s2 r2 p => h v H2 g2 (s.trans s2) r2 p
  | raise e st => exact PostX.shift s.toStep h
  | stuck => exact h
theorem PostT.shift {Q : Bool → Hp → Prop} {r : R Bool} (s : QStep g H g' H') (h : PostT K T Γ σ g H W Q r) : PostT K T Γ σ g' H' W Q r := by
  cases r with
  | ok d st => exact fun H2 g2 s2 r2 => h H2 g2 (s.trans s2) r2
  | raise e st => exact PostX.shift s.toStep h
  | stuck => exact h
end

/-! ### the monad -/
def R.bind {α β : Type} (r : R α) (k : α → S → R β) : R β := match r with
  | .ok a s => k a s
  | .raise e s => .raise e s
  | .stuck => .stuck

theorem PE.imp {X : Cx} {e : Expr} {t t' : TE} (h : PE X e t) (i : ∀ σ H Q, t' σ H Q → t σ H Q) : PE X e t' := ⟨fun pins s σ H Q I q => h.run pins s σ H Q I (i σ H Q q)⟩
theorem PA.imp {X : Cx} {e : List Expr} {t t' : TA} (h : PA X e t) (i : ∀ σ H Q, t' σ H Q → t σ H Q) : PA X e t' := ⟨fun pos pins s σ H Q I q => h.run pos pins s σ H Q I (i σ H Q q)⟩
theorem PT.imp {X : Cx} {e : Expr} {t t' : TT} (h : PT X e t) (i : ∀ σ H Q, t' σ H Q → t σ H Q) : PT X e t' := ⟨fun pins s σ H Q I q => h.run pins s σ H Q I (i σ H Q q)⟩
theorem PW.imp {X : Cx} {e : Expr} {t t' : TT} (h : PW X e t) (i : ∀ σ H Q, t' σ H Q → t σ H Q) : PW X e t' := ⟨fun wh pins s σ H Q I q => h.run wh pins s σ H Q I (i σ H Q q)⟩

/-- what any post bears -/
structure IsPost (K : PySem.W.Frag) (T : Tb) (σ : L2.St) (W : WX) {α : Type} (P : Gh → Hp → R α → Prop) : Prop where
  px : ∀ g H e s, P g H (.raise e s) → PostX K T σ g H W e s
  xp : ∀ g H e s, PostX K T σ g H W e s → P g H (.raise e s)
  ps : ∀ g H, ¬ P g H .stuck
  sh : ∀ g H g' H' r, QStep g H g' H' → P g H r → P g' H' r
section
variable {K : PySem.W.Frag} {T : Tb} {Γ : Fls} {σ : L2.St} {g : Gh} {H : Hp} {st : S} {m m' : Mo} {W : WX} {α : Type} {P : Gh → Hp → R α → Prop}
theorem ipE {Q : VK} : IsPost K T σ W (fun g H => PostE K T Γ σ g H m W Q) := ⟨fun _ _ _ _ h => h, fun _ _ _ _ h => h, fun _ _ h => h, fun _ _ _ _ _ s h => h.shift s⟩
theorem ipA {Q : List V → Hp → Prop} : IsPost K T σ W (fun g H => PostA K T Γ σ g H W Q) := ⟨fun _ _ _ _ h => h, fun _ _ _ _ h => h, fun _ _ h => h, fun _ _ _ _ _ s h => h.shift s⟩
theorem ipT {Q : Bool → Hp → Prop} : IsPost K T σ W (fun g H => PostT K T Γ σ g H W Q) := ⟨fun _ _ _ _ h => h, fun _ _ _ _ h => h, fun _ _ h => h, fun _ _ _ _ _ s h => h.shift s⟩
/-- from the post of a bind: the first part's reading, with the second part's post behind it -/
theorem te_bind {f : S → R D} {k : D → S → R α} {Q : VK} (ip : IsPost K T σ W P) (I : SR K T Γ g σ H st) (h : P g H ((f st).bind k))
    (hk : ∀ d st' v H' g', QStep g H g' H' → SR K T Γ g' σ H' st' → RpM K T g' H H' m d v → P g' H' (k d st') → Q v H') : te K T Γ m W f σ H Q := by
  refine ⟨g, st, I, ?_⟩
  cases e : f st with
  | ok d st' =>
    rw [e] at h
    exact fun v H' g' s r p => hk d st' v H' g' s r p (ip.sh _ _ _ _ _ s h)
  | raise ex st' =>
    rw [e] at h
    exact ip.px _ _ _ _ h
  | stuck =>
    rw [e] at h
    exact ip.ps g H h
theorem ta_bind {f : S → R (List D)} {k : List D → S → R α} {Q : List V → Hp → Prop} (ip : IsPost K T σ W P) (I : SR K T Γ g σ H st) (h : P g H ((f st).bind k))
    (hk : ∀ ds st' vs H' g', QStep g H g' H' → SR K T Γ g' σ H' st' → Rps K T g' H' ds vs → P g' H' (k ds st') → Q vs H') : ta K T Γ W f σ H Q := by
  refine ⟨g, st, I, ?_⟩
  cases e : f st with
  | ok d st' =>
    rw [e] at h
    exact fun v H' g' s r p => hk d st' v H' g' s r p (ip.sh _ _ _ _ _ s h)
  | raise ex st' =>
    rw [e] at h
    exact ip.px _ _ _ _ h
  | stuck =>
    rw [e] at h
    exact ip.ps g H h
theorem tt_bind {f : S → R Bool} {k : Bool → S → R α} {Q : Bool → Hp → Prop} (ip : IsPost K T σ W P) (I : SR K T Γ g σ H st) (h : P g H ((f st).bind k))
    (hk : ∀ b st' H' g', QStep g H g' H' → SR K T Γ g' σ H' st' → P g' H' (k b st') → Q b H') : tt K T Γ W f σ H Q := by
  refine ⟨g, st, I, ?_⟩
  cases e : f st with
  | ok d st' =>
    rw [e] at h
    exact fun H' g' s r => hk d st' H' g' s r (ip.sh _ _ _ _ _ s h)
  | raise ex st' =>
    rw [e] at h
    exact ip.px _ _ _ _ h
  | stuck =>
    rw [e] at h
    exact ip.ps g H h
end

/-! ### the semantics of expressions -/
def eVar (i : Nat) : S → R D := fun st => match st.r.getD i none with
  | some d => .ok d st
  | none => .stuck
def eC (d : D) : S → R D := fun st => .ok d st
/-- two parts, then an operation by values -/
def e2 (op : D → D → S → R D) (f1 f2 : S → R D) : S → R D := fun st => (f1 st).bind fun d1 s1 => (f2 s1).bind fun d2 s2 => op d1 d2 s2
def e1 (op : D → S → R D) (f : S → R D) : S → R D := fun st => (f st).bind op
def aNil : S → R (List D) := fun st => .ok [] st
def aCons (f : S → R D) (r : S → R (List D)) : S → R (List D) := fun st => (f st).bind fun d s1 => (r s1).bind fun ds s2 => .ok (d :: ds) s2
def eIf (c : S → R Bool) (a b : S → R D) : S → R D := fun st => (c st).bind fun k s => if k then a s else b s
def tNotS (c : S → R Bool) : S → R Bool := fun st => (c st).bind fun k s => .ok (!k) s
def tAndS (c d : S → R Bool) : S → R Bool := fun st => (c st).bind fun k s => if k then d s else .ok false s
def tOrS (c d : S → R Bool) : S → R Bool := fun st => (c st).bind fun k s => if k then .ok true s else d s
def toB (f : S → R D) : S → R Bool := fun st => (f st).bind fun d s => match d with
  | .bl b => .ok b s
  | _ => .stuck

section
variable {T : Tb} {X : Cx} {Γ : Fls} {e a b c : Expr} {m m1 m2 : Mo} {f f1 f2 : S → R D} {pos : Pos}

theorem SR.slot {K : PySem.W.Frag} {g : Gh} {σ : L2.St} {H : Hp} {st : S} {i : Nat} {d : D} (I : SR K T Γ g σ H st) (e : st.r.getD i none = some d) :
    ∃ v, σ[i]? = some (some v) ∧ SlR K T g H i (fl Γ i) (some v) (some d) := by
  have hi : i < st.r.length := by
    by_cases h : i < st.r.length
    · exact h
    · rw [List.getD_eq_getElem?_getD, List.getElem?_eq_none (by omega)] at e
      cases e
  have hs : i < σ.length := by rw [I.len]; exact hi
  have q := I.sl i hs
  rw [e] at q
  cases v : σ.getD i none with
  | none =>
    rw [v] at q
    cases h : fl Γ i <;> rw [h] at q <;> exact q.elim
  | some x =>
    rw [v] at q
    refine ⟨x, ?_, q⟩
    rw [List.getD_eq_getElem?_getD, List.getElem?_eq_getElem hs] at v
    rw [List.getElem?_eq_getElem hs]
    exact congrArg some v

theorem je_var (i : Nat) {x : Str} (hN : X.N[i]? = some x := by rfl) (hv : Vis X.env.scope x := by first | exact Or.inl rfl | exact Or.inr (Or.inl rfl) | exact Or.inr (Or.inr rfl)) (hd : (x == ("__debug__" : Str)) = false := by decide)
    (hcd : (x == ("__classdict__" : Str)) = false := by decide) (hf : fl Γ i = .sh := by rfl) : JE T X Γ (.Name x pos) .sh (eVar i) := by
  refine ⟨fun W tk => PE.imp (pe_var hN hv hd hcd) fun σ H Q h => ?_⟩
  obtain ⟨g, st, I, p⟩ := h
  unfold eVar at p
  cases e : st.r.getD i none with
  | none =>
    rw [e] at p
    exact p.elim
  | some d =>
    rw [e] at p
    obtain ⟨v, h1, h2⟩ := I.slot e
    rw [hf] at h2
    exact ⟨v, h1, p v H g (.refl g H) I h2⟩
/-- a slot's own list, read -/
theorem je_varB (i : Nat) {x : Str} (hN : X.N[i]? = some x := by rfl) (hv : Vis X.env.scope x := by first | exact Or.inl rfl | exact Or.inr (Or.inl rfl) | exact Or.inr (Or.inr rfl)) (hd : (x == ("__debug__" : Str)) = false := by decide)
    (hcd : (x == ("__classdict__" : Str)) = false := by decide) (hf : fl Γ i = .o1 := by rfl) : JE T X Γ (.Name x pos) .b1 (eVar i) := by
  refine ⟨fun W tk => PE.imp (pe_var hN hv hd hcd) fun σ H Q h => ?_⟩
  obtain ⟨g, st, I, p⟩ := h
  unfold eVar at p
  cases e : st.r.getD i none with
  | none =>
    rw [e] at p
    exact p.elim
  | some d =>
    rw [e] at p
    obtain ⟨v, h1, h2⟩ := I.slot e
    rw [hf] at h2
    obtain ⟨ad, vs, ds, e1, e2, e3, h3, h4⟩ := h2
    subst e1 e2
    exact ⟨_, h1, p _ H g (.refl g H) I ⟨ad, vs, rfl, h3, I.wf.fm i ad (by rw [e3]; exact List.mem_cons_self), h4⟩⟩
theorem je_varB2 (i : Nat) {x : Str} (hN : X.N[i]? = some x := by rfl) (hv : Vis X.env.scope x := by first | exact Or.inl rfl | exact Or.inr (Or.inl rfl) | exact Or.inr (Or.inr rfl)) (hd : (x == ("__debug__" : Str)) = false := by decide)
    (hcd : (x == ("__classdict__" : Str)) = false := by decide) (hf : fl Γ i = .o2 := by rfl) : JE T X Γ (.Name x pos) .b2 (eVar i) := by
  refine ⟨fun W tk => PE.imp (pe_var hN hv hd hcd) fun σ H Q h => ?_⟩
  obtain ⟨g, st, I, p⟩ := h
  unfold eVar at p
  cases e : st.r.getD i none with
  | none =>
    rw [e] at p
    exact p.elim
  | some d =>
    rw [e] at p
    obtain ⟨v, h1, h2⟩ := I.slot e
    rw [hf] at h2
    obtain ⟨ad, bs, dss, e1, e2, e3, h3, h4⟩ := h2
    subst e1 e2
    exact ⟨_, h1, p _ H g (.refl g H) I ⟨ad, bs, dss, rfl, rfl, h3, fun b hb => I.wf.fm i b (by rw [e3]; exact hb), h4⟩⟩

theorem je_int {i j} : JE T X Γ (.Constant (.int i) j pos) .sh (eC (.int i)) := ⟨fun W tk => PE.imp pe_int fun σ H Q ⟨g, st, I, p⟩ => p _ H g (.refl g H) I rfl⟩
theorem je_bl {i j} : JE T X Γ (.Constant (.bool i) j pos) .sh (eC (.bl i)) := ⟨fun W tk => PE.imp pe_bl fun σ H Q ⟨g, st, I, p⟩ => p _ H g (.refl g H) I rfl⟩
theorem je_non {j} : JE T X Γ (.Constant .none j pos) .sh (eC .non) := ⟨fun W tk => PE.imp pe_non fun σ H Q ⟨g, st, I, p⟩ => p _ H g (.refl g H) I rfl⟩
theorem je_str {i j} : JE T X Γ (.Constant (.str i) j pos) .sh (eC (.str i)) := ⟨fun W tk => PE.imp pe_str fun σ H Q ⟨g, st, I, p⟩ => p _ H g (.refl g H) I rfl⟩

/-! ### modes -/
theorem je_sub (h : JE T X Γ e m1 f) (k : ∀ (K : PySem.W.Frag) g0 σ H0 H st d v, SR K T Γ g0 σ H st → RpM K T g0 H0 H m1 d v → (∀ g', QStep g0 H g' H → SR K T Γ g' σ H st → RpM K T g' H0 H m d v → False) → False) : JE T X Γ e m f := by
  refine ⟨fun W tk => PE.imp (h.run W tk) fun σ H Q ⟨g, st, I, p⟩ => ⟨g, st, I, ?_⟩⟩
  cases e : f st with
  | ok d st' =>
    rw [e] at p
    intro v H' g' s r q
    refine Classical.byContradiction fun nq => k X.K g' σ H H' st' d v r q fun g2 s2 r2 q2 => nq (p v H' g2 (s.trans s2) r2 q2)
  | raise ex st' => rw [e] at p; exact p
  | stuck => rw [e] at p; exact p
/-- shared to borrowed -/
theorem je_b (h : JE T X Γ e .sh f) : JE T X Γ e .b1 f := by
  refine je_sub h fun K g σ H0 H st d v I q k => k g (.refl g H) I ?_
  cases d with
  | lst ds =>
    simp only [RpM, Rp] at q
    obtain ⟨a, vs, e, h1, h2, h3⟩ := q
    exact ⟨a, vs, e, h2, fun z => I.wf.ao a h1 (.inr z), h3⟩
  | _ => exact q
theorem je_fb (h : JE T X Γ e .f1 f) : JE T X Γ e .b1 f := by
  refine je_sub h fun K g σ H0 H st d v I q k => k g (.refl g H) I ?_
  cases d with
  | lst ds =>
    obtain ⟨a, vs, e, h1, h2, h3⟩ := q
    exact ⟨a, vs, e, h1, fun z => h2.2.1 (.inr z), h3⟩
  | _ => exact q
/-- a fresh list becomes shared -/
theorem je_f (h : JE T X Γ e .f1 f) : JE T X Γ e .sh f := by
  refine ⟨fun W tk => PE.imp (h.run W tk) fun σ H Q ⟨g, st, I, p⟩ => ⟨g, st, I, ?_⟩⟩
  cases e : f st with
  | ok d st' =>
    rw [e] at p
    intro v H' g' s r q
    cases d with
    | lst ds =>
      obtain ⟨a, vs, e, h1, h2, h3⟩ := q
      subst e
      refine p _ H' (g'.add a) ⟨s.toStep.add h2.2.2, s.qf, s.qo⟩ (r.add h1 h2.2.1) ?_
      simp only [RpM, Rp]
      exact ⟨a, vs, rfl, .inr rfl, h1, h3.add⟩
    | _ => exact p v H' g' s r q
  | raise ex st' => rw [e] at p; exact p
  | stuck => rw [e] at p; exact p
theorem je_sf (h : JE T X Γ e .sh f) (nl : ∀ st d s, f st = .ok d s → ∀ xs, d ≠ .lst xs) : JE T X Γ e .f1 f := by
  refine ⟨fun W tk => PE.imp (h.run W tk) fun σ H Q ⟨g, st, I, p⟩ => ⟨g, st, I, ?_⟩⟩
  cases e : f st with
  | ok d st' =>
    rw [e] at p
    have z := nl st d st' e
    intro v H' g' s r q
    refine p v H' g' s r ?_
    cases d with
    | lst ds => exact absurd rfl (z ds)
    | _ => exact q
  | raise ex st' => rw [e] at p; exact p
  | stuck => rw [e] at p; exact p
end
end DL

set_option linter.all false
set_option Elab.async false
set_option maxRecDepth 100000
namespace DL
open PySem PySem.Spec PyProof.Rows L2

/-! ### operators -/
structure BinR (X : Cx) (T : Tb) (op : Operator) (m1 m2 m : Mo) (o : D → D → S → R D) : Prop where
  ex : ∃ r : R2, OpR X (binaryOp op) r ∧ ∀ (Γ : Fls) g σ H st W (Q : VK) x y d1 d2 H0 H1, SR X.K T Γ g σ H st → RpM X.K T g H0 H m1 d1 x → RpM X.K T g H1 H m2 d2 y → PostE X.K T Γ σ g H m W Q (o d1 d2 st) → r x y H Q

section
variable {T : Tb} {X : Cx} {Γ : Fls} {e a b c : Expr} {m m1 m2 m3 : Mo} {f f1 f2 f3 : S → R D} {pos : Pos}
theorem je_op {op : Operator} {o : D → D → S → R D} (h : BinR X T op m1 m2 m o) (ha : JE T X Γ a m1 f1) (hb : JE T X Γ b m2 f2) : JE T X Γ (.BinOp a op b pos) m (e2 o f1 f2) := by
  obtain ⟨r, ho, key⟩ := h.ex
  refine ⟨fun W tk => PE.imp (pe_op ho (ha.run W tk) (hb.run W tk)) fun σ H Q ⟨g, st, I, p⟩ => ?_⟩
  refine te_bind ipE I p fun d1 s1 x H1 g1 q1 I1 r1 p1 => te_bind ipE I1 p1 fun d2 s2 y H2 g2 q2 I2 r2 p2 => ?_
  exact key Γ g2 σ H2 s2 W Q x y d1 d2 H H1 I2 (r1.step I1.wf I2.wf q2) r2 p2

def addD : D → D → S → R D
  | .int i, .int j, s => .ok (.int (i + j)) s
  | .int i, .bl k, s => .ok (.int (i + b2i k)) s
  | .str x, .str y, s => if x.length + y.length ≤ sizeLine then .ok (.str (x ++ y)) s else .stuck
  | .tup xs, .tup ys, s => if xs.length + ys.length ≤ sizeLine then .ok (.tup (xs ++ ys)) s else .stuck
  | .lst xs, .lst ys, s => if xs.length + ys.length ≤ sizeLine then .ok (.lst (xs ++ ys)) s else .stuck
  | _, _, _ => .stuck
def subD : D → D → S → R D
  | .int i, .int j, s => .ok (.int (i - j)) s
  | .bl i, .bl j, s => .ok (.int (b2i i - b2i j)) s
  | _, _, _ => .stuck
def mulD : D → D → S → R D
  | .int i, .int j, s => if i.natAbs.log2 + j.natAbs.log2 < 100000000 then .ok (.int (i * j)) s else .stuck
  | .lst xs, .int k, s => if k.natAbs < 2 ^ 63 ∧ xs.length * k.toNat ≤ sizeLine then .ok (.lst (List.replicate k.toNat xs).flatten) s else .stuck
  | .tup xs, .int k, s => if xs ≠ [] ∧ 2 ≤ k.toNat ∧ k.toNat ≤ 1000 ∧ xs.length ≤ 1000 then .ok (.tup (List.replicate k.toNat xs).flatten) s else .stuck
  | _, _, _ => .stuck
def fdivD : D → D → S → R D
  | .int i, .int j, s => if j ≠ 0 ∧ j.natAbs.log2 < 9000 then .ok (.int (i.fdiv j)) s else .stuck
  | _, _, _ => .stuck
def modD : D → D → S → R D
  | .int i, .int j, s => if j ≠ 0 then .ok (.int (i.fmod j)) s else .stuck
  | _, _, _ => .stuck
def powD : D → D → S → R D
  | .int i, .int j, s => if 0 ≤ j ∧ j.toNat ≤ 1000000 ∧ i.natAbs < 2 ^ 64 then .ok (.int (i ^ j.toNat)) s else .stuck
  | _, _, _ => .stuck
def shlD : D → D → S → R D
  | .int i, .int j, s => if 0 ≤ j ∧ j.toNat ≤ 1000000 ∧ i.natAbs < 2 ^ 64 then .ok (.int (i * 2 ^ j.toNat)) s else .stuck
  | _, _, _ => .stuck

theorem Rps.repl {K : PySem.W.Frag} {g : Gh} {H : Hp} {ds : List D} {vs : List V} (h : Rps K T g H ds vs) : ∀ n : Nat, Rps K T g H (List.replicate n ds).flatten (List.replicate n vs).flatten
  | 0 => by simpa using Rps.nil
  | n + 1 => by
    rw [List.replicate_succ, List.replicate_succ, List.flatten_cons, List.flatten_cons]
    exact h.append (Rps.repl h n)
/-- a new tuple -/
theorem post_tup {K : PySem.W.Frag} {σ : L2.St} {g : Gh} {H : Hp} {st : S} {W : WX} {Q : VK} {ds : List D} {vs : List V} {p : Addr} (I : SR K T Γ g σ H st) (r : Rps K T g H ds vs) (hp : H p = none)
    (q : PostE K T Γ σ g H .sh W Q (.ok (.tup ds) st)) : Q (.ref p) (upd H p (.tup vs)) := by
  refine q _ _ g ⟨.new hp, rfl, fun i b hb => ?_⟩ (I.new hp) ?_
  · obtain ⟨o, e, _⟩ := I.wf.ot b (.inl ⟨i, hb⟩)
    rw [upd_ne (ne_of_none e hp)]
  · simp only [RpM, Rp]
    exact ⟨p, vs, rfl, .of upd_same, r.step I.wf (.new hp)⟩
theorem post_tup1 {K : PySem.W.Frag} {σ : L2.St} {g : Gh} {H : Hp} {st : S} {W : WX} {Q : VK} {ds : List D} {vs : List V} {p : Addr} (I : SR K T Γ g σ H st) (r : Rps K T g H ds vs) (hp : H p = none)
    (q : PostE K T Γ σ g H .f1 W Q (.ok (.tup ds) st)) : Q (.ref p) (upd H p (.tup vs)) := by
  refine q _ _ g ⟨.new hp, rfl, fun i b hb => ?_⟩ (I.new hp) ?_
  · obtain ⟨o, e, _⟩ := I.wf.ot b (.inl ⟨i, hb⟩)
    rw [upd_ne (ne_of_none e hp)]
  · simp only [RpM, Rp]
    exact ⟨p, vs, rfl, .of upd_same, r.step I.wf (.new hp)⟩
/-- a new list -/
theorem post_lst {K : PySem.W.Frag} {σ : L2.St} {g : Gh} {H : Hp} {st : S} {W : WX} {Q : VK} {ds : List D} {vs : List V} {p : Addr} (I : SR K T Γ g σ H st) (r : Rps K T g H ds vs) (hp : H p = none)
    (q : PostE K T Γ σ g H .f1 W Q (.ok (.lst ds) st)) : Q (.ref p) (upd H p (.lst vs)) := by
  refine q _ _ g ⟨.new hp, rfl, fun i b hb => ?_⟩ (I.new hp) ?_
  · obtain ⟨o, e, _⟩ := I.wf.ot b (.inl ⟨i, hb⟩)
    rw [upd_ne (ne_of_none e hp)]
  · exact ⟨p, vs, rfl, upd_same, ⟨I.wf.nota hp, I.wf.noto hp, hp⟩, r.step I.wf (.new hp)⟩
/-- a value that is no list, whatever the mode -/
theorem post_v {K : PySem.W.Frag} {σ : L2.St} {g : Gh} {H : Hp} {st : S} {W : WX} {Q : VK} {d : D} {v : V} {m : Mo} (I : SR K T Γ g σ H st) (q : PostE K T Γ σ g H m W Q (.ok d st)) (r : RpM K T g H H m d v) : Q v H := q v H g (.refl g H) I r

theorem b_lst {K : PySem.W.Frag} {g : Gh} {H0 H : Hp} {ds : List D} {v : V} (h : RpM K T g H0 H .b1 (.lst ds) v) : ∃ a vs, v = .ref a ∧ H a = some (.lst vs) ∧ a ∉ g.mu ∧ Rps K T g H ds vs := h
theorem b_int {K : PySem.W.Frag} {g : Gh} {H0 H : Hp} {i : Int} {v : V} (h : RpM K T g H0 H .b1 (.int i) v) : v = .int i := by simpa [RpM, Rp] using h
theorem b_bl {K : PySem.W.Frag} {g : Gh} {H0 H : Hp} {i : Bool} {v : V} (h : RpM K T g H0 H .b1 (.bl i) v) : v = .bl i := by simpa [RpM, Rp] using h
theorem b_str {K : PySem.W.Frag} {g : Gh} {H0 H : Hp} {i : Str} {v : V} (h : RpM K T g H0 H .b1 (.str i) v) : v = .str i := by simpa [RpM, Rp] using h
theorem b_non {K : PySem.W.Frag} {g : Gh} {H0 H : Hp} {v : V} (h : RpM K T g H0 H .b1 .non v) : v = .non := by simpa [RpM, Rp] using h
theorem b_tup {K : PySem.W.Frag} {g : Gh} {H0 H : Hp} {ds : List D} {v : V} (h : RpM K T g H0 H .b1 (.tup ds) v) : ∃ a vs, v = .ref a ∧ SqT K H a vs ∧ Rps K T g H ds vs := by simpa [RpM, Rp] using h
theorem rm_int {K : PySem.W.Frag} {g : Gh} {H0 H : Hp} {i : Int} {m : Mo} : RpM K T g H0 H m (.int i) (.int i) := by cases m <;> simp only [RpM, Rp]
theorem rm_bl {K : PySem.W.Frag} {g : Gh} {H0 H : Hp} {i : Bool} {m : Mo} : RpM K T g H0 H m (.bl i) (.bl i) := by cases m <;> simp only [RpM, Rp]
theorem rm_str {K : PySem.W.Frag} {g : Gh} {H0 H : Hp} {i : Str} {m : Mo} : RpM K T g H0 H m (.str i) (.str i) := by cases m <;> simp only [RpM, Rp]
theorem rm_non {K : PySem.W.Frag} {g : Gh} {H0 H : Hp} {m : Mo} : RpM K T g H0 H m .non .non := by cases m <;> simp only [RpM, Rp]
theorem rp_int {K : PySem.W.Frag} {g : Gh} {H : Hp} {i : Int} : Rp K T g H (.int i) (.int i) := by simp only [Rp]
theorem rp_bl {K : PySem.W.Frag} {g : Gh} {H : Hp} {i : Bool} : Rp K T g H (.bl i) (.bl i) := by simp only [Rp]
theorem rp_str {K : PySem.W.Frag} {g : Gh} {H : Hp} {i : Str} : Rp K T g H (.str i) (.str i) := by simp only [Rp]
theorem rp_non {K : PySem.W.Frag} {g : Gh} {H : Hp} : Rp K T g H .non .non := by simp only [Rp]

theorem bin_add : BinR X T .Add .b1 .b1 .f1 addD := by
  refine ⟨_, (op_add (X := X)).or (op_add_ib.or (op_add_str.or (op_catA.or op_cat))), fun Γ g σ H st W Q x y d1 d2 H0 H1 I r1 r2 p => ?_⟩
  unfold addD at p
  split at p
  · rename_i i j
    exact .inl ⟨i, j, b_int r1, b_int r2, post_v I p rm_int⟩
  · rename_i i j
    exact .inr (.inl ⟨i, j, b_int r1, b_bl r2, post_v I p rm_int⟩)
  · rename_i i j
    split at p
    · exact .inr (.inr (.inl ⟨i, j, b_str r1, b_str r2, by assumption, post_v I p rm_str⟩))
    · exact p.elim
  · rename_i xs ys
    split at p
    · rename_i hz
      obtain ⟨a, vs, e1, s1, q1⟩ := b_tup r1
      obtain ⟨b, ws, e2, s2, q2⟩ := b_tup r2
      subst e1 e2
      refine .inr (.inr (.inr (.inl ⟨a, b, vs, ws, rfl, rfl, s1, s2, by rw [q1.length, q2.length]; exact hz, fun e => ?_, fun _ e => ?_, fun _ _ p' hp => post_tup1 I (q1.append q2) hp p⟩)))
      · have e0 : xs = [] := by
          have := q1.length
          rw [e] at this
          exact List.eq_nil_of_length_eq_zero this.symm
        subst e0
        refine post_v I p ?_
        simp only [RpM, Rp, List.nil_append]
        exact ⟨b, ws, rfl, s2, q2⟩
      · have e0 : ys = [] := by
          have := q2.length
          rw [e] at this
          exact List.eq_nil_of_length_eq_zero this.symm
        subst e0
        refine post_v I p ?_
        simp only [RpM, Rp, List.append_nil]
        exact ⟨a, vs, rfl, s1, q1⟩
    · exact p.elim
  · rename_i xs ys
    split at p
    · rename_i hz
      obtain ⟨a, vs, e1, s1, _, q1⟩ := b_lst r1
      obtain ⟨b, ws, e2, s2, _, q2⟩ := b_lst r2
      subst e1 e2
      exact .inr (.inr (.inr (.inr ⟨a, b, vs, ws, rfl, rfl, s1, s2, by rw [q1.length, q2.length]; exact hz, fun p' hp => post_lst I (q1.append q2) hp p⟩)))
    · exact p.elim
  · exact p.elim

theorem op_subB : OpR X (binaryOp .Sub) (fun x y H Q => ∃ i k, x = .bl i ∧ y = .bl k ∧ Q (.int (b2i i - b2i k)) H) := by
  intro pins s σ H x y v u Q I rx ry h
  obtain ⟨i, k, rfl, rfl, q⟩ := h
  cases rx
  cases ry
  exact sub_bool ⟨.int (b2i i - b2i k), H, I.tok _, ⟨_, rfl⟩, q⟩
theorem bin_sub : BinR X T .Sub .b1 .b1 .sh subD := by
  refine ⟨_, (op_sub (X := X)).or op_subB, fun Γ g σ H st W Q x y d1 d2 H0 H1 I r1 r2 p => ?_⟩
  unfold subD at p
  split at p
  · rename_i i j
    exact .inl ⟨i, j, b_int r1, b_int r2, post_v I p rm_int⟩
  · rename_i i j
    exact .inr ⟨i, j, b_bl r1, b_bl r2, post_v I p rm_int⟩
  · exact p.elim
theorem mulOkX {i j : Int} (h : i.natAbs.log2 + j.natAbs.log2 < 100000000) : IntMulOk i j := by
  have b : ∀ x : Int, Builtin.Int.intBits x ≤ x.natAbs.log2 + 1 := by
    intro x
    unfold Builtin.Int.intBits
    split <;> omega
  exact mulOk_of_bits (b i) (b j) (by omega)
theorem op_mulX : OpR X (binaryOp .Mult) (rI (fun i j => i.natAbs.log2 + j.natAbs.log2 < 100000000) fun i j => .int (i * j)) := opI fun _ _ _ _ _ _ _ hc q => mul_int q (mulOkX hc)
theorem bin_mul : BinR X T .Mult .b1 .b1 .f1 mulD := by
  refine ⟨_, (op_mulX (X := X)).or (op_rep.or op_repT), fun Γ g σ H st W Q x y d1 d2 H0 H1 I r1 r2 p => ?_⟩
  unfold mulD at p
  split at p
  · rename_i i j
    split at p
    · exact .inl ⟨i, j, b_int r1, b_int r2, by assumption, post_v I p rm_int⟩
    · exact p.elim
  · rename_i xs k
    split at p
    · rename_i hz
      obtain ⟨a, vs, e1, s1, _, q1⟩ := b_lst r1
      subst e1
      exact .inr (.inl ⟨a, k, vs, rfl, b_int r2, s1, by have := hz.1; omega, by have := hz.1; omega, by rw [q1.length]; exact hz.2, fun p' hp => post_lst I (q1.repl _) hp p⟩)
    · exact p.elim
  · rename_i xs k
    split at p
    · rename_i hz
      obtain ⟨a, vs, e1, s1, q1⟩ := b_tup r1
      subst e1
      exact .inr (.inr ⟨a, k, vs, rfl, b_int r2, s1, fun e => hz.1 (by
        have := q1.length
        rw [e] at this
        exact List.eq_nil_of_length_eq_zero this.symm), by have := hz.2.1; omega, by have := hz.2.2.1; omega, by rw [q1.length]; exact hz.2.2.2, fun p' hp => post_tup1 I (q1.repl _) hp p⟩)
    · exact p.elim
  · exact p.elim
theorem op_fdivG : OpR X (binaryOp .FloorDiv) (rI (fun _ j => j ≠ 0 ∧ j.natAbs.log2 < 9000) fun i j => .int (i.fdiv j)) := opI fun _ _ _ _ _ _ _ hc q => floordiv_int hc.1 q (.inl (PyProof.noPylong_of_log2 hc.2))
theorem bin_fdiv : BinR X T .FloorDiv .b1 .b1 .sh fdivD := by
  refine ⟨_, op_fdivG (X := X), fun Γ g σ H st W Q x y d1 d2 H0 H1 I r1 r2 p => ?_⟩
  unfold fdivD at p
  split at p
  · rename_i i j
    split at p
    · exact ⟨i, j, b_int r1, b_int r2, by assumption, post_v I p rm_int⟩
    · exact p.elim
  · exact p.elim
theorem bin_mod : BinR X T .Mod .b1 .b1 .sh modD := by
  refine ⟨_, op_modN (X := X), fun Γ g σ H st W Q x y d1 d2 H0 H1 I r1 r2 p => ?_⟩
  unfold modD at p
  split at p
  · rename_i i j
    split at p
    · exact ⟨i, j, b_int r1, b_int r2, by assumption, post_v I p rm_int⟩
    · exact p.elim
  · exact p.elim
theorem bin_pow : BinR X T .Pow .b1 .b1 .sh powD := by
  refine ⟨_, op_pow (X := X), fun Γ g σ H st W Q x y d1 d2 H0 H1 I r1 r2 p => ?_⟩
  unfold powD at p
  split at p
  · rename_i i j
    split at p
    · rename_i hz
      exact ⟨i, j, b_int r1, b_int r2, ⟨hz.1, by have := hz.2.1; omega, hz.2.2⟩, post_v I p rm_int⟩
    · exact p.elim
  · exact p.elim
theorem bin_shl : BinR X T .LShift .b1 .b1 .sh shlD := by
  refine ⟨_, op_shl (X := X), fun Γ g σ H st W Q x y d1 d2 H0 H1 I r1 r2 p => ?_⟩
  unfold shlD at p
  split at p
  · rename_i i j
    split at p
    · rename_i hz
      exact ⟨i, j, b_int r1, b_int r2, ⟨hz.1, by have := hz.2.1; omega, hz.2.2⟩, post_v I p rm_int⟩
    · exact p.elim
  · exact p.elim

/-! one place -/
structure UniR (X : Cx) (T : Tb) (op : UnaryOp) (m1 m : Mo) (o : D → S → R D) : Prop where
  ex : ∃ r : V → Hp → VK → Prop, UnR X (unaryOp op) r ∧ ∀ (Γ : Fls) g σ H st W (Q : VK) x d H0, SR X.K T Γ g σ H st → RpM X.K T g H0 H m1 d x → PostE X.K T Γ σ g H m W Q (o d st) → r x H Q
theorem je_un {op : UnaryOp} {o : D → S → R D} (h : UniR X T op m1 m o) (ha : JE T X Γ a m1 f1) : JE T X Γ (.UnaryOp op a pos) m (e1 o f1) := by
  obtain ⟨r, ho, key⟩ := h.ex
  refine ⟨fun W tk => PE.imp (pe_un ho (ha.run W tk)) fun σ H Q ⟨g, st, I, p⟩ => ?_⟩
  exact te_bind ipE I p fun d1 s1 x H1 g1 q1 I1 r1 p1 => key Γ g1 σ H1 s1 W Q x d1 H I1 r1 p1
def negD : D → S → R D
  | .int i, s => .ok (.int (-i)) s
  | _, _ => .stuck
theorem uni_neg : UniR X T .USub .b1 .sh negD := by
  refine ⟨_, un_neg (X := X), fun Γ g σ H st W Q x d H0 I r1 p => ?_⟩
  unfold negD at p
  split at p
  · exact ⟨_, b_int r1, post_v I p rm_int⟩
  · exact p.elim

/-! comparisons -/
structure CmpR (X : Cx) (T : Tb) (op : CmpOp) (m1 m2 : Mo) (o : D → D → Option Bool) : Prop where
  ex : ∃ r : R2, OpR X (compareOp op) r ∧ ∀ (Γ : Fls) g σ H st (Q : VK) x y d1 d2 H0 H1 k, SR X.K T Γ g σ H st → RpM X.K T g H0 H m1 d1 x → RpM X.K T g H1 H m2 d2 y → o d1 d2 = some k → Q (.bl k) H → r x y H Q
def cmpD (o : D → D → Option Bool) : D → D → S → R D := fun d1 d2 s => match o d1 d2 with
  | some k => .ok (.bl k) s
  | none => .stuck
def cmpB (o : D → D → Option Bool) : D → D → S → R Bool := fun d1 d2 s => match o d1 d2 with
  | some k => .ok k s
  | none => .stuck
def t2 (op : D → D → S → R Bool) (f1 f2 : S → R D) : S → R Bool := fun st => (f1 st).bind fun d1 s1 => (f2 s1).bind fun d2 s2 => op d1 d2 s2
theorem je_cmp {op : CmpOp} {o : D → D → Option Bool} (h : CmpR X T op m1 m2 o) (ha : JE T X Γ a m1 f1) (hb : JE T X Γ b m2 f2) (hm : behindInMarks op b = false := by first | exact nomark _ (by decide) (by decide) | rfl) :
    JE T X Γ (.Compare a [op] [b] pos) .sh (e2 (cmpD o) f1 f2) := by
  obtain ⟨r, ho, key⟩ := h.ex
  refine ⟨fun W tk => PE.imp (pe_cmpR ho (ha.run W tk) (hb.run W tk) hm) fun σ H Q ⟨g, st, I, p⟩ => ?_⟩
  refine te_bind ipE I p fun d1 s1 x H1 g1 q1 I1 r1 p1 => te_bind ipE I1 p1 fun d2 s2 y H2 g2 q2 I2 r2 p2 => ?_
  unfold cmpD at p2
  split at p2
  · rename_i k e
    exact key Γ g2 σ H2 s2 Q x y d1 d2 H H1 k I2 (r1.step I1.wf I2.wf q2) r2 e (post_v I2 p2 rm_bl)
  · exact p2.elim
theorem jt_cmp {op : CmpOp} {o : D → D → Option Bool} (h : CmpR X T op m1 m2 o) (ha : JE T X Γ a m1 f1) (hb : JE T X Γ b m2 f2) (hm : behindInMarks op b = false := by first | exact nomark _ (by decide) (by decide) | rfl) :
    JT T X Γ (.Compare a [op] [b] pos) (t2 (cmpB o) f1 f2) := by
  obtain ⟨r, ho, key⟩ := h.ex
  refine ⟨fun W tk => PT.imp (pt_cmpR ho (ha.run W tk) (hb.run W tk) hm) fun σ H Q ⟨g, st, I, p⟩ => ?_⟩
  refine te_bind ipT I p fun d1 s1 x H1 g1 q1 I1 r1 p1 => te_bind ipT I1 p1 fun d2 s2 y H2 g2 q2 I2 r2 p2 => ?_
  unfold cmpB at p2
  split at p2
  · rename_i k e
    exact key Γ g2 σ H2 s2 _ x y d1 d2 H H1 k I2 (r1.step I1.wf I2.wf q2) r2 e ⟨k, rfl, p2 H2 g2 (.refl g2 H2) I2⟩
  · exact p2.elim
/-- a op b op' c -/
def e3c (o o' : D → D → Option Bool) (f1 f2 f3 : S → R D) : S → R D := fun st => (f1 st).bind fun d1 s1 => (f2 s1).bind fun d2 s2 => match o d1 d2 with
  | some true => (f3 s2).bind fun d3 s3 => cmpD o' d2 d3 s3
  | some false => .ok (.bl false) s2
  | none => .stuck
def t3c (o o' : D → D → Option Bool) (f1 f2 f3 : S → R D) : S → R Bool := fun st => (f1 st).bind fun d1 s1 => (f2 s1).bind fun d2 s2 => match o d1 d2 with
  | some true => (f3 s2).bind fun d3 s3 => cmpB o' d2 d3 s3
  | some false => .ok false s2
  | none => .stuck

/-- < of whole numbers, by cases: it stands still where one of them is not known -/
def ltB : Int → Int → Bool
  | .ofNat a, .ofNat b => Nat.blt a b
  | .ofNat _, .negSucc _ => false
  | .negSucc _, .ofNat _ => true
  | .negSucc a, .negSucc b => Nat.blt b a
theorem ltB_eq (i j : Int) : ltB i j = decide (i < j) := by
  cases i with
  | ofNat a =>
    cases j with
    | ofNat b =>
      rw [Bool.eq_iff_iff]
      simp only [ltB, Nat.blt_eq, decide_eq_true_eq, Int.ofNat_eq_natCast]
      omega
    | negSucc b =>
      have h : ¬ (Int.ofNat a < Int.negSucc b) := by
        rw [Int.negSucc_eq, Int.ofNat_eq_natCast]
        omega
      rw [decide_eq_false h]
      rfl
  | negSucc a =>
    cases j with
    | ofNat b =>
      have h : Int.negSucc a < Int.ofNat b := by
        rw [Int.negSucc_eq, Int.ofNat_eq_natCast]
        omega
      rw [decide_eq_true h]
      rfl
    | negSucc b =>
      rw [Bool.eq_iff_iff]
      simp only [ltB, Nat.blt_eq, decide_eq_true_eq, Int.negSucc_eq]
      omega
theorem leB_eq (i j : Int) : (!ltB j i) = decide (i ≤ j) := by
  rw [ltB_eq, Bool.eq_iff_iff]
  simp
def iCmp (p : Int → Int → Bool) : D → D → Option Bool
  | .int i, .int j => some (p i j)
  | _, _ => none
theorem cmp_lt : CmpR X T .Lt .b1 .b1 (iCmp ltB) := by
  refine ⟨_, op_lt (X := X), fun Γ g σ H st Q x y d1 d2 H0 H1 k I r1 r2 e p => ?_⟩
  unfold iCmp at e
  split at e
  · cases e
    have p' : Q (.bl (ltB _ _)) H := p
    rw [ltB_eq] at p'
    exact ⟨_, _, b_int r1, b_int r2, p'⟩
  · cases e
theorem cmp_le : CmpR X T .LtE .b1 .b1 (iCmp fun i j => !ltB j i) := by
  refine ⟨_, op_le (X := X), fun Γ g σ H st Q x y d1 d2 H0 H1 k I r1 r2 e p => ?_⟩
  unfold iCmp at e
  split at e
  · cases e
    have p' : Q (.bl (!ltB _ _)) H := p
    rw [leB_eq] at p'
    exact ⟨_, _, b_int r1, b_int r2, p'⟩
  · cases e
theorem cmp_gt : CmpR X T .Gt .b1 .b1 (iCmp fun i j => ltB j i) := by
  refine ⟨_, op_gt (X := X), fun Γ g σ H st Q x y d1 d2 H0 H1 k I r1 r2 e p => ?_⟩
  unfold iCmp at e
  split at e
  · cases e
    have p' : Q (.bl (ltB _ _)) H := p
    rw [ltB_eq] at p'
    exact ⟨_, _, b_int r1, b_int r2, p'⟩
  · cases e
theorem cmp_ge : CmpR X T .GtE .b1 .b1 (iCmp fun i j => !ltB i j) := by
  refine ⟨_, op_ge (X := X), fun Γ g σ H st Q x y d1 d2 H0 H1 k I r1 r2 e p => ?_⟩
  unfold iCmp at e
  split at e
  · cases e
    have p' : Q (.bl (!ltB _ _)) H := p
    rw [leB_eq] at p'
    exact ⟨_, _, b_int r1, b_int r2, p'⟩
  · cases e

/-! equality, of data of any depth -/
mutual
def toP : D → Option PyData
  | .non => some .none
  | .bl b => some (.bool b)
  | .int i => some (.int i)
  | .str x => some (.str x)
  | .tup xs => (toPs xs).map .tuple
  | .lst xs => (toPs xs).map .list
  | .fn _ => none
  | .ref _ => none
  | .scr _ => none
  | .pt _ => none
def toPs : List D → Option (List PyData)
  | [] => some []
  | d :: ds => match toP d, toPs ds with
    | some p, some ps => some (p :: ps)
    | _, _ => none
end
mutual
theorem dp_of {K : PySem.W.Frag} {g : Gh} {H : Hp} : ∀ {d : D} {v : V} {p : PyData}, Rp K T g H d v → toP d = some p → Dp K H v p
  | .non, v, p, h, e => by
    simp only [Rp] at h
    simp only [toP] at e
    cases e
    subst h
    constructor
  | .bl b, v, p, h, e => by
    simp only [Rp] at h
    simp only [toP] at e
    cases e
    subst h
    constructor
  | .int b, v, p, h, e => by
    simp only [Rp] at h
    simp only [toP] at e
    cases e
    subst h
    constructor
  | .str b, v, p, h, e => by
    simp only [Rp] at h
    simp only [toP] at e
    cases e
    subst h
    constructor
  | .tup ds, v, p, h, e => by
    simp only [Rp] at h
    simp only [toP] at e
    obtain ⟨a, vs, rfl, h1, h2⟩ := h
    cases q : toPs ds with
    | none => rw [q] at e; cases e
    | some ps =>
      rw [q] at e
      cases e
      exact .tup h1 (dps_of h2 q)
  | .lst ds, v, p, h, e => by
    simp only [Rp] at h
    simp only [toP] at e
    obtain ⟨a, vs, rfl, h0, h1, h2⟩ := h
    cases q : toPs ds with
    | none => rw [q] at e; cases e
    | some ps =>
      rw [q] at e
      cases e
      exact .lst (.inl (.inl h1)) (dps_of h2 q)
  | .fn _, _, _, _, e => by simp only [toP] at e; cases e
  | .ref _, _, _, _, e => by simp only [toP] at e; cases e
  | .scr _, _, _, _, e => by simp only [toP] at e; cases e
  | .pt _, _, _, _, e => by simp only [toP] at e; cases e
theorem dps_of {K : PySem.W.Frag} {g : Gh} {H : Hp} : ∀ {ds : List D} {vs : List V} {ps : List PyData}, Rps K T g H ds vs → toPs ds = some ps → DpAll K H vs ps
  | [], vs, ps, h, e => by
    simp only [Rps] at h
    simp only [toPs] at e
    cases e
    subst h
    constructor
  | d :: ds, vs, ps, h, e => by
    simp only [Rps] at h
    simp only [toPs] at e
    obtain ⟨v, r, rfl, h1, h2⟩ := h
    cases q1 : toP d with
    | none => rw [q1] at e; cases e
    | some p =>
      cases q2 : toPs ds with
      | none => rw [q1, q2] at e; cases e
      | some ps' =>
        rw [q1, q2] at e
        cases e
        exact .cons (dp_of h1 q1) (dps_of h2 q2)
end
theorem dp_b {K : PySem.W.Frag} {g : Gh} {H0 H : Hp} {d : D} {v : V} {p : PyData} (h : RpM K T g H0 H .b1 d v) (e : toP d = some p) : Dp K H v p := by
  cases d with
  | lst ds =>
    obtain ⟨a, vs, rfl, h1, _, h2⟩ := h
    simp only [toP] at e
    cases q : toPs ds with
    | none => rw [q] at e; cases e
    | some ps =>
      rw [q] at e
      cases e
      exact .lst (.inl (.inl h1)) (dps_of h2 q)
  | _ => exact dp_of h e
def eqD (d e : D) : Option Bool := match toP d, toP e with
  | some p, some q => if SeqAt.shaped p && SeqAt.shaped q then some (PyData.eqv p q) else none
  | _, _ => none
def neD (d e : D) : Option Bool := (eqD d e).map (!·)
theorem cmp_eq (hu : X.A.units + 64 < cLine) : CmpR X T .Eq .b1 .b1 eqD := by
  refine ⟨_, op_eqD (X := X) hu, fun Γ g σ H st Q x y d1 d2 H0 H1 k I r1 r2 e p => ?_⟩
  unfold eqD at e
  split at e
  · rename_i p1 p2 h1 h2
    split at e
    · rename_i hs
      rw [Bool.and_eq_true] at hs
      cases e
      exact ⟨p1, p2, dp_b r1 h1, dp_b r2 h2, hs.1, hs.2, p⟩
    · cases e
  · cases e
theorem cmp_ne (hu : X.A.units + 64 < cLine) : CmpR X T .NotEq .b1 .b1 neD := by
  refine ⟨_, op_neD (X := X) hu, fun Γ g σ H st Q x y d1 d2 H0 H1 k I r1 r2 e p => ?_⟩
  unfold neD eqD at e
  split at e
  · rename_i p1 p2 h1 h2
    split at e
    · rename_i hs
      rw [Bool.and_eq_true] at hs
      cases e
      exact ⟨p1, p2, dp_b r1 h1, dp_b r2 h2, hs.1, hs.2, p⟩
    · cases e
  · cases e
/-- is None -/
def isNon : D → Bool
  | .non => true
  | _ => false
def isND (d e : D) : Option Bool := if isNon e then some (isNon d) else none
def notND (d e : D) : Option Bool := if isNon e then some (!isNon d) else none
theorem non_dec {K : PySem.W.Frag} {g : Gh} {H0 H : Hp} {d : D} {v : V} (h : RpM K T g H0 H .b1 d v) : decide (v = V.non) = isNon d := by
  cases d with
  | non => have e := b_non h; subst e; rfl
  | bl _ => have e := b_bl h; subst e; rfl
  | int _ => have e := b_int h; subst e; rfl
  | str _ => have e := b_str h; subst e; rfl
  | tup _ => obtain ⟨a, vs, e, _⟩ := b_tup h; subst e; rfl
  | lst _ => obtain ⟨a, vs, e, _⟩ := b_lst h; subst e; rfl
  | fn _ => simp only [RpM, Rp] at h; obtain ⟨a, e, _⟩ := h; subst e; rfl
  | ref _ => simp only [RpM, Rp] at h; obtain ⟨a, e, _⟩ := h; subst e; rfl
  | scr _ => simp only [RpM, Rp] at h; obtain ⟨a, e, _⟩ := h; subst e; rfl
  | pt _ => simp only [RpM, Rp] at h; obtain ⟨a, vs, o, e, _⟩ := h; subst e; rfl
theorem isNon_eq {d : D} (h : isNon d = true) : d = .non := by
  cases d <;> first | rfl | cases h
theorem cmp_isN : CmpR X T .Is .b1 .b1 isND := by
  refine ⟨_, op_isN (X := X), fun Γ g σ H st Q x y d1 d2 H0 H1 k I r1 r2 e p => ?_⟩
  unfold isND at e
  split at e
  · rename_i hn
    have e2 := isNon_eq hn
    subst e2
    have e' := Option.some.inj e
    refine ⟨b_non r2, ?_⟩
    rw [non_dec r1, e']
    exact p
  · cases e
theorem cmp_notN : CmpR X T .IsNot .b1 .b1 notND := by
  refine ⟨_, op_notN (X := X), fun Γ g σ H st Q x y d1 d2 H0 H1 k I r1 r2 e p => ?_⟩
  unfold notND at e
  split at e
  · rename_i hn
    have e2 := isNon_eq hn
    subst e2
    have e' := Option.some.inj e
    refine ⟨b_non r2, ?_⟩
    rw [non_dec r1, e']
    exact p
  · cases e
end
end DL

set_option linter.all false
set_option Elab.async false
set_option maxRecDepth 100000
namespace DL
open PySem PySem.Spec PyProof.Rows L2

section
variable {T : Tb} {X : Cx} {Γ : Fls} {e a b c : Expr} {m m1 m2 m3 : Mo} {f f1 f2 f3 : S → R D} {pos : Pos} {es rest : List Expr} {k1 k2 : S → R Bool} {fs : S → R (List D)}

/-! ### tests -/
theorem toB_spec {K : PySem.W.Frag} {σ : L2.St} {g : Gh} {H : Hp} {st : S} {W : WX} {Q : Bool → Hp → Prop} {d : D} (h : PostT K T Γ σ g H W Q (match d with | .bl b => .ok b st | _ => .stuck)) : ∃ b, d = .bl b ∧ PostT K T Γ σ g H W Q (.ok b st) := by
  split at h
  · exact ⟨_, rfl, h⟩
  · exact h.elim
/-- a value's truth -/
def truD : D → Option Bool
  | .non => some false
  | .bl b => some b
  | .int i => some (i != 0)
  | .str x => if x.length ≤ sizeLine then some ((x.length : Int) != 0) else none
  | .tup xs => some (!xs.isEmpty)
  | .lst xs => some (!xs.isEmpty)
  | _ => none
def truB : D → S → R Bool := fun d s => match truD d with
  | some k => .ok k s
  | none => .stuck
def tTru (f : S → R D) : S → R Bool := fun st => (f st).bind truB
theorem Rps.isEmpty {K : PySem.W.Frag} {g : Gh} {H : Hp} {ds : List D} {vs : List V} (h : Rps K T g H ds vs) : vs.isEmpty = ds.isEmpty := by
  have := h.length
  cases ds <;> cases vs <;> simp_all
theorem tru_of {K : PySem.W.Frag} {g : Gh} {H0 H : Hp} {d : D} {v : V} {k : Bool} (r : RpM K T g H0 H .b1 d v) (e : truD d = some k) : TruV K v H k := by
  unfold truD at e
  split at e
  · have z := b_non r; subst z; cases e; exact rfl
  · have z := b_bl r; subst z; cases e; exact rfl
  · have z := b_int r; subst z; cases e; exact rfl
  · have z := b_str r; subst z
    split at e
    · cases e; exact ⟨by assumption, rfl⟩
    · cases e
  · obtain ⟨p, vs, z, h1, h2⟩ := b_tup r
    subst z
    cases e
    exact .inr (.inl ⟨vs, h1, by rw [h2.isEmpty]⟩)
  · obtain ⟨p, vs, z, h1, _, h2⟩ := b_lst r
    subst z
    cases e
    exact .inl ⟨vs, .inl (.inl h1), by rw [h2.isEmpty]⟩
  · cases e
theorem jt_tru (ha : JE T X Γ a .b1 f) (he : ∀ whole, isTrue a X.env whole = (do let v ← whole; standAt a.pos; holding [v] (truthy v)) := by intro _; rfl) : JT T X Γ a (tTru f) := by
  refine ⟨fun W tk => PT.imp (pt_truth (ha.run W tk) he) fun σ H Q ⟨g, st, I, p⟩ => ?_⟩
  refine te_bind ipT I p fun d1 s1 x H1 g1 q1 I1 r1 p1 => ?_
  unfold truB at p1
  split at p1
  · rename_i k e
    exact ⟨k, tru_of r1 e, p1 H1 g1 (.refl g1 H1) I1⟩
  · exact p1.elim
theorem jw_pt (h : JW T X Γ e k1) : JT T X Γ e k1 := ⟨fun W tk => (h.run W tk).pt⟩
theorem jw_and1 (ha : JT T X Γ a k1) : JW T X Γ (.BoolOp .And [a] pos) k1 := ⟨fun W tk => pw_and1 (ha.run W tk)⟩
theorem jw_or1 (ha : JT T X Γ a k1) : JW T X Γ (.BoolOp .Or [a] pos) k1 := ⟨fun W tk => pw_or1 (ha.run W tk)⟩
theorem jw_and (ha : JT T X Γ a k1) (hb : JW T X Γ (.BoolOp .And (b :: rest) pos) k2) : JW T X Γ (.BoolOp .And (a :: b :: rest) pos) (tAndS k1 k2) := by
  refine ⟨fun W tk => PW.imp (pw_and (ha.run W tk) (hb.run W tk)) fun σ H Q ⟨g, st, I, p⟩ => ?_⟩
  refine tt_bind ipT I p fun k s1 H1 g1 q1 I1 p1 => ?_
  cases k with
  | true => exact ⟨g1, s1, I1, p1⟩
  | false => exact p1 H1 g1 (.refl g1 H1) I1
theorem jw_or (ha : JT T X Γ a k1) (hb : JW T X Γ (.BoolOp .Or (b :: rest) pos) k2) : JW T X Γ (.BoolOp .Or (a :: b :: rest) pos) (tOrS k1 k2) := by
  refine ⟨fun W tk => PW.imp (pw_or (ha.run W tk) (hb.run W tk)) fun σ H Q ⟨g, st, I, p⟩ => ?_⟩
  refine tt_bind ipT I p fun k s1 H1 g1 q1 I1 p1 => ?_
  cases k with
  | true => exact p1 H1 g1 (.refl g1 H1) I1
  | false => exact ⟨g1, s1, I1, p1⟩
theorem jt_not (ha : JT T X Γ a k1) : JT T X Γ (.UnaryOp .Not a pos) (tNotS k1) := by
  refine ⟨fun W tk => PT.imp (pt_not (ha.run W tk)) fun σ H Q ⟨g, st, I, p⟩ => ?_⟩
  exact tt_bind ipT I p fun k s1 H1 g1 q1 I1 p1 => p1 H1 g1 (.refl g1 H1) I1
theorem jt_chain {op op' : CmpOp} {o o' : D → D → Option Bool} (h : CmpR X T op m1 m2 o) (h' : CmpR X T op' m2 m3 o') (ha : JE T X Γ a m1 f1) (hb : JE T X Γ b m2 f2) (hc : JE T X Γ c m3 f3) (hm : lastMarks [op, op'] [b, c] = false := by with_unfolding_all rfl) :
    JT T X Γ (.Compare a [op, op'] [b, c] pos) (t3c o o' f1 f2 f3) := by
  obtain ⟨r, ho, key⟩ := h.ex
  obtain ⟨r', ho', key'⟩ := h'.ex
  refine ⟨fun W tk => PT.imp (pt_chain ho ho' (ha.run W tk) (hb.run W tk) (hc.run W tk) hm) fun σ H Q ⟨g, st, I, p⟩ => ?_⟩
  refine te_bind ipT I p fun d1 s1 x H1 g1 q1 I1 r1 p1 => te_bind ipT I1 p1 fun d2 s2 y H2 g2 q2 I2 r2 p2 => ?_
  split at p2
  · rename_i e
    refine key Γ g2 σ H2 s2 _ x y d1 d2 H H1 true I2 (r1.step I1.wf I2.wf q2) r2 e ⟨true, rfl, ?_⟩
    rw [if_pos rfl]
    refine te_bind ipT I2 p2 fun d3 s3 z H3 g3 q3 I3 r3 p3 => ?_
    unfold cmpB at p3
    split at p3
    · rename_i k e'
      exact key' Γ g3 σ H3 s3 _ y z d2 d3 H1 H2 k I3 (r2.step I2.wf I3.wf q3) r3 e' ⟨k, rfl, p3 H3 g3 (.refl g3 H3) I3⟩
    · exact p3.elim
  · rename_i e
    refine key Γ g2 σ H2 s2 _ x y d1 d2 H H1 false I2 (r1.step I1.wf I2.wf q2) r2 e ⟨false, rfl, ?_⟩
    rw [if_neg Bool.false_ne_true]
    exact ⟨false, rfl, p2 H2 g2 (.refl g2 H2) I2⟩
  · exact p2.elim

/-! ### and, or, not, if as values -/
theorem je_if (hc : JT T X Γ c k1) (ha : JE T X Γ a m f1) (hb : JE T X Γ b m f2) : JE T X Γ (.IfExp c a b pos) m (eIf k1 f1 f2) := by
  refine ⟨fun W tk => PE.imp (pe_ifExp (hc.run W tk) (ha.run W tk) (hb.run W tk)) fun σ H Q ⟨g, st, I, p⟩ => ?_⟩
  refine tt_bind ipE I p fun k s1 H1 g1 q1 I1 p1 => ?_
  cases k with
  | true => exact ⟨g1, s1, I1, p1⟩
  | false => exact ⟨g1, s1, I1, p1⟩
def eAndB (f r : S → R D) : S → R D := fun st => (f st).bind fun d s => match d with
  | .bl true => r s
  | .bl false => .ok (.bl false) s
  | _ => .stuck
def eOrB (f r : S → R D) : S → R D := fun st => (f st).bind fun d s => match d with
  | .bl true => .ok (.bl true) s
  | .bl false => r s
  | _ => .stuck
theorem je_and (ha : JE T X Γ a .b1 f1) (hb : JE T X Γ (.BoolOp .And (b :: rest) pos) .sh f2) : JE T X Γ (.BoolOp .And (a :: b :: rest) pos) .sh (eAndB f1 f2) := by
  refine ⟨fun W tk => PE.imp (pe_and (ha.run W tk) (hb.run W tk)) fun σ H Q ⟨g, st, I, p⟩ => ?_⟩
  refine te_bind ipE I p fun d s1 x H1 g1 q1 I1 r1 p1 => ?_
  split at p1
  · exact ⟨true, b_bl r1, by rw [if_pos rfl]; exact ⟨g1, s1, I1, p1⟩⟩
  · exact ⟨false, b_bl r1, by rw [if_neg Bool.false_ne_true]; exact post_v I1 p1 rm_bl⟩
  · exact p1.elim
theorem je_or (ha : JE T X Γ a .b1 f1) (hb : JE T X Γ (.BoolOp .Or (b :: rest) pos) .sh f2) : JE T X Γ (.BoolOp .Or (a :: b :: rest) pos) .sh (eOrB f1 f2) := by
  refine ⟨fun W tk => PE.imp (pe_or (ha.run W tk) (hb.run W tk)) fun σ H Q ⟨g, st, I, p⟩ => ?_⟩
  refine te_bind ipE I p fun d s1 x H1 g1 q1 I1 r1 p1 => ?_
  split at p1
  · exact ⟨true, b_bl r1, by rw [if_pos rfl]; exact post_v I1 p1 rm_bl⟩
  · exact ⟨false, b_bl r1, by rw [if_neg Bool.false_ne_true]; exact ⟨g1, s1, I1, p1⟩⟩
  · exact p1.elim
theorem je_one {op} (h : JE T X Γ a m f) : JE T X Γ (.BoolOp op [a] pos) m f := ⟨fun W tk => pe_one (h.run W tk)⟩
def eNotB (f : S → R D) : S → R D := fun st => (f st).bind fun d s => match d with
  | .bl k => .ok (.bl (!k)) s
  | _ => .stuck
theorem je_not (ha : JE T X Γ a .b1 f1) : JE T X Γ (.UnaryOp .Not a pos) .sh (eNotB f1) := by
  refine ⟨fun W tk => PE.imp (pe_not (ha.run W tk)) fun σ H Q ⟨g, st, I, p⟩ => ?_⟩
  refine te_bind ipE I p fun d s1 x H1 g1 q1 I1 r1 p1 => ?_
  split at p1
  · exact ⟨_, b_bl r1, post_v I1 p1 rm_bl⟩
  · exact p1.elim
/-- x or y, by truth -/
def eOrV (f r : S → R D) : S → R D := fun st => (f st).bind fun d s => match truD d with
  | some true => .ok d s
  | some false => r s
  | none => .stuck
theorem m_b {K : PySem.W.Frag} {g : Gh} {H0 H : Hp} {d : D} {v : V} (wf : WF g H) (hm : m = .sh ∨ m = .f1 ∨ m = .b1) (r : RpM K T g H0 H m d v) : RpM K T g H0 H .b1 d v := by
  rcases hm with rfl | rfl | rfl
  · cases d with
    | lst ds =>
      simp only [RpM, Rp] at r
      obtain ⟨a, vs, e, h1, h2, h3⟩ := r
      exact ⟨a, vs, e, h2, fun z => wf.ao a h1 (.inr z), h3⟩
    | _ => exact r
  · cases d with
    | lst ds =>
      obtain ⟨a, vs, e, h1, h2, h3⟩ := r
      exact ⟨a, vs, e, h1, fun z => h2.2.1 (.inr z), h3⟩
    | _ => exact r
  · exact r
theorem je_orV (hm : m = .sh ∨ m = .f1 ∨ m = .b1) (ha : JE T X Γ a m f1) (hb : JE T X Γ (.BoolOp .Or (b :: rest) pos) m f2) : JE T X Γ (.BoolOp .Or (a :: b :: rest) pos) m (eOrV f1 f2) := by
  refine ⟨fun W tk => PE.imp (pe_orT (ha.run W tk) (hb.run W tk)) fun σ H Q ⟨g, st, I, p⟩ => ?_⟩
  refine ⟨g, st, I, ?_⟩
  unfold eOrV at p
  cases e : f1 st with
  | ok d s1 =>
    rw [e] at p
    intro x H1 g1 q1 I1 r1
    have p' : PostE X.K T Γ σ g H m W Q (match truD d with
      | some true => .ok d s1
      | some false => f2 s1
      | none => .stuck) := p
    split at p'
    · rename_i e'
      exact ⟨true, tru_of (m_b I1.wf hm r1) e', by rw [if_pos rfl]; exact p' x H1 g1 q1 I1 r1⟩
    · rename_i e'
      exact ⟨false, tru_of (m_b I1.wf hm r1) e', by rw [if_neg Bool.false_ne_true]; exact ⟨g1, s1, I1, p'.shift q1⟩⟩
    · exact p'.elim
  | raise x s => rw [e] at p; exact p
  | stuck => rw [e] at p; exact p

/-! ### argument lists, displays -/
theorem ja_nil : JA T X Γ [] aNil := ⟨fun W tk => PA.imp pa_nil fun σ H Q ⟨g, st, I, p⟩ => p [] H g (.refl g H) I .nil⟩
theorem ja_cons (ha : JE T X Γ e .sh f) (hr : JA T X Γ es fs) (hs : starEach (e :: es) X.env = (false, eval e X.env) :: starEach es X.env := by rfl) : JA T X Γ (e :: es) (aCons f fs) := by
  refine ⟨fun W tk => PA.imp (pa_cons (ha.run W tk) (hr.run W tk) hs) fun σ H Q ⟨g, st, I, p⟩ => ?_⟩
  refine te_bind ipA I p fun d1 s1 x H1 g1 q1 I1 r1 p1 => ta_bind ipA I1 p1 fun ds s2 xs H2 g2 q2 I2 r2 p2 => ?_
  exact p2 _ H2 g2 (.refl g2 H2) I2 (.cons (Rp.step I1.wf q2.toStep r1) r2)
def eTup (fs : S → R (List D)) : S → R D := fun st => (fs st).bind fun ds s => if ds.length ≤ sizeLine then .ok (.tup ds) s else .stuck
def eLst (fs : S → R (List D)) : S → R D := fun st => (fs st).bind fun ds s => if ds.length ≤ sizeLine then .ok (.lst ds) s else .stuck
theorem je_tup {x1} (h : JA T X Γ es fs) : JE T X Γ (.Tuple es x1 pos) .sh (eTup fs) := by
  refine ⟨fun W tk => PE.imp (pe_tup (h.run W tk)) fun σ H Q ⟨g, st, I, p⟩ => ?_⟩
  refine ta_bind ipE I p fun ds s1 vs H1 g1 q1 I1 r1 p1 => ?_
  split at p1
  · exact ⟨by rw [r1.length]; assumption, fun p' hp => post_tup I1 r1 hp p1⟩
  · exact p1.elim
theorem je_lst (h : JA T X Γ es fs) : JE T X Γ (.List es pos) .f1 (eLst fs) := by
  refine ⟨fun W tk => PE.imp (pe_lst (h.run W tk)) fun σ H Q ⟨g, st, I, p⟩ => ?_⟩
  refine ta_bind ipE I p fun ds s1 vs H1 g1 q1 I1 r1 p1 => ?_
  split at p1
  · exact ⟨by rw [r1.length]; assumption, fun p' hp => post_lst I1 r1 hp p1⟩
  · exact p1.elim

/-! ### subscripts -/
def mLst (s : S) (n : Nat) : Option (List D) := match s.m[n]? with
  | some (.lst ds) => some ds
  | _ => none
def ixD : D → D → S → R D
  | .lst xs, .int i, s => match atI xs i with
    | some d => .ok d s
    | none => .stuck
  | .tup xs, .int i, s => match atI xs i with
    | some d => .ok d s
    | none => .stuck
  | .scr xs, .int i, s => match atI xs i with
    | some d => .ok (.int d) s
    | none => .stuck
  | .str x, .int i, s => if x.length ≤ sizeLine then match atI x.cps.toList i with
      | some c => .ok (.str ⟨#[c]⟩) s
      | none => .stuck
    else .stuck
  | .ref n, .int i, s => match mLst s n with
    | some xs => (match atI xs i with
      | some d => .ok d s
      | none => .stuck)
    | none => .stuck
  | _, _, _ => .stuck
theorem Rps.atI {K : PySem.W.Frag} {g : Gh} {H : Hp} {ds : List D} {vs : List V} {i : Int} {d : D} (h : Rps K T g H ds vs) (e : L2.atI ds i = some d) : ∃ v, L2.atI vs i = some v ∧ Rp K T g H d v := by
  unfold L2.atI at e ⊢
  rw [h.length]
  cases q : ixN ds.length i with
  | none => rw [q] at e; cases e
  | some j =>
    rw [q] at e
    exact h.get e
theorem atI_map {α β : Type} (F : α → β) (xs : List α) (i : Int) : L2.atI (xs.map F) i = (L2.atI xs i).map F := by
  unfold L2.atI
  rw [List.length_map]
  cases ixN xs.length i with
  | none => rfl
  | some j => simp
theorem ScrOk.sq {K : PySem.W.Frag} {g : Gh} {H : Hp} {a : Addr} {vs : List V} (h : ScrOk K g H a vs) : SqL K H a vs := by
  rcases h with ⟨_, h⟩ | ⟨o, h⟩ | h
  · exact .inl (.inl h)
  · exact .inl (.inr ⟨o, h⟩)
  · exact .inr h
theorem mcell {K : PySem.W.Frag} {g : Gh} {σ : L2.St} {H : Hp} {st : S} {n : Nat} {ds : List D} {a : Addr} (I : SR K T Γ g σ H st) (h : mLst st n = some ds) (ha : g.mu[n]? = some a) : ∃ vs, H a = some (.lst vs) ∧ Rps K T g H ds vs := by
  unfold mLst at h
  split at h
  · rename_i ds' e
    cases h
    exact I.me.at_ n _ a e ha
  · cases h
theorem je_ix (ha : JE T X Γ a .b1 f1) (hb : JE T X Γ b .b1 f2) (hs : PlainIx b := by exact fun _ _ => rfl) : JE T X Γ (.Subscript a b pos) .sh (e2 ixD f1 f2) := by
  refine ⟨fun W tk => PE.imp (pe_ix ix_seq (ha.run W tk) (hb.run W tk) hs) fun σ H Q ⟨g, st, I, p⟩ => ?_⟩
  refine te_bind ipE I p fun d1 s1 x H1 g1 q1 I1 r1 p1 => te_bind ipE I1 p1 fun d2 s2 y H2 g2 q2 I2 r2 p2 => ?_
  have r1' := r1.step I1.wf I2.wf q2
  unfold ixD at p2
  split at p2
  · obtain ⟨p', vs, e1, s1, _, h1⟩ := b_lst r1'
    split at p2
    · rename_i d e
      obtain ⟨v, e2, h2⟩ := h1.atI e
      exact .inl ⟨p', vs, _, v, e1, b_int r2, .inl (.inl s1), e2, p2 v H2 g2 (.refl g2 H2) I2 h2⟩
    · exact p2.elim
  · obtain ⟨p', vs, e1, s1, h1⟩ := b_tup r1'
    split at p2
    · rename_i d e
      obtain ⟨v, e2, h2⟩ := h1.atI e
      exact .inr (.inl ⟨p', vs, _, v, e1, b_int r2, s1, e2, p2 v H2 g2 (.refl g2 H2) I2 h2⟩)
    · exact p2.elim
  · simp only [RpM, Rp] at r1'
    obtain ⟨p', e1, s1⟩ := r1'
    split at p2
    · rename_i d e
      exact .inl ⟨p', _, _, .int d, e1, b_int r2, s1.sq, by rw [atI_map, e]; rfl, p2 _ H2 g2 (.refl g2 H2) I2 rm_int⟩
    · exact p2.elim
  · split at p2
    · rename_i hl
      split at p2
      · rename_i cc e
        exact .inr (.inr ⟨_, _, cc, b_str r1', b_int r2, hl, e, p2 _ H2 g2 (.refl g2 H2) I2 rm_str⟩)
      · exact p2.elim
    · exact p2.elim
  · simp only [RpM, Rp] at r1'
    obtain ⟨p', e1, s1⟩ := r1'
    split at p2
    · rename_i xs hm
      obtain ⟨vs, h0, h1⟩ := mcell I2 hm s1
      split at p2
      · rename_i d e
        obtain ⟨v, e2, h2⟩ := h1.atI e
        exact .inl ⟨p', vs, _, v, e1, b_int r2, .inl (.inl h0), e2, p2 v H2 g2 (.refl g2 H2) I2 h2⟩
      · exact p2.elim
    · exact p2.elim
  · exact p2.elim
end
end DL

set_option linter.all false
set_option Elab.async false
set_option maxRecDepth 100000
namespace DL
open PySem PySem.Spec PyProof.Rows L2

section
variable {T : Tb} {X : Cx} {Γ : Fls} {e a b c lo hi : Expr} {m m1 m2 m3 : Mo} {f f1 f2 f3 : S → R D} {pos p2 : Pos} {es rest : List Expr} {k1 k2 : S → R Bool} {fs : S → R (List D)}

/-! ### slices -/
def cutG {α : Type} (xs : List α) (lo hi : Option Int) : List α := (xs.drop (HT.sIx xs.length 0 lo)).take (HT.sIx xs.length xs.length hi - HT.sIx xs.length 0 lo)
theorem cutG_V (xs : List V) (lo hi : Option Int) : cutV xs lo hi = cutG xs lo hi := rfl
theorem cutG_map {α β : Type} (F : α → β) (xs : List α) (lo hi : Option Int) : cutG (xs.map F) lo hi = (cutG xs lo hi).map F := by
  unfold cutG
  rw [List.length_map, List.map_take, List.map_drop]
theorem Rps.cut {K : PySem.W.Frag} {g : Gh} {H : Hp} {ds : List D} {vs : List V} (h : Rps K T g H ds vs) (lo hi : Option Int) : Rps K T g H (cutG ds lo hi) (cutV vs lo hi) := by
  rw [cutG_V]
  unfold cutG
  rw [h.length]
  exact (h.drop _).take _
theorem Rps.ints {K : PySem.W.Frag} {g : Gh} {H : Hp} : ∀ ns : List Int, Rps K T g H (ns.map D.int) (ns.map V.int)
  | [] => Rps.nil
  | n :: ns => Rps.cons (by simp only [Rp]) (Rps.ints ns)
def slD : D → Option Int → Option Int → S → R D
  | .lst xs, lo, hi, s => .ok (.lst (cutG xs lo hi)) s
  | .scr xs, lo, hi, s => .ok (.lst ((cutG xs lo hi).map D.int)) s
  | .tup xs, lo, hi, s => .ok (.tup (cutG xs lo hi)) s
  | _, _, _, _ => .stuck
/-- a slice's part -/
def pNone : S → R (Option Int) := fun st => .ok none st
def pSome (f : S → R D) : S → R (Option Int) := fun st => (f st).bind fun d s => match d with
  | .int i => .ok (some i) s
  | _ => .stuck
def PostO (K : PySem.W.Frag) (T : Tb) (Γ : Fls) (σ : L2.St) (g : Gh) (H : Hp) (W : WX) (Q : Option Int → Hp → Prop) : R (Option Int) → Prop
  | .ok b st => ∀ H' g', QStep g H g' H' → SR K T Γ g' σ H' st → Q b H'
  | .raise e st => PostX K T σ g H W e st
  | .stuck => False
def to_ (K : PySem.W.Frag) (T : Tb) (Γ : Fls) (W : WX) (f : S → R (Option Int)) : TO := fun σ H Q => ∃ g st, SR K T Γ g σ H st ∧ PostO K T Γ σ g H W Q (f st)
theorem PostO.shift {K : PySem.W.Frag} {σ : L2.St} {g g' : Gh} {H H' : Hp} {W : WX} {Q : Option Int → Hp → Prop} {r : R (Option Int)} (s : QStep g H g' H') (h : PostO K T Γ σ g H W Q r) : PostO K T Γ σ g' H' W Q r := by
  cases r with
  | ok d st => exact fun H2 g2 s2 r2 => h H2 g2 (s.trans s2) r2
  | raise e st => exact PostX.shift s.toStep h
  | stuck => exact h
theorem ipO {K : PySem.W.Frag} {σ : L2.St} {W : WX} {Q : Option Int → Hp → Prop} : IsPost K T σ W (fun g H => PostO K T Γ σ g H W Q) := ⟨fun _ _ _ _ h => h, fun _ _ _ _ h => h, fun _ _ h => h, fun _ _ _ _ _ s h => h.shift s⟩
structure JO (T : Tb) (X : Cx) (Γ : Fls) (e : Option Expr) (f : S → R (Option Int)) : Prop where
  run : ∀ W, Takes X W → PO X e (to_ X.K T Γ W f)
theorem PO.imp {X : Cx} {e : Option Expr} {t t' : TO} (h : PO X e t) (i : ∀ σ H Q, t' σ H Q → t σ H Q) : PO X e t' := ⟨fun pins s σ H Q I q => h.run pins s σ H Q I (i σ H Q q)⟩
theorem jo_none : JO T X Γ none pNone := ⟨fun W tk => PO.imp po_none fun σ H Q ⟨g, st, I, p⟩ => p H g (.refl g H) I⟩
theorem jo_some (h : JE T X Γ e .b1 f) : JO T X Γ (some e) (pSome f) := by
  refine ⟨fun W tk => PO.imp (po_some (h.run W tk)) fun σ H Q ⟨g, st, I, p⟩ => ?_⟩
  refine te_bind ipO I p fun d s1 x H1 g1 q1 I1 r1 p1 => ?_
  split at p1
  · exact ⟨_, b_int r1, p1 H1 g1 (.refl g1 H1) I1⟩
  · exact p1.elim
def eSl (f : S → R D) (l h : S → R (Option Int)) : S → R D := fun st => (f st).bind fun d s => (l s).bind fun i s1 => (h s1).bind fun j s2 => slD d i j s2
theorem to_bind {K : PySem.W.Frag} {σ : L2.St} {g : Gh} {H : Hp} {st : S} {W : WX} {α : Type} {P : Gh → Hp → R α → Prop} {f : S → R (Option Int)} {k : Option Int → S → R α} {Q : Option Int → Hp → Prop} (ip : IsPost K T σ W P) (I : SR K T Γ g σ H st) (h : P g H ((f st).bind k))
    (hk : ∀ b st' H' g', QStep g H g' H' → SR K T Γ g' σ H' st' → P g' H' (k b st') → Q b H') : to_ K T Γ W f σ H Q := by
  refine ⟨g, st, I, ?_⟩
  cases e : f st with
  | ok d st' =>
    rw [e] at h
    exact fun H' g' s r => hk d st' H' g' s r (ip.sh _ _ _ _ _ s h)
  | raise ex st' =>
    rw [e] at h
    exact ip.px _ _ _ _ h
  | stuck =>
    rw [e] at h
    exact ip.ps g H h
theorem je_sl {lo hi : Option Expr} {fl fh : S → R (Option Int)} (ha : JE T X Γ a .b1 f) (hl : JO T X Γ lo fl) (hh : JO T X Γ hi fh) : JE T X Γ (.Subscript a (.Slice lo hi none p2) pos) .f1 (eSl f fl fh) := by
  refine ⟨fun W tk => PE.imp (pe_slice ((sl_list (X := X)).or sl_tupA) (ha.run W tk) (hl.run W tk) (hh.run W tk)) fun σ H Q ⟨g, st, I, p⟩ => ?_⟩
  refine te_bind ipE I p fun d s1 x H1 g1 q1 I1 r1 p1 => to_bind ipE I1 p1 fun i s2 H2 g2 q2 I2 p2 => to_bind ipE I2 p2 fun j s3 H3 g3 q3 I3 p3 => ?_
  have r3 := (r1.step I1.wf I2.wf q2).step I2.wf I3.wf q3
  unfold slD at p3
  split at p3
  · obtain ⟨ad, vs, e1, h1, _, h2⟩ := b_lst r3
    exact .inl ⟨ad, vs, e1, .inl (.inl h1), fun p' hp => post_lst I3 (h2.cut i j) hp p3⟩
  · simp only [RpM, Rp] at r3
    obtain ⟨ad, e1, h1⟩ := r3
    refine .inl ⟨ad, _, e1, h1.sq, fun p' hp => ?_⟩
    rw [cutG_V, cutG_map]
    exact post_lst I3 (Rps.ints _) hp p3
  · obtain ⟨ad, vs, e1, h1, h2⟩ := b_tup r3
    refine .inr ⟨ad, vs, e1, h1, fun hw => ?_, fun _ p' hp => post_tup1 I3 (h2.cut i j) hp p3⟩
    subst e1
    refine post_v I3 p3 ?_
    simp only [RpM, Rp]
    refine ⟨ad, vs, rfl, h1, ?_⟩
    have z := h2.cut i j
    have e0 : cutV vs i j = vs := by
      rw [cutG_V]
      unfold cutG
      rw [hw.1, hw.2]
      simp
    rw [e0] at z
    exact z
  · exact p3.elim

/-! ### built-ins of one place -/
structure Bi1 (X : Cx) (T : Tb) (u : Value) (m1 m : Mo) (o : D → S → R D) : Prop where
  ex : ∃ r : List V → Hp → VK → Prop, CallR X u r ∧ ∀ (Γ : Fls) g σ H st W (Q : VK) x d H0, SR X.K T Γ g σ H st → RpM X.K T g H0 H m1 d x → PostE X.K T Γ σ g H m W Q (o d st) → r [x] H Q
theorem je_bi {x : Str} {p : Pos} {id : String} {o : D → S → R D} (h : Bi1 X T (.builtin id) m1 m o) (hg : Gl X x) (hm : X.mg x = none) (ha : JE T X Γ e m1 f) (hv : bootBuiltins x = some (.builtin id) := by decide +kernel) (hn : x ≠ "__name__" := by decide) (hdb : (x == ("__debug__" : Str)) = false := by decide)
    (he : starEach [e] X.env = (false, eval e X.env) :: starEach [] X.env := by rfl) (hpl : (backTo pos (starEach [] X.env)).any (·.1) = false := by rfl) : JE T X Γ (.Call (.Name x p) [e] [] pos) m (e1 o f) := by
  obtain ⟨r, hc, key⟩ := h.ex
  refine ⟨fun W tk => PE.imp (pe_callB hc hg hm hv (pa_cons (ha.run W tk) pa_nil he) hn hdb he hpl) fun σ H Q ⟨g, st, I, p⟩ => ?_⟩
  exact te_bind ipE I p fun d1 s1 x H1 g1 q1 I1 r1 p1 => key Γ g1 σ H1 s1 W Q x d1 H I1 r1 p1
theorem je_bty {x : Str} {p : Pos} {id : String} {o : D → S → R D} (h : Bi1 X T (.type id) m1 m o) (hg : Gl X x) (hm : X.mg x = none) (ha : JE T X Γ e m1 f) (hv : bootBuiltins x = some (.type id) := by decide +kernel) (hn : x ≠ "__name__" := by decide) (hdb : (x == ("__debug__" : Str)) = false := by decide)
    (he : starEach [e] X.env = (false, eval e X.env) :: starEach [] X.env := by rfl) (hpl : (backTo pos (starEach [] X.env)).any (·.1) = false := by rfl) : JE T X Γ (.Call (.Name x p) [e] [] pos) m (e1 o f) := by
  obtain ⟨r, hc, key⟩ := h.ex
  refine ⟨fun W tk => PE.imp (pe_callTy hc hg hm hv (pa_cons (ha.run W tk) pa_nil he) hn hdb he hpl) fun σ H Q ⟨g, st, I, p⟩ => ?_⟩
  exact te_bind ipE I p fun d1 s1 x H1 g1 q1 I1 r1 p1 => key Γ g1 σ H1 s1 W Q x d1 H I1 r1 p1
theorem CallR.or {u : Value} {r r' : List V → Hp → VK → Prop} (h : CallR X u r) (h' : CallR X u r') : CallR X u (fun xs H Q => r xs H Q ∨ r' xs H Q) := by
  intro pins s σ H xs us Q I rx q
  rcases q with q | q
  · exact h pins s σ H xs us Q I rx q
  · exact h' pins s σ H xs us Q I rx q
def lenD : D → S → R D
  | .lst xs, s => .ok (.int xs.length) s
  | .tup xs, s => .ok (.int xs.length) s
  | .scr xs, s => .ok (.int xs.length) s
  | .str x, s => if x.length ≤ sizeLine then .ok (.int x.length) s else .stuck
  | _, _ => .stuck
theorem bi_len : Bi1 X T (.builtin "len") .b1 .sh lenD := by
  refine ⟨_, CallR.or (call_len_seq (X := X)) call_len_str, fun Γ g σ H st W Q x d H0 I r p => ?_⟩
  unfold lenD at p
  split at p
  · obtain ⟨ad, vs, e1, h1, _, h2⟩ := b_lst r
    subst e1
    exact .inl ⟨ad, vs, rfl, .inl (.inl (.inl h1)), by rw [h2.length]; exact post_v I p rm_int⟩
  · obtain ⟨ad, vs, e1, h1, h2⟩ := b_tup r
    subst e1
    exact .inl ⟨ad, vs, rfl, .inr h1, by rw [h2.length]; exact post_v I p rm_int⟩
  · simp only [RpM, Rp] at r
    obtain ⟨ad, e1, h1⟩ := r
    subst e1
    exact .inl ⟨ad, _, rfl, .inl h1.sq, by rw [List.length_map]; exact post_v I p rm_int⟩
  · have e1 := b_str r
    subst e1
    split at p
    · exact .inr ⟨_, rfl, by assumption, post_v I p rm_int⟩
    · exact p.elim
  · exact p.elim
def absD : D → S → R D
  | .int i, s => .ok (.int (if i < 0 then -i else i)) s
  | _, _ => .stuck
theorem bi_abs : Bi1 X T (.builtin "abs") .b1 .sh absD := by
  refine ⟨_, call_abs (X := X), fun Γ g σ H st W Q x d H0 I r p => ?_⟩
  unfold absD at p
  split at p
  · have e1 := b_int r
    subst e1
    exact ⟨_, rfl, post_v I p rm_int⟩
  · exact p.elim
def intD : D → S → R D
  | .int i, s => .ok (.int i) s
  | .bl k, s => .ok (.int (if k then 1 else 0)) s
  | _, _ => .stuck
theorem bi_int : Bi1 X T (.type "int") .b1 .sh intD := by
  refine ⟨_, call_int1 (X := X), fun Γ g σ H st W Q x d H0 I r p => ?_⟩
  unfold intD at p
  split at p
  · have e1 := b_int r
    subst e1
    exact .inl ⟨_, rfl, post_v I p rm_int⟩
  · have e1 := b_bl r
    subst e1
    exact .inr ⟨_, rfl, post_v I p rm_int⟩
  · exact p.elim
def tupleD : D → S → R D
  | .lst xs, s => .ok (.tup xs) s
  | .tup xs, s => .ok (.tup xs) s
  | _, _ => .stuck
theorem bi_tuple : Bi1 X T (.type "tuple") .b1 .sh tupleD := by
  refine ⟨_, call_tuple_of (X := X), fun Γ g σ H st W Q x d H0 I r p => ?_⟩
  unfold tupleD at p
  split at p
  · obtain ⟨ad, vs, e1, h1, _, h2⟩ := b_lst r
    subst e1
    exact ⟨ad, vs, rfl, .inl ⟨.inl (.inl h1), fun l hl => post_tup I h2 hl p⟩⟩
  · obtain ⟨ad, vs, e1, h1, h2⟩ := b_tup r
    subst e1
    exact ⟨ad, vs, rfl, .inr ⟨h1, post_v I p r⟩⟩
  · exact p.elim
def listD : D → S → R D
  | .lst xs, s => .ok (.lst xs) s
  | .tup xs, s => .ok (.lst xs) s
  | .scr xs, s => .ok (.lst (xs.map D.int)) s
  | _, _ => .stuck
theorem bi_list : Bi1 X T (.type "list") .b1 .f1 listD := by
  refine ⟨_, call_list_of (X := X), fun Γ g σ H st W Q x d H0 I r p => ?_⟩
  unfold listD at p
  split at p
  · obtain ⟨ad, vs, e1, h1, _, h2⟩ := b_lst r
    subst e1
    exact ⟨ad, vs, rfl, .inl (.inl (.inl h1)), fun l hl => post_lst I h2 hl p⟩
  · obtain ⟨ad, vs, e1, h1, h2⟩ := b_tup r
    subst e1
    exact ⟨ad, vs, rfl, .inr h1, fun l hl => post_lst I h2 hl p⟩
  · simp only [RpM, Rp] at r
    obtain ⟨ad, e1, h1⟩ := r
    subst e1
    exact ⟨ad, _, rfl, .inl h1.sq, fun l hl => post_lst I (Rps.ints _) hl p⟩
  · exact p.elim
/-- a list of bools -/
def blsD : List D → Option (List Bool)
  | [] => some []
  | .bl b :: r => (blsD r).map (b :: ·)
  | _ :: _ => none
theorem bls_of {K : PySem.W.Frag} {g : Gh} {H : Hp} : ∀ {ds : List D} {vs : List V} {bs : List Bool}, Rps K T g H ds vs → blsD ds = some bs → vs = bs.map V.bl
  | [], vs, bs, h, e => by
    simp only [Rps] at h
    cases e
    exact h
  | d :: ds, vs, bs, h, e => by
    simp only [Rps] at h
    obtain ⟨v, r, e1, h1, h2⟩ := h
    cases d with
    | bl b =>
      simp only [blsD] at e
      cases q : blsD ds with
      | none => rw [q] at e; cases e
      | some l =>
        rw [q] at e
        cases e
        simp only [Rp] at h1
        rw [e1, h1, bls_of h2 q]
        rfl
    | _ => cases e
def allD : D → S → R D
  | .lst xs, s => (match blsD xs with
    | some bs => .ok (.bl (bs.all id)) s
    | none => .stuck)
  | _, _ => .stuck
def anyD : D → S → R D
  | .lst xs, s => (match blsD xs with
    | some bs => .ok (.bl (bs.any id)) s
    | none => .stuck)
  | _, _ => .stuck
theorem bi_all (hc : X.calm = true) : Bi1 X T (.builtin "all") .b1 .sh allD := by
  refine ⟨_, cr_all (X := X) hc, fun Γ g σ H st W Q x d H0 I r p => ?_⟩
  unfold allD at p
  split at p
  · split at p
    · rename_i bs e
      obtain ⟨ad, vs, e1, h1, _, h2⟩ := b_lst r
      subst e1
      rw [bls_of h2 e] at h1
      exact ⟨ad, bs, rfl, .inl (.inl h1), post_v I p rm_bl⟩
    · exact p.elim
  · exact p.elim
theorem bi_any (hc : X.calm = true) : Bi1 X T (.builtin "any") .b1 .sh anyD := by
  refine ⟨_, cr_any (X := X) hc, fun Γ g σ H st W Q x d H0 I r p => ?_⟩
  unfold anyD at p
  split at p
  · split at p
    · rename_i bs e
      obtain ⟨ad, vs, e1, h1, _, h2⟩ := b_lst r
      subst e1
      rw [bls_of h2 e] at h1
      exact ⟨ad, bs, rfl, .inl (.inl h1), post_v I p rm_bl⟩
    · exact p.elim
  · exact p.elim

/-! ### built-ins of several places -/
structure BiN (X : Cx) (T : Tb) (u : Value) (m : Mo) (o : List D → S → R D) : Prop where
  ex : ∃ r : List V → Hp → VK → Prop, CallR X u r ∧ ∀ (Γ : Fls) g σ H st W (Q : VK) xs ds, SR X.K T Γ g σ H st → Rps X.K T g H ds xs → PostE X.K T Γ σ g H m W Q (o ds st) → r xs H Q
def eBi (o : List D → S → R D) (fs : S → R (List D)) : S → R D := fun st => (fs st).bind o
theorem je_biN {x : Str} {p : Pos} {id : String} {o : List D → S → R D} (h : BiN X T (.builtin id) m o) (hg : Gl X x) (hm : X.mg x = none) (ha : JA T X Γ (e :: es) fs) (hv : bootBuiltins x = some (.builtin id) := by decide +kernel) (hn : x ≠ "__name__" := by decide) (hdb : (x == ("__debug__" : Str)) = false := by decide)
    (he : starEach (e :: es) X.env = (false, eval e X.env) :: starEach es X.env := by rfl) (hpl : (backTo pos (starEach es X.env)).any (·.1) = false := by rfl) : JE T X Γ (.Call (.Name x p) (e :: es) [] pos) m (eBi o fs) := by
  obtain ⟨r, hc, key⟩ := h.ex
  refine ⟨fun W tk => PE.imp (pe_callB hc hg hm hv (ha.run W tk) hn hdb he hpl) fun σ H Q ⟨g, st, I, p⟩ => ?_⟩
  exact ta_bind ipE I p fun ds s1 xs H1 g1 q1 I1 r1 p1 => key Γ g1 σ H1 s1 W Q xs ds I1 r1 p1
/-- a built-in function of a module -/
theorem je_biM {x : Str} {p : Pos} {id : String} {o : List D → S → R D} (h : BiN X T (.builtin id) m o) (hg : Gl X x) (hm : X.mg x = some (.builtin id)) (ha : JA T X Γ (e :: es) fs) (hdb : (x == ("__debug__" : Str)) = false := by decide)
    (he : starEach (e :: es) X.env = (false, eval e X.env) :: starEach es X.env := by rfl) (hpl : (backTo pos (starEach es X.env)).any (·.1) = false := by rfl) : JE T X Γ (.Call (.Name x p) (e :: es) [] pos) m (eBi o fs) := by
  obtain ⟨r, hc, key⟩ := h.ex
  refine ⟨fun W tk => PE.imp (pe_callBfun hc hg hm (ha.run W tk) hdb he hpl) fun σ H Q ⟨g, st, I, p⟩ => ?_⟩
  exact ta_bind ipE I p fun ds s1 xs H1 g1 q1 I1 r1 p1 => key Γ g1 σ H1 s1 W Q xs ds I1 r1 p1
theorem rps2 {K : PySem.W.Frag} {g : Gh} {H : Hp} {i j : Int} {vs : List V} (h : Rps K T g H [.int i, .int j] vs) : vs = [.int i, .int j] := by
  simp only [Rps, Rp] at h
  obtain ⟨v, r, e1, h1, v2, r2, e2, h2, h3⟩ := h
  rw [e1, h1, e2, h2, h3]
def gcdD : List D → S → R D
  | [.int i, .int j], s => .ok (.int (Nat.gcd i.natAbs j.natAbs : Nat)) s
  | _, _ => .stuck
theorem bi_gcd : BiN X T (.builtin "math.gcd") .sh gcdD := by
  refine ⟨_, cr_gcd (X := X), fun Γ g σ H st W Q xs ds I r p => ?_⟩
  unfold gcdD at p
  split at p
  · exact ⟨_, _, rps2 r, post_v I p rm_int⟩
  · exact p.elim
def max2D : List D → S → R D
  | [.int i, .int j], s => .ok (.int (if j > i then j else i)) s
  | _, _ => .stuck
def min2D : List D → S → R D
  | [.int i, .int j], s => .ok (.int (if j < i then j else i)) s
  | _, _ => .stuck
theorem bi_max2 (hc : X.calm = true) : BiN X T (.builtin "max") .sh max2D := by
  refine ⟨_, call_max2 (X := X) hc, fun Γ g σ H st W Q xs ds I r p => ?_⟩
  unfold max2D at p
  split at p
  · exact ⟨_, _, rps2 r, post_v I p rm_int⟩
  · exact p.elim
theorem bi_min2 (hc : X.calm = true) : BiN X T (.builtin "min") .sh min2D := by
  refine ⟨_, call_min2 (X := X) hc, fun Γ g σ H st W Q xs ds I r p => ?_⟩
  unfold min2D at p
  split at p
  · exact ⟨_, _, rps2 r, post_v I p rm_int⟩
  · exact p.elim

/-! ### isinstance -/
inductive Ty where
  | int | bool | str | list | tuple
def Ty.nm : Ty → String
  | .int => "int"
  | .bool => "bool"
  | .str => "str"
  | .list => "list"
  | .tuple => "tuple"
def tyD : D → Option String
  | .non => some "NoneType"
  | .bl _ => some "bool"
  | .int _ => some "int"
  | .str _ => some "str"
  | .tup _ => some "tuple"
  | .lst _ => some "list"
  | .scr _ => some "list"
  | _ => none
def isTy : Ty → D → Option Bool
  | .int, .int _ => some true
  | .int, .bl _ => some true
  | .bool, .bl _ => some true
  | .str, .str _ => some true
  | .list, .lst _ => some true
  | .list, .scr _ => some true
  | .tuple, .tup _ => some true
  | _, .fn _ => none
  | _, .ref _ => none
  | _, .pt _ => none
  | _, _ => some false
theorem isTy_kit {t : Ty} {d : D} {k : Bool} (h : isTy t d = some k) : ∃ s, tyD d = some s ∧ kitB s t.nm = some k := by
  cases t <;> cases d <;> first
    | (cases h; done)
    | (cases h; exact ⟨_, rfl, by decide +kernel⟩)
theorem tyX_of {K : PySem.W.Frag} {g : Gh} {H0 H : Hp} {d : D} {v : V} {s : String} (r : RpM K T g H0 H .b1 d v) (h : tyD d = some s) : TyX K H v (.type s) := by
  cases d with
  | non => cases h; rw [b_non r]; exact .base .non
  | bl b => cases h; rw [b_bl r]; exact .base (.bl _)
  | int b => cases h; rw [b_int r]; exact .base (.int _)
  | str b => cases h; rw [b_str r]; exact .base (.str _)
  | tup ds =>
    cases h
    obtain ⟨ad, vs, e1, h1, _⟩ := b_tup r
    rw [e1]
    rcases h1 with (h1 | ⟨o, h1⟩) | ⟨o, its, n, h1, h2, _⟩
    · exact .base (.tup h1)
    · exact .fTuple h1
    · exact .kTuple h1 h2
  | lst ds =>
    cases h
    obtain ⟨ad, vs, e1, h1, _⟩ := b_lst r
    rw [e1]
    exact .base (.lst h1)
  | scr ds =>
    cases h
    simp only [RpM, Rp] at r
    obtain ⟨ad, e1, h1⟩ := r
    rw [e1]
    rcases h1 with ⟨_, h1⟩ | ⟨o, h1⟩ | ⟨o, its, n, h1, h2, _⟩
    · exact .base (.lst h1)
    · exact .base (.frz h1)
    · exact .kList h1 h2
  | fn _ => cases h
  | pt _ => cases h
  | ref _ => cases h
def isiD (t : Ty) : D → S → R D := fun d s => match isTy t d with
  | some k => .ok (.bl k) s
  | none => .stuck
def isi2D (t t' : Ty) : D → S → R D := fun d s => match isTy t d, isTy t' d with
  | some k, some k' => .ok (.bl (k || k')) s
  | _, _ => .stuck
theorem je_isi (t : Ty) {x : Str} {p p2 : Pos} (hg : Gl X x) (hm : X.mg x = none) (hg' : Gl X (.ofString t.nm)) (hm' : X.mg (.ofString t.nm) = none) (ha : JE T X Γ e .b1 f) (hx : x = "isinstance" := by rfl) (hv' : bootBuiltins (.ofString t.nm) = some (.type t.nm) := by decide +kernel)
    (hn : (.ofString t.nm : Str) ≠ "__name__" := by decide) (hdb : ((.ofString t.nm : Str) == ("__debug__" : Str)) = false := by decide)
    (he : starEach [e, .Name (.ofString t.nm) p2] X.env = (false, eval e X.env) :: starEach [.Name (.ofString t.nm) p2] X.env := by rfl) (he2 : starEach [.Name (.ofString t.nm) p2] X.env = (false, eval (.Name (.ofString t.nm) p2) X.env) :: starEach [] X.env := by rfl) (hpl : (backTo pos (starEach [.Name (.ofString t.nm) p2] X.env)).any (·.1) = false := by rfl) :
    JE T X Γ (.Call (.Name x p) [e, .Name (.ofString t.nm) p2] [] pos) .sh (e1 (isiD t) f) := by
  subst hx
  refine ⟨fun W tk => PE.imp (pe_callB call_isi hg hm (by decide +kernel) (pa_cons (ha.run W tk) (pa_cons (pe_bltn (v := .ty t.nm) hg' hm' hv' rfl hn hdb) pa_nil he2) he) (by decide) (by decide) he hpl) fun σ H Q ⟨g, st, I, p⟩ => ?_⟩
  refine te_bind ipE I p fun d1 s1 x H1 g1 q1 I1 r1 p1 => ?_
  unfold isiD at p1
  split at p1
  · rename_i k e
    obtain ⟨s, h1, h2⟩ := isTy_kit e
    exact ⟨x, .ty t.nm, .type s, .type t.nm, k, rfl, .ty _, tyX_of r1 h1, kit_ty h2, post_v I1 p1 rm_bl⟩
  · exact p1.elim
theorem je_isi2 (t t' : Ty) {x : Str} {p p2 p3 p4 : Pos} {kk : Nat} (hg : Gl X x) (hm : X.mg x = none) (hg' : Gl X (.ofString t.nm)) (hm' : X.mg (.ofString t.nm) = none) (hg2 : Gl X (.ofString t'.nm)) (hm2 : X.mg (.ofString t'.nm) = none) (ha : JE T X Γ e .b1 f) (hx : x = "isinstance" := by rfl)
    (hv' : bootBuiltins (.ofString t.nm) = some (.type t.nm) := by decide +kernel) (hv2 : bootBuiltins (.ofString t'.nm) = some (.type t'.nm) := by decide +kernel) (hn : (.ofString t.nm : Str) ≠ "__name__" := by decide) (hdb : ((.ofString t.nm : Str) == ("__debug__" : Str)) = false := by decide) (hn2 : (.ofString t'.nm : Str) ≠ "__name__" := by decide) (hdb2 : ((.ofString t'.nm : Str) == ("__debug__" : Str)) = false := by decide)
    (he : starEach [e, .Tuple [.Name (.ofString t.nm) p2, .Name (.ofString t'.nm) p3] kk p4] X.env = (false, eval e X.env) :: starEach [.Tuple [.Name (.ofString t.nm) p2, .Name (.ofString t'.nm) p3] kk p4] X.env := by rfl)
    (he2 : starEach [.Tuple [.Name (.ofString t.nm) p2, .Name (.ofString t'.nm) p3] kk p4] X.env = (false, eval (.Tuple [.Name (.ofString t.nm) p2, .Name (.ofString t'.nm) p3] kk p4) X.env) :: starEach [] X.env := by rfl)
    (he3 : starEach [.Name (.ofString t.nm) p2, .Name (.ofString t'.nm) p3] X.env = (false, eval (.Name (.ofString t.nm) p2) X.env) :: starEach [.Name (.ofString t'.nm) p3] X.env := by rfl) (he4 : starEach [.Name (.ofString t'.nm) p3] X.env = (false, eval (.Name (.ofString t'.nm) p3) X.env) :: starEach [] X.env := by rfl)
    (hpl : (backTo pos (starEach [.Tuple [.Name (.ofString t.nm) p2, .Name (.ofString t'.nm) p3] kk p4] X.env)).any (·.1) = false := by rfl) :
    JE T X Γ (.Call (.Name x p) [e, .Tuple [.Name (.ofString t.nm) p2, .Name (.ofString t'.nm) p3] kk p4] [] pos) .sh (e1 (isi2D t t') f) := by
  subst hx
  refine ⟨fun W tk => PE.imp (pe_callB call_isiT hg hm (by decide +kernel) (pa_cons (ha.run W tk) (pa_cons (pe_tup (pa_cons (pe_bltn (v := .ty t.nm) hg' hm' hv' rfl hn hdb) (pa_cons (pe_bltn (v := .ty t'.nm) hg2 hm2 hv2 rfl hn2 hdb2) pa_nil he4) he3)) pa_nil he2) he) (by decide) (by decide) he hpl) fun σ H Q ⟨g, st, I, p⟩ => ?_⟩
  refine te_bind ipE I p fun d1 s1 x H1 g1 q1 I1 r1 p1 => ?_
  refine ⟨by show 2 ≤ sizeLine; decide, fun tp hp => ?_⟩
  unfold isi2D at p1
  split at p1
  · rename_i k k' e e'
    obtain ⟨s, h1, h2⟩ := isTy_kit e
    obtain ⟨s', h1', h2'⟩ := isTy_kit e'
    have es : s' = s := Option.some.inj (h1'.symm.trans h1)
    subst es
    have I2 := I1.new (o := .tup [V.ty t.nm, V.ty t'.nm]) hp
    have qs : QStep g1 H1 g1 (upd H1 tp (.tup [V.ty t.nm, V.ty t'.nm])) := ⟨.new hp, rfl, fun i b hb => by
      obtain ⟨o, eo, _⟩ := I1.wf.ot b (.inl ⟨i, hb⟩)
      rw [upd_ne (ne_of_none eo hp)]⟩
    have ty := tyX_of (r1.step I1.wf I2.wf qs) h1
    refine ⟨x, tp, [.ty t.nm, .ty t'.nm], .type s', [.type t.nm, .type t'.nm], k || k', rfl, upd_same, .cons (.ty _) (.cons (.ty _) .nil), ty, ?_, post_v I2 (p1.shift qs) rm_bl⟩
    exact kitAny_cons (kit_ty h2) (fun hk => kitAny_cons (kit_ty h2') (fun hk' => by rw [hk, hk']; exact kitAny_nil) (fun hk' => by rw [hk, hk']; rfl)) (fun hk => by rw [hk]; rfl)
  · exact p1.elim
end
end DL

set_option linter.all false
set_option Elab.async false
set_option maxRecDepth 100000
namespace DL
open PySem PySem.Spec PyProof.Rows L2

/-! ### targets -/
inductive Tg where
  | one (i : Nat) | many (is : List Nat) | manyL (is : List Nat)
def setL : List Nat → List D → List (Option D) → List (Option D)
  | i :: is, d :: ds, r => setL is ds (r.set i (some d))
  | _, _, r => r
def setV : List Nat → List V → L2.St → L2.St
  | i :: is, v :: vs, r => setV is vs (r.set i (some v))
  | _, _, r => r
def asgD : Tg → D → S → Option S
  | .one i, d, s => some { s with r := s.r.set i (some d) }
  | .many is, .tup ds, s => if ds.length = is.length then some { s with r := setL is ds s.r } else none
  | .manyL is, .lst ds, s => if ds.length = is.length then some { s with r := setL is ds s.r } else none
  | _, _, _ => none
def Tg.vs : Tg → List Nat
  | .one i => [i]
  | .many is => is
  | .manyL is => is

section
variable {K : PySem.W.Frag} {T : Tb} {g : Gh} {H : Hp} {Γ : Fls} {σ : L2.St} {st : S}
theorem SR.set (I : SR K T Γ g σ H st) {i : Nat} {d : D} {v : V} (hf : fl Γ i = .sh) (r : Rp K T g H d v) : SR K T Γ g (σ.set i (some v)) H { st with r := st.r.set i (some d) } where
  wf := I.wf
  len := by simpa using I.len
  sl := fun j hj => by
    have hj' : j < σ.length := by simpa using hj
    by_cases h : i = j
    · subst h
      rw [List.getD_eq_getElem?_getD, List.getElem?_set_self hj', List.getD_eq_getElem?_getD, List.getElem?_set_self (by rw [← I.len]; exact hj'), hf]
      exact r
    · rw [List.getD_eq_getElem?_getD, List.getElem?_set_ne h, List.getD_eq_getElem?_getD, List.getElem?_set_ne h, ← List.getD_eq_getElem?_getD, ← List.getD_eq_getElem?_getD]
      exact I.sl j hj'
  me := I.me
end
theorem SR.setL {K : PySem.W.Frag} {T : Tb} {g : Gh} {H : Hp} {Γ : Fls} : ∀ {is : List Nat} {ds : List D} {vs : List V} {τ : L2.St} {su : S}, SR K T Γ g τ H su → (∀ i ∈ is, fl Γ i = .sh) → Rps K T g H ds vs → SR K T Γ g (setV is vs τ) H { su with r := DL.setL is ds su.r }
  | [], _, _, _, _, I, _, _ => I
  | i :: is, [], vs, τ, su, I, _, r => by
    simp only [Rps] at r
    subst r
    exact I
  | i :: is, d :: ds, vs, τ, su, I, hf, r => by
    simp only [Rps] at r
    obtain ⟨v, r', e, h1, h2⟩ := r
    subst e
    exact SR.setL (is := is) (ds := ds) (vs := r') (τ := τ.set i (some v)) (su := { su with r := su.r.set i (some d) }) (I.set (hf i List.mem_cons_self) h1) (fun j hj => hf j (List.mem_cons_of_mem _ hj)) h2

/-- a target's reading -/
def tgR (K : PySem.W.Frag) (T : Tb) (t : Tg) : TG := fun v σ H Q => match t with
  | .one i => Q (σ.set i (some v)) H
  | .many is => ∃ a vs, v = .ref a ∧ SqT K H a vs ∧ vs.length = is.length ∧ Q (setV is vs σ) H
  | .manyL is => ∃ a vs, v = .ref a ∧ SqL K H a vs ∧ vs.length = is.length ∧ Q (setV is vs σ) H
structure JG (T : Tb) (X : Cx) (tg : Expr) (t : Tg) : Prop where
  run : PG X tg (tgR X.K T t)
structure JGs (X : Cx) (es : List Expr) (is : List Nat) : Prop where
  run : PGs X es (fun vs σ H Q => vs.length = is.length ∧ Q (setV is vs σ) H)
theorem PG.imp {X : Cx} {e : Expr} {t t' : TG} (h : PG X e t) (i : ∀ v σ H Q, t' v σ H Q → t v σ H Q) : PG X e t' := ⟨fun pins s σ H v u Q I r q => h.run pins s σ H v u Q I r (i v σ H Q q)⟩
theorem PGs.imp {X : Cx} {e : List Expr} {t t' : TGs} (h : PGs X e t) (i : ∀ v σ H Q, t' v σ H Q → t v σ H Q) : PGs X e t' := ⟨fun pins s σ H v u Q I r q => h.run pins s σ H v u Q I r (i v σ H Q q)⟩
section
variable {T : Tb} {X : Cx} {Γ : Fls} {e a b c : Expr} {m m1 m2 m3 : Mo} {f f1 f2 f3 : S → R D} {pos p2 : Pos} {es rest : List Expr} {k1 k2 : S → R Bool} {fs : S → R (List D)} {is : List Nat}
theorem jg_one (i : Nat) {x : Str} (hN : X.N.Nodup) (hi : X.N[i]? = some x := by rfl) (hx : Loc X.env.scope x := by first | exact Or.inl rfl | exact Or.inr rfl) (hf : X.fn x = true ∨ X.env.scope.names.lookup x = some .local := by first | exact .inl rfl | exact .inr rfl | assumption) : JG T X (.Name x pos) (.one i) := ⟨pg_name hN hi hx hf⟩
theorem jgs_nil : JGs X [] [] := ⟨PGs.imp pgs_nil fun vs σ H Q h => ⟨List.eq_nil_of_length_eq_zero h.1, by
  have := List.eq_nil_of_length_eq_zero h.1
  subst this
  exact h.2⟩⟩
theorem jgs_cons (i : Nat) {x : Str} (hN : X.N.Nodup) (h2 : JGs X es is) (hi : X.N[i]? = some x := by rfl) (hx : Loc X.env.scope x := by first | exact Or.inl rfl | exact Or.inr rfl) (hf : X.fn x = true ∨ X.env.scope.names.lookup x = some .local := by first | exact .inl rfl | exact .inr rfl | assumption)
    (hs : (assignEach (.Name x pos :: es) X.env).map (·.2) = assign (.Name x pos) X.env :: (assignEach es X.env).map (·.2) := by rfl) : JGs X (.Name x pos :: es) (i :: is) := by
  refine ⟨PGs.imp (pgs_cons (pg_name hN hi hx hf) h2.run hs) fun vs σ H Q h => ?_⟩
  obtain ⟨hl, q⟩ := h
  cases vs with
  | nil => cases hl
  | cons v r => exact ⟨v, r, rfl, by simpa using hl, q⟩
theorem jg_many {k : Nat} (hc : X.calm = true) (h : JGs X es is) (hn : (assignEach es X.env).length = is.length := by rfl) (hst : (assignEach es X.env).findIdx? (·.1) = none := by rfl) : JG T X (.Tuple es k pos) (.many is) :=
  ⟨PG.imp (pg_tup hc h.run hn hst) fun v σ H Q ⟨a, vs, e, q, hl, hq⟩ => ⟨a, vs, e, q, hl, hl, hq⟩⟩
theorem jg_manyL {k : Nat} (hc : X.calm = true) (h : JGs X es is) (hn : (assignEach es X.env).length = is.length := by rfl) (hst : (assignEach es X.env).findIdx? (·.1) = none := by rfl) : JG T X (.Tuple es k pos) (.manyL is) :=
  ⟨PG.imp (pg_unl hc h.run hn hst) fun v σ H Q ⟨a, vs, e, q, hl, hq⟩ => ⟨a, vs, e, q, hl, hl, hq⟩⟩
/-- the reading of a target from its D-semantics -/
theorem tgR_of {K : PySem.W.Frag} {g : Gh} {σ : L2.St} {H : Hp} {st st' : S} {t : Tg} {d : D} {v : V} {Q : L2.St → Hp → Prop} (I : SR K T Γ g σ H st) (r : Rp K T g H d v) (hf : ∀ i ∈ t.vs, fl Γ i = .sh) (e : asgD t d st = some st')
    (h : ∀ σ', SR K T Γ g σ' H st' → (∀ vs, (∀ i ∈ t.vs, i ∈ vs) → wipe σ' vs = wipe σ vs) → Q σ' H) : tgR K T t v σ H Q := by
  have wip : ∀ (is : List Nat) (vs : List V) (σ : L2.St) (ws : List Nat), (∀ i ∈ is, i ∈ ws) → wipe (setV is vs σ) ws = wipe σ ws := by
    have one : ∀ (ws : List Nat) (σ : L2.St) (i : Nat) (v : V), i ∈ ws → wipe (σ.set i (some v)) ws = wipe σ ws := by
      intro ws
      induction ws with
      | nil => intro σ i v h; cases h
      | cons w ws ih =>
        intro σ i v h
        show (wipe (σ.set i (some v)) ws).set w none = (wipe σ ws).set w none
        by_cases hm : i ∈ ws
        · rw [ih σ i v hm]
        · have hw : i = w := by
            rcases List.mem_cons.mp h with z | z
            · exact z
            · exact absurd z hm
          subst hw
          have comm : ∀ (us : List Nat) (τ : L2.St), i ∉ us → wipe (τ.set i (some v)) us = (wipe τ us).set i (some v) := by
            intro us
            induction us with
            | nil => intro τ _; rfl
            | cons u us ihu =>
              intro τ hu
              show (wipe (τ.set i (some v)) us).set u none = ((wipe τ us).set u none).set i (some v)
              rw [ihu τ fun z => hu (List.mem_cons_of_mem _ z), List.set_comm]
              intro z
              exact hu (by rw [z]; exact List.mem_cons_self)
          rw [comm ws σ hm, List.set_set]
    intro is
    induction is with
    | nil => intro vs σ ws _; rfl
    | cons i is ih =>
      intro vs σ ws h
      cases vs with
      | nil => rfl
      | cons v vs =>
        show wipe (setV is vs (σ.set i (some v))) ws = _
        rw [ih vs _ ws fun j hj => h j (List.mem_cons_of_mem _ hj), one ws σ i v (h i List.mem_cons_self)]
  cases t with
  | one i =>
    cases e
    exact h _ (I.set (hf i List.mem_cons_self) r) fun ws hw => wip [i] [v] σ ws hw
  | many is =>
    cases d with
    | tup ds =>
      simp only [asgD] at e
      split at e
      · rename_i hl
        cases e
        simp only [Rp] at r
        obtain ⟨a, vs, e1, h1, h2⟩ := r
        exact ⟨a, vs, e1, h1, h2.length.trans hl, h _ (I.setL hf h2) fun ws hw => wip is vs σ ws hw⟩
      · cases e
    | _ => cases e
  | manyL is =>
    cases d with
    | lst ds =>
      simp only [asgD] at e
      split at e
      · rename_i hl
        cases e
        simp only [Rp] at r
        obtain ⟨a, vs, e1, _, h1, h2⟩ := r
        exact ⟨a, vs, e1, .inl (.inl h1), h2.length.trans hl, h _ (I.setL hf h2) fun ws hw => wip is vs σ ws hw⟩
      · cases e
    | _ => cases e

/-! ### what is walked -/
structure Wlk (K : PySem.W.Frag) (T : Tb) (g : Gh) (H : Hp) (J : It) (ds : List D) : Prop where
  go : ∀ i d g' H', Step g H g' H' → WF g' H' → ds[i]? = some d → J.go i H'
  stop : ∀ g' H', Step g H g' H' → WF g' H' → J.stop ds.length H'
  yld : ∀ i d g' H' x H'', Step g H g' H' → WF g' H' → ds[i]? = some d → J.yld i H' x H'' → (H'' = H' ∧ Rp K T g' H' d x) ∨ (∃ p vs, H' p = none ∧ H'' = upd H' p (.tup vs) ∧ Rp K T g' H'' d x)
def PostI (K : PySem.W.Frag) (T : Tb) (Γ : Fls) (σ : L2.St) (g : Gh) (H : Hp) (W : WX) (Q : It → Hp → Prop) : R (List D) → Prop
  | .ok ds st => ∀ J H' g', QStep g H g' H' → SR K T Γ g' σ H' st → Wlk K T g' H' J ds → Q J H'
  | .raise e st => PostX K T σ g H W e st
  | .stuck => False
def ti (K : PySem.W.Frag) (T : Tb) (Γ : Fls) (W : WX) (f : S → R (List D)) : TI := fun σ H R => ∃ g st, SR K T Γ g σ H st ∧ PostI K T Γ σ g H W R (f st)
structure JI (T : Tb) (X : Cx) (Γ : Fls) (tg e : Expr) (f : S → R (List D)) : Prop where
  run : ∀ W, Takes X W → PI X tg e (ti X.K T Γ W f)
theorem PostI.shift {K : PySem.W.Frag} {σ : L2.St} {g g' : Gh} {H H' : Hp} {W : WX} {Q : It → Hp → Prop} {r : R (List D)} (s : QStep g H g' H') (h : PostI K T Γ σ g H W Q r) : PostI K T Γ σ g' H' W Q r := by
  cases r with
  | ok d st => exact fun J H2 g2 s2 r2 p => h J H2 g2 (s.trans s2) r2 p
  | raise e st => exact PostX.shift s.toStep h
  | stuck => exact h
theorem ipI {K : PySem.W.Frag} {σ : L2.St} {W : WX} {Q : It → Hp → Prop} : IsPost K T σ W (fun g H => PostI K T Γ σ g H W Q) := ⟨fun _ _ _ _ h => h, fun _ _ _ _ h => h, fun _ _ h => h, fun _ _ _ _ _ s h => h.shift s⟩
theorem PI.imp {X : Cx} {tg e : Expr} {t t' : TI} (h : PI X tg e t) (i : ∀ σ H Q, t' σ H Q → t σ H Q) : PI X tg e t' := ⟨fun pins s σ H R I q => h.run pins s σ H R I (i σ H R q)⟩

theorem sql_inj {K : PySem.W.Frag} {H : Hp} {a : Addr} {xs ys : List V} (h : H a = some (.lst xs)) (hn : ∀ o, K.lookup a = some o → False) (q : SqL K H a ys) : ys = xs := by
  rcases q with (q | ⟨o, q⟩) | ⟨o, its, n, q, _⟩
  · rw [h] at q; cases q; rfl
  · rw [h] at q; cases q
  · exact (hn o q).elim
def seqI : D → S → R (List D)
  | .lst xs, s => .ok xs s
  | .tup xs, s => .ok xs s
  | .scr xs, s => .ok (xs.map D.int) s
  | _, _ => .stuck
def i1 (o : D → S → R (List D)) (f : S → R D) : S → R (List D) := fun st => (f st).bind o
def iSeq (K : PySem.W.Frag) (tl : TE) : TI := fun σ H R => tl σ H fun x H1 => ∃ a, x = .ref a ∧ (((∃ xs, SqL K H1 a xs) ∧ R (Itl K a) H1) ∨ ((∃ xs, SqT K H1 a xs) ∧ R (Itt K a) H1))
theorem pi_seq {tg l : Expr} {tl : TE} (hl : PE X l tl) : PI X tg l (iSeq X.K tl) := by
  refine ⟨fun pins s σ H R I h => ?_⟩
  refine thn (hl.run pins s σ H _ I h) fun v s1 ⟨x, H1, I1, r1, q1⟩ => ?_
  obtain ⟨a, e, q⟩ := q1
  subst e
  cases r1
  rcases q with ⟨⟨xs, hq⟩, q⟩ | ⟨⟨xs, hq⟩, q⟩
  · obtain ⟨its, rv, p, hz⟩ := I1.list hq
    refine wpAny_pyIter_list p.isList ?_
    refine ⟨s1.heap.objs.size, [s1.heap.objs.size], _, _, H1, rfl, I1.kept (t' := s1.toks) fun b o e => Heap.get?_push_of_some _ e, turn_list a _, ⟨_, Heap.get?_push_size _ rfl, rfl, rfl⟩, fun b hb => ?_, q⟩
    have e : b = s1.heap.objs.size := by simpa using hb
    subst e
    exact I1.fpOk (Nat.le_refl _) (I1.hok.fresh (Nat.le_refl _))
  · obtain ⟨its, rv, p, hz⟩ := I1.tuple hq
    refine wpAny_pyIter_tuple (show s1.heap.IsTuple a its.toArray from p) ?_
    refine ⟨s1.heap.objs.size, [s1.heap.objs.size], _, _, H1, rfl, I1.kept (t' := s1.toks) fun b o e => Heap.get?_push_of_some _ e, turn_tuple a _, ⟨_, Heap.get?_push_size _ rfl, rfl, rfl⟩, fun b hb => ?_, q⟩
    have e : b = s1.heap.objs.size := by simpa using hb
    subst e
    exact I1.fpOk (Nat.le_refl _) (I1.hok.fresh (Nat.le_refl _))
theorem wlk_l {K : PySem.W.Frag} {g : Gh} {H : Hp} {a : Addr} {vs : List V} {ds : List D} (wf : WF g H) (h : ∀ g' H', Step g H g' H' → WF g' H' → SqL K H' a vs) (r : Rps K T g H ds vs) : Wlk K T g H (Itl K a) ds where
  go := fun i d g' H' s w e => by
    obtain ⟨v, q, _⟩ := r.get e
    exact ⟨vs, v, h g' H' s w, q⟩
  stop := fun g' H' s w => ⟨vs, h g' H' s w, by rw [r.length]; exact Nat.le_refl _⟩
  yld := fun i d g' H' x H'' s w e y => by
    obtain ⟨v, q, rv⟩ := r.get e
    obtain ⟨e1, y⟩ := y
    have := (y vs (h g' H' s w)).symm.trans q
    cases this
    exact .inl ⟨e1, Rp.step wf s rv⟩
theorem wlk_t {K : PySem.W.Frag} {g : Gh} {H : Hp} {a : Addr} {vs : List V} {ds : List D} (wf : WF g H) (h : SqT K H a vs) (r : Rps K T g H ds vs) : Wlk K T g H (Itt K a) ds where
  go := fun i d g' H' s w e => by
    obtain ⟨v, q, _⟩ := r.get e
    exact ⟨vs, v, SqT.step wf s h, q⟩
  stop := fun g' H' s w => ⟨vs, SqT.step wf s h, by rw [r.length]; exact Nat.le_refl _⟩
  yld := fun i d g' H' x H'' s w e y => by
    obtain ⟨v, q, rv⟩ := r.get e
    obtain ⟨e1, y⟩ := y
    have := (y vs (SqT.step wf s h)).symm.trans q
    cases this
    exact .inl ⟨e1, Rp.step wf s rv⟩
theorem sql_st {K : PySem.W.Frag} {g : Gh} {H : Hp} {a : Addr} {vs : List V} (wf : WF g H) (h0 : g.A a) (h : H a = some (.lst vs)) : ∀ g' H', Step g H g' H' → WF g' H' → SqL K H' a vs := fun g' H' s _ => .inl (.inl (s.fr _ _ h (wf.ao _ h0)))
theorem ji_seq {tg : Expr} (ha : JE T X Γ e .sh f) : JI T X Γ tg e (i1 seqI f) := by
  refine ⟨fun W tk => PI.imp (pi_seq (ha.run W tk)) fun σ H R ⟨g, st, I, p⟩ => ?_⟩
  refine te_bind ipI I p fun d s1 x H1 g1 q1 I1 r1 p1 => ?_
  unfold seqI at p1
  split at p1
  · simp only [RpM, Rp] at r1
    obtain ⟨a, vs, e1, h0, h1, h2⟩ := r1
    exact ⟨a, e1, .inl ⟨⟨vs, .inl (.inl h1)⟩, p1 _ H1 g1 (.refl g1 H1) I1 (wlk_l I1.wf (sql_st I1.wf h0 h1) h2)⟩⟩
  · simp only [RpM, Rp] at r1
    obtain ⟨a, vs, e1, h1, h2⟩ := r1
    exact ⟨a, e1, .inr ⟨⟨vs, h1⟩, p1 _ H1 g1 (.refl g1 H1) I1 (wlk_t I1.wf h1 h2)⟩⟩
  · simp only [RpM, Rp] at r1
    obtain ⟨a, e1, h1⟩ := r1
    exact ⟨a, e1, .inl ⟨⟨_, h1.sq⟩, p1 _ H1 g1 (.refl g1 H1) I1 (wlk_l I1.wf (fun g' H' s _ => (h1.step I1.wf s).sq) (Rps.ints _))⟩⟩
  · exact p1.elim
/-- range -/
def rngL (lo : Int) (n : Nat) : List D := (List.range n).map fun (i : Nat) => D.int (lo + (i : Int))
theorem wlk_r {K : PySem.W.Frag} {g : Gh} {H : Hp} {lo : Int} {n : Nat} : Wlk K T g H (Itr lo n) (rngL lo n) where
  go := fun i d g' H' s w e => by
    have := (List.getElem?_eq_some_iff.mp e).1
    show i < n
    simpa [rngL] using this
  stop := fun g' H' s w => by
    show n ≤ (rngL lo n).length
    simp [rngL]
  yld := fun i d g' H' x H'' s w e y => by
    obtain ⟨e1, e2⟩ := y
    refine .inl ⟨e1, ?_⟩
    have hi := (List.getElem?_eq_some_iff.mp e).1
    have hi' : i < n := by simpa [rngL] using hi
    have : d = .int (lo + (i : Int)) := by
      unfold rngL at e
      rw [List.getElem?_map, List.getElem?_range hi'] at e
      exact (Option.some.inj e).symm
    rw [this, e2]
    simp only [Rp]
def rng1I : List D → S → R (List D)
  | [.int j], s => if j.natAbs < 2 ^ 62 then .ok (rngL 0 j.toNat) s else .stuck
  | _, _ => .stuck
def rng2I : List D → S → R (List D)
  | [.int i, .int j], s => if i.natAbs < 2 ^ 62 ∧ j.natAbs < 2 ^ 62 then .ok (rngL i (j - i).toNat) s else .stuck
  | _, _ => .stuck
def iN (o : List D → S → R (List D)) (fs : S → R (List D)) : S → R (List D) := fun st => (fs st).bind o
theorem rps1 {K : PySem.W.Frag} {g : Gh} {H : Hp} {i : Int} {vs : List V} (h : Rps K T g H [.int i] vs) : vs = [.int i] := by
  simp only [Rps, Rp] at h
  obtain ⟨v, r, e1, h1, h2⟩ := h
  rw [e1, h1, h2]
theorem ji_range1 {tg : Expr} {p : Pos} (hg : Gl X "range") (hm : X.mg "range" = none) (ha : JA T X Γ [a] fs) (hs : starEach [a] X.env = [(false, eval a X.env)] := by rfl) : JI T X Γ tg (.Call (.Name "range" p) [a] [] pos) (iN rng1I fs) := by
  refine ⟨fun W tk => PI.imp (pi_range1 hg hm (ha.run W tk) hs) fun σ H R ⟨g, st, I, p⟩ => ?_⟩
  refine ta_bind ipI I p fun ds s1 vs H1 g1 q1 I1 r1 p1 => ?_
  unfold rng1I at p1
  split at p1
  · split at p1
    · rename_i hz
      exact ⟨_, rps1 r1, by omega, by omega, p1 _ H1 g1 (.refl g1 H1) I1 wlk_r⟩
    · exact p1.elim
  · exact p1.elim
theorem ji_range2 {tg : Expr} {p : Pos} (hg : Gl X "range") (hm : X.mg "range" = none) (ha : JA T X Γ [a, b] fs) (hs : starEach [a, b] X.env = [(false, eval a X.env), (false, eval b X.env)] := by rfl) (hs2 : starEach [b] X.env = [(false, eval b X.env)] := by rfl) : JI T X Γ tg (.Call (.Name "range" p) [a, b] [] pos) (iN rng2I fs) := by
  refine ⟨fun W tk => PI.imp (pi_range2 hg hm (ha.run W tk) hs hs2) fun σ H R ⟨g, st, I, p⟩ => ?_⟩
  refine ta_bind ipI I p fun ds s1 vs H1 g1 q1 I1 r1 p1 => ?_
  unfold rng2I at p1
  split at p1
  · split at p1
    · rename_i hz
      exact ⟨_, _, rps2 r1, by omega, p1 _ H1 g1 (.refl g1 H1) I1 wlk_r⟩
    · exact p1.elim
  · exact p1.elim
/-- enumerate of a list -/
def enumL (xs : List D) : List D := (xs.zipIdx 0).map fun p => .tup [.int (p.2 : Int), p.1]
theorem enumL_get {xs : List D} {i : Nat} {d : D} (h : (enumL xs)[i]? = some d) : ∃ x, xs[i]? = some x ∧ d = .tup [.int (i : Int), x] := by
  unfold enumL at h
  rw [List.getElem?_map, List.getElem?_zipIdx] at h
  cases q : xs[i]? with
  | none => rw [q] at h; cases h
  | some x =>
    rw [q] at h
    refine ⟨x, rfl, ?_⟩
    have := Option.some.inj h
    rw [← this]
    simp
theorem enumL_len (xs : List D) : (enumL xs).length = xs.length := by simp [enumL]
def enumI : List D → S → R (List D)
  | [.lst xs], s => .ok (enumL xs) s
  | _, _ => .stuck
theorem ji_enum {p tpos : Pos} {elts : List Expr} {kk : Nat} (hg : Gl X "enumerate") (hm : X.mg "enumerate" = none) (ha : JA T X Γ [e] fs) (hs : starEach [e] X.env = [(false, eval e X.env)] := by rfl) : JI T X Γ (.Tuple elts kk tpos) (.Call (.Name "enumerate" p) [e] [] pos) (iN enumI fs) := by
  refine ⟨fun W tk => PI.imp (pi_enum hg hm (ha.run W tk) hs) fun σ H R ⟨g, st, I, p⟩ => ?_⟩
  refine ta_bind ipI I p fun ds s1 vs H1 g1 q1 I1 r1 p1 => ?_
  unfold enumI at p1
  split at p1
  · rename_i xs
    simp only [Rps, Rp] at r1
    obtain ⟨v, r, e1, ⟨a, ws, e2, h0, h1, h2⟩, e3⟩ := r1
    subst e1 e2 e3
    refine ⟨a, ws, rfl, .inl (.inl h1), p1 _ H1 g1 (.refl g1 H1) I1 ⟨fun i d g' H' s w e => ?_, fun g' H' s w => ?_, fun i d g' H' x H'' s w e y => ?_⟩⟩
    · obtain ⟨x, q, _⟩ := enumL_get e
      obtain ⟨v, q2, _⟩ := h2.get q
      exact ⟨ws, v, sql_st I1.wf h0 h1 g' H' s w, q2⟩
    · exact ⟨ws, sql_st I1.wf h0 h1 g' H' s w, by rw [enumL_len, h2.length]; exact Nat.le_refl _⟩
    · obtain ⟨z, q, ed⟩ := enumL_get e
      obtain ⟨v, q2, rv⟩ := h2.get q
      obtain ⟨t, x', ex, ht, eH, y⟩ := y
      have := (y ws (sql_st I1.wf h0 h1 g' H' s w)).symm.trans q2
      cases this
      refine .inr ⟨t, _, ht, eH, ?_⟩
      rw [ed, ex, eH]
      simp only [Rp]
      exact ⟨t, _, rfl, .of upd_same, Rps.cons (by simp only [Rp]) (.one (Rp.step w (.new ht) (Rp.step I1.wf s rv)))⟩
  · exact p1.elim
/-- zip of two lists, of two tuples -/
def zipL (xs ys : List D) : List D := (xs.zip ys).map fun p => .tup [p.1, p.2]
theorem zipL_get {xs ys : List D} {i : Nat} {d : D} (h : (zipL xs ys)[i]? = some d) : ∃ x y, xs[i]? = some x ∧ ys[i]? = some y ∧ d = .tup [x, y] := by
  unfold zipL at h
  rw [List.getElem?_map] at h
  cases q : (xs.zip ys)[i]? with
  | none => rw [q] at h; cases h
  | some z =>
    rw [q] at h
    obtain ⟨h1, h2⟩ := List.getElem?_zip_eq_some.mp q
    exact ⟨z.1, z.2, h1, h2, (Option.some.inj h).symm⟩
theorem zipL_len (xs ys : List D) : (zipL xs ys).length = min xs.length ys.length := by simp [zipL]
def zipI : List D → S → R (List D)
  | [.lst xs, .lst ys], s => .ok (zipL xs ys) s
  | [.tup xs, .tup ys], s => .ok (zipL xs ys) s
  | _, _ => .stuck
theorem ji_zip {p tpos : Pos} {elts : List Expr} {kk : Nat} (hg : Gl X "zip") (hm : X.mg "zip" = none) (ha : JA T X Γ [a, b] fs) (hs : starEach [a, b] X.env = (false, eval a X.env) :: starEach [b] X.env := by rfl) (hpl : (backTo pos (starEach [b] X.env)).any (·.1) = false := by rfl) : JI T X Γ (.Tuple elts kk tpos) (.Call (.Name "zip" p) [a, b] [] pos) (iN zipI fs) := by
  refine ⟨fun W tk => PI.imp (RZ.pi_zipA hg hm (ha.run W tk) hs hpl) fun σ H R ⟨g, st, I, p⟩ => ?_⟩
  refine ta_bind ipI I p fun ds s1 vs H1 g1 q1 I1 r1 p1 => ?_
  have key : ∀ {xs ys : List D} {vx vy : List V} {x' y' : V} {t : Addr} {i : Nat} {d : D} {g' : Gh} {H' : Hp}, Rps X.K T g1 H1 xs vx → Rps X.K T g1 H1 ys vy → Step g1 H1 g' H' → WF g' H' → (zipL xs ys)[i]? = some d → H' t = none → vx[i]? = some x' → vy[i]? = some y' → Rp X.K T g' (upd H' t (.tup [x', y'])) d (.ref t) := fun {xs ys vx vy x' y' t i d g' H'} rx ry s w e ht ex ey => by
    obtain ⟨z, z', qz, qz', ed⟩ := zipL_get e
    obtain ⟨v, q2, rv⟩ := rx.get qz
    obtain ⟨v', q2', rv'⟩ := ry.get qz'
    rw [ex] at q2
    rw [ey] at q2'
    cases q2
    cases q2'
    rw [ed]
    simp only [Rp]
    exact ⟨t, _, rfl, .of upd_same, Rps.cons (Rp.step w (.new ht) (Rp.step I1.wf s rv)) (.one (Rp.step w (.new ht) (Rp.step I1.wf s rv')))⟩
  unfold zipI at p1
  split at p1
  · rename_i xs ys
    simp only [Rps, Rp] at r1
    obtain ⟨v, r, e1, ⟨a, ws, e2, h0, h1, h2⟩, v', r', e1', ⟨a', ws', e2', h0', h1', h2'⟩, e3⟩ := r1
    subst e1 e2 e1' e2' e3
    have A1 := sql_st (K := X.K) I1.wf h0 h1
    have A2 := sql_st (K := X.K) I1.wf h0' h1'
    refine ⟨a, a', ws, ws', rfl, .inl ⟨.inl (.inl h1), .inl (.inl h1'), p1 _ H1 g1 (.refl g1 H1) I1 ⟨fun i d g' H' s w e => ?_, fun g' H' s w => ?_, fun i d g' H' x H'' s w e y => ?_⟩⟩⟩
    · obtain ⟨z, z', qz, qz', _⟩ := zipL_get e
      obtain ⟨v, q2, _⟩ := h2.get qz
      obtain ⟨v', q2', _⟩ := h2'.get qz'
      exact ⟨ws, ws', v, v', A1 g' H' s w, A2 g' H' s w, q2, q2'⟩
    · exact ⟨ws, ws', A1 g' H' s w, A2 g' H' s w, by rw [zipL_len, h2.length, h2'.length]; omega⟩
    · obtain ⟨t, x', y', ex, ht, eH, y1, y2⟩ := y
      refine .inr ⟨t, _, ht, eH, ?_⟩
      rw [ex, eH]
      exact key h2 h2' s w e ht (y1 ws (A1 g' H' s w)) (y2 ws' (A2 g' H' s w))
  · rename_i xs ys
    simp only [Rps, Rp] at r1
    obtain ⟨v, r, e1, ⟨a, ws, e2, h1, h2⟩, v', r', e1', ⟨a', ws', e2', h1', h2'⟩, e3⟩ := r1
    subst e1 e2 e1' e2' e3
    refine ⟨a, a', ws, ws', rfl, .inr ⟨h1, h1', p1 _ H1 g1 (.refl g1 H1) I1 ⟨fun i d g' H' s w e => ?_, fun g' H' s w => ?_, fun i d g' H' x H'' s w e y => ?_⟩⟩⟩
    · obtain ⟨z, z', qz, qz', _⟩ := zipL_get e
      obtain ⟨v, q2, _⟩ := h2.get qz
      obtain ⟨v', q2', _⟩ := h2'.get qz'
      exact ⟨ws, ws', v, v', SqT.step I1.wf s h1, SqT.step I1.wf s h1', q2, q2'⟩
    · exact ⟨ws, ws', SqT.step I1.wf s h1, SqT.step I1.wf s h1', by rw [zipL_len, h2.length, h2'.length]; omega⟩
    · obtain ⟨t, x', y', ex, ht, eH, y1, y2⟩ := y
      refine .inr ⟨t, _, ht, eH, ?_⟩
      rw [ex, eH]
      exact key h2 h2' s w e ht (y1 ws (SqT.step I1.wf s h1)) (y2 ws' (SqT.step I1.wf s h1'))
  · exact p1.elim
end
end DL

set_option linter.all false
set_option Elab.async false
set_option maxRecDepth 100000
namespace DL
open PySem PySem.Spec PyProof.Rows L2

/-! ### list comprehensions -/
def wipeD (r : List (Option D)) : List Nat → List (Option D)
  | [] => r
  | v :: vs => (wipeD r vs).set v none
def lcL (t : Tg) (ct : S → R Bool) (fe : S → R D) (r0 : List (Option D)) : List D → List Cell → Option (List D × List Cell)
  | [], m => some ([], m)
  | d :: ds, m => match asgD t d ⟨wipeD r0 t.vs, m⟩ with
    | none => none
    | some s2 => match ct s2 with
      | .ok true s3 => (match fe s3 with
        | .ok y s4 => (match lcL t ct fe r0 ds s4.m with
          | some (ys, m') => some (y :: ys, m')
          | none => none)
        | _ => none)
      | .ok false s3 => lcL t ct fe r0 ds s3.m
      | _ => none
def eLc (fi : S → R (List D)) (t : Tg) (ct : S → R Bool) (fe : S → R D) : S → R D := fun st => (fi st).bind fun ds s =>
  if ds.length ≤ sizeLine then (match lcL t ct fe s.r ds s.m with
    | some (ys, m) => .ok (.lst ys) ⟨s.r, m⟩
    | none => .stuck) else .stuck
def tYesS : S → R Bool := fun s => .ok true s

section
variable {K : PySem.W.Frag} {T : Tb} {g g' g1 : Gh} {H H' H1 : Hp} {Γ : Fls} {σ : L2.St} {st : S}
theorem SR.wipe (I : SR K T Γ g σ H st) : ∀ {vs : List Nat}, (∀ i ∈ vs, fl Γ i = .sh) → SR K T Γ g (wipe σ vs) H ⟨wipeD st.r vs, st.m⟩
  | [], _ => I
  | v :: vs, h => by
    have J := SR.wipe I (vs := vs) fun i hi => h i (List.mem_cons_of_mem _ hi)
    refine ⟨J.wf, by simpa [L2.wipe, wipeD] using J.len, fun j hj => ?_, J.me⟩
    have hj' : j < (L2.wipe σ vs).length := by simpa [L2.wipe] using hj
    show SlR K T g H j (fl Γ j) (((L2.wipe σ vs).set v none).getD j none) (((wipeD st.r vs).set v none).getD j none)
    by_cases e : v = j
    · subst e
      rw [List.getD_eq_getElem?_getD, List.getElem?_set_self hj', List.getD_eq_getElem?_getD, List.getElem?_set_self (by have := J.len; simp only at this; rw [← this]; exact hj'), h v List.mem_cons_self]
      exact True.intro
    · rw [List.getD_eq_getElem?_getD, List.getElem?_set_ne e, List.getD_eq_getElem?_getD, List.getElem?_set_ne e, ← List.getD_eq_getElem?_getD, ← List.getD_eq_getElem?_getD]
      exact J.sl j hj'
theorem wipe_wipe (σ : L2.St) : ∀ (us vs : List Nat), (∀ i ∈ us, i ∈ vs) → wipe (wipe σ us) vs = wipe σ vs
  | [], _, _ => rfl
  | u :: us, vs, h => by
    show wipe ((wipe σ us).set u none) vs = wipe σ vs
    have one : ∀ (ws : List Nat) (τ : L2.St) (i : Nat), i ∈ ws → wipe (τ.set i none) ws = wipe τ ws := by
      intro ws
      induction ws with
      | nil => intro τ i h; cases h
      | cons w ws ih =>
        intro τ i h
        show (wipe (τ.set i none) ws).set w none = (wipe τ ws).set w none
        by_cases hm : i ∈ ws
        · rw [ih τ i hm]
        · have hw : i = w := by
            rcases List.mem_cons.mp h with z | z
            · exact z
            · exact absurd z hm
          subst hw
          have comm : ∀ (us : List Nat) (τ : L2.St), i ∉ us → wipe (τ.set i none) us = (wipe τ us).set i none := by
            intro us
            induction us with
            | nil => intro τ _; rfl
            | cons u us ihu =>
              intro τ hu
              show (wipe (τ.set i none) us).set u none = ((wipe τ us).set u none).set i none
              rw [ihu τ fun z => hu (List.mem_cons_of_mem _ z), List.set_comm]
              intro z
              exact hu (by rw [z]; exact List.mem_cons_self)
          rw [comm ws τ hm, List.set_set]
    rw [one vs _ u (h u List.mem_cons_self)]
    exact wipe_wipe σ us vs fun i hi => h i (List.mem_cons_of_mem _ hi)
/-- an object of ours, neither listed nor owned, is written -/
structure Tmp (g : Gh) (H : Hp) (a : Addr) : Prop where
  at_ : ∃ xs, H a = some (.lst xs)
  na : ¬ g.A a
  no : ¬ g.Own a
theorem Tmp.step {a : Addr} (t : Tmp g H a) (s : Step g H g' H') : Tmp g' H' a := by
  obtain ⟨xs, e⟩ := t.at_
  refine ⟨⟨xs, s.fr _ _ e t.no⟩, fun q => ?_, fun q => ?_⟩
  · rcases s.an a q with q | q | q
    · exact t.na q
    · exact t.no q
    · rw [e] at q; cases q
  · rcases s.on a q with q | q
    · exact t.no q
    · rw [e] at q; cases q
theorem Tmp.sub {a : Addr} {o : HO} (t : Tmp g H a) : Sub g H g (upd H a o) := by
  obtain ⟨xs, e⟩ := t.at_
  refine ⟨fun _ h => h, fun b ob hb q => ?_, fun b ob q i => ?_, List.prefix_refl _⟩
  · rw [upd_ne fun z => t.na (by rw [← z]; exact hb)]; exact q
  · rw [upd_ne fun z => ?_]
    · exact q
    · rw [z, e] at q
      cases q
      cases i
theorem Tmp.wf {a : Addr} {o : HO} (t : Tmp g H a) (w : WF g H) : WF g (upd H a o) where
  ta := fun b hb => by
    obtain ⟨o', e⟩ := w.ta b hb
    exact ⟨o', by rw [upd_ne fun z => t.na (by rw [← z]; exact hb)]; exact e⟩
  ot := fun b hb => by
    obtain ⟨o', e⟩ := w.ot b hb
    exact ⟨o', by rw [upd_ne fun z => t.no (by rw [← z]; exact hb)]; exact e⟩
  ao := w.ao
  nf := w.nf
  df := w.df
  fm := w.fm
  nm := w.nm
theorem Tmp.sr {a : Addr} {o : HO} (t : Tmp g H a) (I : SR K T Γ g σ H st) : SR K T Γ g σ (upd H a o) st :=
  I.sub t.sub (t.wf I.wf) rfl rfl fun b hb => by rw [upd_ne fun z => t.no (by rw [← z]; exact hb)]
theorem Tmp.q {a : Addr} {o : HO} (t : Tmp g H a) (hn : H1 a = none) (s : QStep g1 H1 g H) (w1 : WF g1 H1) : QStep g1 H1 g (upd H a o) where
  aa := s.aa
  an := s.an
  on := s.on
  fr := fun b o' h n => by rw [upd_ne (ne_of_none h hn)]; exact s.fr b o' h n
  im := fun b o' h i => by rw [upd_ne (ne_of_none h hn)]; exact s.im b o' h i
  tr := fun b h => by
    by_cases e : b = a
    · rw [e]; exact hn
    · rw [upd_ne e] at h; exact s.tr b h
  mu := s.mu
  qf := s.qf
  qo := fun i b hb => by
    obtain ⟨o', e, _⟩ := w1.ot b (.inl ⟨i, hb⟩)
    rw [upd_ne (ne_of_none e hn)]
    exact s.qo i b hb
end

structure JTs (T : Tb) (X : Cx) (Γ : Fls) (es : List Expr) (f : S → R Bool) : Prop where
  run : ∀ W, Takes X W → PTs X es (tt X.K T Γ W f)
theorem PTs.imp {X : Cx} {e : List Expr} {t t' : TT} (h : PTs X e t) (i : ∀ σ H Q, t' σ H Q → t σ H Q) : PTs X e t' := ⟨fun pins s σ H Q I q => h.run pins s σ H Q I (i σ H Q q)⟩
section
variable {T : Tb} {X : Cx} {Γ : Fls} {e a b c tg elt iter : Expr} {m m1 m2 m3 : Mo} {f f1 f2 f3 fe : S → R D} {pos p2 : Pos} {es rest ifs : List Expr} {k1 k2 ct : S → R Bool} {fs fi : S → R (List D)} {is : List Nat} {t : Tg}
theorem jts_nil : JTs T X Γ [] tYesS := ⟨fun W tk => PTs.imp pts_nil fun σ H Q ⟨g, st, I, p⟩ => p H g (.refl g H) I⟩
theorem jts_one (h : JT T X Γ c k1) : JTs T X Γ [c] k1 := ⟨fun W tk => pts_one (h.run W tk)⟩

theorem lc_inv {own : List (Str × Nat)} {W : WX} (tk : Takes X W) (hown : own.map (·.2) = t.vs) (hf : ∀ i ∈ t.vs, fl Γ i = .sh)
    {σ : L2.St} {H1 : Hp} {g1 : Gh} {ds : List D} {s1 : S} {J : It} {ys : List D} {mf : List Cell} (I1 : SR X.K T Γ g1 σ H1 s1) (wl : Wlk X.K T g1 H1 J ds) (hz : ds.length ≤ sizeLine)
    (e : lcL t ct fe s1.r ds s1.m = some (ys, mf)) {Q : VK} (q : PostE X.K T Γ σ g1 H1 .f1 W Q (.ok (.lst ys) ⟨s1.r, mf⟩)) (Dd : Addr) (hD : H1 Dd = none) :
    ∃ Wi : Nat → Nat → Hp → Prop, (∃ m, Wi 0 m (upd H1 Dd (.lst []))) ∧ ∀ i m H, Wi i m H →
      (J.stop i H ∧ Q (.ref Dd) H) ∨ (J.go i H ∧ ∃ Nx : Hp → Prop, (∀ H', Nx H' → ∃ m', m' < m ∧ Wi (i + 1) m' H') ∧ ∀ x H', J.yld i H x H' → tgR X.K T t x (wipe σ (own.map (·.2))) H' fun σ2 H2 => wipe σ2 (own.map (·.2)) = wipe σ (own.map (·.2)) ∧ tt X.K T Γ (fun _ _ _ _ => False) ct σ2 H2 fun b H3 =>
        if b = true then te X.K T Γ .sh (fun _ _ _ _ => False) fe σ2 H3 fun y H4 => ∃ acc, H4 Dd = some (.lst acc) ∧ acc.length < sizeLine ∧ Nx (upd H4 Dd (.lst (acc ++ [y]))) else Nx H3) := by
  rw [hown]
  let Inv : Nat → Hp → Prop := fun i H => ∃ g mc acc vs rs, QStep g1 H1 g H ∧ SR X.K T Γ g σ H ⟨s1.r, mc⟩ ∧ Tmp g H Dd ∧ H Dd = some (.lst vs) ∧ Rps X.K T g H acc vs ∧ acc.length ≤ i ∧ lcL t ct fe s1.r (ds.drop i) mc = some (rs, mf) ∧ acc ++ rs = ys
  refine ⟨fun i m H => i ≤ ds.length ∧ m = ds.length - i ∧ Inv i H, ⟨ds.length, Nat.zero_le _, by simp, ?_⟩, ?_⟩
  · refine ⟨g1, s1.m, [], [], ys, ⟨.new hD, rfl, fun i b hb => ?_⟩, I1.new hD, ⟨⟨[], upd_same⟩, I1.wf.nota hD, I1.wf.noto hD⟩, upd_same, Rps.nil, Nat.le_refl _, by rw [List.drop_zero]; exact e, rfl⟩
    obtain ⟨o, eo, _⟩ := I1.wf.ot b (.inl ⟨i, hb⟩)
    rw [upd_ne (ne_of_none eo hD)]
  · rintro i m H ⟨hi, rfl, g, mc, acc, vs, rs, s, I, tm, eD, ra, hl, el, ey⟩
    by_cases hlt : i < ds.length
    · -- a turn
      have ed : ds.drop i = ds[i] :: ds.drop (i + 1) := (List.drop_eq_getElem_cons hlt)
      have eg : ds[i]? = some ds[i] := List.getElem?_eq_getElem hlt
      refine .inr ⟨wl.go i _ g H s.toStep I.wf eg, Inv (i + 1), fun H' h' => ⟨ds.length - (i + 1), by omega, hlt, rfl, h'⟩, fun x H' y => ?_⟩
      rw [ed] at el
      unfold lcL at el
      -- the item has come
      have hy : ∃ sH : QStep g1 H1 g H', SR X.K T Γ g σ H' ⟨s1.r, mc⟩ ∧ Tmp g H' Dd ∧ H' Dd = some (.lst vs) ∧ Rps X.K T g H' acc vs ∧ Rp X.K T g H' ds[i] x := by
        rcases wl.yld i _ g H x H' s.toStep I.wf eg y with ⟨e1, r⟩ | ⟨p, ws, hp, e1, r⟩
        · subst e1
          exact ⟨s, I, tm, eD, ra, r⟩
        · subst e1
          have st2 : Step g H g (upd H p (.tup ws)) := .new hp
          exact ⟨s.trans ⟨st2, rfl, fun i b hb => by
            obtain ⟨o, eo, _⟩ := I.wf.ot b (.inl ⟨i, hb⟩)
            rw [upd_ne (ne_of_none eo hp)]⟩, I.new hp, tm.step st2, by rw [upd_ne (ne_of_none eD hp)]; exact eD, ra.step I.wf st2, r⟩
      obtain ⟨s', I', tm', eD', ra', rx⟩ := hy
      cases ea : asgD t ds[i] ⟨wipeD s1.r t.vs, mc⟩ with
      | none => rw [ea] at el; cases el
      | some s2 =>
        rw [ea] at el
        simp only at el
        refine tgR_of (I'.wipe hf) rx hf ea fun σ2 I2 hw => ⟨?_, ?_⟩
        · rw [hw t.vs fun _ h => h, wipe_wipe σ t.vs t.vs fun _ h => h]
        · refine ⟨g, s2, I2, ?_⟩
          cases ec : ct s2 with
          | raise _ _ => rw [ec] at el; cases el
          | stuck => rw [ec] at el; cases el
          | ok b s3 =>
            rw [ec] at el
            intro H3 g3 q3 I3
            cases b with
            | false =>
              simp only at el
              rw [if_neg Bool.false_ne_true]
              have eD3 := q3.fr _ _ eD' tm'.no
              exact ⟨g3, s3.m, acc, vs, rs, s'.trans q3, I'.re (q3.toStep.sub I'.wf) I3.wf q3.qf q3.qo I3.me, tm'.step q3.toStep, eD3, ra'.step I'.wf q3.toStep, Nat.le_succ_of_le hl, el, ey⟩
            | true =>
              simp only at el
              rw [if_pos rfl]
              refine ⟨g3, s3, I3, ?_⟩
              cases ef : fe s3 with
              | raise _ _ => rw [ef] at el; cases el
              | stuck => rw [ef] at el; cases el
              | ok yd s4 =>
                rw [ef] at el
                simp only at el
                cases er : lcL t ct fe s1.r (ds.drop (i + 1)) s4.m with
                | none => rw [er] at el; cases el
                | some pr =>
                  rw [er] at el
                  obtain ⟨ys', m'⟩ := pr
                  simp only [Option.some.injEq, Prod.mk.injEq] at el
                  obtain ⟨el1, el2⟩ := el
                  subst el1 el2
                  intro v H4 g4 q4 I4 rv
                  have q34 := q3.trans q4
                  have eD4 := q34.fr _ _ eD' tm'.no
                  have tm4 := tm'.step q34.toStep
                  have ra4 := ra'.step I'.wf q34.toStep
                  refine ⟨vs, eD4, by rw [ra'.length]; omega, ?_⟩
                  refine ⟨g4, s4.m, acc ++ [yd], vs ++ [v], ys', tm4.q hD (s'.trans q34) I1.wf, tm4.sr (I'.re (q34.toStep.sub I'.wf) I4.wf q34.qf q34.qo I4.me), ⟨⟨_, upd_same⟩, tm4.na, tm4.no⟩, upd_same, (ra4.append (.one rv)).sub tm4.sub, by rw [List.length_append]; simp; omega, er, by rw [List.append_assoc]; exact ey⟩
    · have hi' : i = ds.length := by omega
      subst hi'
      refine .inl ⟨wl.stop g H s.toStep I.wf, ?_⟩
      rw [List.drop_length] at el
      simp only [lcL, Option.some.injEq, Prod.mk.injEq] at el
      obtain ⟨e1, e2⟩ := el
      subst e1 e2
      rw [List.append_nil] at ey
      subst ey
      exact q _ H g s I ⟨Dd, vs, rfl, eD, ⟨tm.na, tm.no, hD⟩, ra⟩

theorem je_lc {scope : Scope} (own : List (Str × Nat)) (hc : X.calm = true) (hN : X.N.Nodup) (hi : JI T X Γ tg iter fi) (ok : BlkOk X.N X.env.scope scope own)
    (hg : ∀ (s : Shared) (H : Hp) (C : Addr) (cl : List (Str × Addr)) (fp : List Addr), JG T (X.blk s H scope (compEnvC scope cl C X.env) fp) tg t) (ht : ∀ (s : Shared) (H : Hp) (C : Addr) (cl : List (Str × Addr)) (fp : List Addr), JTs T (X.blk s H scope (compEnvC scope cl C X.env) fp) Γ ifs ct)
    (he : ∀ (s : Shared) (H : Hp) (C : Addr) (cl : List (Str × Addr)) (fp : List Addr), JE T (X.blk s H scope (compEnvC scope cl C X.env) fp) Γ elt .sh fe) (hown : own.map (·.2) = t.vs := by rfl) (hf : ∀ i ∈ t.vs, fl Γ i = .sh := by decide) (hs : ∀ x, foldedSetIterable iter X.env x = pure x := by intro _; rfl) :
    JE T X Γ (.ListComp elt [⟨tg, iter, ifs, 0⟩] scope pos) .f1 (eLc fi t ct fe) := by
  refine ⟨fun W tk => PE.imp (pe_lc (g := tgR X.K T t) (tt := tt X.K T Γ (fun _ _ _ _ => False) ct) (te := te X.K T Γ .sh (fun _ _ _ _ => False) fe) hc hN (hi.run W tk) ok (fun s H C cl fp => (hg s H C cl fp).run) (fun s H C cl fp => (ht s H C cl fp).run _ takes0) (fun s H C cl fp => (he s H C cl fp).run _ takes0) hs) fun σ H Q ⟨g, st, I, p⟩ => ?_⟩
  refine ⟨g, st, I, ?_⟩
  unfold eLc at p
  cases e : fi st with
  | raise _ _ => rw [e] at p; exact p
  | stuck => rw [e] at p; exact p
  | ok ds s1 =>
    rw [e] at p
    intro J H1 g1 q1 I1 wl Dd hD
    simp only [R.bind] at p
    split at p
    · split at p
      · rename_i ys mf el
        exact lc_inv tk hown hf I1 wl (by assumption) el (p.shift q1) Dd hD
      · exact p.elim
    · exact p.elim
end
end DL

set_option linter.all false
set_option Elab.async false
set_option maxRecDepth 100000
namespace DL
open PySem PySem.Spec PyProof.Rows L2

/-! ### giving own lists away -/
def Gh.frz (g : Gh) (p : Nat → Bool) : Gh := ⟨fun b => g.A b ∨ ∃ i, p i = true ∧ b ∈ g.fp i, fun i => if p i = true then [] else g.fp i, g.mu⟩
section
variable {K : PySem.W.Frag} {T : Tb} {g g' g1 : Gh} {H H' H1 : Hp} {Γ Γ' : Fls} {σ : L2.St} {st : S} {p : Nat → Bool}
theorem frz_own {b : Addr} (h : (g.frz p).Own b) : g.Own b := by
  rcases h with ⟨i, h⟩ | h
  · by_cases hp : p i = true
    · simp only [Gh.frz, if_pos hp] at h
      cases h
    · simp only [Gh.frz, if_neg hp] at h
      exact .inl ⟨i, h⟩
  · exact .inr h
theorem Step.frz (wf : WF g H) : Step g H (g.frz p) H where
  aa := fun b h => .inl h
  an := fun b h => by
    rcases h with h | ⟨i, _, h⟩
    · exact .inl h
    · exact .inr (.inl (.inl ⟨i, h⟩))
  on := fun b h => .inl (frz_own h)
  fr := fun b o h _ => h
  im := fun b o h _ => h
  tr := fun b h => h
  mu := List.prefix_refl _
theorem WF.frz (w : WF g H) : WF (g.frz p) H where
  ta := fun b h => by
    rcases h with h | ⟨i, _, h⟩
    · exact w.ta b h
    · obtain ⟨o, e, _⟩ := w.ot b (.inl ⟨i, h⟩)
      exact ⟨o, e⟩
  ot := fun b h => w.ot b (frz_own h)
  ao := fun b h q => by
    rcases h with h | ⟨i, hp, h⟩
    · exact w.ao b h (frz_own q)
    · rcases q with ⟨j, q⟩ | q
      · by_cases hj : p j = true
        · simp only [Gh.frz, if_pos hj] at q
          cases q
        · simp only [Gh.frz, if_neg hj] at q
          have := w.df i j b h q
          subst this
          exact hj hp
      · exact w.fm i b h q
  nf := fun i => by
    by_cases hp : p i = true
    · simp only [Gh.frz, if_pos hp]
      exact List.nodup_nil
    · simp only [Gh.frz, if_neg hp]
      exact w.nf i
  df := fun i j b h1 h2 => by
    by_cases hp : p i = true
    · simp only [Gh.frz, if_pos hp] at h1
      cases h1
    · by_cases hq : p j = true
      · simp only [Gh.frz, if_pos hq] at h2
        cases h2
      · simp only [Gh.frz, if_neg hp] at h1
        simp only [Gh.frz, if_neg hq] at h2
        exact w.df i j b h1 h2
  fm := fun i b h => by
    by_cases hp : p i = true
    · simp only [Gh.frz, if_pos hp] at h
      cases h
    · simp only [Gh.frz, if_neg hp] at h
      exact w.fm i b h
  nm := w.nm
theorem l2_rps : ∀ {bs : List Addr} {dss : List (List D)}, (∀ b ∈ bs, g.A b) → L2R K T g H bs dss → Rps K T g H (dss.map D.lst) (bs.map V.ref)
  | [], dss, _, h => by
    cases h
    exact Rps.nil
  | b :: bs, dss, ha, h => by
    obtain ⟨ds, r, ws, e, h1, h2, h3⟩ := h
    subst e
    refine Rps.cons ?_ (l2_rps (fun c hc => ha c (List.mem_cons_of_mem _ hc)) h3)
    simp only [Rp]
    exact ⟨b, ws, rfl, ha b List.mem_cons_self, h1, h2⟩
theorem SR.frz (I : SR K T Γ g σ H st) (hΓ : ∀ i, fl Γ' i = if p i = true then .sh else fl Γ i) : SR K T Γ' (g.frz p) σ H st where
  wf := I.wf.frz
  len := I.len
  sl := fun i hi => by
    have u : Sub g H (g.frz p) H := (Step.frz I.wf).sub I.wf
    have q := I.sl i hi
    rw [hΓ i]
    by_cases hp : p i = true
    · rw [if_pos hp]
      generalize σ.getD i none = v at q
      generalize st.r.getD i none = d at q
      cases h : fl Γ i with
      | sh =>
        rw [h] at q
        cases v <;> cases d <;> first
          | exact q
          | exact Rp.sub u q
      | o1 =>
        rw [h] at q
        cases v with
        | none => exact q.elim
        | some v =>
          cases d with
          | none => exact q.elim
          | some d =>
            obtain ⟨a, vs, ds, e1, e2, e3, h1, h2⟩ := q
            subst e1 e2
            show Rp K T (g.frz p) H (.lst ds) (.ref a)
            simp only [Rp]
            exact ⟨a, vs, rfl, .inr ⟨i, hp, by rw [e3]; exact List.mem_cons_self⟩, h1, h2.sub u⟩
      | o2 =>
        rw [h] at q
        cases v with
        | none => exact q.elim
        | some v =>
          cases d with
          | none => exact q.elim
          | some d =>
            obtain ⟨a, bs, dss, e1, e2, e3, h1, h2⟩ := q
            subst e1 e2
            show Rp K T (g.frz p) H (.lst _) (.ref a)
            simp only [Rp]
            exact ⟨a, _, rfl, .inr ⟨i, hp, by rw [e3]; exact List.mem_cons_self⟩, h1, l2_rps (fun b hb => .inr ⟨i, hp, by rw [e3]; exact List.mem_cons_of_mem _ hb⟩) (h2.sub u fun _ _ => rfl)⟩
    · rw [if_neg hp]
      refine q.sub u (by simp only [Gh.frz, if_neg hp]) fun _ _ => rfl
  me := I.me.sub ((Step.frz I.wf).sub I.wf) rfl fun _ _ => rfl
theorem SR.frzAll (I : SR K T Γ g σ H st) : SR K T [] (g.frz fun _ => true) σ H st := I.frz fun i => by
  rw [if_pos rfl]
  rfl
end

/-! ### statements -/
inductive RS where
  | next (s : S) | brk (s : S) | cont (s : S) | ret (d : D) (s : S) | raise (e : Ex) (s : S) | stuck
/-- the flags behind a block, at a loop's break and continue; the return's mode -/
structure Fx where
  nx : Fls
  lp : Fls := []
  rm : Mo := .sh
/-- the def's entry -/
structure Bs where
  g : Gh
  H : Hp
structure SB (K : PySem.W.Frag) (T : Tb) (Γ : Fls) (B : Bs) (g : Gh) (σ : L2.St) (H : Hp) (st : S) : Prop extends SR K T Γ g σ H st where
  bs : Step B.g B.H g H
  bf : ∀ i, B.g.fp i = []
theorem SB.go {K : PySem.W.Frag} {T : Tb} {Γ Γ' : Fls} {B : Bs} {g g' : Gh} {σ σ' : L2.St} {H H' : Hp} {st st' : S} (I : SB K T Γ B g σ H st) (s : Step g H g' H') (r : SR K T Γ' g' σ' H' st') : SB K T Γ' B g' σ' H' st' := ⟨r, I.bs.trans s, I.bf⟩
section
variable (K : PySem.W.Frag) (T : Tb) (F : Fx) (B : Bs) (g : Gh) (H : Hp)
def PostS (W : WX) (E : Ends) : RS → Prop
  | .next st => ∀ σ' H' g', Step g H g' H' → SR K T F.nx g' σ' H' st → E.nx σ' H'
  | .brk st => ∀ σ' H' g', Step g H g' H' → SR K T F.lp g' σ' H' st → E.bk σ' H'
  | .cont st => ∀ σ' H' g', Step g H g' H' → SR K T F.lp g' σ' H' st → E.ct σ' H'
  | .ret d st => ∀ v H' g', Step B.g B.H g' H' → WF g' H' → (∀ i, g'.fp i = []) → MR K T g' H' st.m → RpM K T g' B.H H' F.rm d v → E.rt v H'
  | .raise e st => ∀ cls dd σ' H' g', Step g H g' H' → SR K T [] g' σ' H' st → ExR K T g' H' e cls dd → W cls dd σ' H'
  | .stuck => False
end
def ts (K : PySem.W.Frag) (T : Tb) (Γ : Fls) (F : Fx) (W : WX) (f : S → RS) : TS := fun E σ H => ∃ B g st, SB K T Γ B g σ H st ∧ PostS K T F B g H W E (f st)
structure JS (T : Tb) (X : Cx) (Γ : Fls) (F : Fx) (s : Stmt) (f : S → RS) : Prop where
  run : ∀ W, Takes X W → PS X s (ts X.K T Γ F W f)
structure JSs (T : Tb) (X : Cx) (Γ : Fls) (F : Fx) (s : List Stmt) (f : S → RS) : Prop where
  run : ∀ W, Takes X W → PSs X s (ts X.K T Γ F W f)
theorem PS.imp {X : Cx} {e : Stmt} {t t' : TS} (h : PS X e t) (i : ∀ E σ H, t' E σ H → t E σ H) : PS X e t' := ⟨fun pins s σ H Q I q => h.run pins s σ H Q I (i Q σ H q)⟩
theorem PSs.imp {X : Cx} {e : List Stmt} {t t' : TS} (h : PSs X e t) (i : ∀ E σ H, t' E σ H → t E σ H) : PSs X e t' := ⟨fun pins s σ H Q I q => h.run pins s σ H Q I (i Q σ H q)⟩

section
variable {K : PySem.W.Frag} {T : Tb} {F F' : Fx} {B : Bs} {g g' : Gh} {H H' : Hp} {W : WX} {E : Ends} {Γ Γ' : Fls} {σ : L2.St} {st : S} {nx lp : Fls} {rm : Mo}
theorem PostS.shift {r : RS} (s : Step g H g' H') (h : PostS K T F B g H W E r) : PostS K T F B g' H' W E r := by
  cases r with
  | next st => exact fun σ2 H2 g2 s2 r2 => h σ2 H2 g2 (s.trans s2) r2
  | brk st => exact fun σ2 H2 g2 s2 r2 => h σ2 H2 g2 (s.trans s2) r2
  | cont st => exact fun σ2 H2 g2 s2 r2 => h σ2 H2 g2 (s.trans s2) r2
  | ret d st => exact h
  | raise e st => exact fun cls dd σ2 H2 g2 s2 => h cls dd σ2 H2 g2 (s.trans s2)
  | stuck => exact h
end

/-- an expression's result goes on as a statement's -/
def R.then {α : Type} (r : R α) (k : α → S → RS) : RS := match r with
  | .ok a s => k a s
  | .raise e s => .raise e s
  | .stuck => .stuck
section
variable {K : PySem.W.Frag} {T : Tb} {F F' : Fx} {B : Bs} {g g' : Gh} {H H' : Hp} {W : WX} {E : Ends} {Γ Γ' : Fls} {σ : L2.St} {st : S} {m : Mo} {nx lp : Fls} {rm : Mo}
theorem te_then {f : S → R D} {k : D → S → RS} {Q : VK} (I : SR K T Γ g σ H st) (h : PostS K T F B g H W E ((f st).then k))
    (hk : ∀ d st' v H' g', QStep g H g' H' → SR K T Γ g' σ H' st' → RpM K T g' H H' m d v → PostS K T F B g' H' W E (k d st') → Q v H') : te K T Γ m W f σ H Q := by
  refine ⟨g, st, I, ?_⟩
  cases e : f st with
  | ok d st' =>
    rw [e] at h
    exact fun v H' g' s r p => hk d st' v H' g' s r p (h.shift s.toStep)
  | raise ex st' =>
    rw [e] at h
    exact fun cls dd H' g' => h cls dd σ H' g'
  | stuck =>
    rw [e] at h
    exact h
theorem tt_then {f : S → R Bool} {k : Bool → S → RS} {Q : Bool → Hp → Prop} (I : SR K T Γ g σ H st) (h : PostS K T F B g H W E ((f st).then k))
    (hk : ∀ b st' H' g', QStep g H g' H' → SR K T Γ g' σ H' st' → PostS K T F B g' H' W E (k b st') → Q b H') : tt K T Γ W f σ H Q := by
  refine ⟨g, st, I, ?_⟩
  cases e : f st with
  | ok d st' =>
    rw [e] at h
    exact fun H' g' s r => hk d st' H' g' s r (h.shift s.toStep)
  | raise ex st' =>
    rw [e] at h
    exact fun cls dd H' g' => h cls dd σ H' g'
  | stuck =>
    rw [e] at h
    exact h
end

section
variable {T : Tb} {X : Cx} {Γ Γ' : Fls} {F : Fx} {e a b c tg iter : Expr} {m m1 m2 m3 : Mo} {f f1 f2 f3 : S → R D} {pos p2 pos' : Pos} {es rest : List Expr} {k1 k2 : S → R Bool} {fs fi : S → R (List D)} {t : Tg} {s1 s2 : Stmt} {ss ss2 : List Stmt} {q q1 q2 : S → RS} {nx lp : Fls} {rm : Mo}
def sNil : S → RS := fun s => .next s
def sSeq (f g : S → RS) : S → RS := fun s => match f s with
  | .next s' => g s'
  | r => r
theorem jss_nil : JSs T X Γ ⟨Γ, lp, rm⟩ [] sNil := ⟨fun W tk => PSs.imp pss_nil fun E σ H ⟨B, g, st, I, p⟩ => p σ H g (.refl g H) I.toSR⟩
theorem jss_cons (h1 : JS T X Γ ⟨Γ', F.lp, F.rm⟩ s1 q1) (h2 : JSs T X Γ' F ss q2) : JSs T X Γ F (s1 :: ss) (sSeq q1 q2) := by
  refine ⟨fun W tk => PSs.imp (pss_cons (h1.run W tk) (h2.run W tk)) fun E σ H ⟨B, g, st, I, p⟩ => ⟨B, g, st, I, ?_⟩⟩
  unfold sSeq at p
  cases e : q1 st with
  | next s' =>
    rw [e] at p
    exact fun σ' H' g' s r => ⟨B, g', s', I.go s r, p.shift s⟩
  | brk s' => rw [e] at p; exact p
  | cont s' => rw [e] at p; exact p
  | ret d s' => rw [e] at p; exact p
  | raise ex s' => rw [e] at p; exact p
  | stuck => rw [e] at p; exact p
theorem jss_one (h1 : JS T X Γ F s1 q1) : JSs T X Γ F [s1] q1 := ⟨fun W tk => pss_one (h1.run W tk)⟩
/-- own lists are given away ahead of a statement -/
theorem js_frz (p : Nat → Bool) (hΓ : ∀ i, fl Γ' i = if p i = true then .sh else fl Γ i) (h : JS T X Γ' F s1 q) : JS T X Γ F s1 q :=
  ⟨fun W tk => PS.imp (h.run W tk) fun E σ H ⟨B, g, st, I, po⟩ => ⟨B, g.frz p, st, I.go (.frz I.wf) (I.frz hΓ), po.shift (.frz I.wf)⟩⟩
theorem jss_frz (p : Nat → Bool) (hΓ : ∀ i, fl Γ' i = if p i = true then .sh else fl Γ i) (h : JSs T X Γ' F ss q) : JSs T X Γ F ss q :=
  ⟨fun W tk => PSs.imp (h.run W tk) fun E σ H ⟨B, g, st, I, po⟩ => ⟨B, g.frz p, st, I.go (.frz I.wf) (I.frz hΓ), po.shift (.frz I.wf)⟩⟩
def sPass : S → RS := fun s => .next s
def sBrk : S → RS := fun s => .brk s
def sCont : S → RS := fun s => .cont s
theorem js_pass : JS T X Γ ⟨Γ, lp, rm⟩ (.Pass pos) sPass := ⟨fun W tk => PS.imp ps_pass fun E σ H ⟨B, g, st, I, p⟩ => p σ H g (.refl g H) I.toSR⟩
theorem js_brk : JS T X Γ ⟨nx, Γ, rm⟩ (.Break pos) sBrk := ⟨fun W tk => PS.imp ps_break fun E σ H ⟨B, g, st, I, p⟩ => p σ H g (.refl g H) I.toSR⟩
theorem js_cont : JS T X Γ ⟨nx, Γ, rm⟩ (.Continue pos) sCont := ⟨fun W tk => PS.imp ps_continue fun E σ H ⟨B, g, st, I, p⟩ => p σ H g (.refl g H) I.toSR⟩
def sRet (f : S → R D) : S → RS := fun s => (f s).then fun d s => .ret d s
theorem WF.drop {g : Gh} {H : Hp} (w : WF g H) : WF ⟨g.A, fun _ => [], g.mu⟩ H where
  ta := w.ta
  ot := fun b h => w.ot b (.inr (by
    rcases h with ⟨i, h⟩ | h
    · cases h
    · exact h))
  ao := fun b h q => w.ao b h (.inr (by
    rcases q with ⟨i, q⟩ | q
    · cases q
    · exact q))
  nf := fun _ => List.nodup_nil
  df := fun _ _ _ h => by cases h
  fm := fun _ _ h => by cases h
  nm := w.nm
theorem Step.drop {g : Gh} {H : Hp} : Step g H ⟨g.A, fun _ => [], g.mu⟩ H where
  aa := fun _ h => h
  an := fun _ h => .inl h
  on := fun b h => .inl (by
    rcases h with ⟨i, h⟩ | h
    · cases h
    · exact .inr h)
  fr := fun _ _ h _ => h
  im := fun _ _ h _ => h
  tr := fun _ h => h
  mu := List.prefix_refl _
theorem Sub.drop {g : Gh} {H : Hp} : Sub g H ⟨g.A, fun _ => [], g.mu⟩ H := ⟨fun _ h => h, fun _ _ _ h => h, fun _ _ h _ => h, List.prefix_refl _⟩
theorem MR.drop {K : PySem.W.Frag} {g : Gh} {H : Hp} {m : List Cell} (h : MR K T g H m) : MR K T ⟨g.A, fun _ => [], g.mu⟩ H m := h.sub .drop rfl fun _ _ => rfl
theorem Fresh.drop {g : Gh} {H0 : Hp} {a : Addr} (f : Fresh g H0 a) : Fresh ⟨g.A, fun _ => [], g.mu⟩ H0 a := ⟨f.1, fun q => f.2.1 (.inr (by
  rcases q with ⟨i, q⟩ | q
  · cases q
  · exact q)), f.2.2⟩
theorem RpM.drop {K : PySem.W.Frag} {g : Gh} {H0 H : Hp} {d : D} {v : V} (hm : m = .sh ∨ m = .f1 ∨ m = .f2) (h : RpM K T g H0 H m d v) : RpM K T ⟨g.A, fun _ => [], g.mu⟩ H0 H m d v := by
  rcases hm with rfl | rfl | rfl
  · exact Rp.sub .drop h
  · cases d with
    | lst ds =>
      obtain ⟨a, vs, e, h1, h2, h3⟩ := h
      exact ⟨a, vs, e, h1, h2.drop, h3.sub .drop⟩
    | _ => exact Rp.sub .drop h
  · cases d with
    | lst ds =>
      obtain ⟨a, bs, dss, e, e2, h1, nd, h2, h3⟩ := h
      exact ⟨a, bs, dss, e, e2, h1, nd, fun b hb => (h2 b hb).drop, h3.sub .drop fun _ _ => rfl⟩
    | _ => exact Rp.sub .drop h
theorem js_ret (ha : JE T X Γ e F.rm f) (hm : F.rm = .sh ∨ F.rm = .f1 ∨ F.rm = .f2 := by first | exact .inl rfl | exact .inr (.inl rfl) | exact .inr (.inr rfl)) : JS T X Γ F (.Return (some e) pos) (sRet f) := by
  refine ⟨fun W tk => PS.imp (ps_ret (ha.run W tk)) fun E σ H ⟨B, g, st, I, p⟩ => ?_⟩
  refine ⟨g, st, I.toSR, ?_⟩
  unfold sRet at p
  cases e : f st with
  | ok d s1 =>
    rw [e] at p
    intro v H1 g1 q1 I1 r1
    exact p v H1 ⟨g1.A, fun _ => [], g1.mu⟩ ((I.bs.trans q1.toStep).trans .drop) I1.wf.drop (fun _ => rfl) I1.me.drop ((r1.base I.bs.tr).drop hm)
  | raise ex s1 => rw [e] at p; exact fun cls dd H' g' => p cls dd σ H' g'
  | stuck => rw [e] at p; exact p
/-- an own list is handed back -/
theorem js_retO (i : Nat) {x : Str} {p' : Pos} (hrm : F.rm = .f1) (hN : X.N[i]? = some x := by rfl) (hv : Vis X.env.scope x := by first | exact Or.inl rfl | exact Or.inr (Or.inl rfl) | exact Or.inr (Or.inr rfl)) (hd : (x == ("__debug__" : Str)) = false := by decide)
    (hcd : (x == ("__classdict__" : Str)) = false := by decide) (hf : fl Γ i = .o1 := by rfl) : JS T X Γ F (.Return (some (.Name x p')) pos) (sRet (eVar i)) := by
  refine ⟨fun W tk => PS.imp (ps_ret (pe_var hN hv hd hcd)) fun E σ H ⟨B, g, st, I, p⟩ => ?_⟩
  unfold sRet eVar at p
  cases e : st.r.getD i none with
  | none =>
    rw [e] at p
    exact p.elim
  | some d =>
    rw [e] at p
    obtain ⟨v, h1, h2⟩ := I.slot e
    rw [hf] at h2
    obtain ⟨ad, vs, ds, e1, e2, e3, h3, h4⟩ := h2
    subst e1 e2
    have hm : ad ∈ g.fp i := by rw [e3]; exact List.mem_cons_self
    refine ⟨_, h1, p _ H ⟨g.A, fun _ => [], g.mu⟩ (I.bs.trans .drop) I.wf.drop (fun _ => rfl) I.me.drop ?_⟩
    rw [hrm]
    refine ⟨ad, vs, rfl, h3, ⟨fun q => I.wf.ao ad q (.inl ⟨i, hm⟩), fun q => ?_, ?_⟩, h4.sub .drop⟩
    · rcases q with ⟨j, q⟩ | q
      · cases q
      · exact I.wf.fm i ad hm q
    · rcases I.bs.on ad (.inl ⟨i, hm⟩) with (⟨j, q⟩ | q) | q
      · rw [I.bf j] at q
        cases q
      · exact absurd (I.bs.mu.subset q) (I.wf.fm i ad hm)
      · exact q
def sRetN : S → RS := fun s => .ret .non s
theorem js_retN : JS T X Γ F (.Return none pos) sRetN := by
  refine ⟨fun W tk => PS.imp ps_retN fun E σ H ⟨B, g, st, I, p⟩ => ?_⟩
  exact p _ H ⟨g.A, fun _ => [], g.mu⟩ (I.bs.trans .drop) I.wf.drop (fun _ => rfl) I.me.drop rm_non
def sIf (c : S → R Bool) (a b : S → RS) : S → RS := fun s => (c s).then fun k s => if k then a s else b s
theorem js_if (hc : JT T X Γ c k1) (ha : JSs T X Γ F ss q1) (hb : JSs T X Γ F ss2 q2) : JS T X Γ F (.If c ss ss2 pos) (sIf k1 q1 q2) := by
  refine ⟨fun W tk => PS.imp (ps_if (hc.run W tk) (ha.run W tk) (hb.run W tk)) fun E σ H ⟨B, g, st, I, p⟩ => ?_⟩
  refine tt_then I.toSR p fun k s1 H1 g1 q1 I1 p1 => ?_
  cases k with
  | true => exact ⟨B, g1, s1, I.go q1.toStep I1, p1⟩
  | false => exact ⟨B, g1, s1, I.go q1.toStep I1, p1⟩
def sDrop (f : S → R D) : S → RS := fun s => (f s).then fun _ s => .next s
theorem js_expr (he : JE T X Γ e m f) (hs : swapsWith e none pos.line X.env = pure false := by rfl) : JS T X Γ ⟨Γ, lp, rm⟩ (.Expr e pos) (sDrop f) := by
  refine ⟨fun W tk => PS.imp (ps_expr (he.run W tk) hs) fun E σ H ⟨B, g, st, I, p⟩ => ?_⟩
  exact te_then I.toSR p fun d s1 x H1 g1 q1 I1 r1 p1 => p1 σ H1 g1 (.refl g1 H1) I1
end
end DL

set_option linter.all false
set_option Elab.async false
set_option maxRecDepth 100000
namespace DL
open PySem PySem.Spec PyProof.Rows L2

/-! ### storing into a slot -/
def Gh.slot (g : Gh) (i : Nat) (L : List Addr) : Gh := ⟨g.A, fun j => if j = i then L else g.fp j, g.mu⟩
section
variable {K : PySem.W.Frag} {T : Tb} {g g' g0 : Gh} {H H' H0 : Hp} {Γ Γ' : Fls} {σ : L2.St} {st : S} {i : Nat} {L : List Addr}
theorem slot_own {b : Addr} (h : (g.slot i L).Own b) : g.Own b ∨ b ∈ L := by
  rcases h with ⟨j, h⟩ | h
  · by_cases hj : j = i
    · simp only [Gh.slot, if_pos hj] at h
      exact .inr h
    · simp only [Gh.slot, if_neg hj] at h
      exact .inl (.inl ⟨j, h⟩)
  · exact .inl (.inr h)
theorem Step.slot (s : Step g0 H0 g H) (hL : ∀ b ∈ L, H0 b = none) : Step g0 H0 (g.slot i L) H where
  aa := s.aa
  an := s.an
  on := fun b h => by
    rcases slot_own h with h | h
    · exact s.on b h
    · exact .inr (hL b h)
  fr := s.fr
  im := s.im
  tr := s.tr
  mu := s.mu
theorem WF.slot (w : WF g H) (nd : L.Nodup) (ht : ∀ b ∈ L, ∃ xs, H b = some (.lst xs)) (hA : ∀ b ∈ L, ¬ g.A b) (hO : ∀ b ∈ L, ¬ g.Own b) : WF (g.slot i L) H where
  ta := w.ta
  ot := fun b h => by
    rcases slot_own h with h | h
    · exact w.ot b h
    · obtain ⟨xs, e⟩ := ht b h
      exact ⟨_, e, rfl⟩
  ao := fun b h q => by
    rcases slot_own q with q | q
    · exact w.ao b h q
    · exact hA b q h
  nf := fun j => by
    by_cases hj : j = i
    · simp only [Gh.slot, if_pos hj]; exact nd
    · simp only [Gh.slot, if_neg hj]; exact w.nf j
  df := fun j k b h1 h2 => by
    by_cases hj : j = i
    · simp only [Gh.slot, if_pos hj] at h1
      by_cases hk : k = i
      · rw [hj, hk]
      · simp only [Gh.slot, if_neg hk] at h2
        exact absurd (.inl ⟨k, h2⟩) (hO b h1)
    · simp only [Gh.slot, if_neg hj] at h1
      by_cases hk : k = i
      · simp only [Gh.slot, if_pos hk] at h2
        exact absurd (.inl ⟨j, h1⟩) (hO b h2)
      · simp only [Gh.slot, if_neg hk] at h2
        exact w.df j k b h1 h2
  fm := fun j b h q => by
    by_cases hj : j = i
    · simp only [Gh.slot, if_pos hj] at h
      exact hO b h (.inr q)
    · simp only [Gh.slot, if_neg hj] at h
      exact w.fm j b h q
  nm := w.nm
theorem Sub.slot : Sub g H (g.slot i L) H := ⟨fun _ h => h, fun _ _ _ h => h, fun _ _ h _ => h, List.prefix_refl _⟩
def Mo.fl : Mo → Fl
  | .f1 => .o1
  | .f2 => .o2
  | _ => .sh
/-- does a value of this mode and form own lists when it is stored -/
def flOf : Mo → D → Fl
  | .f1, .lst _ => .o1
  | .f2, .lst _ => .o2
  | _, _ => .sh
theorem SR.asg {d : D} {v : V} {m : Mo} (I : SR K T Γ g σ H st) (s : Step g0 H0 g H) (hm : m = .sh ∨ m = .f1 ∨ m = .f2) (r : RpM K T g H0 H m d v) (hΓ : ∀ j, fl Γ' j = if j = i then flOf m d else fl Γ j) :
    ∃ L, Step g0 H0 (g.slot i L) H ∧ SR K T Γ' (g.slot i L) (σ.set i (some v)) H { st with r := st.r.set i (some d) } ∧ (∀ b ∈ L, Fresh g H0 b) := by
  have other : ∀ (L : List Addr), WF (g.slot i L) H → SlR K T (g.slot i L) H i (flOf m d) (some v) (some d) → SR K T Γ' (g.slot i L) (σ.set i (some v)) H { st with r := st.r.set i (some d) } := fun L w hs => by
    refine ⟨w, by simpa using I.len, fun j hj => ?_, I.me.sub .slot rfl fun _ _ => rfl⟩
    have hj' : j < σ.length := by simpa using hj
    rw [hΓ j]
    by_cases h : i = j
    · subst h
      rw [List.getD_eq_getElem?_getD, List.getElem?_set_self hj', List.getD_eq_getElem?_getD, List.getElem?_set_self (by rw [← I.len]; exact hj'), if_pos rfl]
      exact hs
    · rw [List.getD_eq_getElem?_getD, List.getElem?_set_ne h, List.getD_eq_getElem?_getD, List.getElem?_set_ne h, ← List.getD_eq_getElem?_getD, ← List.getD_eq_getElem?_getD, if_neg (Ne.symm h)]
      exact (I.sl j hj').sub .slot (by simp only [Gh.slot, if_neg (Ne.symm h)]) fun _ _ => rfl
  have plain : Rp K T g H d v → flOf m d = .sh → ∃ L, Step g0 H0 (g.slot i L) H ∧ SR K T Γ' (g.slot i L) (σ.set i (some v)) H { st with r := st.r.set i (some d) } ∧ (∀ b ∈ L, Fresh g H0 b) := fun q e => by
    refine ⟨[], s.slot (fun b hb => by cases hb), other [] (I.wf.slot List.nodup_nil (fun b hb => by cases hb) (fun b hb => by cases hb) (fun b hb => by cases hb)) ?_, fun b hb => by cases hb⟩
    rw [e]
    exact Rp.sub .slot q
  rcases hm with rfl | rfl | rfl
  · exact plain r rfl
  · cases d with
    | lst ds =>
      obtain ⟨a, vs, e, h1, h2, h3⟩ := r
      have one : ∀ b ∈ [a], b = a := fun b hb => by simpa using hb
      refine ⟨[a], s.slot (fun b hb => by rw [one b hb]; exact h2.2.2), other [a] (I.wf.slot (by simp) (fun b hb => ⟨vs, by rw [one b hb]; exact h1⟩) (fun b hb => by rw [one b hb]; exact h2.1) (fun b hb => by rw [one b hb]; exact h2.2.1)) ?_, fun b hb => by rw [one b hb]; exact h2⟩
      exact ⟨a, vs, ds, e, rfl, by simp only [Gh.slot, if_true], h1, h3.sub .slot⟩
    | _ => exact plain r rfl
  · cases d with
    | lst ds =>
      obtain ⟨a, bs, dss, e, e2, h1, nd, h2, h3⟩ := r
      refine ⟨a :: bs, s.slot (fun b hb => (h2 b hb).2.2), other _ (I.wf.slot nd (fun b hb => ?_) (fun b hb => (h2 b hb).1) (fun b hb => (h2 b hb).2.1)) ?_, h2⟩
      · rcases List.mem_cons.mp hb with rfl | hb
        · exact ⟨_, h1⟩
        · exact h3.tracked b hb
      · subst e2
        exact ⟨a, bs, dss, e, rfl, by simp only [Gh.slot, if_true], h1, h3.sub .slot fun _ _ => rfl⟩
    | _ => exact plain r rfl
end

section
variable {T : Tb} {X : Cx} {Γ Γ' : Fls} {F : Fx} {e a b c tg iter : Expr} {m m1 m2 m3 : Mo} {f f1 f2 f3 : S → R D} {pos p2 pos' : Pos} {es rest : List Expr} {k1 k2 : S → R Bool} {fs fi : S → R (List D)} {t : Tg} {s1 s2 : Stmt} {ss ss2 : List Stmt} {q q1 q2 : S → RS} {nx lp : Fls} {rm : Mo}
def sAsg (t : Tg) (f : S → R D) : S → RS := fun s => (f s).then fun d s => match asgD t d s with
  | some s' => .next s'
  | none => .stuck
/-- x = e, of any form of e but a comprehension on one line -/
theorem js_set (i : Nat) {x : Str} (hN : X.N.Nodup) (he : JE T X Γ e .sh f) (hi : X.N[i]? = some x := by rfl) (hx : Loc X.env.scope x := by first | exact Or.inl rfl | exact Or.inr rfl) (hs : swapsWith e (some (.Name x pos')) pos.line X.env = pure false := by rfl)
    (hΓ : fl Γ i = .sh := by rfl) (hf : X.fn x = true ∨ X.env.scope.names.lookup x = some .local := by first | exact .inl rfl | exact .inr rfl | assumption) : JS T X Γ ⟨Γ, lp, rm⟩ (.Assign [.Name x pos'] e pos) (sAsg (.one i) f) := by
  refine ⟨fun W tk => PS.imp (ps_set hN hi hx (he.run W tk) hs hf) fun E σ H ⟨B, g, st, I, p⟩ => ?_⟩
  refine te_then I.toSR p fun d s1 x H1 g1 q1 I1 r1 p1 => ?_
  exact p1 _ H1 g1 (.refl g1 H1) (I1.set hΓ r1)
/-- x = a fresh list (or anything else) -/
def sAsgF (i : Nat) (f : S → R D) : S → RS := fun s => (f s).then fun d s => match d with
  | .lst _ => .next { s with r := s.r.set i (some d) }
  | _ => .stuck
theorem js_setF (i : Nat) {x : Str} (hN : X.N.Nodup) (he : JE T X Γ e m f) (hm : m = .f1 ∨ m = .f2 := by first | exact .inl rfl | exact .inr rfl) (hi : X.N[i]? = some x := by rfl) (hx : Loc X.env.scope x := by first | exact Or.inl rfl | exact Or.inr rfl) (hs : swapsWith e (some (.Name x pos')) pos.line X.env = pure false := by rfl)
    (hΓ : ∀ j, fl Γ' j = if j = i then m.fl else fl Γ j) (hf : X.fn x = true ∨ X.env.scope.names.lookup x = some .local := by first | exact .inl rfl | exact .inr rfl | assumption) : JS T X Γ ⟨Γ', lp, rm⟩ (.Assign [.Name x pos'] e pos) (sAsgF i f) := by
  refine ⟨fun W tk => PS.imp (ps_set hN hi hx (he.run W tk) hs hf) fun E σ H ⟨B, g, st, I, p⟩ => ?_⟩
  refine ⟨g, st, I.toSR, ?_⟩
  unfold sAsgF at p
  cases e : f st with
  | ok d s1 =>
    rw [e] at p
    intro v H1 g1 q1 I1 r1
    cases d with
    | lst ds =>
      have hfl : m.fl = flOf m (.lst ds) := by rcases hm with rfl | rfl <;> rfl
      obtain ⟨L, st2, I2, _⟩ := I1.asg (Γ' := Γ') (i := i) q1.toStep (by rcases hm with rfl | rfl; exact .inr (.inl rfl); exact .inr (.inr rfl)) r1 (fun j => by rw [hΓ j, hfl])
      exact p _ H1 _ st2 I2
    | _ => exact p.elim
  | raise ex s1 => rw [e] at p; exact fun cls dd H' g' => p cls dd σ H' g'
  | stuck => rw [e] at p; exact p
/-- x = [..], a comprehension on one line; x a local -/
theorem js_setLc {y : Str} {py spos : Pos} {elt : Expr} {ifs : List Expr} {scope : Scope} {ct : S → R Bool} {fe : S → R D} (i : Nat) (own : List (Str × Nat)) (hc : X.calm = true) (hN : X.N.Nodup) (hi : JI T X Γ tg iter fi) (ok : BlkOk X.N X.env.scope scope own)
    (hg : ∀ (s : Shared) (H : Hp) (C : Addr) (cl : List (Str × Addr)) (fp : List Addr), JG T (X.blk s H scope (compEnvC scope cl C X.env) fp) tg t) (ht : ∀ (s : Shared) (H : Hp) (C : Addr) (cl : List (Str × Addr)) (fp : List Addr), JTs T (X.blk s H scope (compEnvC scope cl C X.env) fp) Γ ifs ct)
    (he : ∀ (s : Shared) (H : Hp) (C : Addr) (cl : List (Str × Addr)) (fp : List Addr), JE T (X.blk s H scope (compEnvC scope cl C X.env) fp) Γ elt .sh fe)
    (hsw : swapsWith (.ListComp elt [⟨tg, iter, ifs, 0⟩] scope pos) (some (.Name y py)) spos.line X.env = pure true)
    (hΓ : ∀ j, fl Γ' j = if j = i then .o1 else fl Γ j) (hy : X.N[i]? = some y := by rfl) (hyl : X.env.scope.names.lookup y = some .local := by rfl)
    (hown : own.map (·.2) = t.vs := by rfl) (hf : ∀ i ∈ t.vs, fl Γ i = .sh := by decide) (hs : ∀ x, foldedSetIterable iter X.env x = pure x := by intro _; rfl) :
    JS T X Γ ⟨Γ', lp, rm⟩ (.Assign [.Name y py] (.ListComp elt [⟨tg, iter, ifs, 0⟩] scope pos) spos) (sAsgF i (eLc fi t ct fe)) := by
  refine ⟨fun W tk => PS.imp (ps_setLc (g := tgR X.K T t) (tt := tt X.K T Γ (fun _ _ _ _ => False) ct) (te := te X.K T Γ .sh (fun _ _ _ _ => False) fe) hc hN hy hyl hsw (hi.run W tk) ok (fun s H C cl fp => (hg s H C cl fp).run) (fun s H C cl fp => (ht s H C cl fp).run _ takes0) (fun s H C cl fp => (he s H C cl fp).run _ takes0) hs) fun E σ H ⟨B, g, st, I, p⟩ => ?_⟩
  refine ⟨g, st, I.toSR, ?_⟩
  unfold sAsgF eLc at p
  cases e : fi st with
  | raise _ _ => rw [e] at p; exact fun cls dd H' g' => p cls dd σ H' g'
  | stuck => rw [e] at p; exact p
  | ok ds s1 =>
    rw [e] at p
    intro J H1 g1 q1 I1 wl Dd hD
    simp only [R.bind] at p
    split at p
    · split at p
      · rename_i ys mf el
        simp only [R.then] at p
        refine lc_inv (W := W) (Q := fun x H1 => gName i x σ H1 E.nx) tk hown hf I1 wl (by assumption) el (fun v H2 g2 q2 I2 r2 => ?_) Dd hD
        obtain ⟨L, st2, I3, _⟩ := I2.asg (Γ' := Γ') (i := i) (q1.trans q2).toStep (.inr (.inl rfl)) (r2.base q1.tr) (fun j => by rw [hΓ j]; rfl)
        exact p _ H2 _ st2 I3
      · exact p.elim
    · exact p.elim
/-- (a, b, ..) = e -/
theorem js_asgT {tg : Expr} (he : JE T X Γ e .sh f) (hg : JG T X tg t) (hΓ : ∀ i ∈ t.vs, fl Γ i = .sh := by decide) (hs : swapsWithSole [tg] e pos.line X.env = pure false := by rfl) (hw : swappedStores [tg] e X.env = pure none := by rfl)
    (h1 : (assignEach [tg] X.env).map (·.2) = [assign tg X.env] := by rfl) : JS T X Γ ⟨Γ, lp, rm⟩ (.Assign [tg] e pos) (sAsg t f) := by
  refine ⟨fun W tk => PS.imp (ps_asg (he.run W tk) hg.run hs hw h1) fun E σ H ⟨B, g, st, I, p⟩ => ?_⟩
  refine te_then I.toSR p fun d s1 x H1 g1 q1 I1 r1 p1 => ?_
  split at p1
  · rename_i s' ea
    exact tgR_of I1 r1 hΓ ea fun σ' I2 _ => p1 _ H1 g1 (.refl g1 H1) I2
  · exact p1.elim
/-- a, b = x, y -/
def sPar (i j : Nat) (f1 f2 : S → R D) : S → RS := fun s => (f1 s).then fun d1 s1 => (f2 s1).then fun d2 s2 => .next { s2 with r := (s2.r.set i (some d1)).set j (some d2) }
theorem js_par (i j : Nat) {x y : Str} {px py pt : Pos} {kt k2 pt2} (hc : X.calm = true) (hN : X.N.Nodup) (ha : JE T X Γ a .sh f1) (hb : JE T X Γ b .sh f2) (hi : X.N[i]? = some x := by rfl) (hj : X.N[j]? = some y := by rfl) (hij : i ≠ j := by decide)
    (hx : X.env.scope.names.lookup x = some .local := by rfl) (hy : X.env.scope.names.lookup y = some .local := by rfl) (hΓ : fl Γ i = .sh := by rfl) (hΓ' : fl Γ j = .sh := by rfl)
    (hw : swappedStores [.Tuple [.Name x px, .Name y py] kt pt] (.Tuple [a, b] k2 pt2) X.env = pure (some [x, y]) := by rfl) (hs : swapsWithSole [.Tuple [.Name x px, .Name y py] kt pt] (.Tuple [a, b] k2 pt2) pos.line X.env = pure false := by rfl)
    (hst : starEach [a, b] X.env = (false, eval a X.env) :: starEach [b] X.env := by rfl) (hst2 : starEach [b] X.env = (false, eval b X.env) :: starEach [] X.env := by rfl) :
    JS T X Γ ⟨Γ, lp, rm⟩ (.Assign [.Tuple [.Name x px, .Name y py] kt pt] (.Tuple [a, b] k2 pt2) pos) (sPar i j f1 f2) := by
  refine ⟨fun W tk => PS.imp (ps_par hc hN hi hj hij hx hy (pa_cons (ha.run W tk) (pa_cons (hb.run W tk) pa_nil hst2) hst) hw hs) fun E σ H ⟨B, g, st, I, p⟩ => ?_⟩
  refine te_then I.toSR p fun d1 s1 v H1 g1 q1 I1 r1 p1 => te_then I1 p1 fun d2 s2 w H2 g2 q2 I2 r2 p2 => ?_
  exact ⟨v, w, rfl, p2 _ H2 g2 (.refl g2 H2) ((I2.set hΓ (Rp.step I1.wf q2.toStep r1)).set hΓ' r2)⟩
/-- x op= e of whole numbers -/
def sAug (o : D → D → S → R D) (i : Nat) (f : S → R D) : S → RS := fun s => (eVar i s).then fun d s1 => (f s1).then fun e s2 => (o d e s2).then fun z s3 => .next { s3 with r := s3.r.set i (some z) }
theorem js_augAdd (i : Nat) {x : Str} (hN : X.N.Nodup) (he : JE T X Γ e .b1 f) (hi : X.N[i]? = some x := by rfl) (hx : Loc X.env.scope x := by first | exact Or.inl rfl | exact Or.inr rfl) (hΓ : fl Γ i = .sh := by rfl) (hf : X.fn x = true ∨ X.env.scope.names.lookup x = some .local := by first | exact .inl rfl | exact .inr rfl | assumption) :
    JS T X Γ ⟨Γ, lp, rm⟩ (.AugAssign (.Name x pos') .Add e pos) (sAug (fun d e s => match d, e with | .int i, .int j => .ok (.int (i + j)) s | _, _ => .stuck) i f) := by
  refine ⟨fun W tk => PS.imp (ps_aug hN hi hx (he.run W tk) ip_add hf) fun E σ H ⟨B, g, st, I, p⟩ => ?_⟩
  unfold sAug eVar at p
  cases e : st.r.getD i none with
  | none => rw [e] at p; exact p.elim
  | some d =>
    rw [e] at p
    obtain ⟨v, h1, h2⟩ := I.slot e
    rw [hΓ] at h2
    refine ⟨v, h1, te_then I.toSR p fun d2 s1 w H1 g1 q1 I1 r1 p1 => ?_⟩
    simp only at p1
    split at p1
    · simp only [SlR, Rp] at h2
      exact ⟨_, _, h2, b_int r1, p1 _ H1 g1 (.refl g1 H1) (I1.set hΓ (by simp only [Rp]))⟩
    · exact p1.elim

/-! ### own lists changed -/
theorem Step.wr {g : Gh} {H : Hp} {ad : Addr} {ws vs : List V} (own : g.Own ad) (hH : H ad = some (.lst ws)) : Step g H g (upd H ad (.lst vs)) where
  aa := fun _ h => h
  an := fun _ h => .inl h
  on := fun _ h => .inl h
  fr := fun b o h n => by
    rw [upd_ne fun z => n (by rw [z]; exact own)]
    exact h
  im := fun b o h im => by
    rw [upd_ne fun z => ?_]
    · exact h
    · rw [z, hH] at h
      cases h
      cases im
  tr := fun b h => by
    by_cases e : b = ad
    · rw [e, upd_same] at h
      cases h
    · rw [upd_ne e] at h
      exact h
  mu := List.prefix_refl _
theorem WF.wr {g : Gh} {H : Hp} {ad : Addr} {vs : List V} (w : WF g H) (own : g.Own ad) : WF g (upd H ad (.lst vs)) where
  ta := fun b h => by
    obtain ⟨o, e⟩ := w.ta b h
    exact ⟨o, by rw [upd_ne fun z => w.ao b h (by rw [z]; exact own)]; exact e⟩
  ot := fun b h => by
    by_cases e : b = ad
    · exact ⟨_, by rw [e, upd_same], rfl⟩
    · obtain ⟨o, e2, i2⟩ := w.ot b h
      exact ⟨o, by rw [upd_ne e]; exact e2, i2⟩
  ao := w.ao
  nf := w.nf
  df := w.df
  fm := w.fm
  nm := w.nm
/-- an own list of slot i is written -/
theorem SR.own1 {K : PySem.W.Frag} {g : Gh} {σ : L2.St} {H : Hp} {st : S} {i : Nat} {ad : Addr} {vs : List V} {ds : List D} (I : SR K T Γ g σ H st) (hf : fl Γ i = .o1) (ha : g.fp i = [ad]) (hv : σ.getD i none = some (.ref ad)) (hH : ∃ ws, H ad = some (.lst ws)) (r : Rps K T g H ds vs) :
    Step g H g (upd H ad (.lst vs)) ∧ SR K T Γ g σ (upd H ad (.lst vs)) { st with r := st.r.set i (some (.lst ds)) } := by
  obtain ⟨ws, hH⟩ := hH
  have hm : ad ∈ g.fp i := by rw [ha]; exact List.mem_cons_self
  have own : g.Own ad := .inl ⟨i, hm⟩
  have s : Step g H g (upd H ad (.lst vs)) := .wr own hH
  have wf : WF g (upd H ad (.lst vs)) := I.wf.wr own
  have u := s.sub I.wf
  refine ⟨s, wf, by simpa using I.len, fun j hj => ?_, I.me.sub u rfl fun b hb => by rw [upd_ne fun z => I.wf.fm i ad hm (by rw [← z]; exact hb)]⟩
  by_cases h : i = j
  · subst h
    rw [hv, hf, List.getD_eq_getElem?_getD, List.getElem?_set_self (by rw [← I.len]; exact hj)]
    exact ⟨ad, vs, ds, rfl, rfl, ha, upd_same, r.sub u⟩
  · rw [List.getD_eq_getElem?_getD (l := st.r.set i _), List.getElem?_set_ne h, ← List.getD_eq_getElem?_getD]
    exact (I.sl j hj).sub u rfl fun b hb => by rw [upd_ne fun z => h (I.wf.df i j ad hm (by rw [← z]; exact hb))]
theorem SR.getO {K : PySem.W.Frag} {g : Gh} {σ : L2.St} {H : Hp} {st : S} {i : Nat} {d : D} (I : SR K T Γ g σ H st) (hf : fl Γ i = .o1) (e : st.r.getD i none = some d) : ∃ ad vs ds, d = .lst ds ∧ σ[i]? = some (some (.ref ad)) ∧ σ.getD i none = some (.ref ad) ∧ g.fp i = [ad] ∧ H ad = some (.lst vs) ∧ Rps K T g H ds vs := by
  obtain ⟨v, h1, h2⟩ := I.slot e
  rw [hf] at h2
  obtain ⟨ad, vs, ds, e1, e2, e3, h3, h4⟩ := h2
  subst e1
  exact ⟨ad, vs, ds, e2, h1, by rw [List.getD_eq_getElem?_getD, h1]; rfl, e3, h3, h4⟩
def sApp (i : Nat) (f : S → R D) : S → RS := fun s => match s.r.getD i none with
  | some _ => (f s).then fun d s1 => (match s1.r.getD i none with
    | some (.lst xs) => if xs.length < sizeLine then .next { s1 with r := s1.r.set i (some (.lst (xs ++ [d]))) } else .stuck
    | _ => .stuck)
  | none => .stuck
theorem js_app (i : Nat) {x : Str} {p' ap : Pos} (he : JE T X Γ e .sh f) (hN : X.N[i]? = some x := by rfl) (hv : Vis X.env.scope x := by first | exact Or.inl rfl | exact Or.inr (Or.inl rfl) | exact Or.inr (Or.inr rfl)) (hf : fl Γ i = .o1 := by rfl)
    (hd : (x == ("__debug__" : Str)) = false := by decide) (hcd : (x == ("__classdict__" : Str)) = false := by decide)
    (hb : ∀ {te : TE}, PE X e te → PE X (.Call (.Attribute (.Name x p') "append" ap) [e] [] pos') (tBM X.K "list" rAppend (tVar i) (tCons te tNil)) := by
      exact fun h => pe_bm PySem.F.plainAttrs_list PySem.F.slot_list_append PySem.F.type_list_append mt_append (pv _) (pa_cons h pa_nil))
    (hs : swapsWith (.Call (.Attribute (.Name x p') "append" ap) [e] [] pos') none pos.line X.env = pure false := by rfl) : JS T X Γ ⟨Γ, lp, rm⟩ (.Expr (.Call (.Attribute (.Name x p') "append" ap) [e] [] pos') pos) (sApp i f) := by
  refine ⟨fun W tk => PS.imp (ps_expr (hb (he.run W tk)) hs) fun E σ H ⟨B, g, st, I, p⟩ => ?_⟩
  unfold sApp at p
  cases e0 : st.r.getD i none with
  | none => rw [e0] at p; exact p.elim
  | some d0 =>
    rw [e0] at p
    obtain ⟨ad, vs0, ds0, e1, h1, h1', h2, h3, h4⟩ := I.getO hf e0
    refine ⟨_, h1, .inl ⟨rfl, _, .inl (.inl h3)⟩, te_then I.toSR p fun d s1 x H1 g1 q1 I1 r1 p1 => ?_⟩
    cases e2 : s1.r.getD i none with
    | none => rw [e2] at p1; exact p1.elim
    | some d1 =>
      rw [e2] at p1
      obtain ⟨ad', vs, ds, e3, _, h1'', h2', h3', h4'⟩ := I1.getO hf e2
      subst e3
      have ea : ad' = ad := by
        rw [h1'] at h1''
        cases h1''
        rfl
      subst ea
      simp only at p1
      split at p1
      · rename_i hz
        obtain ⟨st2, I2⟩ := I1.own1 hf h2' h1' ⟨vs, h3'⟩ (h4'.append (.one r1))
        exact ⟨ad', vs, x, rfl, rfl, h3', by rw [h4'.length]; exact hz, p1 σ _ g1 st2 I2⟩
      · exact p1.elim
/-- own.extend(e) -/
def sExt (i : Nat) (f : S → R D) : S → RS := fun s => match s.r.getD i none with
  | some _ => (f s).then fun d s1 => (match s1.r.getD i none, d with
    | some (.lst xs), .lst ys => if xs.length + ys.length ≤ sizeLine then .next { s1 with r := s1.r.set i (some (.lst (xs ++ ys))) } else .stuck
    | _, _ => .stuck)
  | none => .stuck
theorem js_ext (i : Nat) {x : Str} {p' ap : Pos} (he : JE T X Γ e .b1 f) (hN : X.N[i]? = some x := by rfl) (hv : Vis X.env.scope x := by first | exact Or.inl rfl | exact Or.inr (Or.inl rfl) | exact Or.inr (Or.inr rfl)) (hf : fl Γ i = .o1 := by rfl)
    (hd : (x == ("__debug__" : Str)) = false := by decide) (hcd : (x == ("__classdict__" : Str)) = false := by decide)
    (hb : ∀ {te : TE}, PE X e te → PE X (.Call (.Attribute (.Name x p') "extend" ap) [e] [] pos') (tBM X.K "list" rExtend (tVar i) (tCons te tNil)) := by
      exact fun h => pe_bm PySem.F.plainAttrs_list PySem.F.slot_list_extend PySem.F.type_list_extend mt_extend (pv _) (pa_cons h pa_nil))
    (hs : swapsWith (.Call (.Attribute (.Name x p') "extend" ap) [e] [] pos') none pos.line X.env = pure false := by rfl) : JS T X Γ ⟨Γ, lp, rm⟩ (.Expr (.Call (.Attribute (.Name x p') "extend" ap) [e] [] pos') pos) (sExt i f) := by
  refine ⟨fun W tk => PS.imp (ps_expr (hb (he.run W tk)) hs) fun E σ H ⟨B, g, st, I, p⟩ => ?_⟩
  unfold sExt at p
  cases e0 : st.r.getD i none with
  | none => rw [e0] at p; exact p.elim
  | some d0 =>
    rw [e0] at p
    obtain ⟨ad, vs0, ds0, e1, h1, h1', h2, h3, h4⟩ := I.getO hf e0
    refine ⟨_, h1, .inl ⟨rfl, _, .inl (.inl h3)⟩, te_then I.toSR p fun d s1 x H1 g1 q1 I1 r1 p1 => ?_⟩
    cases e2 : s1.r.getD i none with
    | none => rw [e2] at p1; exact p1.elim
    | some d1 =>
      rw [e2] at p1
      obtain ⟨ad', vs, ds, e3, _, h1'', h2', h3', h4'⟩ := I1.getO hf e2
      subst e3
      have ea : ad' = ad := by
        rw [h1'] at h1''
        cases h1''
        rfl
      subst ea
      cases d with
      | lst ys =>
        simp only at p1
        split at p1
        · rename_i hz
          obtain ⟨b, ws, eb, hb2, _, rb⟩ := b_lst r1
          subst eb
          obtain ⟨st2, I2⟩ := I1.own1 hf h2' h1' ⟨vs, h3'⟩ (h4'.append rb)
          exact ⟨ad', b, vs, ws, rfl, rfl, h3', hb2, by rw [h4'.length, rb.length]; exact hz, p1 σ _ g1 st2 I2⟩
        · exact p1.elim
      | _ => exact p1.elim
/-- own[k] = e -/
def sSetI (i : Nat) (fk fe : S → R D) : S → RS := fun s => (fe s).then fun d s1 => match s1.r.getD i none with
  | some _ => (fk s1).then fun k s2 => (match s2.r.getD i none, k with
    | some (.lst xs), .int k => (match ixN xs.length k with
      | some j => .next { s2 with r := s2.r.set i (some (.lst (xs.set j d))) }
      | none => .stuck)
    | _, _ => .stuck)
  | none => .stuck
theorem js_setI (i : Nat) {x : Str} {p' : Pos} {kx : Expr} {fk : S → R D} (he : JE T X Γ e .sh f) (hk : JE T X Γ kx .b1 fk) (hN : X.N[i]? = some x := by rfl) (hv : Vis X.env.scope x := by first | exact Or.inl rfl | exact Or.inr (Or.inl rfl) | exact Or.inr (Or.inr rfl)) (hf : fl Γ i = .o1 := by rfl)
    (hd : (x == ("__debug__" : Str)) = false := by decide) (hcd : (x == ("__classdict__" : Str)) = false := by decide)
    (ha : ∀ v, assign (.Subscript (.Name x p') kx pos') X.env v = (do
      let ov ← holding [v] (eval (.Name x p') X.env)
      let iv ← holding [v, ov] (eval kx X.env)
      standAt pos'
      holding [v, ov, iv] (setItem ov iv v)
      release [v, ov, iv] []) := by intro _; rfl)
    (hs : swapsWithSole [.Subscript (.Name x p') kx pos'] e pos.line X.env = pure false := by rfl) (hw : swappedStores [.Subscript (.Name x p') kx pos'] e X.env = pure none := by rfl)
    (h1 : (assignEach [.Subscript (.Name x p') kx pos'] X.env).map (·.2) = [assign (.Subscript (.Name x p') kx pos') X.env] := by rfl) : JS T X Γ ⟨Γ, lp, rm⟩ (.Assign [.Subscript (.Name x p') kx pos'] e pos) (sSetI i fk f) := by
  refine ⟨fun W tk => PS.imp (ps_asg (he.run W tk) (pg_sub (pe_var hN hv hd hcd) (hk.run W tk) set_list ha) hs hw h1) fun E σ H ⟨B, g, st, I, p⟩ => ?_⟩
  unfold sSetI at p
  refine te_then I.toSR p fun d s1 x H1 g1 q1 I1 r1 p1 => ?_
  cases e0 : s1.r.getD i none with
  | none => rw [e0] at p1; exact p1.elim
  | some d0 =>
    rw [e0] at p1
    obtain ⟨ad, vs0, ds0, e1, h1, h1', h2, h3, h4⟩ := I1.getO hf e0
    refine ⟨_, h1, te_then I1 p1 fun k s2 y H2 g2 q2 I2 r2 p2 => ?_⟩
    cases e2 : s2.r.getD i none with
    | none => rw [e2] at p2; exact p2.elim
    | some d1 =>
      rw [e2] at p2
      obtain ⟨ad', vs, ds, e3, _, h1'', h2', h3', h4'⟩ := I2.getO hf e2
      subst e3
      have ea : ad' = ad := by
        rw [h1'] at h1''
        cases h1''
        rfl
      subst ea
      cases k with
      | int k =>
        simp only at p2
        split at p2
        · rename_i j ej
          obtain ⟨st2, I3⟩ := I2.own1 hf h2' h1' ⟨vs, h3'⟩ (h4'.set j (Rp.step I1.wf q2.toStep r1))
          exact ⟨ad', vs, k, j, rfl, b_int r2, h3', by rw [h4'.length]; exact ej, p2 σ _ g2 st2 I3⟩
        · exact p2.elim
      | _ => exact p2.elim
/-! ### a cell changed -/
theorem SR.cell {K : PySem.W.Frag} {g : Gh} {σ : L2.St} {H : Hp} {st : S} {n : Nat} {ad : Addr} {vs : List V} {ds : List D} (I : SR K T Γ g σ H st) (ha : g.mu[n]? = some ad) (hH : ∃ ws, H ad = some (.lst ws)) (r : Rps K T g H ds vs) :
    Step g H g (upd H ad (.lst vs)) ∧ SR K T Γ g σ (upd H ad (.lst vs)) { st with m := st.m.set n (.lst ds) } := by
  obtain ⟨ws, hH⟩ := hH
  have hm : ad ∈ g.mu := List.mem_of_getElem? ha
  have own : g.Own ad := .inr hm
  have s : Step g H g (upd H ad (.lst vs)) := .wr own hH
  have wf : WF g (upd H ad (.lst vs)) := I.wf.wr own
  have u := s.sub I.wf
  refine ⟨s, wf, I.len, fun j hj => (I.sl j hj).sub u rfl fun b hb => by rw [upd_ne fun z => I.wf.fm j b hb (by rw [z]; exact hm)], by simpa using I.me.len, fun k c b h1 h2 => ?_⟩
  by_cases h : n = k
  · subst h
    rw [ha] at h2
    cases h2
    have hl : n < st.m.length := by
      rw [← I.me.len]
      exact (List.getElem?_eq_some_iff.mp ha).1
    rw [List.getElem?_set_self hl] at h1
    cases h1
    exact ⟨vs, upd_same, r.sub u⟩
  · rw [List.getElem?_set_ne h] at h1
    have q := I.me.at_ k c b h1 h2
    have hne : b ≠ ad := fun z => by
      subst z
      obtain ⟨h3, e3⟩ := List.getElem?_eq_some_iff.mp ha
      obtain ⟨h4, e4⟩ := List.getElem?_eq_some_iff.mp h2
      exact h ((List.getElem_inj I.wf.nm).mp (e3.trans e4.symm))
    exact CellR.sub u (upd_ne hne) q
/-- cell[k] = e -/
def sSetM (i : Nat) (fk fe : S → R D) : S → RS := fun s => (fe s).then fun d s1 => match s1.r.getD i none with
  | some (.ref n) => (fk s1).then fun k s2 => (match mLst s2 n, k with
    | some xs, .int k => (match ixN xs.length k with
      | some j => .next { s2 with m := s2.m.set n (.lst (xs.set j d)) }
      | none => .stuck)
    | _, _ => .stuck)
  | _ => .stuck
theorem js_setM (i : Nat) {x : Str} {p' : Pos} {kx : Expr} {fk : S → R D} (he : JE T X Γ e .sh f) (hk : JE T X Γ kx .b1 fk) (hN : X.N[i]? = some x := by rfl) (hv : Vis X.env.scope x := by first | exact Or.inl rfl | exact Or.inr (Or.inl rfl) | exact Or.inr (Or.inr rfl)) (hf : fl Γ i = .sh := by rfl)
    (hd : (x == ("__debug__" : Str)) = false := by decide) (hcd : (x == ("__classdict__" : Str)) = false := by decide)
    (ha : ∀ v, assign (.Subscript (.Name x p') kx pos') X.env v = (do
      let ov ← holding [v] (eval (.Name x p') X.env)
      let iv ← holding [v, ov] (eval kx X.env)
      standAt pos'
      holding [v, ov, iv] (setItem ov iv v)
      release [v, ov, iv] []) := by intro _; rfl)
    (hs : swapsWithSole [.Subscript (.Name x p') kx pos'] e pos.line X.env = pure false := by rfl) (hw : swappedStores [.Subscript (.Name x p') kx pos'] e X.env = pure none := by rfl)
    (h1 : (assignEach [.Subscript (.Name x p') kx pos'] X.env).map (·.2) = [assign (.Subscript (.Name x p') kx pos') X.env] := by rfl) : JS T X Γ ⟨Γ, lp, rm⟩ (.Assign [.Subscript (.Name x p') kx pos'] e pos) (sSetM i fk f) := by
  refine ⟨fun W tk => PS.imp (ps_asg (he.run W tk) (pg_sub (pe_var hN hv hd hcd) (hk.run W tk) set_list ha) hs hw h1) fun E σ H ⟨B, g, st, I, p⟩ => ?_⟩
  unfold sSetM at p
  refine te_then I.toSR p fun d s1 x H1 g1 q1 I1 r1 p1 => ?_
  cases e0 : s1.r.getD i none with
  | none => rw [e0] at p1; exact p1.elim
  | some d0 =>
    rw [e0] at p1
    obtain ⟨v, h1, h2⟩ := I1.slot e0
    rw [hf] at h2
    cases d0 with
    | ref n =>
      simp only [SlR, Rp] at h2
      obtain ⟨ad, ev, ha⟩ := h2
      refine ⟨_, h1, te_then I1 p1 fun k s2 y H2 g2 q2 I2 r2 p2 => ?_⟩
      subst ev
      have ha2 : g2.mu[n]? = some ad := by
        obtain ⟨tl, ht⟩ := q2.mu
        rw [← ht, List.getElem?_append_left (List.getElem?_eq_some_iff.mp ha).1]
        exact ha
      cases em : mLst s2 n with
      | none => rw [em] at p2; exact p2.elim
      | some xs =>
        rw [em] at p2
        obtain ⟨vs, h3', h4'⟩ := mcell I2 em ha2
        cases k with
        | int k =>
          simp only at p2
          split at p2
          · rename_i j ej
            obtain ⟨st2, I3⟩ := I2.cell ha2 ⟨vs, h3'⟩ (h4'.set j (Rp.step I1.wf q2.toStep r1))
            exact ⟨ad, vs, k, j, rfl, b_int r2, h3', by rw [h4'.length]; exact ej, p2 σ _ g2 st2 I3⟩
          · exact p2.elim
        | _ => exact p2.elim
    | _ => exact p1.elim
/-- x = a fresh list that becomes a cell -/
def sAsgC (i : Nat) (f : S → R D) : S → RS := fun s => (f s).then fun d s => match d with
  | .lst xs => .next { r := s.r.set i (some (.ref s.m.length)), m := s.m ++ [.lst xs] }
  | _ => .stuck
def Gh.more (g : Gh) (a : Addr) : Gh := ⟨g.A, g.fp, g.mu ++ [a]⟩
theorem js_setC (i : Nat) {x : Str} (hN : X.N.Nodup) (he : JE T X Γ e .f1 f) (hi : X.N[i]? = some x := by rfl) (hx : Loc X.env.scope x := by first | exact Or.inl rfl | exact Or.inr rfl) (hs : swapsWith e (some (.Name x pos')) pos.line X.env = pure false := by rfl)
    (hΓ : fl Γ i = .sh := by rfl) (hf : X.fn x = true ∨ X.env.scope.names.lookup x = some .local := by first | exact .inl rfl | exact .inr rfl | assumption) : JS T X Γ ⟨Γ, lp, rm⟩ (.Assign [.Name x pos'] e pos) (sAsgC i f) := by
  refine ⟨fun W tk => PS.imp (ps_set hN hi hx (he.run W tk) hs hf) fun E σ H ⟨B, g, st, I, p⟩ => ?_⟩
  refine ⟨g, st, I.toSR, ?_⟩
  unfold sAsgC at p
  cases e : f st with
  | raise ex s1 => rw [e] at p; exact fun cls dd H' g' => p cls dd σ H' g'
  | stuck => rw [e] at p; exact p
  | ok d s1 =>
    rw [e] at p
    intro v H1 g1 q1 I1 r1
    cases d with
    | lst ds =>
      obtain ⟨a, vs, ev, h1, h2, h3⟩ := r1
      subst ev
      have own : ∀ b, (g1.more a).Own b → g1.Own b ∨ b = a := fun b h => by
        rcases h with h | h
        · exact .inl (.inl h)
        · rcases List.mem_append.mp h with h | h
          · exact .inl (.inr h)
          · exact .inr (by simpa using h)
      have st2 : Step g H (g1.more a) H1 := ⟨q1.aa, q1.an, fun b h => by
        rcases own b h with h | h
        · exact q1.on b h
        · rw [h]; exact .inr h2.2.2, q1.fr, q1.im, q1.tr, q1.mu.trans (List.prefix_append _ _)⟩
      have u : Sub g1 H1 (g1.more a) H1 := ⟨fun _ h => h, fun _ _ _ h => h, fun _ _ h _ => h, List.prefix_append _ _⟩
      have wf : WF (g1.more a) H1 := ⟨I1.wf.ta, fun b h => by
        rcases own b h with h | h
        · exact I1.wf.ot b h
        · rw [h]; exact ⟨_, h1, rfl⟩, fun b h q => by
        rcases own b q with q | q
        · exact I1.wf.ao b h q
        · rw [q] at h; exact h2.1 h, I1.wf.nf, I1.wf.df, fun j b h q => by
        rcases List.mem_append.mp q with q | q
        · exact I1.wf.fm j b h q
        · have : b = a := by simpa using q
          rw [this] at h
          exact h2.2.1 (.inl ⟨j, h⟩), by
        rw [show (g1.more a).mu = g1.mu ++ [a] from rfl, List.nodup_append]
        refine ⟨I1.wf.nm, by simp, fun x hx y hy => ?_⟩
        have : y = a := by simpa using hy
        rw [this]
        rintro rfl
        exact h2.2.1 (.inr hx)⟩
      have I2 : SR X.K T Γ (g1.more a) σ H1 { s1 with m := s1.m ++ [.lst ds] } := I1.re u wf rfl (fun _ _ _ => rfl) ⟨by
        show (g1.mu ++ [a]).length = _
        rw [List.length_append, List.length_append, I1.me.len]; rfl, fun n c b e1 e2 => by
        have e2' : (g1.mu ++ [a])[n]? = some b := e2
        by_cases hn : n < s1.m.length
        · rw [List.getElem?_append_left hn] at e1
          rw [List.getElem?_append_left (by rw [I1.me.len]; exact hn)] at e2'
          have q := I1.me.at_ n c b e1 e2'
          exact CellR.sub u rfl q
        · rw [List.getElem?_append_right (by omega)] at e1
          rw [List.getElem?_append_right (by rw [I1.me.len]; omega)] at e2'
          rw [I1.me.len] at e2'
          cases hk : n - s1.m.length with
          | zero =>
            rw [hk] at e1 e2'
            cases e1
            cases e2'
            exact ⟨vs, h1, h3.sub u⟩
          | succ k =>
            rw [hk] at e1
            simp at e1⟩
      refine p _ H1 (g1.more a) st2 (I2.set hΓ ?_)
      simp only [Rp]
      refine ⟨a, rfl, ?_⟩
      show (g1.mu ++ [a])[s1.m.length]? = some a
      rw [List.getElem?_append_right (by rw [I1.me.len]; exact Nat.le_refl _), I1.me.len, Nat.sub_self]
      rfl
    | _ => exact p.elim
end
end DL

set_option linter.all false
set_option Elab.async false
set_option maxRecDepth 100000
namespace DL
open PySem PySem.Spec PyProof.Rows L2

/-! ### loops -/
def forL (t : Tg) (body : S → RS) : List D → S → RS
  | [], s => .next s
  | d :: ds, s => match asgD t d s with
    | none => .stuck
    | some s2 => match body s2 with
      | .next s3 => forL t body ds s3
      | .cont s3 => forL t body ds s3
      | .brk s3 => .next s3
      | r => r
def sFor (fi : S → R (List D)) (t : Tg) (body : S → RS) : S → RS := fun s => (fi s).then fun ds s1 => forL t body ds s1
def whileL (c : S → R Bool) (body : S → RS) : Nat → S → RS
  | 0, _ => .stuck
  | n + 1, s => (c s).then fun k s1 => if k then (match body s1 with
      | .next s2 => whileL c body n s2
      | .cont s2 => whileL c body n s2
      | .brk s2 => .next s2
      | r => r) else .next s1
def sWhile (fuel : S → Nat) (c : S → R Bool) (body : S → RS) : S → RS := fun s => whileL c body (fuel s) s

section
variable {T : Tb} {X : Cx} {Γ Γ' : Fls} {F : Fx} {e a b c tg iter : Expr} {m m1 m2 m3 : Mo} {f f1 f2 f3 : S → R D} {pos p2 pos' : Pos} {es rest : List Expr} {k1 k2 : S → R Bool} {fs fi : S → R (List D)} {t : Tg} {s1 s2 : Stmt} {ss ss2 : List Stmt} {q q1 q2 : S → RS} {nx lp : Fls} {rm : Mo}
theorem ti_then {K : PySem.W.Frag} {B : Bs} {g : Gh} {H : Hp} {W : WX} {E : Ends} {σ : L2.St} {st : S} {fi : S → R (List D)} {k : List D → S → RS} {Q : It → Hp → Prop} (I : SR K T Γ g σ H st) (h : PostS K T F B g H W E ((fi st).then k))
    (hk : ∀ ds st' J H' g', QStep g H g' H' → SR K T Γ g' σ H' st' → Wlk K T g' H' J ds → PostS K T F B g' H' W E (k ds st') → Q J H') : ti K T Γ W fi σ H Q := by
  refine ⟨g, st, I, ?_⟩
  cases e : fi st with
  | ok d st' =>
    rw [e] at h
    exact fun J H' g' s r p => hk d st' J H' g' s r p (h.shift s.toStep)
  | raise ex st' =>
    rw [e] at h
    exact fun cls dd H' g' => h cls dd σ H' g'
  | stuck =>
    rw [e] at h
    exact h
theorem js_for (hp : PassesOwn (model X.prog X.w) X.A X.env X.xe) (hc : X.calm = true) (hi : JI T X Γ tg iter fi) (hg : JG T X tg t) (hb : JSs T X Γ ⟨Γ, Γ, rm⟩ ss q) (hf : ∀ i ∈ t.vs, fl Γ i = .sh := by decide)
    (hs : ∀ x, foldedSetIterable iter X.env x = pure x := by intro _; rfl) : JS T X Γ ⟨Γ, lp, rm⟩ (.For tg iter ss [] pos) (sFor fi t q) := by
  refine ⟨fun W tk => PS.imp (ps_for hp hc (hi.run W tk) hg.run (hb.run W tk) hs) fun E σ H ⟨B, g, st, I, p⟩ => ?_⟩
  refine ti_then I.toSR p fun ds s1 J H1 g1 q1 I1 wl p1 => ?_
  have IB1 := I.go q1.toStep I1
  refine ⟨fun i m σ' H' => i ≤ ds.length ∧ m = ds.length - i ∧ ∃ g' s', Step g1 H1 g' H' ∧ SB X.K T Γ B g' σ' H' s' ∧ PostS X.K T ⟨Γ, lp, rm⟩ B g' H' W E (forL t q (ds.drop i) s'), ⟨ds.length, Nat.zero_le _, by simp, g1, s1, .refl _ _, IB1, by rw [List.drop_zero]; exact p1⟩, ?_⟩
  rintro i m σ' H' ⟨hi, rfl, g', s', st', I', p'⟩
  by_cases hlt : i < ds.length
  · have ed : ds.drop i = ds[i] :: ds.drop (i + 1) := (List.drop_eq_getElem_cons hlt)
    have eg : ds[i]? = some ds[i] := List.getElem?_eq_getElem hlt
    refine .inr ⟨wl.go i _ g' H' st' I'.wf eg, fun σ3 H3 => ∃ g3 s3, Step g1 H1 g3 H3 ∧ SB X.K T Γ B g3 σ3 H3 s3 ∧ PostS X.K T ⟨Γ, lp, rm⟩ B g3 H3 W E (forL t q (ds.drop (i + 1)) s3), fun σ3 H3 h3 => ⟨ds.length - (i + 1), by omega, hlt, rfl, h3⟩, fun x H2 y => ?_⟩
    rw [ed] at p'
    unfold forL at p'
    have hy : ∃ sH : Step g' H' g' H2, SR X.K T Γ g' σ' H2 s' ∧ Rp X.K T g' H2 ds[i] x := by
      rcases wl.yld i _ g' H' x H2 st' I'.wf eg y with ⟨e1, r⟩ | ⟨p, ws, hp, e1, r⟩
      · subst e1
        exact ⟨.refl _ _, I'.toSR, r⟩
      · subst e1
        exact ⟨.new hp, I'.toSR.new hp, r⟩
    obtain ⟨sH, I2, rx⟩ := hy
    cases ea : asgD t ds[i] s' with
    | none => rw [ea] at p'; exact p'.elim
    | some s2 =>
      rw [ea] at p'
      simp only at p'
      refine tgR_of I2 rx hf ea fun σ2 I3 _ => ⟨B, g', s2, I'.go sH I3, ?_⟩
      have st2 := st'.trans sH
      cases eb : q s2 with
      | next s3 =>
        rw [eb] at p'
        exact fun σ3 H3 g3 st3 I4 => ⟨g3, s3, st2.trans st3, (I'.go sH I3).go st3 I4, p'.shift (sH.trans st3)⟩
      | cont s3 =>
        rw [eb] at p'
        exact fun σ3 H3 g3 st3 I4 => ⟨g3, s3, st2.trans st3, (I'.go sH I3).go st3 I4, p'.shift (sH.trans st3)⟩
      | brk s3 =>
        rw [eb] at p'
        exact fun σ3 H3 g3 st3 I4 => p' σ3 H3 g3 (sH.trans st3) I4
      | ret d s3 => rw [eb] at p'; exact p'
      | raise ex s3 =>
        rw [eb] at p'
        exact fun cls dd σ3 H3 g3 st3 => p' cls dd σ3 H3 g3 (sH.trans st3)
      | stuck => rw [eb] at p'; exact p'
  · have hi' : i = ds.length := by omega
    subst hi'
    refine .inl ⟨wl.stop g' H' st' I'.wf, ?_⟩
    rw [List.drop_length] at p'
    exact p' σ' H' g' (.refl _ _) I'.toSR
theorem js_while (fuel : S → Nat) (hp : PassesOwn (model X.prog X.w) X.A X.env X.xe) (hc : JT T X Γ c k1) (hb : JSs T X Γ ⟨Γ, Γ, rm⟩ ss q) : JS T X Γ ⟨Γ, lp, rm⟩ (.While c ss [] pos) (sWhile fuel k1 q) := by
  refine ⟨fun W tk => PS.imp (ps_while hp (hc.run W tk) (hb.run W tk)) fun E σ H ⟨B, g, st, I, p⟩ => ?_⟩
  refine ⟨fun n σ' H' => ∃ g' s', SB X.K T Γ B g' σ' H' s' ∧ PostS X.K T ⟨Γ, lp, rm⟩ B g' H' W E (whileL k1 q n s'), ⟨fuel st, g, st, I, p⟩, ?_⟩
  rintro n σ' H' ⟨g', s', I', p'⟩
  cases n with
  | zero => exact p'.elim
  | succ n =>
    unfold whileL at p'
    refine tt_then I'.toSR p' fun k s1 H1 g1 q1 I1 p1 => ?_
    have IB1 := I'.go q1.toStep I1
    cases k with
    | false =>
      rw [if_neg Bool.false_ne_true] at p1 ⊢
      exact p1 σ' H1 g1 (.refl _ _) I1
    | true =>
      rw [if_pos rfl] at p1 ⊢
      refine ⟨fun σ3 H3 => ∃ g3 s3, SB X.K T Γ B g3 σ3 H3 s3 ∧ PostS X.K T ⟨Γ, lp, rm⟩ B g3 H3 W E (whileL k1 q n s3), fun σ3 H3 h3 => ⟨n, Nat.lt_succ_self n, h3⟩, B, g1, s1, IB1, ?_⟩
      cases eb : q s1 with
      | next s3 =>
        rw [eb] at p1
        exact fun σ3 H3 g3 st3 I4 => ⟨g3, s3, IB1.go st3 I4, p1.shift st3⟩
      | cont s3 =>
        rw [eb] at p1
        exact fun σ3 H3 g3 st3 I4 => ⟨g3, s3, IB1.go st3 I4, p1.shift st3⟩
      | brk s3 =>
        rw [eb] at p1
        exact fun σ3 H3 g3 st3 I4 => p1 σ3 H3 g3 st3 I4
      | ret d s3 => rw [eb] at p1; exact p1
      | raise ex s3 => rw [eb] at p1; exact p1
      | stuck => rw [eb] at p1; exact p1

/-! ### code never come to -/
theorem je_never : JE T X Γ e m (fun _ => .stuck) := ⟨fun W tk => ⟨fun pins s σ H Q I ⟨g, st, _, p⟩ => p.elim⟩⟩
theorem js_never : JS T X Γ F s1 (fun _ => .stuck) := ⟨fun W tk => ⟨fun pins s σ H Q I ⟨B, g, st, _, p⟩ => p.elim⟩⟩

/-! ### constants, defs as values -/
theorem je_glob (d : D) {x : Str} {v : V} {u : Value} (hg : Gl X x) (hm : X.mg x = some u) (r : RelV v u) (rp : ∀ g H, Rp X.K T g H d v) (hd : (x == ("__debug__" : Str)) = false := by decide) : JE T X Γ (.Name x pos) .sh (eC d) :=
  ⟨fun W tk => PE.imp (L2.pe_glob hg hm r hd) fun σ H Q ⟨g, st, I, p⟩ => p _ H g (.refl g H) I (rp g H)⟩
theorem je_fn (i : Nat) {x : Str} {fa : Addr} (hg : Gl X x) (hm : X.mg x = some (.ref fa)) (ht : T.fn i = some fa) (hd : (x == ("__debug__" : Str)) = false := by decide) : JE T X Γ (.Name x pos) .sh (eC (.fn i)) :=
  je_glob (.fn i) (v := .ref fa) hg hm rfl (fun g H => by simp only [Rp]; exact ⟨fa, rfl, ht⟩) hd

/-! ### raise -/
theorem pmk_own0 {C : Addr} {bmB : List Value} {B newId initId : String} {x : Str} {p : Pos} (F : ExcBaseFacts B newId initId bmB) (q : PySem.W.excIn X.K C bmB newId = true) (gC : X.mg x = some (.ref C))
    (kC : PySem.W.keepIn X.K (.ref C) = true) (r : Raises X (.ref C)) (hg : Gl X x) (hdb : (x == ("__debug__" : Str)) = false := by decide) :
    PMk X (.Call (.Name x p) [] [] pos) (fun σ H Q => Q (.ref C) none H) := by
  intro pins s σ H Q I h
  refine wpAny_Call_Name_kw (ld_glob I hg gC ?_ hdb)
  refine PySem.W.callWith_K0 I.kIn kC ?_
  show wpAny _ _ (call (.ref C) []) _ _ _
  obtain ⟨bm, N, nm, qn, bs, hdct, sn, sub, ab, col, dd, k0, k1, k2, k3, k5, mN, hC, hN, hni, T⟩ := exc_obj I.kIn q
  refine wpAny_call_exc_subT F T hC hN hni (fun h' e hm => ?_) (Nat.zero_le _)
  exact mk_of I hm r h (I.hok.gone hm.new)
def sRaise (i : Nat) : S → RS := fun s => .raise (.mk i []) s
/-- what an own exception class without an __init__ must have -/
structure Exc0 (K : PySem.W.Frag) (T : Tb) (mg : Str → Option Value) (x : Str) (i : Nat) : Prop where
  ex : ∃ (C : Addr) (bmB : List Value) (B newId initId : String), T.exc i = some C ∧ mg x = some (.ref C) ∧ ExcBaseFacts B newId initId bmB ∧ PySem.W.excIn K C bmB newId = true ∧ PySem.W.keepIn K (.ref C) = true ∧
    PySem.W.subIn K (.ref C) (.type "BaseException") = some true ∧ PySem.W.typeIn K (.ref C) = some (.type "type")
theorem js_raise (i : Nat) {x : Str} {p : Pos} (hc : X.calm = true) (h : Exc0 X.K T X.mg x i) (hg : Gl X x) (hdb : (x == ("__debug__" : Str)) = false := by decide) : JS T X Γ F (.Raise (some (.Call (.Name x p) [] [] pos')) none pos) (sRaise i) := by
  obtain ⟨C, bmB, B, newId, initId, hT, gC, Fc, q, kC, b, t⟩ := h.ex
  refine ⟨fun W tk => PS.imp (L2.ps_raise hc tk (pmk_own0 Fc q gC kC (raises_own b t) hg hdb)) fun E σ H ⟨Bs, g, st, I, p⟩ => ?_⟩
  exact p _ none σ H _ (.frz I.wf) I.toSR.frzAll ⟨C, hT, rfl, .inl ⟨rfl, rfl⟩⟩
end

/-! ### what a def promises -/
inductive RF where
  | ok (d : D) (m : List Cell) | raise (e : Ex) (m : List Cell) | stuck
abbrev MF := List D → List Cell → RF
def spOf (K : PySem.W.Frag) (T : Tb) (n : Nat) (rm : Mo) (mf : MF) : Sp := fun vs H Q E => ∃ ds m g, ds.length = n ∧ WF g H ∧ (∀ i, g.fp i = []) ∧ Rps K T g H ds vs ∧ MR K T g H m ∧ match mf ds m with
  | .ok d m' => ∀ v H' g', Step g H g' H' → WF g' H' → (∀ i, g'.fp i = []) → MR K T g' H' m' → RpM K T g' H H' rm d v → Q v H'
  | .raise e m' => ∀ cls dd H' g', Step g H g' H' → WF g' H' → (∀ i, g'.fp i = []) → MR K T g' H' m' → ExR K T g' H' e cls dd → E cls dd H'
  | .stuck => False
/-- a body as a function -/
def mkF (n : Nat) (q : S → RS) : MF := fun ds m => match q ⟨ds.map some ++ List.replicate (n - ds.length) none, m⟩ with
  | .next s => .ok .non s.m
  | .ret d s => .ok d s.m
  | .raise e s => .raise e s.m
  | _ => .stuck
/-- a def of the module, callable -/
structure Cal (P : Program) (w : World) (K : PySem.W.Frag) (mg : Str → Option Value) (base : Heap) (T : Tb) (x : Str) (k n : Nat) (rm : Mo) (mf : MF) : Prop where
  ex : ∃ f fd ps, FnOk P w K mg base (L2.CX P w) k f fd ps (spOf K T n rm mf) ∧ mg x = some (.ref f) ∧ PySem.W.keepIn K (.ref f) = true ∧ Binds K fd ps []
section
variable {K : PySem.W.Frag} {T : Tb} {g g' : Gh} {H H' : Hp} {Γ : Fls} {σ : L2.St} {st : S} {W : WX} {Q : VK} {m : Mo}
theorem ExR.drop {e : Ex} {cls : Value} {dd : Option Addr} (h : ExR K T g H e cls dd) : ExR K T ⟨g.A, fun _ => [], g.mu⟩ H e cls dd := by
  cases e with
  | mk i fs =>
    obtain ⟨C, h1, h2, h3⟩ := h
    refine ⟨C, h1, h2, ?_⟩
    rcases h3 with h3 | ⟨ne, dx, vs, e1, e2, r, l⟩
    · exact .inl h3
    · exact .inr ⟨ne, dx, vs, e1, e2, r.sub .drop, l⟩
theorem start_get (N : List Str) (vs : List V) (ds : List D) (hl : vs.length = ds.length) (i : Nat) (hi : i < (L2.start N vs).length) (P : Option V → Option D → Prop) (hn : P none none) (hs : ∀ v d, vs[i]? = some v → ds[i]? = some d → P (some v) (some d)) :
    P ((L2.start N vs).getD i none) ((ds.map some ++ List.replicate (N.length - ds.length) none).getD i none) := by
  unfold L2.start at hi ⊢
  rw [← hl]
  by_cases h : i < vs.length
  · rw [List.getD_eq_getElem?_getD, List.getElem?_append_left (by simpa using h), List.getD_eq_getElem?_getD, List.getElem?_append_left (by simpa using (hl ▸ h)), List.getElem?_map, List.getElem?_map]
    have h' : i < ds.length := hl ▸ h
    rw [List.getElem?_eq_getElem h, List.getElem?_eq_getElem h']
    exact hs _ _ (List.getElem?_eq_getElem h) (List.getElem?_eq_getElem h')
  · rw [List.getD_eq_getElem?_getD, List.getElem?_append_right (by simpa using Nat.le_of_not_lt h), List.getD_eq_getElem?_getD, List.getElem?_append_right (by simpa using Nat.le_of_not_lt (hl ▸ h)), List.getElem?_replicate, List.getElem?_replicate]
    have e1 : (if i - (vs.map some).length < N.length - vs.length then some (none : Option V) else none).getD none = none := by split <;> rfl
    have e2 : (if i - (ds.map some).length < N.length - vs.length then some (none : Option D) else none).getD none = none := by split <;> rfl
    rw [e1, e2]
    exact hn
end
section
variable {P : Program} {w : World} {K : PySem.W.Frag} {mg : Str → Option Value} {base : Heap} {T : Tb}
/-- THE RULE for a def -/
theorem fn_mk {x qual : Str} {st : Stmt} {f : Addr} {fd : FuncData} {N ps : List Str} {k n : Nat} {rm : Mo} {q : S → RS} {Γ' : Fls} (F : Fun K x qual st f fd) (Sc : FnScope N ps (defScope st)) (hps : ps.length = n) (hle : n ≤ N.length)
    (hb : ∀ (cdv : Value) (A : Around) (outer : List Env) (s : Shared) (H : Hp) (E : XK), Room k (A.deeper (envOfC qual (defScope st) s.heap.objs.size f cdv)) →
      PassesOwn (model P w) (cxOf (L2.CX P w) P w K mg base N qual (defScope st) f cdv A outer s H E).A (cxOf (L2.CX P w) P w K mg base N qual (defScope st) f cdv A outer s H E).env (cxOf (L2.CX P w) P w K mg base N qual (defScope st) f cdv A outer s H E).xe →
      JSs T (cxOf (L2.CX P w) P w K mg base N qual (defScope st) f cdv A outer s H E) [] ⟨Γ', [], rm⟩ (defBody st) q) :
    FnOk P w K mg base (L2.CX P w) (k + 1) f fd ps (spOf K T n rm (mkF N.length q)) := by
  refine F.okX Sc (fun vs H Q E h => ?_) (fun cdv A outer s H vs Q E hr h => ?_)
  · obtain ⟨ds, m, g, h1, _, _, h2, _⟩ := h
    rw [h2.length, h1, hps]
  · obtain ⟨ds, m, g, hl, wf, hfp, rps, mr, hq⟩ := h
    refine ⟨_, (hb cdv A outer s H E hr (passes_of rfl)).run (fun cls d _ H' => E cls d H') (takes_of rfl rfl rfl rfl), ?_⟩
    have len := rps.length
    have I : SR K T [] g (L2.start N vs) H ⟨ds.map some ++ List.replicate (N.length - ds.length) none, m⟩ := ⟨wf, by
      unfold L2.start
      simp only [List.length_append, List.length_map, List.length_replicate, len], fun i hi => by
      refine start_get N vs ds len i hi (fun v d => SlR K T g H i (fl [] i) v d) True.intro fun v d e1 e2 => ?_
      obtain ⟨v', e3, r⟩ := rps.get e2
      rw [e1] at e3
      cases e3
      exact r, mr⟩
    refine ⟨⟨g, H⟩, g, _, ⟨I, .refl g H, hfp⟩, ?_⟩
    unfold mkF at hq
    cases e : q ⟨ds.map some ++ List.replicate (N.length - ds.length) none, m⟩ with
    | next s' =>
      rw [e] at hq
      exact fun σ' H' g' s2 I2 => hq _ H' ⟨g'.A, fun _ => [], g'.mu⟩ (s2.trans .drop) I2.wf.drop (fun _ => rfl) I2.me.drop rm_non
    | ret d s' =>
      rw [e] at hq
      exact hq
    | raise ex s' =>
      rw [e] at hq
      exact fun cls dd σ' H' g' s2 I2 x => hq cls dd H' ⟨g'.A, fun _ => [], g'.mu⟩ (s2.trans .drop) I2.wf.drop (fun _ => rfl) I2.me.drop x.drop
    | brk _ => rw [e] at hq; exact hq.elim
    | cont _ => rw [e] at hq; exact hq.elim
    | stuck => rw [e] at hq; exact hq.elim
end
end DL

set_option linter.all false
set_option Elab.async false
set_option maxRecDepth 100000
namespace DL
open PySem PySem.Spec PyProof.Rows L2

/-! ### calls -/
def callR (r : RF) (s : S) : R D := match r with
  | .ok d m => .ok d ⟨s.r, m⟩
  | .raise e m => .raise e ⟨s.r, m⟩
  | .stuck => .stuck
def eCall (mf : MF) (fs : S → R (List D)) : S → R D := fun st => (fs st).bind fun ds s => callR (mf ds s.m) s
/-- what a caller owns, behind a call -/
def Gh.back (g : Gh) (fp : Nat → List Addr) : Gh := ⟨g.A, fp, g.mu⟩
section
variable {K : PySem.W.Frag} {T : Tb} {g g' : Gh} {H H' : Hp} {Γ : Fls} {σ : L2.St} {st : S} {W : WX} {Q : VK} {m : Mo}
theorem Sub.back {fp : Nat → List Addr} : Sub g H (g.back fp) H := ⟨fun _ h => h, fun _ _ _ h => h, fun _ _ h _ => h, List.prefix_refl _⟩
abbrev Gh.dr (g : Gh) : Gh := ⟨g.A, fun _ => [], g.mu⟩
theorem own_dr {b : Addr} (h : g.dr.Own b) : b ∈ g.mu := by
  rcases h with ⟨_, h⟩ | h
  · cases h
  · exact h
theorem back_own (hfp : ∀ i, g'.fp i = []) {b : Addr} {fp : Nat → List Addr} (h : (g'.back fp).Own b) : (∃ i, b ∈ fp i) ∨ g'.Own b := by
  rcases h with h | h
  · exact .inl h
  · exact .inr (.inr h)
theorem QStep.back (w : WF g H) (s : Step g.dr H g' H') (hfp : ∀ i, g'.fp i = []) : QStep g H (g'.back g.fp) H' where
  aa := s.aa
  an := fun b h => by
    rcases s.an b h with h | h | h
    · exact .inl h
    · exact .inr (.inl (.inr (own_dr h)))
    · exact .inr (.inr h)
  on := fun b h => by
    rcases back_own hfp h with h | h
    · exact .inl (.inl h)
    · rcases s.on b h with h | h
      · exact .inl (.inr (own_dr h))
      · exact .inr h
  fr := fun b o h n => s.fr b o h fun q => n (.inr (own_dr q))
  im := s.im
  tr := s.tr
  mu := s.mu
  qf := rfl
  qo := fun i b hb => by
    obtain ⟨o, e, _⟩ := w.ot b (.inl ⟨i, hb⟩)
    rw [s.fr b o e fun q => w.fm i b hb (own_dr q), e]
theorem WF.back (w : WF g H) (s : Step g.dr H g' H') (w' : WF g' H') (hfp : ∀ i, g'.fp i = []) : WF (g'.back g.fp) H' where
  ta := w'.ta
  ot := fun b h => by
    rcases back_own hfp h with ⟨i, h⟩ | h
    · obtain ⟨o, e, im⟩ := w.ot b (.inl ⟨i, h⟩)
      exact ⟨o, s.fr b o e fun q => w.fm i b h (own_dr q), im⟩
    · exact w'.ot b h
  ao := fun b h q => by
    rcases back_own hfp q with ⟨i, q⟩ | q
    · rcases s.an b h with h | h | h
      · exact w.ao b h (.inl ⟨i, q⟩)
      · exact w.fm i b q (own_dr h)
      · obtain ⟨o, e, _⟩ := w.ot b (.inl ⟨i, q⟩)
        rw [h] at e
        cases e
    · exact w'.ao b h q
  nf := w.nf
  df := w.df
  fm := fun i b h q => by
    rcases s.on b (.inr q) with z | z
    · exact w.fm i b h (own_dr z)
    · obtain ⟨o, e, _⟩ := w.ot b (.inl ⟨i, h⟩)
      rw [z] at e
      cases e
  nm := w'.nm
theorem RpM.back (hm : m = .sh ∨ m = .f1 ∨ m = .f2) {H0 : Hp} {d : D} {v : V} (w : WF g H0) (hfp : ∀ i, g'.fp i = []) (h : RpM K T g' H0 H' m d v) : RpM K T (g'.back g.fp) H0 H' m d v := by
  have fr : ∀ {a : Addr}, Fresh g' H0 a → Fresh (g'.back g.fp) H0 a := fun {a} f => ⟨f.1, fun q => by
    rcases back_own hfp q with ⟨i, q⟩ | q
    · obtain ⟨o, e, _⟩ := w.ot a (.inl ⟨i, q⟩)
      rw [f.2.2] at e
      cases e
    · exact f.2.1 q, f.2.2⟩
  rcases hm with rfl | rfl | rfl
  · exact Rp.sub .back h
  · cases d with
    | lst ds =>
      obtain ⟨a, vs, e, h1, h2, h3⟩ := h
      exact ⟨a, vs, e, h1, fr h2, h3.sub .back⟩
    | _ => exact Rp.sub .back h
  · cases d with
    | lst ds =>
      obtain ⟨a, bs, dss, e, e2, h1, nd, h2, h3⟩ := h
      exact ⟨a, bs, dss, e, e2, h1, nd, fun b hb => fr (h2 b hb), h3.sub .back fun _ _ => rfl⟩
    | _ => exact Rp.sub .back h
theorem ExR.back {fp : Nat → List Addr} {e : Ex} {cls : Value} {dd : Option Addr} (h : ExR K T g H e cls dd) : ExR K T (g.back fp) H e cls dd := by
  cases e with
  | mk i fs =>
    obtain ⟨C, h1, h2, h3⟩ := h
    refine ⟨C, h1, h2, ?_⟩
    rcases h3 with h3 | ⟨ne, dx, vs, e1, e2, r, l⟩
    · exact .inl h3
    · exact .inr ⟨ne, dx, vs, e1, e2, r.sub .back, l⟩
/-- a callee's promise from the caller's wish -/
theorem sp_of {n : Nat} {mf : MF} {ds : List D} {vs : List V} (hm : m = .sh ∨ m = .f1 ∨ m = .f2) (I : SR K T Γ g σ H st) (r : Rps K T g H ds vs) (hl : ds.length = n) (p : PostE K T Γ σ g H m W Q (callR (mf ds st.m) st)) : spOf K T n m mf vs H Q (WE W σ) := by
  refine ⟨ds, st.m, g.dr, hl, I.wf.drop, fun _ => rfl, r.sub .drop, I.me.drop, ?_⟩
  cases e : mf ds st.m with
  | ok d m' =>
    rw [e] at p
    intro v H' g' s w' hfp me rv
    have w2 := I.wf.back s w' hfp
    have qs := QStep.back I.wf s hfp
    exact p v H' _ qs (I.re (qs.toStep.sub I.wf) w2 rfl qs.qo (me.sub .back rfl fun _ _ => rfl)) (RpM.back hm I.wf hfp rv)
  | raise ex m' =>
    rw [e] at p
    intro cls dd H' g' s w' hfp me x
    have w2 := I.wf.back s w' hfp
    have qs := QStep.back I.wf s hfp
    have I2 := I.re (qs.toStep.sub I.wf) w2 rfl qs.qo (me.sub .back rfl fun _ _ => rfl)
    refine p cls dd H' _ (qs.toStep.trans (.frz I2.wf (p := fun _ => true))) I2.frzAll ?_
    cases ex with
    | mk i fs =>
      obtain ⟨C, h1, h2, h3⟩ := x
      refine ⟨C, h1, h2, ?_⟩
      rcases h3 with h3 | ⟨ne, dx, vs, e1, e2, r, l⟩
      · exact .inl h3
      · exact .inr ⟨ne, dx, vs, e1, e2, (r.sub .back).sub (g' := (g'.back g.fp).frz fun _ => true) ⟨fun _ h => Or.inl h, fun _ _ _ h => h, fun _ _ h _ => h, List.prefix_refl _⟩, l⟩
  | stuck => rw [e] at p; exact p.elim
end
section
variable {T : Tb} {X : Cx} {Γ Γ' : Fls} {F : Fx} {e a b c tg iter : Expr} {m m1 m2 m3 : Mo} {f f1 f2 f3 : S → R D} {pos p2 pos' : Pos} {es rest : List Expr} {k1 k2 : S → R Bool} {fs fi : S → R (List D)} {t : Tg} {s1 s2 : Stmt} {ss ss2 : List Stmt} {q q1 q2 : S → RS} {k n : Nat} {mf : MF}
def eCallN (n : Nat) (mf : MF) (fs : S → R (List D)) : S → R D := fun st => (fs st).bind fun ds s => if ds.length = n then callR (mf ds s.m) s else .stuck
theorem je_call {x : Str} {p : Pos} (C : Cal X.prog X.w X.K X.mg X.base T x k n m mf) {k0 : Nat} (hr : Room k0 X.A) (hk : k ≤ k0) (hg : Gl X x) (ha : JA T X Γ (e :: es) fs) (hm : m = .sh ∨ m = .f1 ∨ m = .f2 := by first | exact .inl rfl | exact .inr (.inl rfl) | exact .inr (.inr rfl)) (hdb : (x == ("__debug__" : Str)) = false := by decide)
    (he : starEach (e :: es) X.env = (false, eval e X.env) :: starEach es X.env := by rfl) (hpl : (backTo pos (starEach es X.env)).any (·.1) = false := by rfl) : JE T X Γ (.Call (.Name x p) (e :: es) [] pos) m (eCallN n mf fs) := by
  obtain ⟨fa, fd, ps, Fn, hmg, kp, hb⟩ := C.ex
  refine ⟨fun W tk => PE.imp (pe_callS (E := WE W) Fn (hr.mono hk) hg hmg kp hb (passAt tk) (ha.run W tk) hdb he hpl) fun σ H Q ⟨g, st, I, p⟩ => ?_⟩
  refine ta_bind ipE I p fun ds s1 vs H1 g1 q1 I1 r1 p1 => ?_
  split at p1
  · rename_i hl
    exact sp_of hm I1 r1 hl p1
  · exact p1.elim
theorem je_call0 {x : Str} {p : Pos} (C : Cal X.prog X.w X.K X.mg X.base T x k 0 m mf) {k0 : Nat} (hr : Room k0 X.A) (hk : k ≤ k0) (hg : Gl X x) (hm : m = .sh ∨ m = .f1 ∨ m = .f2 := by first | exact .inl rfl | exact .inr (.inl rfl) | exact .inr (.inr rfl)) (hdb : (x == ("__debug__" : Str)) = false := by decide) :
    JE T X Γ (.Call (.Name x p) [] [] pos) m (eCallN 0 mf aNil) := by
  obtain ⟨fa, fd, ps, Fn, hmg, kp, hb⟩ := C.ex
  refine ⟨fun W tk => ⟨fun pins s σ H Q I h => ?_⟩⟩
  obtain ⟨g, st, Is, p⟩ := h
  refine wpAny_Call_Name_kw (ld_glob I hg hmg ?_ hdb)
  refine PySem.W.callWith_K0 I.kIn kp ?_
  exact run_fnS (E := WE W) (us := []) (vs := []) Fn (hr.mono hk) hb (passAt tk σ) I .nil (sp_of hm Is Rps.nil rfl p)
/-- the defs that are held as values -/
structure Tab (P : Program) (w : World) (K : PySem.W.Frag) (mg : Str → Option Value) (base : Heap) (T : Tb) (k : Nat) (ar : Nat → Nat) (mfs : Nat → MF) : Prop where
  at_ : ∀ j f, T.fn j = some f → ∃ fd ps, FnOk P w K mg base (L2.CX P w) k f fd ps (spOf K T (ar j) .sh (mfs j)) ∧ PySem.W.keepIn K (.ref f) = true ∧ Binds K fd ps []
def eCallV (i : Nat) (ar : Nat → Nat) (mfs : Nat → MF) (fs : S → R (List D)) : S → R D := fun st => match st.r.getD i none with
  | some (.fn j) => (fs st).bind fun ds s => if ds.length = ar j then callR (mfs j ds s.m) s else .stuck
  | _ => .stuck
theorem je_callV (i : Nat) {x : Str} {p : Pos} {ar : Nat → Nat} {mfs : Nat → MF} (C : Tab X.prog X.w X.K X.mg X.base T k ar mfs) {k0 : Nat} (hr : Room k0 X.A) (hk : k ≤ k0) (ha : JA T X Γ (e :: es) fs) (hf : fl Γ i = .sh := by rfl) (hN : X.N[i]? = some x := by rfl) (hv : Vis X.env.scope x := by first | exact Or.inl rfl | exact Or.inr (Or.inl rfl) | exact Or.inr (Or.inr rfl))
    (hd : (x == ("__debug__" : Str)) = false := by decide) (hcd : (x == ("__classdict__" : Str)) = false := by decide)
    (he : starEach (e :: es) X.env = (false, eval e X.env) :: starEach es X.env := by rfl) (hpl : (backTo pos (starEach es X.env)).any (·.1) = false := by rfl) : JE T X Γ (.Call (.Name x p) (e :: es) [] pos) .sh (eCallV i ar mfs fs) := by
  refine ⟨fun W tk => ⟨fun pins s σ H Q I h => ?_⟩⟩
  obtain ⟨g, st, Is, po⟩ := h
  unfold eCallV at po
  cases e0 : st.r.getD i none with
  | none => rw [e0] at po; exact po.elim
  | some d =>
    rw [e0] at po
    cases d with
    | fn j =>
      obtain ⟨v, h1, h2⟩ := Is.slot e0
      rw [hf] at h2
      simp only [SlR, Rp] at h2
      obtain ⟨fa, ev, hT⟩ := h2
      subst ev
      obtain ⟨fd, ps, Fn, kp, hb⟩ := C.at_ j fa hT
      refine wpAny_Call_Name_kw (thn ((pe_var (pos := p) hN hv hd hcd).run pins s σ H (fun v H1 => v = .ref fa ∧ H1 = H) I ⟨.ref fa, h1, rfl, rfl⟩) fun u s1 ⟨v, H1, I1, r1, q1⟩ => ?_)
      obtain ⟨rfl, rfl⟩ := q1
      cases r1
      have rd : ta X.K T Γ W fs σ H1 (fun vs H2 => spOf X.K T (ar j) .sh (mfs j) vs H2 Q (WE W σ)) := by
        refine ta_bind ipE Is po fun ds s1 vs H1 g1 q1 I1 r1 p1 => ?_
        split at p1
        · rename_i hl
          exact sp_of (.inl rfl) I1 r1 hl p1
        · exact p1.elim
      refine PySem.W.callWith_K (h₀ := X.base) I.ok.mod.kin kp (thn ((ha.run W tk).run pos pins s1 σ _ _ I1 rd) fun us s2 ⟨vs, H2, I2, r, q⟩ => ⟨I2.kIn, ?_⟩) he hpl
      exact run_fnS (E := WE W) Fn (hr.mono hk) hb (passAt tk σ) I2 r q
    | _ => exact po.elim
end
end DL

set_option linter.all false
set_option Elab.async false
set_option maxRecDepth 100000
set_option maxHeartbeats 2000000
namespace DL
open PySem PySem.Spec PyProof.Rows L2

/-! ### several except clauses, with or without a name -/
abbrev Sui := Addr → Value → Option Addr → TS
/-- the ends of a suite whose name is forgotten behind it -/
def endsFree (o : Option Nat) (D : Ends) : Ends := match o with
  | none => D
  | some i => ⟨fun τ G => D.nx (τ.set i none) G, D.rt, fun τ G => D.bk (τ.set i none) G, fun τ G => D.ct (τ.set i none) G⟩
def withName (o : Option Nat) (a : Addr) (τ : L2.St) : L2.St := match o with
  | none => τ
  | some i => τ.set i (some (.ref a))
def wCl (K : PySem.W.Frag) (Wo : WX) (D : Ends) : List (Value × Option Nat × Sui) → WX
  | [] => Wo
  | (c, o, u) :: r => fun cls d τ G => ∃ b, PySem.W.exmOne K cls c = some b ∧ (b = true → ∀ a, G a = none → u a cls d (endsFree o D) (withName o a τ) G) ∧ (b = false → wCl K Wo D r cls d τ G)
inductive Cls (X : Cx) : List ExceptHandler → List (Value × Option Nat × Sui) → Prop
  | nil : Cls X [] []
  | anon {x : Str} {c : Value} {u : Sui} {b₀ : Stmt} {suite : List Stmt} {np p' : Pos} {hds : List ExceptHandler} {l : List (Value × Option Nat × Sui)} (hc : Names X x c)
      (su : ∀ a oe cls d pn, Zc cls d oe → (∃ vs, oe.data = .fields vs) → PSs (X.suite a ((a, oe) :: pn)) (b₀ :: suite) (u a cls d)) (r : Cls X hds l) :
      Cls X (.ExceptHandler (some (.Name x np)) none (b₀ :: suite) p' :: hds) ((c, none, u) :: l)
  | named {x n : Str} {i : Nat} {c : Value} {u : Sui} {b₀ : Stmt} {suite : List Stmt} {np p' : Pos} {hds : List ExceptHandler} {l : List (Value × Option Nat × Sui)} (hc : Names X x c) (hi : X.N[i]? = some n) (hk : X.env.kindOf n = some .local)
      (su : ∀ a oe cls d pn, Zc cls d oe → (∃ vs, oe.data = .fields vs) → PSs (X.suite a ((a, oe) :: pn)) (b₀ :: suite) (u a cls d)) (r : Cls X hds l) :
      Cls X (.ExceptHandler (some (.Name x np)) (some n) (b₀ :: suite) p' :: hds) ((c, some i, u) :: l)
section
variable {X : Cx} {body : List Stmt} {h₀ : ExceptHandler} {hds : List ExceptHandler} {l : List (Value × Option Nat × Sui)} {pos : Pos} {tb : WX → TS} {Wo : WX}
theorem no_frame {B h : Heap} {fr : List Env} {a : Addr} {o : Obj} {vs : Array Value} (ff : h.FunFrames B fr) (e : h.get? a = some o) (dd : o.data = .fields vs) : a ∉ frs fr := by
  intro hm
  obtain ⟨_, o', e', hnf⟩ := ff.mem hm
  rw [e] at e'
  cases e'
  exact hnf _ dd
theorem ps_tryC (hs : X.stack = X.env :: X.outer) (hf : X.env.frame = some X.env.locals) (hN : X.N.Nodup) (tk : Takes X Wo)
    (hb : ∀ (W : WX) (pn : List (Addr × Obj)) (xe : Value → Shared → Prop), Takes (X.tr pn xe) W → PassesOwn (model X.prog X.w) X.A X.env xe → PSs (X.tr pn xe) body (tb W))
    (hh : Cls X (h₀ :: hds) l) : PS X (.Try body (h₀ :: hds) [] [] pos) (fun D σ H => tb (wCl X.K Wo D l) D σ H) := by
  refine ⟨fun pins s σ H D I h => ?_⟩
  have ok := I.ok
  have frm : X.A.frames = some (X.env :: X.outer) := by rw [ok.frames, hs]
  refine wpAny_Try_except (wpAny_mono ((hb (wCl X.K Wo D l) (X.pn ++ pins) (fun e s₁ => wpAny (model X.prog X.w) X.A (noteFrame e X.env) (fun _ s₂ => wpAny (model X.prog X.w) X.A (setFlight e none) (fun _ s₃ =>
    wpAny (model X.prog X.w) X.A (handleBy e X.env (h₀ :: hds)) (SP X pins D) X.xe s₃) X.xe s₂) X.xe s₁) (fun u z xx => ?_) PassesOwn.looking).run [] s σ H D (I.toTry _) h) (fun f z hz => ?_) fun _ _ q => q)
  · obtain ⟨a, B, si, pi, τ, G, cls, d, rfl, Jt, nb, up, sky, na, os, ag, w⟩ := xx
    have J : Inv X pins τ G si := Jt.ofTry ok
    rw [show (X.tr (X.pn ++ pins) _).stack = X.env :: X.outer from hs] at sky
    refine Sky.land Zc.steady frm hf sky fun h3 fl3 up3 => ?_
    have J3 : Inv X pins τ G { z with heap := h3 } := J.landed nb fl3.1 (up.trans up3) os ag
    obtain ⟨o3, v3, g3, z3, d3⟩ := fl3.there
    have out := no_frame fl3.2.2.1 g3 d3
    have nL : a ≠ X.env.locals := fun q => out (List.mem_filterMap.mpr ⟨X.env, List.mem_cons_self, by rw [hf, q]⟩)
    have nF : a ∉ X.fs := fun hm => by
      obtain ⟨e, he, q⟩ := List.mem_filterMap.mp hm
      exact out (List.mem_filterMap.mpr ⟨e, List.mem_cons_of_mem _ he, q⟩)
    have T3 := J3.suite g3 d3 na nL nF
    have look : PySem.W.Looks (model X.prog X.w) h3 (typeOf (.ref a)) cls := fun A Q E s k q => wpAny_typeOf_ref (k _ _ g3) (by rw [z3.1]; exact q)
    have test : ∀ {x : Str} {np : Pos} {c : Value} {Q E : Value → Shared → Prop}, Names X x c → Q c { z with heap := h3 } → wpAny (model X.prog X.w) (X.A.mark (some (.ref a))) (eval (.Name x np) X.env) Q E { z with heap := h3 } := by
      intro x np c Q E hc q
      obtain ⟨hg, db, hm | ⟨hm, hv, nn⟩⟩ := hc
      · exact ld_glob (X := X.suite a ((a, o3) :: (X.pn ++ pins))) T3 hg hm q db
      · exact ld_blt (X := X.suite a ((a, o3) :: (X.pn ++ pins))) T3 hg hm hv q nn db
    have run : ∀ {ks : List ExceptHandler} {l' : List (Value × Option Nat × Sui)}, Cls X ks l' → wCl X.K Wo D l' cls d τ G → wpAny (model X.prog X.w) X.A (handleBy (.ref a) X.env ks) (SP X pins D) X.xe { z with heap := h3 } := by
      intro ks l' hk
      induction hk with
      | nil =>
        intro w
        refine wpAny_handleBy_nil ?_
        obtain ⟨k1, k2, k3, oe, vs, TT, oT, tt', he, hz, hd, h1, hr⟩ := id fl3
        unfold PySem.passOn
        refine wpAny_bind (wpAny_field he hd h1 ?_)
        rw [if_neg (show ¬ ((Value.ref TT == Value.none) = true) from by simp)]
        have fin : wpAny (model X.prog X.w) X.A (setFlight (.ref a) X.env.frame) (fun _ s4 => wpAny (model X.prog X.w) X.A (throw (.ref a) : Sem Flow) (SP X pins D) X.xe s4) X.xe { z with heap := h3 } := by
          rw [hf]
          refine HandSPX.setFlight_upZ fl3 fun h4 q4 up4 => wpAny_throw (tk _ _ ?_)
          exact ⟨a, B, si, pins, τ, G, cls, d, rfl, J, nb, (up.trans up3).trans up4, .inr (.inr (by rw [hs]; exact q4)), na, os, ag, w⟩
        first
          | exact wpAny_bind (wpAny_pure (wpAny_bind fin))
          | exact wpAny_bind fin
      | anon hc su r ih =>
        intro w
        obtain ⟨b, hb1, yes, no⟩ := w
        have LM := PySem.W.exm_one (M := model X.prog X.w) (J3.kIn) look hb1
        refine wpAny_handleBy_cons (codeAny_handlers_test (test hc (LM.here ?_))) (by intro q; cases q)
        cases b with
        | true =>
          refine codeAny_handlers_suite (HandSPX.lands_againZ fl3 fun h4 fl4 up4 => ?_)
          have J4 : Inv X pins τ G { z with heap := h4 } := J.landed nb fl4.1 ((up.trans up3).trans up4) os ag
          obtain ⟨o4, v4, g4, z4, d4⟩ := fl4.there
          refine wpAny_mono ((su a o4 cls d (X.pn ++ pins) z4 ⟨_, d4⟩).run [] _ _ G _ (J4.suite g4 d4 na nL nF) (yes rfl a na)) (fun f s6 hsp => ?_) (fun _ _ q => False.elim q)
          cases f with
          | next => exact let ⟨τ6, G6, S6, q6⟩ := hsp; ⟨τ6, G6, S6.unsuite ok, q6⟩
          | brk => exact let ⟨τ6, G6, S6, q6⟩ := hsp; ⟨τ6, G6, S6.unsuite ok, q6⟩
          | cont => exact let ⟨τ6, G6, S6, q6⟩ := hsp; ⟨τ6, G6, S6.unsuite ok, q6⟩
          | ret u => exact let ⟨v6, τ6, G6, S6, r6, q6⟩ := hsp; ⟨v6, τ6, G6, S6.unsuite ok, r6, q6⟩
        | false => exact ih (no rfl)
      | @named x n i c u b₀ suite np p' hds l hc hi hk su r ih =>
        intro w
        obtain ⟨b, hb1, yes, no⟩ := w
        have LM := PySem.W.exm_one (M := model X.prog X.w) (J3.kIn) look hb1
        refine wpAny_handleBy_cons (codeAny_handlers_test (test hc (LM.here ?_))) (by intro q; cases q)
        cases b with
        | true =>
          refine codeAny_handlers_suite_as (HandSPX.lands_againZ fl3 fun h4 fl4 up4 => ?_)
          have J4 : Inv X pins τ G { z with heap := h4 } := J.landed nb fl4.1 ((up.trans up3).trans up4) os ag
          obtain ⟨o4, v4, g4, z4, d4⟩ := fl4.there
          refine store_ok (X := X.suite a ((a, o4) :: (X.pn ++ pins))) (v := .ref a) (J4.suite g4 d4 na nL nF) hN hi (.inl hk) rfl (fun s5 S5 => ?_) (.inr hk)
          refine wpAny_mono ((su a o4 cls d (X.pn ++ pins) z4 ⟨_, d4⟩).run [] s5 _ G _ S5 (yes rfl a na)) (fun f s6 hsp => ?_) (fun _ _ q => False.elim q)
          have fin : ∀ {τ6 : L2.St} {G6 : Hp} {Q : Shared → Prop}, Inv (X.suite a ((a, o4) :: (X.pn ++ pins))) [] τ6 G6 s6 → (∀ s7, Inv X pins (τ6.set i none) G6 s7 → Q s7) →
              wpAny (model X.prog X.w) X.A (do bindName X.env n .none; unbindBehindTheSuite X.env n p') (fun _ s7 => Q s7) X.xe s6 := fun S6 hq => gone_ok (S6.unsuite ok) hN hi hk hq
          cases f with
          | next => exact let ⟨τ6, G6, S6, q6⟩ := hsp; fin S6 fun s7 J7 => ⟨_, _, J7, q6⟩
          | brk => exact let ⟨τ6, G6, S6, q6⟩ := hsp; fin S6 fun s7 J7 => ⟨_, _, J7, q6⟩
          | cont => exact let ⟨τ6, G6, S6, q6⟩ := hsp; fin S6 fun s7 J7 => ⟨_, _, J7, q6⟩
          | ret u => exact let ⟨v6, τ6, G6, S6, r6, q6⟩ := hsp; fin S6 fun s7 J7 => ⟨_, _, _, J7, r6, q6⟩
        | false => exact ih (no rfl)
    exact run hh w
  · cases f with
    | next => exact let ⟨τ, G, J, q⟩ := hz; wpAny_execs_nil ⟨τ, G, J.ofTry ok, q⟩
    | brk => exact let ⟨τ, G, J, q⟩ := hz; ⟨τ, G, J.ofTry ok, q⟩
    | cont => exact let ⟨τ, G, J, q⟩ := hz; ⟨τ, G, J.ofTry ok, q⟩
    | ret u => exact let ⟨v, τ, G, J, r, q⟩ := hz; ⟨v, τ, G, J.ofTry ok, r, q⟩
end

/-! ### try in the plain semantics -/
def Ex.ix : Ex → Nat
  | .mk i _ => i
def noRaise : RS → RS
  | .raise _ _ => .stuck
  | r => r
def hNil : Ex → S → RS := fun e s => .raise e s
def hAnon (cm : Nat → Bool) (q : S → RS) (r : Ex → S → RS) : Ex → S → RS := fun e s => if cm e.ix then noRaise (q s) else r e s
/-- except .. as n: c = [txt, isinstance(n, ..)] -/
def hSay (cm : Nat → Bool) (i c : Nat) (txt : Str) (b : Bool) (r : Ex → S → RS) : Ex → S → RS := fun e s => if cm e.ix then (match e with
  | .mk _ [] => if i < s.r.length then .next { s with r := ((s.r.set c (some (.lst [.str txt, .bl b])))).set i none } else .stuck
  | _ => .stuck) else r e s
def sTry (q : S → RS) (h : Ex → S → RS) : S → RS := fun s => match q s with
  | .raise e s' => h e s'
  | r => r
/-- whom a clause catches -/
structure Cat (X : Cx) (T : Tb) (x : Str) (cm : Nat → Bool) where
  c : Value
  nm : Names X x c
  cm : ∀ j C, T.exc j = some C → PySem.W.exmOne X.K (.ref C) c = some (cm j)
structure JHs (T : Tb) (X : Cx) (F : Fx) (hds : List ExceptHandler) (q : Ex → S → RS) : Prop where
  ex : ∃ l, Cls X hds l ∧ ∀ (W : WX) (B : Bs) (g : Gh) (σ : L2.St) (H : Hp) (st : S) (e : Ex) (cls : Value) (dd : Option Addr) (E : Ends), SB X.K T [] B g σ H st → ExR X.K T g H e cls dd → PostS X.K T F B g H W E (q e st) → wCl X.K W E l cls dd σ H
section
variable {T : Tb} {X : Cx} {Γ Γ' : Fls} {F : Fx} {pos p1 p2 p3 p4 p5 p6 p7 : Pos} {ss : List Stmt} {s1 : Stmt} {q1 : S → RS} {q2 r : Ex → S → RS} {hds : List ExceptHandler} {h₀ : ExceptHandler} {nx lp : Fls} {rm : Mo}
theorem jh_nil : JHs T X F [] hNil := ⟨[], .nil, fun W B g σ H st e cls dd E I x p => p cls dd σ H g (.refl g H) I.toSR x⟩
theorem PostS.noR {K : PySem.W.Frag} {B : Bs} {g : Gh} {H : Hp} {W : WX} {E : Ends} {r : RS} (h : PostS K T F B g H W E (noRaise r)) : PostS K T F B g H (fun _ _ _ _ => False) E r := by
  cases r with
  | raise e s => exact h.elim
  | next s => exact h
  | brk s => exact h
  | cont s => exact h
  | ret d s => exact h
  | stuck => exact h
theorem jh_anon {x : Str} {cm : Nat → Bool} {q : S → RS} (C : Cat X T x cm) (hs : ∀ a pn, JSs T (X.suite a pn) [] F (s1 :: ss) q) (hr : JHs T X F hds r) : JHs T X F (.ExceptHandler (some (.Name x p1)) none (s1 :: ss) p2 :: hds) (hAnon cm q r) := by
  obtain ⟨l, cl, go⟩ := hr.ex
  refine ⟨_, .anon (u := fun _ _ _ => ts X.K T [] F (fun _ _ _ _ => False) q) C.nm (fun a oe cls d pn _ _ => (hs a ((a, oe) :: pn)).run (fun _ _ _ _ => False) takes_none5) cl, fun W B g σ H st e cls dd E I x p => ?_⟩
  cases e with
  | mk j fs =>
    have x' := x
    obtain ⟨C', hC, rfl, _⟩ := x'
    unfold hAnon at p
    refine ⟨cm j, C.cm j C' hC, fun hb a ha => ?_, fun hb => ?_⟩
    · rw [show (Ex.mk j fs).ix = j from rfl, hb] at p
      exact ⟨B, g, st, I, p.noR⟩
    · rw [show (Ex.mk j fs).ix = j from rfl, hb] at p
      exact go W B g σ H st _ _ dd E I x p
/-- c = [txt, isinstance(n, t)] in a suite -/
def tSay (K : PySem.W.Frag) (i c : Nat) (txt : Str) (b : Bool) (t : String) (a : Addr) (cls : Value) (d : Option Addr) : TS := fun E σ H =>
  σ[i]? = some (some (.ref a)) ∧ d = none ∧ (∃ C, cls = .ref C ∧ ExcC K C ∧ PySem.W.kitOne K (.ref C) (.type t) = some b) ∧ ∀ p, H p = none → E.nx (σ.set c (some (.ref p))) (upd H p (.lst [.str txt, .bl b]))
theorem su_say (i c : Nat) {n y tx xi : Str} {b : Bool} {t : String} {ki : Nat} {a : Addr} {oe : Obj} {cls : Value} {d : Option Addr} {pn : List (Addr × Obj)} (hN : X.N.Nodup) (hi : X.N[i]? = some n) (hv : Vis X.env.scope n) (hc : X.N[c]? = some y) (hx : Loc X.env.scope y) (hf : X.fn y = true ∨ X.env.scope.names.lookup y = some .local)
    (hd : (n == ("__debug__" : Str)) = false) (hcd : (n == ("__classdict__" : Str)) = false) (hx0 : xi = "isinstance") (hg : Gl X xi) (hm : X.mg xi = none) (hg' : Gl X (.ofString t)) (hm' : X.mg (.ofString t) = none) (hv' : bootBuiltins (.ofString t) = some (.type t)) (hn' : (.ofString t : Str) ≠ "__name__") (hdb : ((.ofString t : Str) == ("__debug__" : Str)) = false)
    (st1 : starEach [.Constant (.str tx) ki p1, .Call (.Name xi p2) [.Name n p3, .Name (.ofString t) p4] [] p5] X.env = (false, eval (.Constant (.str tx) ki p1) X.env) :: starEach [.Call (.Name xi p2) [.Name n p3, .Name (.ofString t) p4] [] p5] X.env)
    (st2 : starEach [.Call (.Name xi p2) [.Name n p3, .Name (.ofString t) p4] [] p5] X.env = (false, eval (.Call (.Name xi p2) [.Name n p3, .Name (.ofString t) p4] [] p5) X.env) :: starEach [] X.env)
    (st3 : starEach [.Name n p3, .Name (.ofString t) p4] X.env = (false, eval (.Name n p3) X.env) :: starEach [.Name (.ofString t) p4] X.env) (st4 : starEach [.Name (.ofString t) p4] X.env = (false, eval (.Name (.ofString t) p4) X.env) :: starEach [] X.env)
    (hpl : (backTo p5 (starEach [.Name (.ofString t) p4] X.env)).any (·.1) = false)
    (hz : Zc cls d oe) (hv2 : ∃ vs, oe.data = .fields vs)
    (hsw : swapsWith (.List [.Constant (.str tx) ki p1, .Call (.Name xi p2) [.Name n p3, .Name (.ofString t) p4] [] p5] p6) (some (.Name y p7)) pos.line X.env = pure false) :
    PSs (X.suite a ((a, oe) :: pn)) [.Assign [.Name y p7] (.List [.Constant (.str tx) ki p1, .Call (.Name xi p2) [.Name n p3, .Name (.ofString t) p4] [] p5] p6) pos] (tSay X.K i c tx b t a cls d) := by
  subst hx0
  refine ⟨fun pins s σ H E I h => ?_⟩
  obtain ⟨h1, rfl, ⟨C, rfl, ec, kk⟩, h4⟩ := h
  have e0 := call_isE (X := X) (a := a) (pn := pn) ec hz hv2
  have e1 := pe_callB (X := X.suite a ((a, oe) :: pn)) (p := p2) (pos := p5) e0 hg hm (by decide +kernel) (pa_cons (pe_var (pos := p3) hi hv hd hcd) (pa_cons (pe_bltn (pos := p4) (v := .ty t) hg' hm' hv' rfl hn' hdb) pa_nil st4) st3) (by decide) (by decide) st3 hpl
  have e2 := ps_set (X := X.suite a ((a, oe) :: pn)) (pos := pos) (pos' := p7) hN hc hx (pe_lst (pos := p6) (pa_cons pe_str (pa_cons e1 pa_nil st2) st1)) hsw hf
  refine (pss_one e2).run pins s σ H E I ?_
  refine ⟨_, h1, .ty t, .type t, b, rfl, fun u hu => by cases hu; rfl, kk, by show 2 ≤ sizeLine; decide, fun p' hp => h4 p' hp⟩
/-- what isinstance tells of the caught ones -/
structure SayR (K : PySem.W.Frag) (T : Tb) (cm : Nat → Bool) (t : String) (b : Bool) : Prop where
  ok : ∀ j C, T.exc j = some C → cm j = true → ExcC K C ∧ PySem.W.kitOne K (.ref C) (.type t) = some b
theorem jh_say (i c : Nat) (b : Bool) (t : String) {x n y tx xi : Str} {ki : Nat} {cm : Nat → Bool} (C : Cat X T x cm) (Sa : SayR X.K T cm t b) (hr : JHs T X ⟨[], lp, rm⟩ hds r) (hN : X.N.Nodup) (hi : X.N[i]? = some n := by rfl) (hk : X.env.kindOf n = some .local := by rfl)
    (hv : Vis X.env.scope n := by first | exact Or.inl rfl | exact Or.inr (Or.inl rfl) | exact Or.inr (Or.inr rfl)) (hc : X.N[c]? = some y := by rfl) (hx : Loc X.env.scope y := by first | exact Or.inl rfl | exact Or.inr rfl) (hf : X.fn y = true ∨ X.env.scope.names.lookup y = some .local := by first | exact .inl rfl | exact .inr rfl | assumption)
    (hd : (n == ("__debug__" : Str)) = false := by decide) (hcd : (n == ("__classdict__" : Str)) = false := by decide) (hx0 : xi = "isinstance" := by rfl) (hg : Gl X xi := by rfl) (hm : X.mg xi = none := by first | rfl | assumption) (hg' : Gl X (.ofString t) := by rfl) (hm' : X.mg (.ofString t) = none := by first | rfl | assumption) (hv' : bootBuiltins (.ofString t) = some (.type t) := by decide +kernel)
    (hn' : (.ofString t : Str) ≠ "__name__" := by decide) (hdb : ((.ofString t : Str) == ("__debug__" : Str)) = false := by decide) (hic : i ≠ c := by decide)
    (st1 : starEach [.Constant (.str tx) ki p1, .Call (.Name xi p2) [.Name n p3, .Name (.ofString t) p4] [] p5] X.env = (false, eval (.Constant (.str tx) ki p1) X.env) :: starEach [.Call (.Name xi p2) [.Name n p3, .Name (.ofString t) p4] [] p5] X.env := by rfl)
    (st2 : starEach [.Call (.Name xi p2) [.Name n p3, .Name (.ofString t) p4] [] p5] X.env = (false, eval (.Call (.Name xi p2) [.Name n p3, .Name (.ofString t) p4] [] p5) X.env) :: starEach [] X.env := by rfl)
    (st3 : starEach [.Name n p3, .Name (.ofString t) p4] X.env = (false, eval (.Name n p3) X.env) :: starEach [.Name (.ofString t) p4] X.env := by rfl) (st4 : starEach [.Name (.ofString t) p4] X.env = (false, eval (.Name (.ofString t) p4) X.env) :: starEach [] X.env := by rfl)
    (hpl : (backTo p5 (starEach [.Name (.ofString t) p4] X.env)).any (·.1) = false := by rfl)
    (hsw : swapsWith (.List [.Constant (.str tx) ki p1, .Call (.Name xi p2) [.Name n p3, .Name (.ofString t) p4] [] p5] p6) (some (.Name y p7)) pos.line X.env = pure false := by rfl) {np p8 : Pos} :
    JHs T X ⟨[], lp, rm⟩ (.ExceptHandler (some (.Name x np)) (some n) [.Assign [.Name y p7] (.List [.Constant (.str tx) ki p1, .Call (.Name xi p2) [.Name n p3, .Name (.ofString t) p4] [] p5] p6) pos] p8 :: hds) (hSay cm i c tx b r) := by
  obtain ⟨l, cl, go⟩ := hr.ex
  refine ⟨_, .named C.nm hi hk (fun a oe cls d pn hz hv2 => su_say (b := b) i c hN hi hv hc hx hf hd hcd hx0 hg hm hg' hm' hv' hn' hdb st1 st2 st3 st4 hpl hz hv2 hsw) cl, fun W B g σ H st e cls dd E I x p => ?_⟩
  cases e with
  | mk j fs =>
    have x' := x
    obtain ⟨C', hC, rfl, x2⟩ := x'
    unfold hSay at p
    refine ⟨cm j, C.cm j C' hC, fun hb a ha => ?_, fun hb => ?_⟩
    · rw [show (Ex.mk j fs).ix = j from rfl, hb, if_pos rfl] at p
      cases fs with
      | cons f fs => exact p.elim
      | nil =>
        have hdn : dd = none := by
          rcases x2 with ⟨_, h⟩ | ⟨ne, _⟩
          · exact h
          · exact absurd rfl ne
        obtain ⟨k1, k2⟩ := Sa.ok j C' hC hb
        dsimp only at p
        split at p
        case isFalse => exact p.elim
        rename_i li
        rw [← I.len] at li
        refine ⟨by simp [withName, li], hdn, ⟨C', rfl, k1, k2⟩, fun q hq => ?_⟩
        have I2 := (I.toSR.new (o := .lst [.str tx, .bl b]) hq).add upd_same (I.wf.noto hq)
        have st1 : Step g H (g.add q) (upd H q (.lst [.str tx, .bl b])) := (Step.new hq).add hq
        have I3 := I2.set (i := c) (d := .lst [.str tx, .bl b]) (v := .ref q) rfl (by
          simp only [Rp]
          exact ⟨q, _, rfl, .inr rfl, upd_same, Rps.cons rp_str (Rps.cons rp_bl Rps.nil)⟩)
        have I4 := I3.wipe (vs := [i]) fun _ _ => rfl
        refine p _ _ _ st1 ?_
        have es : ((withName (some i) a σ).set c (some (.ref q))).set i none = L2.wipe (σ.set c (some (.ref q))) [i] := by
          show ((σ.set i (some (.ref a))).set c (some (.ref q))).set i none = ((σ.set c (some (.ref q))).set i none)
          rw [List.set_comm _ _ hic, List.set_set, List.set_comm _ _ hic.symm]
        rw [es]
        exact I4
    · rw [show (Ex.mk j fs).ix = j from rfl, hb] at p
      exact go W B g σ H st _ _ dd E I x p

/-- a clause that catches none of the exceptions that the program raises -/
theorem jh_not {x n : Str} {o : Option Str} {s1 : Stmt} {ss : List Stmt} (i : Nat) (C : Cat X T x fun _ => false) (hr : JHs T X F hds r) (ho : o = some n) (hi : X.N[i]? = some n := by rfl) (hk : X.env.kindOf n = some .local := by rfl) : JHs T X F (.ExceptHandler (some (.Name x p1)) o (s1 :: ss) p2 :: hds) r := by
  subst ho
  obtain ⟨l, cl, go⟩ := hr.ex
  refine ⟨_, .named (u := fun _ _ _ _ _ _ => False) C.nm hi hk (fun a oe cls d pn _ _ => ⟨fun _ _ _ _ _ _ h => h.elim⟩) cl, fun W B g σ H st e cls dd E I x p => ?_⟩
  cases e with
  | mk j fs =>
    have x' := x
    obtain ⟨C', hC, rfl, _⟩ := x'
    exact ⟨false, C.cm j C' hC, fun hb => (by cases hb), fun _ => go W B g σ H st _ _ dd E I x p⟩
theorem js_try (hs : X.stack = X.env :: X.outer) (hf : X.env.frame = some X.env.locals) (hN : X.N.Nodup) (hb : ∀ pn xe, PassesOwn (model X.prog X.w) X.A X.env xe → JSs T (X.tr pn xe) Γ F ss q1) (hh : JHs T X F (h₀ :: hds) q2) : JS T X Γ F (.Try ss (h₀ :: hds) [] [] pos) (sTry q1 q2) := by
  obtain ⟨l, cl, go⟩ := hh.ex
  refine ⟨fun W tk => PS.imp (ps_tryC hs hf hN tk (tb := fun W => ts X.K T Γ F W q1) (fun W' pn xe tk' hp => (hb pn xe hp).run W' tk') cl) fun E σ H ⟨B, g, st, I, p⟩ => ⟨B, g, st, I, ?_⟩⟩
  unfold sTry at p
  cases e : q1 st with
  | raise ex s' =>
    rw [e] at p
    intro cls dd σ' H' g' s1 I1 x
    exact go W B g' σ' H' s' ex cls dd E (I.go s1 I1) x (p.shift s1)
  | next s => rw [e] at p; exact p
  | brk s => rw [e] at p; exact p
  | cont s => rw [e] at p; exact p
  | ret d s => rw [e] at p; exact p
  | stuck => rw [e] at p; exact p
end
end DL

set_option linter.all false
set_option Elab.async false
set_option maxRecDepth 100000
namespace DL
open PySem PySem.Spec PyProof.Rows L2

/-! ### small helps for printed proofs -/
instance flDec : DecidableEq Fl := fun a b => match a, b with
  | .sh, .sh => isTrue rfl
  | .o1, .o1 => isTrue rfl
  | .o2, .o2 => isTrue rfl
  | .sh, .o1 => isFalse fun h => Fl.noConfusion h
  | .sh, .o2 => isFalse fun h => Fl.noConfusion h
  | .o1, .sh => isFalse fun h => Fl.noConfusion h
  | .o1, .o2 => isFalse fun h => Fl.noConfusion h
  | .o2, .sh => isFalse fun h => Fl.noConfusion h
  | .o2, .o1 => isFalse fun h => Fl.noConfusion h
theorem fl_out {Γ : Fls} {n i : Nat} (h : Γ.length ≤ n) (hi : n ≤ i) : fl Γ i = .sh := by
  unfold fl
  rw [List.getD_eq_getElem?_getD, List.getElem?_eq_none (by omega)]
  rfl
theorem flz_of (n : Nat) {Γ Γ' : Fls} {p : Nat → Bool} (h : ∀ i, i < n → fl Γ' i = if p i = true then .sh else fl Γ i) (h1 : Γ.length ≤ n) (h2 : Γ'.length ≤ n) : ∀ i, fl Γ' i = if p i = true then .sh else fl Γ i := by
  intro i
  by_cases hi : i < n
  · exact h i hi
  · rw [fl_out h2 (by omega), fl_out h1 (by omega)]
    split <;> rfl
theorem flf_of (n : Nat) {Γ Γ' : Fls} {i : Nat} {f : Fl} (h : ∀ j, j < n → fl Γ' j = if j = i then f else fl Γ j) (h1 : Γ.length ≤ n) (h2 : Γ'.length ≤ n) (hi : i < n) : ∀ j, fl Γ' j = if j = i then f else fl Γ j := by
  intro j
  by_cases hj : j < n
  · exact h j hj
  · rw [fl_out h2 (by omega), fl_out h1 (by omega), if_neg (by omega)]
theorem hu64 {k : Nat} {A : Around} (r : Room k A) : A.units + 64 < cLine := by
  have := r.un
  omega
def FnF (K : PySem.W.Frag) (mg : Str → Option Value) (x : Str) (st : Stmt) (ps : List Str) : Prop := ∃ f fd, Fun K x x st f fd ∧ Binds K fd ps [] ∧ mg x = some (.ref f)
def ConF (K : PySem.W.Frag) (mg : Str → Option Value) (T : Tb) (x : Str) (d : D) : Prop := ∃ (v : V) (u : Value), mg x = some u ∧ RelV v u ∧ ∀ g H, Rp K T g H d v
def CatF (K : PySem.W.Frag) (T : Tb) (mg : Str → Option Value) (x : Str) (cm : Nat → Bool) : Prop := ∃ C, mg x = some (.ref C) ∧ ∀ j C', T.exc j = some C' → PySem.W.exmOne K (.ref C') (.ref C) = some (cm j)
theorem con_int {K : PySem.W.Frag} {mg : Str → Option Value} {T : Tb} {x : Str} {n : Int} {t : Nat} (h : mg x = some (.int n t)) : ConF K mg T x (.int n) := ⟨.int n, _, h, ⟨_, rfl⟩, fun _ _ => rp_int⟩
section
variable {P : Program} {w : World} {K : PySem.W.Frag} {mg : Str → Option Value} {base : Heap} {T : Tb} {k : Nat} {f : Addr} {fd : FuncData} {ps : List Str} {n : Nat} {rm : Mo}
theorem fn_never : FnOk P w K mg base (L2.CX P w) k f fd ps (spOf K T n rm fun _ _ => .stuck) :=
  ⟨fun _ _ _ _ ⟨_, _, _, _, _, _, _, _, h⟩ => h.elim, fun _ _ _ _ _ _ _ _ _ _ _ _ _ ⟨_, _, _, _, _, _, _, _, h⟩ => h.elim⟩
end
theorem cat_of {X : Cx} {T : Tb} {x : Str} {cm : Nat → Bool} (h : CatF X.K T X.mg x cm) (hg : Gl X x) (hd : (x == ("__debug__" : Str)) = false) : Nonempty (Cat X T x cm) :=
  let ⟨C, h1, h2⟩ := h
  ⟨⟨.ref C, ⟨hg, hd, .inl h1⟩, h2⟩⟩
section
variable {T : Tb} {X : Cx} {Γ Γ' : Fls} {F : Fx} {e a b c tg iter : Expr} {m m1 m2 m3 : Mo} {f f1 f2 f3 : S → R D} {pos p2 pos' : Pos} {nx lp : Fls} {rm : Mo}
def augD : D → D → S → R D := fun d e s => match d, e with | .int i, .int j => .ok (.int (i + j)) s | _, _ => .stuck
def sPar3 (i j k : Nat) (f1 f2 f3 : S → R D) : S → RS := fun s => (f1 s).then fun d1 s1 => (f2 s1).then fun d2 s2 => (f3 s2).then fun d3 s3 => .next { s3 with r := ((s3.r.set i (some d1)).set j (some d2)).set k (some d3) }
theorem js_par3 (i j l : Nat) {x y z : Str} {px py pz pt : Pos} {kt k2 pt2} (hc : X.calm = true) (hN : X.N.Nodup) (ha : JE T X Γ a .sh f1) (hb : JE T X Γ b .sh f2) (hcc : JE T X Γ c .sh f3) (hi : X.N[i]? = some x := by rfl) (hj : X.N[j]? = some y := by rfl) (hl : X.N[l]? = some z := by rfl) (hij : i ≠ j := by decide) (hil : i ≠ l := by decide) (hjl : j ≠ l := by decide)
    (hx : X.env.scope.names.lookup x = some .local := by rfl) (hy : X.env.scope.names.lookup y = some .local := by rfl) (hz : X.env.scope.names.lookup z = some .local := by rfl) (hΓ : fl Γ i = .sh := by rfl) (hΓ' : fl Γ j = .sh := by rfl) (hΓ2 : fl Γ l = .sh := by rfl)
    (hw : swappedStores [.Tuple [.Name x px, .Name y py, .Name z pz] kt pt] (.Tuple [a, b, c] k2 pt2) X.env = pure (some [x, y, z]) := by rfl) (hs : swapsWithSole [.Tuple [.Name x px, .Name y py, .Name z pz] kt pt] (.Tuple [a, b, c] k2 pt2) pos.line X.env = pure false := by rfl)
    (hst : starEach [a, b, c] X.env = (false, eval a X.env) :: starEach [b, c] X.env := by rfl) (hst2 : starEach [b, c] X.env = (false, eval b X.env) :: starEach [c] X.env := by rfl) (hst3 : starEach [c] X.env = (false, eval c X.env) :: starEach [] X.env := by rfl) :
    JS T X Γ ⟨Γ, lp, rm⟩ (.Assign [.Tuple [.Name x px, .Name y py, .Name z pz] kt pt] (.Tuple [a, b, c] k2 pt2) pos) (sPar3 i j l f1 f2 f3) := by
  refine ⟨fun W tk => PS.imp (ps_par3 hc hN hi hj hl hij hil hjl hx hy hz (pa_cons (ha.run W tk) (pa_cons (hb.run W tk) (pa_cons (hcc.run W tk) pa_nil hst3) hst2) hst) hw hs) fun E σ H ⟨B, g, st, I, p⟩ => ?_⟩
  refine te_then I.toSR p fun d1 s1 v H1 g1 q1 I1 r1 p1 => te_then I1 p1 fun d2 s2 w H2 g2 q2 I2 r2 p2 => te_then I2 p2 fun d3 s3 u H3 g3 q3 I3 r3 p3 => ?_
  have r1' : Rp X.K T g2 H2 d1 v := Rp.step I1.wf q2.toStep r1
  exact ⟨v, w, u, rfl, p3 _ H3 g3 (.refl g3 H3) (((I3.set hΓ (Rp.step I2.wf q3.toStep r1')).set hΓ' (Rp.step I2.wf q3.toStep r2)).set hΓ2 r3)⟩
end
section
variable {T : Tb} {X : Cx} {Γ : Fls} {pos : Pos}
theorem je_fnZ (i : Nat) {x : Str} (hg : Gl X x) (h : ∃ fa, X.mg x = some (.ref fa) ∧ T.fn i = some fa) (hd : (x == ("__debug__" : Str)) = false := by decide) : JE T X Γ (.Name x pos) .sh (eC (.fn i)) :=
  let ⟨_, h1, h2⟩ := h
  je_fn i hg h1 h2 hd
theorem je_conZ (d : D) {x : Str} (hg : Gl X x) (h : ConF X.K X.mg T x d) (hd : (x == ("__debug__" : Str)) = false := by decide) : JE T X Γ (.Name x pos) .sh (eC d) :=
  let ⟨_, _, h1, h2, h3⟩ := h
  je_glob d hg h1 h2 h3 hd
end
def blkB (N : List Str) (sc scope : Scope) (own : List (Str × Nat)) : Bool :=
  decide (scope.kind = .function) && (scope.names.all fun y => decide (scope.names.lookup y.1 = some y.2)) && (own.all fun p => decide (N[p.2]? = some p.1)) &&
    (scope.names.all fun y => decide (y.2 = .free → sc.names.lookup y.1 = some .cell ∨ sc.names.lookup y.1 = some .free)) && (scope.names.all fun y => decide (y.2 = .local ∨ y.2 = .cell → y.1 ∈ own.map (·.1) ∨ y.1 ∉ N))
theorem blk_of {N : List Str} {sc scope : Scope} {own : List (Str × Nat)} (h : blkB N sc scope own = true) : BlkOk N sc scope own := by
  unfold blkB at h
  simp only [Bool.and_eq_true, List.all_eq_true, decide_eq_true_eq] at h
  obtain ⟨⟨⟨⟨h1, h2⟩, h3⟩, h4⟩, h5⟩ := h
  exact ⟨h1, h2, h3, h4, h5⟩
end DL

set_option linter.all false
set_option Elab.async false
set_option maxRecDepth 100000
namespace DL
open PySem PySem.Spec PyProof.Rows L2

/-! ### the end of a law -/
def spLaw (K : PySem.W.Frag) : Sp := fun vs H Q _ => ∃ (a : Addr) (ns : List Int), vs = [.ref a] ∧ SqL K H a (ns.map V.int) ∧ ns.length ≤ 63 ∧ (∀ z ∈ ns, Builtin.Int.intBits z ≤ 1048576) ∧ ∀ H', Q (.bl true) H'
def LawTrue (mf : MF) : Prop := ∀ ns : List Int, ns.length ≤ 63 → (∀ z ∈ ns, Builtin.Int.intBits z ≤ 1048576) → ∃ m', mf [.scr ns] [] = .ok (.bl true) m'
theorem spLaw_of {K : PySem.W.Frag} {T : Tb} {mf : MF} (h : LawTrue mf) (vs : List V) (H : Hp) (Q : VK) (E : XK) (s : spLaw K vs H Q E) : spOf K T 1 .sh mf vs H Q E := by
  obtain ⟨a, ns, rfl, hS, hl, hb, q⟩ := s
  obtain ⟨m', e⟩ := h ns hl hb
  have rp : Rp K T ⟨fun b => b = a ∧ ∃ o, H b = some o, fun _ => [], []⟩ H (.scr ns) (.ref a) := by
    simp only [Rp]
    refine ⟨a, rfl, ?_⟩
    rcases hS with (h1 | h1) | h1
    · exact .inl ⟨⟨rfl, _, h1⟩, h1⟩
    · exact .inr (.inl h1)
    · exact .inr (.inr h1)
  refine ⟨[.scr ns], [], ⟨fun b => b = a ∧ ∃ o, H b = some o, fun _ => [], []⟩, rfl, ⟨fun b hb => hb.2, fun b ho => ?_, fun b _ ho => ?_, fun i => List.nodup_nil, fun i j b hi => (by cases hi), fun i b hi => (by cases hi), List.nodup_nil⟩, fun _ => rfl, .one rp, ⟨rfl, fun n c a h => (by simp at h)⟩, ?_⟩
  · rcases ho with ⟨i, h⟩ | h <;> cases h
  · rcases ho with ⟨i, h⟩ | h <;> cases h
  · rw [e]
    intro v H' g' _ _ _ _ r
    have ev : v = .bl true := by simpa [RpM, Rp] using r
    subst ev
    exact q H'
theorem cx_none {P : Program} {w : World} {H : Hp} {s s' : Shared} {e : Value} (h : L2.CX P w [] H s (fun _ _ _ => False) e s') : False := by
  obtain ⟨_, _, _, _, _, _, _, _, _, _, _, _, z⟩ := h
  exact z
theorem bits_B {ns : List Int} (h : ∀ z ∈ ns, Builtin.Int.intBits z ≤ 1048576) : ∃ B : Nat, (∀ y : Nat, y ≤ 8192 * B → y.log2 < 90000000) ∧ ∀ z ∈ ns, z.natAbs ≤ B := by
  refine ⟨2 ^ 1048576, fun y hy => ?_, fun z hz => ?_⟩
  · by_cases h0 : y = 0
    · rw [h0]
      decide
    · have h1 : y < 2 ^ 1048590 := by
        refine Nat.lt_of_le_of_lt hy ?_
        rw [show (8192 : Nat) = 2 ^ 13 by decide, ← Nat.pow_add]
        exact Nat.pow_lt_pow_right (by decide) (by decide)
      exact Nat.lt_of_lt_of_le ((Nat.log2_lt h0).2 h1) (by decide)
  · have := h z hz
    unfold Builtin.Int.intBits at this
    split at this
    · rename_i e
      have e' : z = 0 := by simpa using e
      rw [e']
      exact Nat.zero_le _
    · rename_i e
      have e' : z.natAbs ≠ 0 := by
        have : z ≠ 0 := by simpa using e
        omega
      exact Nat.le_of_lt ((Nat.log2_lt e').1 (by omega))
section
variable {K : PySem.W.Frag} {T : Tb} {mg : Str → Option Value} {h : Heap} {x : Str}
theorem fnF_mk {st : Stmt} {ps : List Str} {f : Addr} {od an : Option Addr} {sl : Array (Option Value)} {oc kV dc pm cd ct : Value} (X : K.In h) (G : h.Ns mainGlobals mg) (a : PySem.W.nsIn K mainGlobals x = some (some (.ref f)))
    (l : K.lookup f = some ⟨oc, od, .func (PySem.W.fnOf x x (defArgs st) (defBody st) (defScope st) .none kV dc pm an cd ct), sl⟩) (c : PySem.W.codeIn K cd x = true) (k : PySem.W.keepIn K (.ref f) = true)
    (hb : ∀ (kV doc pm : Value) (an : Option Addr) (cdv ct : Value) (us : List Value), us.length = ps.length → bindArgs (PySem.W.fnOf x x (defArgs st) (defBody st) (defScope st) .none kV doc pm an cdv ct) ⟨us, []⟩ = pure (ps.zip us)) : FnF K mg x st ps :=
  ⟨_, _, fun_mk l c k, (fun_mk l c k).binds hb, PySem.W.mg_of X G a⟩
theorem con_i {n : Int} {t : Nat} (X : K.In h) (G : h.Ns mainGlobals mg) (a : PySem.W.nsIn K mainGlobals x = some (some (.int n t))) : ConF K mg T x (.int n) := con_int (PySem.W.mg_of X G a)
theorem con_t2 {p q : Int} {t u n : Nat} {f : Addr} {od : Option Addr} {sl : Array (Option Value)} (X : K.In h) (G : h.Ns mainGlobals mg) (a : PySem.W.nsIn K mainGlobals x = some (some (.ref f))) (l : K.lookup f = some ⟨.type "tuple", od, .seq #[.int p t, .int q u] n, sl⟩) : ConF K mg T x (.tup [.int p, .int q]) :=
  ⟨.ref f, _, PySem.W.mg_of X G a, rfl, fun g H => by
    simp only [Rp]
    exact ⟨f, [.int p, .int q], rfl, .inr ⟨_, _, _, l, rfl, rfl, by show 2 ≤ sizeLine; decide, .cons ⟨_, rfl⟩ (.cons ⟨_, rfl⟩ .nil)⟩, Rps.cons rp_int (Rps.cons rp_int Rps.nil)⟩⟩
theorem exc0_mk {i : Nat} {C : Addr} (X : K.In h) (G : h.Ns mainGlobals mg) (a : PySem.W.nsIn K mainGlobals x = some (some (.ref C))) (hT : T.exc i = some C) (q : PySem.W.excIn K C [.type "ValueError", .type "Exception", .type "BaseException", .type "object"] "ValueError.__new__" = true)
    (k : PySem.W.keepIn K (.ref C) = true) (s : PySem.W.subIn K (.ref C) (.type "BaseException") = some true) (t : PySem.W.typeIn K (.ref C) = some (.type "type")) : Exc0 K T mg x i :=
  ⟨C, _, _, _, _, hT, PySem.W.mg_of X G a, PySem.F.excBase_ValueError, q, k, s, t⟩
theorem tab_one {P : Program} {w : World} {base : Heap} {j k k' n : Nat} {mf : MF} {f : Addr} (h1 : ∃ f, mg x = some (.ref f) ∧ T.fn j = some f) (h2 : T.fn j = some f) (C : Cal P w K mg base T x k n .sh mf) (hk : k ≤ k') :
    ∃ fd ps, FnOk P w K mg base (L2.CX P w) k' f fd ps (spOf K T n .sh mf) ∧ PySem.W.keepIn K (.ref f) = true ∧ Binds K fd ps [] := by
  obtain ⟨f1, g1, e1⟩ := h1
  obtain ⟨f2, fd, ps, F, g2, kp, b⟩ := C.ex
  have z1 : f1 = f := Option.some.inj (e1.symm.trans h2)
  have z2 : f2 = f := by
    have := g2.symm.trans g1
    rw [z1] at this
    cases this
    rfl
  subst z2
  exact ⟨fd, ps, F.mono hk, kp, b⟩
end
end DL

set_option linter.all false
set_option Elab.async false
set_option maxRecDepth 100000
namespace DL
open PySem PySem.Spec PyProof.Rows L2

/-! ### a new cell -/
section
variable {K : PySem.W.Frag} {T : Tb} {g g' g0 : Gh} {H H' H0 : Hp} {Γ Γ' : Fls} {σ : L2.St} {st : S}
theorem more_own {a b : Addr} (h : (g.more a).Own b) : g.Own b ∨ b = a := by
  rcases h with h | h
  · exact .inl (.inl h)
  · rcases List.mem_append.mp h with h | h
    · exact .inl (.inr h)
    · exact .inr (by simpa using h)
theorem Sub.more {a : Addr} : Sub g H (g.more a) H := ⟨fun _ h => h, fun _ _ _ h => h, fun _ _ h _ => h, List.prefix_append _ _⟩
theorem Step.more {a : Addr} (s : Step g0 H0 g H) (hn : H0 a = none) : Step g0 H0 (g.more a) H := ⟨s.aa, s.an, fun b h => by
  rcases more_own h with h | h
  · exact s.on b h
  · rw [h]
    exact .inr hn, s.fr, s.im, s.tr, s.mu.trans (List.prefix_append _ _)⟩
theorem SR.more {a : Addr} {o : HO} {c : Cell} (I : SR K T Γ g σ H st) (h1 : H a = some o) (hi : imo o = false) (hA : ¬ g.A a) (hO : ¬ g.Own a) (hc : CellR K T (g.more a) H a c) : SR K T Γ (g.more a) σ H { st with m := st.m ++ [c] } := by
  have u : Sub g H (g.more a) H := .more
  have wf : WF (g.more a) H := ⟨I.wf.ta, fun b h => by
    rcases more_own h with h | h
    · exact I.wf.ot b h
    · rw [h]
      exact ⟨_, h1, hi⟩, fun b h q => by
    rcases more_own q with q | q
    · exact I.wf.ao b h q
    · rw [q] at h
      exact hA h, I.wf.nf, I.wf.df, fun j b h q => by
    rcases List.mem_append.mp q with q | q
    · exact I.wf.fm j b h q
    · have : b = a := by simpa using q
      rw [this] at h
      exact hO (.inl ⟨j, h⟩), by
    rw [show (g.more a).mu = g.mu ++ [a] from rfl, List.nodup_append]
    refine ⟨I.wf.nm, by simp, fun x hx y hy => ?_⟩
    have : y = a := by simpa using hy
    rw [this]
    rintro rfl
    exact hO (.inr hx)⟩
  refine I.re u wf rfl (fun _ _ _ => rfl) ⟨by
    show (g.mu ++ [a]).length = _
    rw [List.length_append, List.length_append, I.me.len]
    rfl, fun n c' b e1 e2 => ?_⟩
  have e2' : (g.mu ++ [a])[n]? = some b := e2
  by_cases hn : n < st.m.length
  · rw [List.getElem?_append_left hn] at e1
    rw [List.getElem?_append_left (by rw [I.me.len]; exact hn)] at e2'
    exact CellR.sub u rfl (I.me.at_ n c' b e1 e2')
  · rw [List.getElem?_append_right (by omega)] at e1
    rw [List.getElem?_append_right (by rw [I.me.len]; omega)] at e2'
    rw [I.me.len] at e2'
    cases hk : n - st.m.length with
    | zero =>
      rw [hk] at e1 e2'
      cases e1
      cases e2'
      exact hc
    | succ k =>
      rw [hk] at e1
      simp at e1
theorem ref_more {a : Addr} (I : SR K T Γ g σ H st) : Rp K T (g.more a) H (.ref st.m.length) (.ref a) := by
  simp only [Rp]
  refine ⟨a, rfl, ?_⟩
  show (g.mu ++ [a])[st.m.length]? = some a
  rw [List.getElem?_append_right (by rw [I.me.len]; exact Nat.le_refl _), I.me.len, Nat.sub_self]
  rfl
/-- a fresh object becomes a cell, as an expression's value -/
theorem post_cell {m : Mo} {W : WX} {Q : VK} {p : Addr} {o : HO} {c : Cell} (I : SR K T Γ g σ H st) (hp : H p = none) (hi : imo o = false) (hc : CellR K T (g.more p) (upd H p o) p c) (q : PostE K T Γ σ g H .sh W Q (.ok (.ref st.m.length) { st with m := st.m ++ [c] })) : Q (.ref p) (upd H p o) := by
  have I1 := I.new (o := o) hp
  refine q _ _ (g.more p) ⟨(Step.new hp).more hp, rfl, fun i b hb => ?_⟩ (I1.more upd_same hi (I.wf.nota hp) (I.wf.noto hp) hc) (ref_more I1)
  obtain ⟨o', e, _⟩ := I.wf.ot b (.inl ⟨i, hb⟩)
  rw [upd_ne (ne_of_none e hp)]
/-- a cell written -/
theorem SR.put {n : Nat} {ad : Addr} {o o' : HO} {c : Cell} (I : SR K T Γ g σ H st) (ha : g.mu[n]? = some ad) (hH : H ad = some o) (hi : imm o = false) (hi' : imo o' = false) (hc : CellR K T g (upd H ad o') ad c) :
    Step g H g (upd H ad o') ∧ SR K T Γ g σ (upd H ad o') { st with m := st.m.set n c } := by
  have hm : ad ∈ g.mu := List.mem_of_getElem? ha
  have own : g.Own ad := .inr hm
  have s : Step g H g (upd H ad o') := ⟨fun _ h => h, fun _ h => .inl h, fun _ h => .inl h, fun b u h n => by
    rw [upd_ne fun z => n (by rw [z]; exact own)]
    exact h, fun b u h im => by
    rw [upd_ne fun z => ?_]
    · exact h
    · rw [z, hH] at h
      cases h
      rw [hi] at im
      exact absurd im (by simp), fun b h => by
    by_cases e : b = ad
    · rw [e, upd_same] at h
      cases h
    · rw [upd_ne e] at h
      exact h, List.prefix_refl _⟩
  have wf : WF g (upd H ad o') := ⟨fun b h => by
    by_cases e : b = ad
    · exact ⟨_, by rw [e, upd_same]⟩
    · rw [upd_ne e]
      exact I.wf.ta b h, fun b h => by
    by_cases e : b = ad
    · exact ⟨_, by rw [e, upd_same], hi'⟩
    · rw [upd_ne e]
      exact I.wf.ot b h, I.wf.ao, I.wf.nf, I.wf.df, I.wf.fm, I.wf.nm⟩
  have u := s.sub I.wf
  refine ⟨s, wf, I.len, fun j hj => (I.sl j hj).sub u rfl fun b hb => by rw [upd_ne fun z => I.wf.fm j b hb (by rw [z]; exact hm)], by simpa using I.me.len, fun k c' b h1 h2 => ?_⟩
  by_cases h : n = k
  · subst h
    rw [ha] at h2
    cases h2
    have hl : n < st.m.length := by
      rw [← I.me.len]
      exact (List.getElem?_eq_some_iff.mp ha).1
    rw [List.getElem?_set_self hl] at h1
    cases h1
    exact hc
  · rw [List.getElem?_set_ne h] at h1
    have hne : b ≠ ad := fun z => by
      subst z
      obtain ⟨h3, e3⟩ := List.getElem?_eq_some_iff.mp ha
      obtain ⟨h4, e4⟩ := List.getElem?_eq_some_iff.mp h2
      exact h ((List.getElem_inj I.wf.nm).mp (e3.trans e4.symm))
    exact CellR.sub u (upd_ne hne) (I.me.at_ k c' b h1 h2)
end

/-! ### dicts with keys of whole numbers or texts -/
def keyD : D → Option Key
  | .int i => some (.inl i)
  | .str x => some (.inr x)
  | _ => none
def valD (kvs : List (Key × D)) (k : Key) : Option D := (kvs.find? fun kv => decide (kv.1 = k)).map (·.2)
def putD (kvs : List (Key × D)) (k : Key) (v : D) : List (Key × D) :=
  if (kvs.any fun kv => decide (kv.1 = k)) = true then kvs.map (fun kv => if kv.1 = k then (kv.1, v) else kv) else kvs ++ [(k, v)]
def mDic (s : S) (n : Nat) : Option (List (Key × D)) := match s.m[n]? with
  | some (.dic _ kvs) => some kvs
  | _ => none
def mDicU (s : S) (n : Nat) : Option (List (Key × D)) := match s.m[n]? with
  | some (.dic false kvs) => some kvs
  | _ => none
section
variable {K : PySem.W.Frag} {T : Tb} {g g' : Gh} {H H' : Hp} {Γ : Fls} {σ : L2.St} {st : S}
theorem key_of {d : D} {v : V} {k : Key} {H0 : Hp} (r : RpM K T g H0 H .b1 d v) (e : keyD d = some k) : v = kV k := by
  cases d <;> simp [keyD] at e
  · subst e
    exact b_int r
  · subst e
    exact b_str r
theorem key_sh {d : D} {v : V} {k : Key} (r : Rp K T g H d v) (e : keyD d = some k) : v = kV k := by
  cases d <;> simp [keyD] at e
  · subst e
    simp only [Rp] at r
    exact r
  · subst e
    simp only [Rp] at r
    exact r
theorem zip_val : ∀ {kvs : List (Key × D)} {vs : List V} (k : Key), Rps K T g H (kvs.map (·.2)) vs → match valD kvs k with
    | some d => ∃ v, valV ((kvs.map (·.1)).zip vs) k = some v ∧ Rp K T g H d v
    | none => valV ((kvs.map (·.1)).zip vs) k = none
  | [], vs, k, h => by
    simp only [List.map_nil, Rps] at h
    subst h
    rfl
  | kv :: kvs, vs, k, h => by
    simp only [List.map_cons, Rps] at h
    obtain ⟨v, r, e, h1, h2⟩ := h
    subst e
    by_cases hk : kv.1 = k
    · have e1 : valD (kv :: kvs) k = some kv.2 := by simp [valD, List.find?_cons, hk]
      rw [e1]
      exact ⟨v, valV_pos hk, h1⟩
    · have e1 : valD (kv :: kvs) k = valD kvs k := by simp [valD, List.find?_cons, hk]
      have e2 : valV (((kv :: kvs).map (·.1)).zip (v :: r)) k = valV ((kvs.map (·.1)).zip r) k := valV_neg (p := (kv.1, v)) hk
      rw [e1, e2]
      exact zip_val k h2
theorem zip_any (k : Key) : ∀ {kvs : List (Key × D)} {vs : List V}, vs.length = kvs.length → (((kvs.map (·.1)).zip vs).any fun kv => decide (kv.1 = k)) = (kvs.any fun kv => decide (kv.1 = k))
  | [], vs, h => rfl
  | kv :: kvs, [], h => by simp at h
  | kv :: kvs, v :: vs, h => by
    simp only [List.map_cons, List.zip_cons_cons, List.any_cons]
    rw [zip_any k (by simpa using h)]
theorem zip_map (k : Key) (v : V) (d : D) (r : Rp K T g H d v) : ∀ {kvs : List (Key × D)} {vs : List V}, Rps K T g H (kvs.map (·.2)) vs → ∃ vs', ((kvs.map (·.1)).zip vs).map (fun kv => if kv.1 = k then (kv.1, v) else kv) = ((kvs.map fun kv => if kv.1 = k then (kv.1, d) else kv).map (·.1)).zip vs' ∧
    Rps K T g H ((kvs.map fun kv => if kv.1 = k then (kv.1, d) else kv).map (·.2)) vs'
  | [], vs, h => by
    simp only [List.map_nil, Rps] at h
    subst h
    exact ⟨[], rfl, Rps.nil⟩
  | kv :: kvs, vs, h => by
    simp only [List.map_cons, Rps] at h
    obtain ⟨w, rr, e, h1, h2⟩ := h
    subst e
    obtain ⟨vs', e1, e2⟩ := zip_map k v d r h2
    by_cases hk : kv.1 = k
    · refine ⟨v :: vs', ?_, ?_⟩
      · simp only [List.map_cons, List.zip_cons_cons, if_pos hk]
        rw [e1]
      · simp only [List.map_cons, if_pos hk]
        exact Rps.cons r e2
    · refine ⟨w :: vs', ?_, ?_⟩
      · simp only [List.map_cons, List.zip_cons_cons, if_neg hk]
        rw [e1]
      · simp only [List.map_cons, if_neg hk]
        exact Rps.cons h1 e2
theorem zip_snoc (k : Key) (v : V) (d : D) : ∀ {kvs : List (Key × D)} {vs : List V}, vs.length = kvs.length → ((kvs.map (·.1)).zip vs) ++ [(k, v)] = ((kvs ++ [(k, d)]).map (·.1)).zip (vs ++ [v])
  | [], [], h => rfl
  | [], v :: vs, h => by simp at h
  | kv :: kvs, [], h => by simp at h
  | kv :: kvs, w :: vs, h => by
    simp only [List.map_cons, List.zip_cons_cons, List.cons_append]
    rw [zip_snoc k v d (by simpa using h)]
theorem zip_put {kvs : List (Key × D)} {vs : List V} {k : Key} {v : V} {d : D} (r : Rp K T g H d v) (h : Rps K T g H (kvs.map (·.2)) vs) : ∃ vs', putK ((kvs.map (·.1)).zip vs) k v = ((putD kvs k d).map (·.1)).zip vs' ∧ Rps K T g H ((putD kvs k d).map (·.2)) vs' := by
  have hl : vs.length = kvs.length := by
    have := h.length
    simpa using this
  unfold putK putD
  rw [zip_any k hl]
  split
  · exact zip_map k v d r h
  · refine ⟨vs ++ [v], zip_snoc k v d hl, ?_⟩
    rw [List.map_append]
    exact h.append (.one r)
theorem dic_at {n : Nat} {kvs : List (Key × D)} {a : Addr} (I : SR K T Γ g σ H st) (h : mDic st n = some kvs) (ha : g.mu[n]? = some a) : ∃ vs, Rd H a (.dK ((kvs.map (·.1)).zip vs)) ∧ Rps K T g H (kvs.map (·.2)) vs := by
  unfold mDic at h
  split at h
  · rename_i lk kvs' e
    cases h
    have q := I.me.at_ n _ a e ha
    cases lk with
    | false =>
      obtain ⟨vs, q1, q2⟩ := q
      exact ⟨vs, .inl q1, q2⟩
    | true =>
      obtain ⟨vs, od, q1, q2⟩ := q
      exact ⟨vs, .inr ⟨od, q1⟩, q2⟩
  · cases h
theorem dic_atU {n : Nat} {kvs : List (Key × D)} {a : Addr} (I : SR K T Γ g σ H st) (h : mDicU st n = some kvs) (ha : g.mu[n]? = some a) : ∃ vs, H a = some (.dK ((kvs.map (·.1)).zip vs)) ∧ Rps K T g H (kvs.map (·.2)) vs := by
  unfold mDicU at h
  split at h
  · rename_i kvs' e
    cases h
    exact I.me.at_ n _ a e ha
  · cases h
theorem b_ref {H0 : Hp} {n : Nat} {v : V} (r : RpM K T g H0 H .b1 (.ref n) v) : ∃ a, v = .ref a ∧ g.mu[n]? = some a := by simpa [RpM, Rp] using r
end
section
variable {T : Tb} {X : Cx} {Γ Γ' : Fls} {F : Fx} {nx lp : Fls} {rm : Mo} {e a b c o i tg iter : Expr} {m m1 m2 m3 : Mo} {f f1 f2 f3 : S → R D} {pos p2 pos' apos cpos : Pos} {es : List Expr} {fs : S → R (List D)}
def eDic0 : S → R D := fun s => .ok (.ref s.m.length) { s with m := s.m ++ [.dic false []] }
theorem je_dic0 : JE T X Γ (.Dict [] [] pos) .sh eDic0 := ⟨fun W tk => PE.imp pe_dnewK fun σ H Q ⟨g, st, I, p⟩ => fun q hq => post_cell (m := .sh) (c := .dic false []) I hq rfl ⟨[], upd_same, Rps.nil⟩ p⟩
/-- d[k] -/
def dixD : D → D → S → R D := fun d k s => match d, keyD k with
  | .ref n, some k => (match mDic s n with
    | some kvs => (match valD kvs k with
      | some v => .ok v s
      | none => .stuck)
    | none => .stuck)
  | _, _ => .stuck
theorem je_dix (hu : X.A.units + 64 < cLine) (ha : JE T X Γ a .b1 f1) (hb : JE T X Γ b .b1 f2) (hs : NoSl b := by exact fun _ _ => rfl) : JE T X Γ (.Subscript a b pos) .sh (e2 dixD f1 f2) := by
  refine ⟨fun W tk => PE.imp (pe_dget (by omega) (ha.run W tk) (hb.run W tk) hs) fun σ H Q ⟨g, st, I, p⟩ => ?_⟩
  refine te_bind ipE I p fun d1 s1 x H1 g1 q1 I1 r1 p1 => te_bind ipE I1 p1 fun d2 s2 y H2 g2 q2 I2 r2 p2 => ?_
  have r1' := r1.step I1.wf I2.wf q2
  unfold dixD at p2
  split at p2
  · rename_i n k ek
    split at p2
    · rename_i kvs em
      split at p2
      · rename_i v ev
        obtain ⟨ad, ex, hn⟩ := b_ref r1'
        subst ex
        obtain ⟨vs, h1, h2⟩ := dic_at I2 em hn
        have z := zip_val k h2
        rw [ev] at z
        obtain ⟨w, z1, z2⟩ := z
        exact ⟨ad, w, rfl, .inl ⟨_, k, h1, key_of r2 ek, z1.symm⟩, p2 _ H2 g2 (.refl g2 H2) I2 z2⟩
      · exact p2.elim
    · exact p2.elim
  · exact p2.elim
end
end DL

set_option linter.all false
set_option Elab.async false
set_option maxRecDepth 100000
namespace DL
open PySem PySem.Spec PyProof.Rows L2

section
variable {T : Tb} {X : Cx} {Γ Γ' : Fls} {F : Fx} {nx lp : Fls} {rm : Mo} {e a b c o i tg iter : Expr} {m m1 m2 m3 : Mo} {f f1 f2 f3 : S → R D} {pos p2 pos' apos cpos : Pos} {es : List Expr} {fs : S → R (List D)}
/-- d.get(k, x) -/
def dgetD : D → D → D → S → R D := fun d k x s => match d, keyD k with
  | .ref n, some k => (match mDic s n with
    | some kvs => .ok ((valD kvs k).getD x) s
    | none => .stuck)
  | _, _ => .stuck
def isDic (d : D) (s : S) : Bool := match d with
  | .ref n => (mDic s n).isSome
  | _ => false
def eGet (f1 f2 f3 : S → R D) : S → R D := fun st => (f1 st).bind fun d s1 => if isDic d s1 then (f2 s1).bind fun k s2 => (f3 s2).bind fun x s3 => dgetD d k x s3 else .stuck
theorem je_dget (hu : X.A.units + 64 < cLine) (ha : JE T X Γ a .b1 f1) (hb : JE T X Γ b .sh f2) (hc : JE T X Γ c .sh f3)
    (mm : M2 X a "get" apos b c cpos := by exact ⟨rfl, rfl, rfl, rfl⟩) : JE T X Γ (.Call (.Attribute a "get" apos) [b, c] [] cpos) .sh (eGet f1 f2 f3) := by
  refine ⟨fun W tk => PE.imp (pe_dget2 (by omega) (ha.run W tk) (hb.run W tk) (hc.run W tk) mm) fun σ H Q ⟨g, st, I, p⟩ => ?_⟩
  refine te_bind ipE I p fun d1 s1 x H1 g1 q1 I1 r1 p1 => ?_
  split at p1
  case isFalse => exact p1.elim
  rename_i hd
  unfold isDic at hd
  split at hd
  case h_2 => cases hd
  rename_i n
  obtain ⟨kvs, ek⟩ := Option.isSome_iff_exists.mp hd
  obtain ⟨ad, ex, hn⟩ := b_ref r1
  subst ex
  obtain ⟨vs, h1, h2⟩ := dic_at I1 ek hn
  refine ⟨ad, rfl, .inl ⟨_, h1⟩, te_bind ipE I1 p1 fun d2 s2 y H2 g2 q2 I2 r2 p2 => te_bind ipE I2 p2 fun d3 s3 z H3 g3 q3 I3 r3 p3 => ?_⟩
  unfold dgetD at p3
  split at p3
  · rename_i n' k en ek2
    cases en
    split at p3
    · rename_i kvs' ek3
      have hn3 : g3.mu[n]? = some ad := by
        obtain ⟨t, ht⟩ := (q2.trans q3).mu
        rw [← ht, List.getElem?_append_left (List.getElem?_eq_some_iff.mp hn).1]
        exact hn
      obtain ⟨vs', h1', h2'⟩ := dic_at I3 ek3 hn3
      have zz := zip_val k h2'
      have ky : y = kV k := key_sh (Rp.step I2.wf q3.toStep r2) ek2
      cases ev : valD kvs' k with
      | none =>
        rw [ev] at zz p3
        exact ⟨none, .inl ⟨_, k, h1', ky, zz.symm⟩, p3 _ H3 g3 (.refl g3 H3) I3 r3⟩
      | some v =>
        rw [ev] at zz p3
        obtain ⟨w, z1, z2⟩ := zz
        exact ⟨some w, .inl ⟨_, k, h1', ky, z1.symm⟩, p3 _ H3 g3 (.refl g3 H3) I3 z2⟩
    · exact p3.elim
  · exact p3.elim
/-- k in d, k not in d -/
def dinD (neg : Bool) : D → D → S → R D := fun k d s => match d, keyD k with
  | .ref n, some k => (match mDic s n with
    | some kvs => .ok (.bl (if neg then !(valD kvs k).isSome else (valD kvs k).isSome)) s
    | none => .stuck)
  | _, _ => .stuck
theorem PC.imp {op : CmpOp} {t t' : TE} (h : PC X op a b t) (i : ∀ σ H Q, t' σ H Q → t σ H Q) : PC X op a b t' := ⟨fun pins s σ H Q I hw => h.run pins s σ H Q I (i σ H Q hw)⟩
theorem din_get {K : PySem.W.Frag} {g : Gh} {σ : L2.St} {H H0 H5 : Hp} {st : S} {W : WX} {Q : VK} {d k : D} {x y : V} {neg : Bool} (I : SR K T Γ g σ H st) (rd : RpM K T g H0 H .b1 d x) (rk : RpM K T g H5 H .b1 k y) (p : PostE K T Γ σ g H .sh W Q (dinD neg k d st)) :
    ∃ a o, x = .ref a ∧ DGet H a y o ∧ Q (.bl (if neg then !o.isSome else o.isSome)) H := by
  unfold dinD at p
  split at p
  · rename_i n kk ek
    split at p
    · rename_i kvs em
      obtain ⟨ad, ex, hn⟩ := b_ref rd
      subst ex
      obtain ⟨vs, h1, h2⟩ := dic_at I em hn
      have z := zip_val kk h2
      cases ev : valD kvs kk with
      | none =>
        rw [ev] at z p
        exact ⟨ad, none, rfl, .inl ⟨_, kk, h1, key_of rk ek, z.symm⟩, p _ H g (.refl g H) I rm_bl⟩
      | some v =>
        rw [ev] at z p
        obtain ⟨w, z1, z2⟩ := z
        exact ⟨ad, some w, rfl, .inl ⟨_, kk, h1, key_of rk ek, z1.symm⟩, p _ H g (.refl g H) I rm_bl⟩
    · exact p.elim
  · exact p.elim
theorem je_din (hu : X.A.units + 64 < cLine) (ha : JE T X Γ a .b1 f1) (hb : JE T X Γ b .b1 f2) (hm : behindInMarks .In b = false := by first | exact nobehind _ (by decide) (by decide) | rfl) : JE T X Γ (.Compare a [.In] [b] pos) .sh (e2 (dinD false) f1 f2) := by
  refine ⟨fun W tk => PE.imp (pe_cmp (pc_din (by omega) (ha.run W tk) (hb.run W tk)) hm) fun σ H Q ⟨g, st, I, p⟩ => ?_⟩
  refine te_bind ipE I p fun d1 s1 x H1 g1 q1 I1 r1 p1 => te_bind ipE I1 p1 fun d2 s2 y H2 g2 q2 I2 r2 p2 => ?_
  obtain ⟨ad, o, h1, h2, h3⟩ := din_get I2 r2 (r1.step I1.wf I2.wf q2) p2
  exact ⟨ad, o, h1, h2, h3⟩
theorem je_dnin (hu : X.A.units + 64 < cLine) (ha : JE T X Γ a .b1 f1) (hb : JE T X Γ b .b1 f2) (hm : behindInMarks .NotIn b = false := by first | exact nobehind _ (by decide) (by decide) | rfl) : JE T X Γ (.Compare a [.NotIn] [b] pos) .sh (e2 (dinD true) f1 f2) := by
  refine ⟨fun W tk => PE.imp (pe_cmp (pc_dnotin (by omega) (ha.run W tk) (hb.run W tk)) hm) fun σ H Q ⟨g, st, I, p⟩ => ?_⟩
  refine te_bind ipE I p fun d1 s1 x H1 g1 q1 I1 r1 p1 => te_bind ipE I1 p1 fun d2 s2 y H2 g2 q2 I2 r2 p2 => ?_
  obtain ⟨ad, o, h1, h2, h3⟩ := din_get I2 r2 (r1.step I1.wf I2.wf q2) p2
  exact ⟨ad, o, h1, h2, h3⟩
theorem jt_toB {op : CmpOp} {t : S → R D} (h : ∀ W, Takes X W → PC X op a b (te X.K T Γ .sh W t)) (hm : behindInMarks op b = false) : JT T X Γ (.Compare a [op] [b] pos) (toB t) := by
  refine ⟨fun W tk => PT.imp (pt_cmp (h W tk) hm) fun σ H Q ⟨g, st, I, p⟩ => ?_⟩
  unfold toB at p
  refine te_bind ipT I p fun d1 s1 x H1 g1 q1 I1 r1 p1 => ?_
  obtain ⟨k, ek, p2⟩ := toB_spec p1
  subst ek
  simp only [RpM, Rp] at r1
  exact ⟨k, r1, p2 H1 g1 (.refl g1 H1) I1⟩
theorem jt_din (hu : X.A.units + 64 < cLine) (ha : JE T X Γ a .b1 f1) (hb : JE T X Γ b .b1 f2) (hm : behindInMarks .In b = false := by first | exact nobehind _ (by decide) (by decide) | rfl) : JT T X Γ (.Compare a [.In] [b] pos) (toB (e2 (dinD false) f1 f2)) :=
  jt_toB (fun W tk => PC.imp (pc_din (by omega) (ha.run W tk) (hb.run W tk)) fun σ H Q ⟨g, st, I, p⟩ => te_bind ipE I p fun d1 s1 x H1 g1 q1 I1 r1 p1 => te_bind ipE I1 p1 fun d2 s2 y H2 g2 q2 I2 r2 p2 =>
    let ⟨ad, o, h1, h2, h3⟩ := din_get I2 r2 (r1.step I1.wf I2.wf q2) p2
    ⟨ad, o, h1, h2, h3⟩) hm
theorem jt_dnin (hu : X.A.units + 64 < cLine) (ha : JE T X Γ a .b1 f1) (hb : JE T X Γ b .b1 f2) (hm : behindInMarks .NotIn b = false := by first | exact nobehind _ (by decide) (by decide) | rfl) : JT T X Γ (.Compare a [.NotIn] [b] pos) (toB (e2 (dinD true) f1 f2)) :=
  jt_toB (fun W tk => PC.imp (pc_dnotin (by omega) (ha.run W tk) (hb.run W tk)) fun σ H Q ⟨g, st, I, p⟩ => te_bind ipE I p fun d1 s1 x H1 g1 q1 I1 r1 p1 => te_bind ipE I1 p1 fun d2 s2 y H2 g2 q2 I2 r2 p2 =>
    let ⟨ad, o, h1, h2, h3⟩ := din_get I2 r2 (r1.step I1.wf I2.wf q2) p2
    ⟨ad, o, h1, h2, h3⟩) hm
end
end DL

set_option linter.all false
set_option Elab.async false
set_option maxRecDepth 100000
namespace DL
open PySem PySem.Spec PyProof.Rows L2

/-! ### locks -/
section
variable {K : PySem.W.Frag} {T : Tb} {g g' g0 : Gh} {H H' H0 : Hp} {Γ Γ' : Fls} {σ σ' : L2.St} {st st' : S}
def lockS (s : S) (n : Nat) : Option S := match s.m[n]? with
  | some (.dic false kvs) => some { s with m := s.m.set n (.dic true kvs) }
  | _ => none
def unlockS (s : S) (n : Nat) : Option S := match s.m[n]? with
  | some (.dic true kvs) => some { s with m := s.m.set n (.dic false kvs) }
  | _ => none
theorem SR.lock {n : Nat} {a : Addr} {s1 : S} (I : SR K T Γ g σ H st) (ha : g.mu[n]? = some a) (e : lockS st n = some s1) : ∃ zs, H a = some (.dK zs) ∧ ∀ od, Step g H g (upd H a (.frz od (.dK zs))) ∧ SR K T Γ g σ (upd H a (.frz od (.dK zs))) s1 := by
  unfold lockS at e
  split at e
  · rename_i kvs em
    cases e
    obtain ⟨vs, h1, h2⟩ := I.me.at_ n _ a em ha
    refine ⟨_, h1, fun od => ?_⟩
    have s0 : Step g H g (upd H a (.frz od (.dK ((kvs.map (·.1)).zip vs)))) := ⟨fun _ h => h, fun _ h => .inl h, fun _ h => .inl h, fun b u h n => by
      rw [upd_ne fun z => n (by rw [z]; exact .inr (List.mem_of_getElem? ha))]
      exact h, fun b u h im => by
      rw [upd_ne fun z => ?_]
      · exact h
      · rw [z, h1] at h
        cases h
        exact absurd im (by simp [imm]), fun b h => by
      by_cases e : b = a
      · rw [e, upd_same] at h
        cases h
      · rw [upd_ne e] at h
        exact h, List.prefix_refl _⟩
    exact I.put (o' := .frz od (.dK ((kvs.map (·.1)).zip vs))) (c := .dic true kvs) ha h1 rfl rfl ⟨vs, od, upd_same, h2.sub (s0.sub I.wf)⟩
  · cases e
/-- behind the lock -/
theorem unlocked {n : Nat} {a : Addr} {od : Obj} {zs : List (Key × V)} {s2 : S} (ha : g0.mu[n]? = some a) (hz : H0 a = some (.dK zs)) (s : Step g0 (upd H0 a (.frz od (.dK zs))) g H) (I : SR K T Γ g σ H st) (e : unlockS st n = some s2) :
    H a = some (.frz od (.dK zs)) ∧ Step g0 H0 g (upd H a (.dK zs)) ∧ SR K T Γ g σ (upd H a (.dK zs)) s2 ∧ Sub g H g (upd H a (.dK zs)) := by
  have h0 : H a = some (.frz od (.dK zs)) := s.im _ _ upd_same rfl
  have own0 : g0.Own a := .inr (List.mem_of_getElem? ha)
  have hm : g.mu[n]? = some a := by
    obtain ⟨t, ht⟩ := s.mu
    rw [← ht, List.getElem?_append_left (List.getElem?_eq_some_iff.mp ha).1]
    exact ha
  have hmm : a ∈ g.mu := List.mem_of_getElem? hm
  have own : g.Own a := .inr hmm
  have ne0 : ∀ b, upd H0 a (.frz od (.dK zs)) b = none → H0 b = none := fun b h => by
    by_cases z : b = a
    · rw [z, upd_same] at h
      cases h
    · rw [upd_ne z] at h
      exact h
  have st0 : Step g0 H0 g (upd H a (.dK zs)) := ⟨s.aa, fun b h => (s.an b h).imp id (Or.imp id (ne0 b)), fun b h => (s.on b h).imp id (ne0 b), fun b u h no => by
    have z : b ≠ a := fun z => no (by rw [z]; exact own0)
    rw [upd_ne z]
    exact s.fr b u (by rw [upd_ne z]; exact h) no, fun b u h im => by
    have z : b ≠ a := fun z => by
      rw [z, hz] at h
      cases h
      exact absurd im (by simp [imm])
    rw [upd_ne z]
    exact s.im b u (by rw [upd_ne z]; exact h) im, fun b h => by
    have z : b ≠ a := fun z => by
      rw [z, upd_same] at h
      cases h
    rw [upd_ne z] at h
    exact ne0 b (s.tr b h), s.mu⟩
  have u : Sub g H g (upd H a (.dK zs)) := ⟨fun _ h => h, fun b o hA h => by
    rw [upd_ne fun z => I.wf.ao b hA (by rw [z]; exact own)]
    exact h, fun b o h i => by
    rw [upd_ne fun z => ?_]
    · exact h
    · rw [z, h0] at h
      cases h
      exact absurd i (by simp [imo]), List.prefix_refl _⟩
  refine ⟨h0, st0, ?_, u⟩
  unfold unlockS at e
  split at e
  · rename_i kvs em
    cases e
    obtain ⟨vs, od', h1, h2⟩ := I.me.at_ n _ a em hm
    have ez : zs = (kvs.map (·.1)).zip vs := by
      rw [h0] at h1
      cases h1
      rfl
    have wf : WF g (upd H a (.dK zs)) := ⟨fun b h => by
      by_cases e : b = a
      · exact ⟨_, by rw [e, upd_same]⟩
      · rw [upd_ne e]
        exact I.wf.ta b h, fun b h => by
      by_cases e : b = a
      · exact ⟨_, by rw [e, upd_same], rfl⟩
      · rw [upd_ne e]
        exact I.wf.ot b h, I.wf.ao, I.wf.nf, I.wf.df, I.wf.fm, I.wf.nm⟩
    refine ⟨wf, I.len, fun j hj => (I.sl j hj).sub u rfl fun b hb => by rw [upd_ne fun z => I.wf.fm j b hb (by rw [z]; exact hmm)], by simpa using I.me.len, fun k c' b h1' h2' => ?_⟩
    by_cases h : n = k
    · subst h
      rw [hm] at h2'
      cases h2'
      have hl : n < st.m.length := by
        rw [← I.me.len]
        exact (List.getElem?_eq_some_iff.mp hm).1
      rw [List.getElem?_set_self hl] at h1'
      cases h1'
      exact ⟨vs, by rw [upd_same, ez], h2.sub u⟩
    · rw [List.getElem?_set_ne h] at h1'
      have hne : b ≠ a := fun z => by
        subst z
        obtain ⟨h3, e3⟩ := List.getElem?_eq_some_iff.mp hm
        obtain ⟨h4, e4⟩ := List.getElem?_eq_some_iff.mp h2'
        exact h ((List.getElem_inj I.wf.nm).mp (e3.trans e4.symm))
      exact CellR.sub u (upd_ne hne) (I.me.at_ k c' b h1' h2')
  · cases e
end
def sLock (i : Nat) (q : S → RS) : S → RS := fun s => match s.r.getD i none with
  | some (.ref n) => (match lockS s n with
    | some s1 => (match q s1 with
      | .next s2 => (match unlockS s2 n with
        | some s3 => .next s3
        | none => .stuck)
      | _ => .stuck)
    | none => .stuck)
  | _ => .stuck
def eLock (i : Nat) (f : S → R D) : S → R D := fun s => match s.r.getD i none with
  | some (.ref n) => (match lockS s n with
    | some s1 => (match f s1 with
      | .ok d s2 => (match unlockS s2 n with
        | some s3 => .ok d s3
        | none => .stuck)
      | _ => .stuck)
    | none => .stuck)
  | _ => .stuck
section
variable {T : Tb} {X : Cx} {Γ Γ' : Fls} {F : Fx} {nx lp : Fls} {rm : Mo} {e a b c o tg iter : Expr} {m m1 m2 m3 : Mo} {f f1 f2 f3 : S → R D} {pos p2 pos' apos cpos : Pos} {es : List Expr} {fs : S → R (List D)} {s1 : Stmt} {q : S → RS}
theorem js_lock (i : Nat) (h : JS T X Γ F s1 q) (hΓ : fl Γ i = .sh := by rfl) : JS T X Γ F s1 (sLock i q) := by
  refine ⟨fun W tk => PS.imp (ps_lock (h.run W tk)) fun E σ H ⟨B, g, st, I, p⟩ => ?_⟩
  unfold sLock at p
  cases es : st.r.getD i none with
  | none => rw [es] at p; exact p.elim
  | some d0 =>
    rw [es] at p
    obtain ⟨v0, _, h2⟩ := I.slot es
    rw [hΓ] at h2
    cases d0 with
    | ref n =>
      simp only [SlR, Rp] at h2
      obtain ⟨ad, ev, hn⟩ := h2
      simp only at p
      cases el : lockS st n with
      | none => rw [el] at p; exact p.elim
      | some s1 =>
        rw [el] at p
        obtain ⟨zs, hz, hl⟩ := I.toSR.lock hn el
        refine ⟨ad, .dK zs, hz, True.intro, fun od => ?_⟩
        obtain ⟨stp, I1⟩ := hl od
        refine ⟨B, g, s1, I.go stp I1, ?_⟩
        simp only at p
        cases eq : q s1 with
        | next s2 =>
          rw [eq] at p
          intro σ' H' g' sp I2
          simp only at p
          cases eu : unlockS s2 n with
          | none => rw [eu] at p; exact p.elim
          | some s3 =>
            rw [eu] at p
            obtain ⟨k1, k2, k3, _⟩ := unlocked hn hz sp I2 eu
            exact ⟨k1, p σ' _ g' k2 k3⟩
        | brk s2 => rw [eq] at p; exact p.elim
        | cont s2 => rw [eq] at p; exact p.elim
        | ret d s2 => rw [eq] at p; exact p.elim
        | raise ex s2 => rw [eq] at p; exact p.elim
        | stuck => rw [eq] at p; exact p.elim
    | _ => exact p.elim
theorem je_lock (i : Nat) (h : JE T X Γ e .f1 f) (hΓ : fl Γ i = .sh := by rfl) : JE T X Γ e .f1 (eLock i f) := by
  refine ⟨fun W tk => PE.imp (pe_lock (h.run W tk)) fun σ H Q ⟨g, st, I, p⟩ => ?_⟩
  unfold eLock at p
  cases es : st.r.getD i none with
  | none => rw [es] at p; exact p.elim
  | some d0 =>
    rw [es] at p
    obtain ⟨v0, _, h2⟩ := I.slot es
    rw [hΓ] at h2
    cases d0 with
    | ref n =>
      simp only [SlR, Rp] at h2
      obtain ⟨ad, ev, hn⟩ := h2
      simp only at p
      cases el : lockS st n with
      | none => rw [el] at p; exact p.elim
      | some s1 =>
        rw [el] at p
        obtain ⟨zs, hz, hl⟩ := I.lock hn el
        refine ⟨ad, .dK zs, hz, True.intro, fun od => ?_⟩
        obtain ⟨stp, I1⟩ := hl od
        refine ⟨g, s1, I1, ?_⟩
        simp only at p
        cases eq : f s1 with
        | ok d s2 =>
          rw [eq] at p
          intro v H' g' sp I2 r
          simp only at p
          cases eu : unlockS s2 n with
          | none => rw [eu] at p; exact p.elim
          | some s3 =>
            rw [eu] at p
            obtain ⟨k1, k2, k3, k4⟩ := unlocked hn hz sp.toStep I2 eu
            refine ⟨k1, p v _ g' ⟨k2, sp.qf, fun j b hb => ?_⟩ k3 ?_⟩
            · have z : b ≠ ad := fun z => I.wf.fm j b hb (by rw [z]; exact List.mem_of_getElem? hn)
              rw [upd_ne z, sp.qo j b hb, upd_ne z]
            · cases d with
              | lst ds =>
                obtain ⟨x, vs, e1, e2, e3, e4⟩ := r
                have zx : x ≠ ad := fun z => by
                  rw [z, k1] at e2
                  cases e2
                refine ⟨x, vs, e1, by rw [upd_ne zx]; exact e2, ⟨e3.1, e3.2.1, ?_⟩, e4.sub k4⟩
                have := e3.2.2
                rw [upd_ne zx] at this
                exact this
              | _ => exact Rp.sub k4 r
        | raise ex s2 => rw [eq] at p; exact p.elim
        | stuck => rw [eq] at p; exact p.elim
    | _ => exact p.elim
end
end DL

set_option linter.all false
set_option Elab.async false
set_option maxRecDepth 100000
namespace DL
open PySem PySem.Spec PyProof.Rows L2

/-! ### walks over a locked dict -/
def kD : Key → D
  | .inl i => .int i
  | .inr x => .str x
def mDicL (s : S) (n : Nat) : Option (List (Key × D)) := match s.m[n]? with
  | some (.dic true kvs) => some kvs
  | _ => none
def iDic (view : List (Key × D) → List D) (f : S → R D) : S → R (List D) := fun s => (f s).bind fun d s1 => match d with
  | .ref n => (match mDicL s1 n with
    | some kvs => .ok (view kvs) s1
    | none => .stuck)
  | _ => .stuck
def valsV (kvs : List (Key × D)) : List D := kvs.map (·.2)
def itemsV (kvs : List (Key × D)) : List D := kvs.map fun kv => .tup [kD kv.1, kv.2]
section
variable {K : PySem.W.Frag} {T : Tb} {g g' : Gh} {H H' : Hp} {Γ : Fls} {σ : L2.St} {st : S}
theorem dic_atL {n : Nat} {kvs : List (Key × D)} {a : Addr} (I : SR K T Γ g σ H st) (h : mDicL st n = some kvs) (ha : g.mu[n]? = some a) : ∃ vs od, H a = some (.frz od (.dK ((kvs.map (·.1)).zip vs))) ∧ Rps K T g H (kvs.map (·.2)) vs := by
  unfold mDicL at h
  split at h
  · rename_i kvs' e
    cases h
    exact I.me.at_ n _ a e ha
  · cases h
theorem zip_get : ∀ {kvs : List (Key × D)} {vs : List V} {i : Nat} {k : Key} {x : V}, ((kvs.map (·.1)).zip vs)[i]? = some (k, x) → vs[i]? = some x ∧ (kvs.map (·.1))[i]? = some k
  | kvs, vs, i, k, x, h => by
    rw [List.getElem?_zip_eq_some] at h
    exact ⟨h.2, h.1⟩
theorem rp_key {k : Key} : Rp K T g H (kD k) (kV k) := by
  cases k <;> simp only [kD, Rp] <;> rfl
theorem wlk_vals {a : Addr} {od : Obj} {kvs : List (Key × D)} {vs : List V} (wf : WF g H) (h : H a = some (.frz od (.dK ((kvs.map (·.1)).zip vs)))) (r : Rps K T g H (kvs.map (·.2)) vs) : Wlk K T g H (Itd a od ((kvs.map (·.1)).zip vs)) (valsV kvs) := by
  have hl : ((kvs.map (·.1)).zip vs).length = kvs.length := by
    have := r.length
    simp at this
    simp [this]
  refine ⟨fun i d g' H' s w e => ⟨s.im _ _ h rfl, ?_⟩, fun g' H' s w => ⟨s.im _ _ h rfl, ?_⟩, fun i d g' H' x H'' s w e y => ?_⟩
  · rw [hl]
    have := (List.getElem?_eq_some_iff.mp e).1
    simpa [valsV] using this
  · rw [hl]
    simp [valsV]
  · obtain ⟨eh, k, hk⟩ := y
    obtain ⟨h1, _⟩ := zip_get hk
    obtain ⟨v, h2, h3⟩ := r.get e
    rw [h1] at h2
    cases h2
    exact .inl ⟨eh, h3.step wf s⟩
theorem wlk_items {a : Addr} {od : Obj} {kvs : List (Key × D)} {vs : List V} (wf : WF g H) (h : H a = some (.frz od (.dK ((kvs.map (·.1)).zip vs)))) (r : Rps K T g H (kvs.map (·.2)) vs) : Wlk K T g H (Iti a od ((kvs.map (·.1)).zip vs)) (itemsV kvs) := by
  have hl : ((kvs.map (·.1)).zip vs).length = kvs.length := by
    have := r.length
    simp at this
    simp [this]
  refine ⟨fun i d g' H' s w e => ⟨s.im _ _ h rfl, ?_⟩, fun g' H' s w => ⟨s.im _ _ h rfl, ?_⟩, fun i d g' H' x H'' s w e y => ?_⟩
  · rw [hl]
    have := (List.getElem?_eq_some_iff.mp e).1
    simpa [itemsV] using this
  · rw [hl]
    simp [itemsV]
  · obtain ⟨p, k, v, hk, ex, hp, eh⟩ := y
    subst ex eh
    obtain ⟨h1, h2⟩ := zip_get hk
    rw [itemsV, List.getElem?_map] at e
    obtain ⟨kv, ekv, e2⟩ := Option.map_eq_some_iff.mp e
    subst e2
    rw [List.getElem?_map, ekv] at h2
    cases h2
    obtain ⟨v', h3, h4⟩ := r.get (i := i) (d := kv.2) (by rw [List.getElem?_map, ekv]; rfl)
    rw [h1] at h3
    cases h3
    refine .inr ⟨p, _, hp, rfl, ?_⟩
    simp only [Rp]
    exact ⟨p, _, rfl, .inl (.inl upd_same), Rps.cons rp_key (.one ((h4.step wf s).step w (.new hp)))⟩
end
section
variable {T : Tb} {X : Cx} {Γ Γ' : Fls} {F : Fx} {nx lp : Fls} {rm : Mo} {e a b c o tg iter : Expr} {m m1 m2 m3 : Mo} {f f1 f2 f3 : S → R D} {pos p2 pos' apos cpos tpos : Pos} {es elts : List Expr} {fs : S → R (List D)} {s1 : Stmt} {q : S → RS}
theorem ji_vals (ha : JE T X Γ a .b1 f) (hb : attributeBase a "values" X.env (eval a X.env) = eval a X.env := by rfl) (hl : (apos.endLine == cpos.line) = true := by rfl) : JI T X Γ tg (.Call (.Attribute a "values" apos) [] [] cpos) (iDic valsV f) := by
  refine ⟨fun W tk => PI.imp (pi_values (ha.run W tk) hb hl) fun σ H R ⟨g, st, I, p⟩ => ?_⟩
  refine te_bind ipI I p fun d1 s1 x H1 g1 q1 I1 r1 p1 => ?_
  split at p1
  case h_2 => exact p1.elim
  rename_i n
  split at p1
  case h_2 => exact p1.elim
  rename_i kvs ek
  obtain ⟨ad, ex, hn⟩ := b_ref r1
  obtain ⟨vs, od, h1, h2⟩ := dic_atL I1 ek hn
  exact ⟨ad, od, _, ex, h1, p1 _ H1 g1 (.refl g1 H1) I1 (wlk_vals I1.wf h1 h2)⟩
theorem ji_items {kk : Nat} (ha : JE T X Γ a .b1 f) (hb : attributeBase a "items" X.env (eval a X.env) = eval a X.env := by rfl) (hl : (apos.endLine == cpos.line) = true := by rfl) : JI T X Γ (.Tuple elts kk tpos) (.Call (.Attribute a "items" apos) [] [] cpos) (iDic itemsV f) := by
  refine ⟨fun W tk => PI.imp (pi_items (ha.run W tk) hb hl) fun σ H R ⟨g, st, I, p⟩ => ?_⟩
  refine te_bind ipI I p fun d1 s1 x H1 g1 q1 I1 r1 p1 => ?_
  split at p1
  case h_2 => exact p1.elim
  rename_i n
  split at p1
  case h_2 => exact p1.elim
  rename_i kvs ek
  obtain ⟨ad, ex, hn⟩ := b_ref r1
  obtain ⟨vs, od, h1, h2⟩ := dic_atL I1 ek hn
  exact ⟨ad, od, _, ex, h1, p1 _ H1 g1 (.refl g1 H1) I1 (wlk_items I1.wf h1 h2)⟩
/-- d[k] = v -/
def sDput (fd fk fv : S → R D) : S → RS := fun s => (fv s).then fun v s1 => (fd s1).then fun d s2 => (fk s2).then fun k s3 => match d, keyD k with
  | .ref n, some k => (match mDicU s3 n with
    | some kvs => if kvs.length < sizeLine then .next { s3 with m := s3.m.set n (.dic false (putD kvs k v)) } else .stuck
    | none => .stuck)
  | _, _ => .stuck
theorem js_dput (hu : X.A.units + 64 < cLine) (hd : JE T X Γ a .b1 f1) (hk : JE T X Γ b .b1 f2) (hv : JE T X Γ c .sh f3) (hs : swapsWith c (some (.Subscript a b pos')) pos.line X.env = pure false := by rfl) : JS T X Γ ⟨Γ, lp, rm⟩ (.Assign [.Subscript a b pos'] c pos) (sDput f1 f2 f3) := by
  refine ⟨fun W tk => PS.imp (ps_dput (by omega) (hd.run W tk) (hk.run W tk) (hv.run W tk) hs) fun E σ H ⟨B, g, st, I, p⟩ => ?_⟩
  refine te_then I.toSR p fun d1 s1 v H1 g1 q1 I1 r1 p1 => te_then I1 p1 fun d2 s2 x H2 g2 q2 I2 r2 p2 => te_then I2 p2 fun d3 s3 y H3 g3 q3 I3 r3 p3 => ?_
  split at p3
  case h_2 => exact p3.elim
  rename_i n k ek
  split at p3
  case h_2 => exact p3.elim
  rename_i kvs em
  split at p3
  case isFalse => exact p3.elim
  rename_i hz
  obtain ⟨ad, ex, hn⟩ := b_ref (r2.step I2.wf I3.wf q3)
  subst ex
  obtain ⟨vs, h1, h2⟩ := dic_atU I3 em hn
  have rv : Rp X.K T g3 H3 d1 v := (Rp.step I1.wf q2.toStep r1 |> Rp.step I2.wf q3.toStep)
  obtain ⟨vs', e1, e2⟩ := zip_put (k := k) rv h2
  have hl : vs.length = kvs.length := by
    have := h2.length
    simpa using this
  have hz2 : ((kvs.map (·.1)).zip vs).length < sizeLine := by
    simp [hl]
    exact hz
  have s0 : Sub g3 H3 g3 (upd H3 ad (.dK (putK ((kvs.map (·.1)).zip vs) k v))) := ⟨fun _ h => h, fun b o hA h => by
    rw [upd_ne fun z => I3.wf.ao b hA (by rw [z]; exact .inr (List.mem_of_getElem? hn))]
    exact h, fun b o h i => by
    rw [upd_ne fun z => ?_]
    · exact h
    · rw [z, h1] at h
      cases h
      exact absurd i (by simp [imo]), List.prefix_refl _⟩
  obtain ⟨k1, k2⟩ := I3.put (o' := .dK (putK ((kvs.map (·.1)).zip vs) k v)) (c := .dic false (putD kvs k d1)) hn h1 rfl rfl ⟨vs', by rw [upd_same, e1], e2.sub s0⟩
  exact ⟨ad, _, rfl, .inl ⟨_, k, h1, key_of r3 ek, hz2, rfl⟩, p3 σ _ g3 k1 k2⟩
end
end DL

set_option linter.all false
set_option Elab.async false
set_option maxRecDepth 100000
namespace DL
open PySem PySem.Spec PyProof.Rows L2

/-! ### d.update(e), dict(pairs), {k: v} -/
def rUpd : V → List V → Hp → VK → Prop := fun x xs H Q => ∃ (a b : Addr) (kvs more : List (Key × V)), x = .ref a ∧ xs = [.ref b] ∧ a ≠ b ∧ H a = some (.dK kvs) ∧ Rd H b (.dK more) ∧ kvs.length + more.length ≤ sizeLine ∧ Q .non (upd H a (.dK (mergeK kvs more)))
theorem mtd_update {X : Cx} : MtR X "dict.update" rUpd := by
  intro pins s σ H x vs v us Q I rx rv h
  obtain ⟨a, b, kvs, more, rfl, rfl, ne, e, e2, hz, q⟩ := h
  obtain rfl : v = Value.ref a := rx
  cases rv with
  | cons r rr =>
    cases rr
    cases r
    obtain ⟨z, hd, us, rel, dd⟩ := dk_of I.hok e
    obtain ⟨z2, hd2, us2, rel2, dd2⟩ := dk_rd I.hok e2
    have hsz : us.length + us2.length ≤ sizeLine := by
      rw [← rel.length, ← rel2.length]
      exact hz
    refine call_meetsIn PySem.F.slot_dict_update dd.typeIs PySem.F.entry_dict_update (PySem.F.args_dict_update_2 _ _) (meets_dict_update (mixKind X.prog X.w) a b ne hd2) ⟨us, us2, dd, dd2, hsz, fun h' dd' _ hs => ?_⟩
    have he : ∃ q, h'.get? a = some q := let ⟨q, _, _, hq, _⟩ := dd'; ⟨q, hq⟩
    have rm := KV.merge rel2 rel
    have hl : (mergeK kvs more).length ≤ sizeLine := by
      rw [rm.length]
      exact Nat.le_trans (merged_length_le us us2) hsz
    exact ⟨.non, _, d_write (t' := s.toks) I (by rw [e]; exact True.intro) hs he (dk_new hl hd rm dd'), rfl, q⟩
def mergeD (kvs more : List (Key × D)) : List (Key × D) := more.foldl (fun acc kv => putD acc kv.1 kv.2) kvs
section
variable {K : PySem.W.Frag} {T : Tb} {g g' : Gh} {H H' : Hp} {Γ : Fls} {σ : L2.St} {st : S}
theorem zip_merge : ∀ {more kvs : List (Key × D)} {vs ws : List V}, Rps K T g H (kvs.map (·.2)) vs → Rps K T g H (more.map (·.2)) ws → ∃ vs', mergeK ((kvs.map (·.1)).zip vs) ((more.map (·.1)).zip ws) = ((mergeD kvs more).map (·.1)).zip vs' ∧ Rps K T g H ((mergeD kvs more).map (·.2)) vs'
  | [], kvs, vs, ws, h, h2 => by
    simp only [List.map_nil, Rps] at h2
    subst h2
    exact ⟨vs, rfl, h⟩
  | kv :: more, kvs, vs, ws, h, h2 => by
    simp only [List.map_cons, Rps] at h2
    obtain ⟨w, r, e, h3, h4⟩ := h2
    subst e
    obtain ⟨vs1, e1, h5⟩ := zip_put (k := kv.1) h3 h
    obtain ⟨vs2, e2, h6⟩ := zip_merge (more := more) h5 h4
    refine ⟨vs2, ?_, h6⟩
    show mergeK (putK ((kvs.map (·.1)).zip vs) kv.1 w) ((more.map (·.1)).zip r) = _
    rw [e1]
    exact e2
def pairsD : List D → Option (List (Key × D))
  | [] => some []
  | .tup [k, v] :: r => (match keyD k, pairsD r with
    | some k, some ps => some ((k, v) :: ps)
    | _, _ => none)
  | _ => none
theorem pairs_of : ∀ {ds : List D} {vs : List V} {prs : List (Key × D)}, Rps K T g H ds vs → pairsD ds = some prs → ∃ ps ws, vs = ps.map V.ref ∧ Paired (fun p (kv : Key × V) => SqT K H p [kV kv.1, kv.2]) ps ((prs.map (·.1)).zip ws) ∧ Rps K T g H (prs.map (·.2)) ws := by
  intro ds
  induction ds with
  | nil =>
    intro vs prs h e
    simp only [Rps] at h
    subst h
    cases e
    exact ⟨[], [], rfl, .nil, Rps.nil⟩
  | cons d ds ih =>
    intro vs prs h e
    simp only [Rps] at h
    obtain ⟨v, r, e1, h1, h2⟩ := h
    subst e1
    unfold pairsD at e
    split at e
    · rename_i heq
      cases heq
    · rename_i k w r' heq
      cases heq
      split at e
      · rename_i kk ps' ek ep
        cases e
        obtain ⟨qs, ws, e2, h3, h4⟩ := ih h2 ep
        simp only [Rp] at h1
        obtain ⟨a, us, e3, h5, h6⟩ := h1
        simp only [Rps] at h6
        obtain ⟨ku, r1, e4, h7, wu, r2, e5, h8, e6⟩ := h6
        subst e3 e4 e5 e6 e2
        have ek' := key_sh h7 ek
        subst ek'
        exact ⟨a :: qs, wu :: ws, rfl, .cons h5 h3, Rps.cons h8 h4⟩
      · cases e
    · cases e
end
section
variable {T : Tb} {X : Cx} {Γ Γ' : Fls} {F : Fx} {nx lp : Fls} {rm : Mo} {e a b c o tg iter : Expr} {m m1 m2 m3 : Mo} {f f1 f2 f3 : S → R D} {pos p2 pos' apos cpos tpos : Pos} {es elts : List Expr} {fs : S → R (List D)} {s1 : Stmt} {q : S → RS}
def sUpd (fd fe : S → R D) : S → RS := fun s => (fd s).then fun d s1 => match d with
  | .ref n => (match mDicU s1 n with
    | some _ => (fe s1).then fun e s2 => (match e with
      | .ref n' => if n = n' then .stuck else (match mDicU s2 n, mDic s2 n' with
        | some kvs, some more => if kvs.length + more.length ≤ sizeLine then .next { s2 with m := s2.m.set n (.dic false (mergeD kvs more)) } else .stuck
        | _, _ => .stuck)
      | _ => .stuck)
    | none => .stuck)
  | _ => .stuck
theorem js_upd (hd : JE T X Γ a .b1 f1) (he : JE T X Γ b .sh f2)
    (hb : ∀ {te1 te2 : TE}, PE X a te1 → PE X b te2 → PE X (.Call (.Attribute a "update" apos) [b] [] cpos) (tBM X.K "dict" rUpd te1 (tCons te2 tNil)) := by exact fun h1 h2 => pe_bm PySem.F.plainAttrs_dict PySem.F.slot_dict_update PySem.F.type_dict_update mtd_update h1 (pa_cons h2 pa_nil))
    (hs : swapsWith (.Call (.Attribute a "update" apos) [b] [] cpos) none pos.line X.env = pure false := by rfl) : JS T X Γ ⟨Γ, lp, rm⟩ (.Expr (.Call (.Attribute a "update" apos) [b] [] cpos) pos) (sUpd f1 f2) := by
  refine ⟨fun W tk => PS.imp (ps_expr (hb (hd.run W tk) (he.run W tk)) hs) fun E σ H ⟨B, g, st, I, p⟩ => ?_⟩
  refine te_then I.toSR p fun d1 s1 x H1 g1 q1 I1 r1 p1 => ?_
  split at p1
  case h_2 => exact p1.elim
  rename_i n
  split at p1
  case h_2 => exact p1.elim
  rename_i kvs0 em0
  obtain ⟨ad, ex, hn⟩ := b_ref r1
  subst ex
  obtain ⟨vs0, h0, _⟩ := dic_atU I1 em0 hn
  refine ⟨.inr (.inr (.inl ⟨rfl, .inl ⟨_, h0⟩⟩)), te_then I1 p1 fun d2 s2 y H2 g2 q2 I2 r2 p2 => ?_⟩
  split at p2
  case h_2 => exact p2.elim
  rename_i n'
  split at p2
  case isTrue => exact p2.elim
  rename_i hne
  split at p2
  case h_2 => exact p2.elim
  rename_i kvs more ek em
  split at p2
  case isFalse => exact p2.elim
  rename_i hz
  have hn2 : g2.mu[n]? = some ad := by
    obtain ⟨t, ht⟩ := q2.mu
    rw [← ht, List.getElem?_append_left (List.getElem?_eq_some_iff.mp hn).1]
    exact hn
  simp only [RpM, Rp] at r2
  obtain ⟨bd, ey, hn'⟩ := r2
  subst ey
  obtain ⟨vs, h1, h2⟩ := dic_atU I2 ek hn2
  obtain ⟨ws, h3, h4⟩ := dic_at I2 em hn'
  have nab : ad ≠ bd := fun z => by
    subst z
    obtain ⟨h3, e3⟩ := List.getElem?_eq_some_iff.mp hn2
    obtain ⟨h4, e4⟩ := List.getElem?_eq_some_iff.mp hn'
    exact hne ((List.getElem_inj I2.wf.nm).mp (e3.trans e4.symm))
  obtain ⟨vs', e1, e2⟩ := zip_merge h2 h4
  have l1 : vs.length = kvs.length := by
    have := h2.length
    simpa using this
  have l2 : ws.length = more.length := by
    have := h4.length
    simpa using this
  have hz2 : ((kvs.map (·.1)).zip vs).length + ((more.map (·.1)).zip ws).length ≤ sizeLine := by
    simp [l1, l2]
    exact hz
  have s0 : Sub g2 H2 g2 (upd H2 ad (.dK (mergeK ((kvs.map (·.1)).zip vs) ((more.map (·.1)).zip ws)))) := ⟨fun _ h => h, fun b o hA h => by
    rw [upd_ne fun z => I2.wf.ao b hA (by rw [z]; exact .inr (List.mem_of_getElem? hn2))]
    exact h, fun b o h i => by
    rw [upd_ne fun z => ?_]
    · exact h
    · rw [z, h1] at h
      cases h
      exact absurd i (by simp [imo]), List.prefix_refl _⟩
  obtain ⟨k1, k2⟩ := I2.put (o' := .dK (mergeK ((kvs.map (·.1)).zip vs) ((more.map (·.1)).zip ws))) (c := .dic false (mergeD kvs more)) hn2 h1 rfl rfl ⟨vs', by rw [upd_same, e1], e2.sub s0⟩
  exact ⟨ad, bd, _, _, rfl, rfl, nab, h1, h3, hz2, p2 σ _ g2 k1 k2⟩
def dictD : D → S → R D := fun d s => match d with
  | .lst ds => (match pairsD ds with
    | some prs => .ok (.ref s.m.length) { s with m := s.m ++ [.dic false (mergeD [] prs)] }
    | none => .stuck)
  | _ => .stuck
theorem je_dictP (hc : X.calm = true) (hg : Gl X "dict") (hm : X.mg "dict" = none) (ha : JE T X Γ a .b1 f) (hs : starEach [a] X.env = (false, eval a X.env) :: starEach [] X.env := by rfl) (hpl : (backTo pos (starEach [] X.env)).any (·.1) = false := by rfl) :
    JE T X Γ (.Call (.Name "dict" p2) [a] [] pos) .sh (e1 dictD f) := by
  refine ⟨fun W tk => PE.imp (pe_callTy (call_dictP hc) hg hm (by decide +kernel) (pa_cons (ha.run W tk) pa_nil hs) (by decide) (by decide) hs hpl) fun σ H Q ⟨g, st, I, p⟩ => ?_⟩
  refine te_bind ipE I p fun d1 s1 x H1 g1 q1 I1 r1 p1 => ?_
  unfold dictD at p1
  split at p1
  case h_2 => exact p1.elim
  rename_i ds
  split at p1
  case h_2 => exact p1.elim
  rename_i prs ep
  obtain ⟨ad, vs, ex, h1, _, h2⟩ := b_lst r1
  subst ex
  obtain ⟨ps, ws, e1, h3, h4⟩ := pairs_of h2 ep
  subst e1
  refine ⟨ad, ps, _, rfl, .inl (.inl h1), h3, fun p' hp => ?_⟩
  have I2 := I1.new (o := .dK (mergeK [] ((prs.map (·.1)).zip ws))) hp
  obtain ⟨vs', e2, h5⟩ := zip_merge (K := X.K) (T := T) (g := g1) (H := H1) (kvs := []) (vs := []) Rps.nil h4
  exact post_cell (m := .sh) (c := .dic false (mergeD [] prs)) I1 hp rfl ⟨vs', by rw [upd_same]; exact congrArg (fun z => some (HO.dK z)) e2, (h5.step I1.wf (.new hp)).sub .more⟩ p1
end
end DL

set_option linter.all false
set_option Elab.async false
set_option maxRecDepth 100000
namespace DL
open PySem PySem.Spec PyProof.Rows L2

/-! ### x in a list or a tuple of data -/
theorem op_inDT {X : Cx} (hu : X.A.units + 65 < cLine) : OpR X (compareOp .In) (fun x y H Q => ∃ d ds, Dp X.K H x d ∧ Dp X.K H y (.tuple ds) ∧ SeqAt.shaped d = true ∧ SeqAt.shaped (.tuple ds) = true ∧ Q (.bl (ds.any fun z => PyData.eqv z d)) H) := by
  intro pins s σ H x y v u Q I rx ry h
  obtain ⟨d, ds, hd, he, sd, se, q⟩ := h
  obtain ⟨as, r1⟩ := Dp.reads I d x v hd rx
  obtain ⟨bs, r2⟩ := Dp.reads I (.tuple ds) y u he ry
  exact SeqAt.in_tuple_reads r2 r1 (SeqAt.canLay_of_shaped se) (SeqAt.canLay_of_shaped sd) (room_in_shaped sd hu) ⟨.bl _, H, I, rfl, q⟩
theorem op_notInDT {X : Cx} (hu : X.A.units + 65 < cLine) : OpR X (compareOp .NotIn) (fun x y H Q => ∃ d ds, Dp X.K H x d ∧ Dp X.K H y (.tuple ds) ∧ SeqAt.shaped d = true ∧ SeqAt.shaped (.tuple ds) = true ∧ Q (.bl (!ds.any fun z => PyData.eqv z d)) H) := by
  intro pins s σ H x y v u Q I rx ry h
  obtain ⟨d, ds, hd, he, sd, se, q⟩ := h
  obtain ⟨as, r1⟩ := Dp.reads I d x v hd rx
  obtain ⟨bs, r2⟩ := Dp.reads I (.tuple ds) y u he ry
  exact SeqAt.notIn_tuple_reads r2 r1 (SeqAt.canLay_of_shaped se) (SeqAt.canLay_of_shaped sd) (room_in_shaped sd hu) ⟨.bl _, H, I, rfl, q⟩
def inD (x y : D) : Option Bool := match toP x, toP y with
  | some d, some (.list ds) => if SeqAt.shaped d && SeqAt.shaped (.list ds) then some (ds.any fun z => PyData.eqv z d) else none
  | some d, some (.tuple ds) => if SeqAt.shaped d && SeqAt.shaped (.tuple ds) then some (ds.any fun z => PyData.eqv z d) else none
  | _, _ => none
def notinD (x y : D) : Option Bool := (inD x y).map (!·)
theorem OpR.or {X : Cx} {f : Value → Value → Sem Value} {r r' : R2} (h : OpR X f r) (h' : OpR X f r') : OpR X f (fun x y H Q => r x y H Q ∨ r' x y H Q) := by
  intro pins s σ H x y v u Q I rx ry q
  rcases q with q | q
  · exact h pins s σ H x y v u Q I rx ry q
  · exact h' pins s σ H x y v u Q I rx ry q
theorem cmp_in {X : Cx} {T : Tb} (hu : X.A.units + 65 < cLine) : CmpR X T .In .b1 .b1 inD := by
  refine ⟨_, (op_inD hu).or (op_inDT hu), fun Γ g σ H st Q x y d1 d2 H0 H1 k I r1 r2 e p => ?_⟩
  unfold inD at e
  split at e
  · rename_i d ds e1 e2
    split at e
    · rename_i hz
      rw [Bool.and_eq_true] at hz
      cases e
      exact .inl ⟨d, ds, dp_b r1 e1, dp_b r2 e2, hz.1, hz.2, p⟩
    · cases e
  · rename_i d ds e1 e2
    split at e
    · rename_i hz
      rw [Bool.and_eq_true] at hz
      cases e
      exact .inr ⟨d, ds, dp_b r1 e1, dp_b r2 e2, hz.1, hz.2, p⟩
    · cases e
  · cases e
theorem cmp_notin {X : Cx} {T : Tb} (hu : X.A.units + 65 < cLine) : CmpR X T .NotIn .b1 .b1 notinD := by
  refine ⟨_, (op_notInD hu).or (op_notInDT hu), fun Γ g σ H st Q x y d1 d2 H0 H1 k I r1 r2 e p => ?_⟩
  unfold notinD inD at e
  split at e
  · rename_i d ds e1 e2
    split at e
    · rename_i hz
      rw [Bool.and_eq_true] at hz
      cases e
      exact .inl ⟨d, ds, dp_b r1 e1, dp_b r2 e2, hz.1, hz.2, p⟩
    · cases e
  · rename_i d ds e1 e2
    split at e
    · rename_i hz
      rw [Bool.and_eq_true] at hz
      cases e
      exact .inr ⟨d, ds, dp_b r1 e1, dp_b r2 e2, hz.1, hz.2, p⟩
    · cases e
  · cases e
theorem hu65 {k : Nat} {A : Around} (r : Room k A) : A.units + 65 < cLine := by
  have := r.un
  omega
end DL

set_option linter.all false
set_option Elab.async false
set_option maxRecDepth 100000
namespace DL
open PySem PySem.Spec PyProof.Rows L2
open AutoSeq1 (wpAny_loadPart')

/-! ### enumerate(tuple) -/
set_option maxHeartbeats 1000000 in
theorem enum_new1 {v : Value} {o : Obj} {Hq : Heap → Prop} (B : Begins v o Hq) :
    Meets (Builtin.«enumerate.__new__» ⟨[.type "enumerate", v], []⟩) (fun _ R s => Hq s.heap ∧
      R (.ok (.ret (.ref (s.heap.push o).objs.size))) { s with heap := (s.heap.push o).push { cls := .type "enumerate", data := .fields #[.none, .bool false, .ref s.heap.objs.size, rawInt 0, .none, .none] } }) :=
  .of_wp fun prog w A R s h => by
    obtain ⟨hp, g, d, tk, os⟩ := s
    obtain ⟨h1, h⟩ := h
    have hsub := sub_enumerate
    have q1 : ∀ {A' : Around} {E : Value → Shared → Prop} {Q : Value → Shared → Prop}, Q (.ref hp.objs.size) ⟨hp.push o, g, d, tk, os⟩ → wpAny (model prog w) A' (pyIter v) Q E ⟨hp, g, d, tk, os⟩ :=
      fun q => B.iter prog w _ _ ⟨hp, g, d, tk, os⟩ _ h1 q
    wp_walk using q1
    refine wpAny_stack_any fun st => wpAny_pure ?_
    split
    · rename_i c _ _ _ _ _
      cases (c == Value.type "enumerate") <;> (wp_walk using q1; exact ⟨_, rfl, h⟩)
    · wp_walk using q1
      exact ⟨_, rfl, h⟩
theorem call_enumT {prog : Program} {w : World} {A : Around} {E : Value → Shared → Prop} {s : Shared} {v : Value} {o : Obj} {Hq : Heap → Prop} {Q : Value → Shared → Prop} (B : Begins v o Hq) (h1 : Hq s.heap)
    (h : ∀ h', IsEnum h' (s.heap.objs.size + 1) s.heap.objs.size 0 .none → h'.get? s.heap.objs.size = some o → h'.objs.size = s.heap.objs.size + 2 → (∀ b o, s.heap.get? b = some o → h'.get? b = some o) → Q (.ref (s.heap.objs.size + 1)) { s with heap := h' }) :
    wpAny (model prog w) A (call (.type "enumerate") [v]) Q E s := by
  refine callType_new F.called_enumerate (by decide) (F.typeCall_enumerate_1 _) (F.newCall_enumerate_1 _) (fun obj => F.args_object_init_2 obj _) F.entry_enumerate_new (enum_new1 B) ⟨h1, ?_⟩
  have hz : (s.heap.push o).objs.size = s.heap.objs.size + 1 := Heap.size_push ..
  show _ ∧ _
  rw [hz]
  have he : IsEnum ((s.heap.push o).push { cls := .type "enumerate", data := .fields #[.none, .bool false, .ref s.heap.objs.size, rawInt 0, .none, .none] }) (s.heap.objs.size + 1) s.heap.objs.size 0 .none := by
    have z := Heap.get?_push_size (s.heap.push o) (o := { cls := .type "enumerate", data := .fields #[.none, .bool false, .ref s.heap.objs.size, rawInt 0, .none, .none] }) rfl
    rw [hz] at z
    exact z
  exact ⟨⟨_, he, rfl⟩, h _ he (Heap.get?_push_of_some _ (Heap.get?_push_size _ B.free)) (by rw [Heap.size_push, hz]) fun b o x => Heap.get?_push_of_some _ (Heap.get?_push_of_some _ x)⟩
def IteT (K : PySem.W.Frag) (a : Addr) : It :=
  ⟨fun i H => ∃ (xs : List V) (x : V), SqT K H a xs ∧ xs[i]? = some x, fun i H v H' => ∃ p x, v = .ref p ∧ H p = none ∧ H' = upd H p (.tup [.int (i : Nat), x]) ∧ ∀ xs, SqT K H a xs → xs[i]? = some x, fun i H => ∃ xs : List V, SqT K H a xs ∧ xs.length = i⟩
theorem turn_enumT {P : Program} {w : World} {K : PySem.W.Frag} {elts : List Expr} {kk : Nat} {tpos : Pos} (a e it : Addr) :
    Turn P w K (.Tuple elts kk tpos) (IteT K a) [e, it] e (fun i h => (∃ old, IsEnum h e it ((i : Nat) : Int) old) ∧ h.IsTupleIter it a i ∧ e ≠ it ∧ a ≠ it ∧ e ≠ a) where
  mem := by simp
  obj := fun i h st b hb => by
    obtain ⟨⟨old, he⟩, ⟨o, ho, hc, hd⟩, _⟩ := st
    have e' : b = e ∨ b = it := by simpa using hb
    rcases e' with z | z
    · rw [z]
      exact ⟨_, he, fun v q => nomatch q⟩
    · rw [z]
      exact ⟨o, ho, fun v q => by rw [hd] at q; cases q⟩
  keep := fun i h h' st k => let ⟨⟨old, he⟩, hi, hne⟩ := st; ⟨⟨old, k e (by simp) _ he⟩, hi.at fun o q => k it (by simp) o q, hne⟩
  item := by
    intro X hP hw hK hc i pins s σ H E I hf st hg
    subst hP hw hK
    obtain ⟨⟨old, he⟩, hit, hne, hai, hea⟩ := st
    obtain ⟨xs, x, hq, hx⟩ := hg
    obtain ⟨its, rv, p, hz⟩ := I.tuple hq
    obtain ⟨u, hu, ru⟩ := rv.get hx
    have hel : e < s.heap.objs.size := Heap.lt_size he
    have hil : it < s.heap.objs.size := by obtain ⟨_, q, _⟩ := hit; exact Heap.lt_size q
    have hlt : i < its.toArray.size := by
      have := (List.getElem?_eq_some_iff.mp hu).1
      simpa using this
    have hh : X.A.handled = none := I.ok.hd hc
    refine wpAny_pyNext_enum_itemC (Draws.tuple (prog := X.prog) (w := X.w) (A := X.A.in1) hh it a hai its.toArray) he ⟨hit, p⟩ hlt hne (by simp [hne, hea]) fun y h' tk hy ho hs' hT hsz hk => ?_
    have ey : y = u := by
      have : its[i]? = some y := by simpa using hy
      rw [hu] at this
      cases this
      rfl
    subst ey
    refine ⟨_, rfl, wpAny_letOwnedTupleGo_enum (s := { s with heap := h', toks := tk + 1 }) ho fun h'' he' sb => ?_⟩
    have hT2 : h''.get? s.heap.objs.size = some { cls := .type "tuple", data := .seq #[.int i tk, y] } := (sb.2 _ (Nat.ne_of_gt hel)).trans hT
    have new : ObjOk X.prog X.w (upd H s.heap.objs.size (.tup [.int (i : Nat), x])) h'' s.heap.objs.size (.tup [.int (i : Nat), x]) :=
      ⟨by show 2 ≤ sizeLine; decide, [.int i tk, y], .cons ⟨_, rfl⟩ (.cons ru .nil), ⟨_, hT2, rfl, _, rfl⟩⟩
    have I1 : Inv X pins σ (upd H s.heap.objs.size (.tup [.int (i : Nat), x])) { s with heap := h'', toks := tk + 1 } :=
      I.turnedNew (ch := [e, it]) (fun b ob hb q => (sb.2 b (fun z => hb (by simp [z]))).trans (hk b ob (fun z => hb (by simp [z])) (fun z => hb (by simp [z])) q)) hf (Nat.le_refl _) new
    refine ⟨.ref s.heap.objs.size, _, I1, rfl, ⟨_, x, rfl, I.hok.fresh (Nat.le_refl _), rfl, fun ys hy => by rw [I.tuple_inj hy hq]; exact hx⟩, ⟨⟨y, ?_⟩, hs'.1.at fun o q => (sb.2 it (Ne.symm hne)).trans q, hne, hai, hea⟩, fun b hb => ?_⟩
    · have e1 : ((i + 1 : Nat) : Int) = (i : Int) + 1 := by omega
      rw [e1]
      exact he'
    · have hb' : b < s.heap.objs.size := by
        have e' : b = e ∨ b = it := by simpa using hb
        rcases e' with z | z
        · rw [z]; exact hel
        · rw [z]; exact hil
      rw [upd_ne (Nat.ne_of_lt hb')]
      exact (hf b hb).1
  done := by
    intro X hP hw hK hc i pins s σ H E I hf st hg
    subst hP hw hK
    obtain ⟨⟨old, he⟩, hit, hne, hai, hea⟩ := st
    obtain ⟨xs, hq, hx⟩ := hg
    obtain ⟨its, rv, p, hz⟩ := I.tuple hq
    have hl : its.toArray.size = i := by
      rw [List.size_toArray, ← rv.length]
      exact hx
    have hh : X.A.handled = none := I.ok.hd hc
    obtain ⟨f0, f1, f2, f3, f4, f5⟩ := hf it (by simp)
    exact wpAny_pyNext_enum_endD (Draws.tuple (prog := X.prog) (w := X.w) (A := X.A.in1) hh it a hai its.toArray) he ⟨by rw [hl]; exact hit, p⟩ fun h' eb => ⟨rfl, I.turned (t' := s.toks) (fun b o hb q => eb b o hb q) f0 f1 f3 f4 f5⟩
  self := fun A i s Q E st h => let ⟨⟨_, he⟩, _⟩ := st; wpAny_pyIter_enum he h
def iEnumT (K : PySem.W.Frag) (ta : TA) : TI := fun σ H R => ta σ H fun vs H1 => ∃ a xs, vs = [.ref a] ∧ SqT K H1 a xs ∧ R (IteT K a) H1
theorem pi_enumT {X : Cx} {e : Expr} {ta : TA} {p pos tpos : Pos} {elts : List Expr} {kk : Nat} (hg : Gl X "enumerate") (hm : X.mg "enumerate" = none) (ha : PA X [e] ta) (hs : starEach [e] X.env = [(false, eval e X.env)] := by rfl) :
    PI X (.Tuple elts kk tpos) (.Call (.Name "enumerate" p) [e] [] pos) (iEnumT X.K ta) := by
  refine ⟨fun pins s σ H R I h => ?_⟩
  refine Call_ (ld_blt I hg hm boot_enumerate (PyProof.Rows.callWith_type1 (thn (ha.run pos pins s σ H _ I h) fun us s1 ⟨vs, H1, I1, r1, q1⟩ => ?_) hs rfl))
  obtain ⟨a, xs, ex, hq, q⟩ := q1
  subst ex
  cases r1 with
  | cons r rr =>
    cases rr
    cases r
    obtain ⟨its, rv, p', hz⟩ := I1.tuple hq
    have hal : a < s1.heap.objs.size := p'.lt
    refine call_enumT (begins_tuple a its.toArray) p' fun h' he hit hsz hk => wpAny_pyIter_enum he ?_
    have I2 : Inv X pins σ H1 { s1 with heap := h' } := I1.kept (t' := s1.toks) hk
    refine ⟨s1.heap.objs.size + 1, [s1.heap.objs.size + 1, s1.heap.objs.size], _, _, H1, rfl, I2, turn_enumT a (s1.heap.objs.size + 1) s1.heap.objs.size, ⟨⟨.none, he⟩, ⟨_, hit, rfl, rfl⟩, Nat.succ_ne_self _, Nat.ne_of_lt hal, Nat.ne_of_gt (Nat.lt_succ_of_lt hal)⟩, fun b hb => ?_, q⟩
    have e' : b = s1.heap.objs.size + 1 ∨ b = s1.heap.objs.size := by simpa using hb
    have hle : s1.heap.objs.size ≤ b := by
      rcases e' with z | z <;> rw [z]
      · exact Nat.le_add_right _ _
      · exact Nat.le_refl _
    exact I1.fpOk hle (I1.hok.fresh hle)
def enumTI : List D → S → R (List D)
  | [.tup xs], s => .ok (enumL xs) s
  | _, _ => .stuck
section
variable {T : Tb} {X : Cx} {Γ : Fls} {e : Expr} {fs : S → R (List D)} {pos : Pos}
theorem ji_enumT {p tpos : Pos} {elts : List Expr} {kk : Nat} (hg : Gl X "enumerate") (hm : X.mg "enumerate" = none) (ha : JA T X Γ [e] fs) (hs : starEach [e] X.env = [(false, eval e X.env)] := by rfl) : JI T X Γ (.Tuple elts kk tpos) (.Call (.Name "enumerate" p) [e] [] pos) (iN enumTI fs) := by
  refine ⟨fun W tk => PI.imp (pi_enumT hg hm (ha.run W tk) hs) fun σ H R ⟨g, st, I, p⟩ => ?_⟩
  refine ta_bind ipI I p fun ds s1 vs H1 g1 q1 I1 r1 p1 => ?_
  unfold enumTI at p1
  split at p1
  case h_2 => exact p1.elim
  rename_i xs
  simp only [Rps] at r1
  obtain ⟨v, r, ev, hv, er⟩ := r1
  subst er ev
  simp only [Rp] at hv
  obtain ⟨a, ws, ex, h1, h2⟩ := hv
  subst ex
  refine ⟨a, ws, rfl, h1, p1 _ H1 g1 (.refl g1 H1) I1 ?_⟩
  refine ⟨fun i d g' H' s w e => ?_, fun g' H' s w => ⟨ws, SqT.step I1.wf s h1, by rw [enumL_len, h2.length]⟩, fun i d g' H' x H'' s w e y => ?_⟩
  · obtain ⟨z, ez, _⟩ := enumL_get e
    obtain ⟨v, q, _⟩ := h2.get ez
    exact ⟨ws, v, SqT.step I1.wf s h1, q⟩
  · obtain ⟨z, ez, ed⟩ := enumL_get e
    obtain ⟨v, q, rv⟩ := h2.get ez
    obtain ⟨p, v', ex, hp, eh, hv⟩ := y
    have := (hv ws (SqT.step I1.wf s h1)).symm.trans q
    cases this
    subst ed ex eh
    refine .inr ⟨p, _, hp, rfl, ?_⟩
    simp only [Rp]
    exact ⟨p, _, rfl, .inl (.inl upd_same), Rps.cons rp_int (.one ((rv.step I1.wf s).step w (.new hp)))⟩
end
end DL

set_option linter.all false
set_option Elab.async false
set_option maxRecDepth 100000
namespace DL
open PySem PySem.Spec PyProof.Rows L2

/-! ### x, y = a, b with fresh lists -/
section
variable {K : PySem.W.Frag} {T : Tb} {g g' : Gh} {H H' H0 : Hp} {d : D} {v : V}
/-- a value beside a slot that has got a fresh list -/
theorem RpM.slot {m : Mo} {i : Nat} {L : List Addr} {g1 : Gh} {H1 : Hp} (hm : m = .sh ∨ m = .f1) (hL : ∀ b ∈ L, H1 b = none) (r1 : RpM K T g1 H0 H1 m d v) (r : RpM K T g H0 H m d v) : RpM K T (g.slot i L) H0 H m d v := by
  rcases hm with rfl | rfl
  · exact Rp.sub .slot r
  · cases d with
    | lst ds =>
      obtain ⟨a, vs, e, h1, h2, h3⟩ := r
      obtain ⟨a', vs', e', h1', _, _⟩ := r1
      rw [e] at e'
      cases e'
      refine ⟨a, vs, e, h1, ⟨h2.1, fun q => ?_, h2.2.2⟩, h3.sub .slot⟩
      rcases slot_own q with q | q
      · exact h2.2.1 q
      · rw [hL a q] at h1'
        cases h1'
    | _ => exact Rp.sub .slot r
end
section
variable {T : Tb} {X : Cx} {Γ Γ' Γ2 : Fls} {F : Fx} {nx lp : Fls} {rm : Mo} {e a b c tg iter : Expr} {m m1 m2 m3 : Mo} {f f1 f2 f3 : S → R D} {pos p2 pos' : Pos}
def isL : Mo → D → Bool
  | .f1, .lst _ => true
  | .f1, _ => false
  | _, _ => true
def sParM (m1 m2 : Mo) (i j : Nat) (f1 f2 : S → R D) : S → RS := fun s => (f1 s).then fun d1 s1 => (f2 s1).then fun d2 s2 => if isL m1 d1 && isL m2 d2 then .next { s2 with r := (s2.r.set i (some d1)).set j (some d2) } else .stuck
theorem js_parM (i j : Nat) {x y : Str} {px py pt : Pos} {kt k2 pt2} (hc : X.calm = true) (hN : X.N.Nodup) (ha : JE T X Γ a m1 f1) (hb : JE T X Γ b m2 f2) (hm1 : m1 = .sh ∨ m1 = .f1) (hm2 : m2 = .sh ∨ m2 = .f1)
    (hΓ1 : ∀ k, fl Γ2 k = if k = j then m2.fl else fl Γ k) (hΓ2 : ∀ k, fl Γ' k = if k = i then m1.fl else fl Γ2 k) (hi : X.N[i]? = some x := by rfl) (hj : X.N[j]? = some y := by rfl) (hij : i ≠ j := by decide)
    (hx : X.env.scope.names.lookup x = some .local := by rfl) (hy : X.env.scope.names.lookup y = some .local := by rfl)
    (hw : swappedStores [.Tuple [.Name x px, .Name y py] kt pt] (.Tuple [a, b] k2 pt2) X.env = pure (some [x, y]) := by rfl) (hs : swapsWithSole [.Tuple [.Name x px, .Name y py] kt pt] (.Tuple [a, b] k2 pt2) pos.line X.env = pure false := by rfl)
    (hst : starEach [a, b] X.env = (false, eval a X.env) :: starEach [b] X.env := by rfl) (hst2 : starEach [b] X.env = (false, eval b X.env) :: starEach [] X.env := by rfl) :
    JS T X Γ ⟨Γ', lp, rm⟩ (.Assign [.Tuple [.Name x px, .Name y py] kt pt] (.Tuple [a, b] k2 pt2) pos) (sParM m1 m2 i j f1 f2) := by
  refine ⟨fun W tk => PS.imp (ps_par hc hN hi hj hij hx hy (pa_cons (ha.run W tk) (pa_cons (hb.run W tk) pa_nil hst2) hst) hw hs) fun E σ H ⟨B, g, st, I, p⟩ => ?_⟩
  have fm : ∀ {m : Mo} {d : D}, (m = .sh ∨ m = .f1) → isL m d = true → flOf m d = m.fl := by
    intro m d h q
    rcases h with rfl | rfl
    · rfl
    · cases d <;> first | rfl | cases q
  refine ⟨g, st, I.toSR, ?_⟩
  unfold sParM at p
  cases e1 : f1 st with
  | raise ex s1 => rw [e1] at p; exact fun cls dd H' g' => p cls dd σ H' g'
  | stuck => rw [e1] at p; exact p
  | ok d1 s1 =>
    rw [e1] at p
    intro v H1 g1 q1 I1 r1
    refine ⟨g1, s1, I1, ?_⟩
    simp only [R.then] at p
    cases e2 : f2 s1 with
    | raise ex s2 => rw [e2] at p; exact fun cls dd H' g' s => p cls dd σ H' g' (q1.toStep.trans s)
    | stuck => rw [e2] at p; exact p
    | ok d2 s2 =>
      rw [e2] at p
      intro w H2 g2 q2 I2 r2
      simp only at p
      split at p
      case isFalse => exact p.elim
      rename_i hz
      rw [Bool.and_eq_true] at hz
      obtain ⟨L, k1, k2', k3⟩ := I2.asg (Γ' := Γ2) (i := j) q2.toStep (by rcases hm2 with h | h <;> simp [h]) r2 (by rw [fm hm2 hz.2]; exact hΓ1)
      have r1' := RpM.slot (i := j) hm1 (fun b hb => (k3 b hb).2.2) r1 (r1.step I1.wf I2.wf q2)
      obtain ⟨L', k4, k5, _⟩ := k2'.asg (Γ' := Γ') (i := i) (q1.toStep.trans k1) (by rcases hm1 with h | h <;> simp [h]) r1' (by rw [fm hm1 hz.1]; exact hΓ2)
      refine ⟨v, w, rfl, ?_⟩
      rw [show (σ.set i (some v)).set j (some w) = (σ.set j (some w)).set i (some v) from List.set_comm _ _ hij]
      rw [show ((s2.r.set i (some d1)).set j (some d2)) = (s2.r.set j (some d2)).set i (some d1) from List.set_comm _ _ hij] at p
      exact p _ H2 _ k4 k5
end
end DL

set_option linter.all false
set_option Elab.async false
set_option maxRecDepth 100000
namespace DL
open PySem PySem.Spec PyProof.Rows L2

section
variable {T : Tb} {X : Cx} {Γ Γ' Γ2 : Fls} {F : Fx} {nx lp : Fls} {rm : Mo} {e a b c tg iter : Expr} {m m1 m2 m3 : Mo} {f f1 f2 f3 : S → R D} {pos p2 pos' : Pos} {fs fi fi' : S → R (List D)}
theorem ji_either (c : S → Bool) (h1 : JI T X Γ tg e fi) (h2 : JI T X Γ tg e fi') : JI T X Γ tg e (fun s => if c s then fi s else fi' s) := by
  refine ⟨fun W tk => ⟨fun pins s σ H R I h => ?_⟩⟩
  obtain ⟨g, st, I1, p⟩ := h
  by_cases hc : c st = true
  · simp only [hc, if_true] at p
    exact (h1.run W tk).run pins s σ H R I ⟨g, st, I1, p⟩
  · rw [Bool.not_eq_true] at hc
    simp only [hc, Bool.false_eq_true, if_false] at p
    exact (h2.run W tk).run pins s σ H R I ⟨g, st, I1, p⟩
def tupAt (fs : S → R (List D)) : S → Bool := fun s => match fs s with
  | .ok [.tup _] _ => true
  | _ => false
def iEnumB (fs : S → R (List D)) : S → R (List D) := fun s => if tupAt fs s then iN enumTI fs s else iN enumI fs s
theorem ji_enumB {p tpos : Pos} {elts : List Expr} {kk : Nat} (hg : Gl X "enumerate") (hm : X.mg "enumerate" = none) (ha : JA T X Γ [e] fs) (hs : starEach [e] X.env = [(false, eval e X.env)] := by rfl) : JI T X Γ (.Tuple elts kk tpos) (.Call (.Name "enumerate" p) [e] [] pos) (iEnumB fs) :=
  ji_either (tupAt fs) (ji_enumT hg hm ha hs) (ji_enum hg hm ha hs)
end
end DL

set_option linter.all false
set_option Elab.async false
set_option maxRecDepth 100000
namespace DL
open PySem PySem.Spec PyProof.Rows L2

/-! ### {k: v} -/
def eDic1 (f1 f2 : S → R D) : S → R D := fun st => (f1 st).bind fun k s1 => (f2 s1).bind fun v s2 => match keyD k with
  | some k => .ok (.ref s2.m.length) { s2 with m := s2.m ++ [.dic false [(k, v)]] }
  | none => .stuck
section
variable {T : Tb} {X : Cx} {Γ : Fls} {a b : Expr} {f1 f2 : S → R D} {pos : Pos}
theorem je_dic1 (ha : JE T X Γ a .sh f1) (hb : JE T X Γ b .sh f2) : JE T X Γ (.Dict [some a] [b] pos) .sh (eDic1 f1 f2) := by
  refine ⟨fun W tk => PE.imp (pe_disp (pps_cons (ha.run W tk) (hb.run W tk) pps_nil) rfl rfl (by simp) (by simp)) fun σ H Q ⟨g, st, I, p⟩ => fun q hq => ?_⟩
  have I0 := I.new (o := .dK []) hq
  have q0 : QStep g H g (upd H q (.dK [])) := ⟨.new hq, rfl, fun i b hb => by
    obtain ⟨o', e, _⟩ := I.wf.ot b (.inl ⟨i, hb⟩)
    rw [upd_ne (ne_of_none e hq)]⟩
  refine ⟨g, st, I0, ?_⟩
  unfold eDic1 at p
  cases e1 : f1 st with
  | raise ex s1 => rw [e1] at p; exact fun cls dd H' g' s => p cls dd H' g' (q0.toStep.trans s)
  | stuck => rw [e1] at p; exact p
  | ok d1 s1 =>
    rw [e1] at p
    intro v H1 g1 q1 I1 r1
    refine ⟨g1, s1, I1, ?_⟩
    simp only [R.bind] at p
    cases e2 : f2 s1 with
    | raise ex s2 => rw [e2] at p; exact fun cls dd H' g' s => p cls dd H' g' ((q0.toStep.trans q1.toStep).trans s)
    | stuck => rw [e2] at p; exact p
    | ok d2 s2 =>
      rw [e2] at p
      intro w H2 g2 q2 I2 r2
      simp only at p
      split at p
      case h_2 => exact p.elim
      rename_i k ek
      have qs : QStep g H g2 H2 := (q0.trans q1).trans q2
      have hp1 : H1 q = some (.dK []) := q1.fr q _ upd_same (I.wf.noto hq)
      have no1 : ¬ g1.Own q := fun z => by
        rcases q1.on q z with z | z
        · exact I.wf.noto hq z
        · rw [upd_same] at z
          cases z
      have hp2 : H2 q = some (.dK []) := q2.fr q _ hp1 no1
      have no2 : ¬ g2.Own q := fun z => by
        rcases q2.on q z with z | z
        · exact no1 z
        · rw [hp1] at z
          cases z
      have na1 : ¬ g1.A q := fun z => by
        rcases q1.an q z with z | z | z
        · exact I.wf.nota hq z
        · exact I.wf.noto hq z
        · rw [upd_same] at z
          cases z
      have na2 : ¬ g2.A q := fun z => by
        rcases q2.an q z with z | z | z
        · exact na1 z
        · exact no1 z
        · rw [hp1] at z
          cases z
      have kv : v = kV k := key_sh r1 ek
      have u : Sub g2 H2 g2 (upd H2 q (.dK [(k, w)])) := ⟨fun _ h => h, fun b o hA h => by
        rw [upd_ne fun z => na2 (by rw [← z]; exact hA)]
        exact h, fun b o h i => by
        rw [upd_ne fun z => ?_]
        · exact h
        · rw [z, hp2] at h
          cases h
          exact absurd i (by simp [imo]), List.prefix_refl _⟩
      have wf : WF g2 (upd H2 q (.dK [(k, w)])) := ⟨fun b hb => by
        obtain ⟨o', e⟩ := I2.wf.ta b hb
        exact ⟨o', by rw [upd_ne fun z => na2 (by rw [← z]; exact hb)]; exact e⟩, fun b hb => by
        obtain ⟨o', e⟩ := I2.wf.ot b hb
        exact ⟨o', by rw [upd_ne fun z => no2 (by rw [← z]; exact hb)]; exact e⟩, I2.wf.ao, I2.wf.nf, I2.wf.df, I2.wf.fm, I2.wf.nm⟩
      have I3 : SR X.K T Γ g2 σ (upd H2 q (.dK [(k, w)])) s2 := I2.sub u wf rfl rfl fun b hb => by rw [upd_ne fun z => no2 (by rw [← z]; exact hb)]
      have I4 := I3.more (a := q) (o := .dK [(k, w)]) (c := .dic false [(k, d2)]) upd_same rfl na2 no2 ⟨[w], upd_same, Rps.one ((Rp.sub u r2).sub .more)⟩
      have q4 : QStep g H (g2.more q) (upd H2 q (.dK [(k, w)])) := ⟨(⟨qs.aa, qs.an, qs.on, fun b o' h n => by
        rw [upd_ne (ne_of_none h hq)]
        exact qs.fr b o' h n, fun b o' h i => by
        rw [upd_ne (ne_of_none h hq)]
        exact qs.im b o' h i, fun b h => by
        by_cases e : b = q
        · rw [e]
          exact hq
        · rw [upd_ne e] at h
          exact qs.tr b h, qs.mu⟩ : Step g H g2 (upd H2 q (.dK [(k, w)]))).more hq, qs.qf, fun i b hb => by
        obtain ⟨o', e, _⟩ := I.wf.ot b (.inl ⟨i, hb⟩)
        rw [upd_ne (ne_of_none e hq)]
        exact qs.qo i b hb⟩
      exact ⟨hp2, [(k, w)], by rw [kv]; rfl, by simp, p _ _ _ q4 I4 (ref_more I3)⟩
end
end DL

set_option linter.all false
set_option Elab.async false
set_option maxRecDepth 100000
namespace DL
open PySem PySem.Spec PyProof.Rows L2

/-! ### zip of a list and a tuple, in any mixture -/
def SqK (K : PySem.W.Frag) (t : Bool) (H : Hp) (a : Addr) (xs : List V) : Prop := if t then SqT K H a xs else SqL K H a xs
def ItK (t : Bool) (h : Heap) (it a : Addr) (i : Nat) : Prop := if t then h.IsTupleIter it a i else h.IsListIter it a i
def AtK (t : Bool) (h : Heap) (a : Addr) (items : Array Value) : Prop := if t then h.IsTuple a items else h.IsList a items
theorem drawsK {prog : Program} {w : World} {A : Around} (t : Bool) (hh : A.handled = none) (it a : Addr) (hne : a ≠ it) (items : Array Value) : Draws prog w A it [it, a] items.size (fun i v => items[i]? = some v) (fun i h => ItK t h it a i ∧ AtK t h a items) := by
  cases t
  · exact Draws.list hh it a hne items
  · exact Draws.tuple hh it a hne items
theorem beginsK (t : Bool) (a : Addr) (items : Array Value) : ∃ o, Begins (.ref a) o (fun h => AtK t h a items) ∧ ∀ h it, Heap.get? h it = some o → ItK t h it a 0 := by
  cases t
  · exact ⟨_, begins_list a items, fun h it e => ⟨_, e, rfl, rfl⟩⟩
  · exact ⟨_, begins_tuple a items, fun h it e => ⟨_, e, rfl, rfl⟩⟩
theorem atK {X : Cx} {pins : List (Addr × Obj)} {σ : L2.St} {H : Hp} {s : Shared} {a : Addr} {xs : List V} (t : Bool) (I : L2.Inv X pins σ H s) (h : SqK X.K t H a xs) : ∃ its : List Value, Vals xs its ∧ AtK t s.heap a its.toArray ∧ a < s.heap.objs.size := by
  cases t
  · obtain ⟨its, rv, p, _⟩ := I.list h
    exact ⟨its, rv, p.isList, p.lt⟩
  · obtain ⟨its, rv, p, _⟩ := I.tuple h
    exact ⟨its, rv, p, p.lt⟩
theorem injK {X : Cx} {pins : List (Addr × Obj)} {σ : L2.St} {H : Hp} {s : Shared} {a : Addr} {xs ys : List V} (t : Bool) (I : L2.Inv X pins σ H s) (h : SqK X.K t H a xs) (h' : SqK X.K t H a ys) : xs = ys := by
  cases t
  · exact I.list_inj h h'
  · exact I.tuple_inj h h'
theorem ItK.keep {t : Bool} {h h' : Heap} {it a : Addr} {i : Nat} (x : ItK t h it a i) (k : ∀ o, h.get? it = some o → h'.get? it = some o) : ItK t h' it a i := by
  cases t
  · exact Heap.IsListIter.at x k
  · exact Heap.IsTupleIter.at x k
theorem ItK.obj {t : Bool} {h : Heap} {it a : Addr} {i : Nat} (x : ItK t h it a i) : ∃ o, h.get? it = some o ∧ ∀ v, o.data ≠ .cell v := by
  cases t
  · obtain ⟨o, e, _, d⟩ := x
    exact ⟨o, e, fun v q => by rw [d] at q; cases q⟩
  · obtain ⟨o, e, _, d⟩ := x
    exact ⟨o, e, fun v q => by rw [d] at q; cases q⟩
def ItzM (K : PySem.W.Frag) (t u : Bool) (a b : Addr) : It :=
  ⟨fun i H => ∃ (xs ys : List V) (x y : V), SqK K t H a xs ∧ SqK K u H b ys ∧ xs[i]? = some x ∧ ys[i]? = some y,
    fun i H v H' => ∃ p x y, v = .ref p ∧ H p = none ∧ H' = upd H p (.tup [x, y]) ∧ (∀ xs, SqK K t H a xs → xs[i]? = some x) ∧ ∀ ys, SqK K u H b ys → ys[i]? = some y,
    fun i H => ∃ xs ys : List V, SqK K t H a xs ∧ SqK K u H b ys ∧ i ≤ xs.length ∧ i ≤ ys.length ∧ (i = xs.length ∨ i = ys.length)⟩
structure Apart5 (z TI TO i1 i2 a b : Addr) : Prop where
  nd : [z, TI, TO, i1, i2].Nodup
  na : a ∉ [z, TI, TO, i1, i2]
  nb : b ∉ [z, TI, TO, i1, i2]
theorem Apart5.sep {z TI TO i1 i2 a b : Addr} (D : Apart5 z TI TO i1 i2 a b) : ZipSep2 z TI TO i1 i2 [i1, a] [i2, b] := by
  obtain ⟨nd, na, nb⟩ := D
  simp only [List.nodup_cons, List.mem_cons, List.not_mem_nil, or_false, not_or, List.nodup_nil, and_true, not_false_eq_true] at nd na nb
  obtain ⟨⟨n1, n2, n3, n4⟩, ⟨n5, n6, n7⟩, ⟨n8, n9⟩, n10⟩ := nd
  obtain ⟨a1, a2, a3, a4, a5⟩ := na
  obtain ⟨b1, b2, b3, b4, b5⟩ := nb
  exact ⟨Ne.symm n1, Ne.symm n2, n5, n6, by simp, by simp [n3, Ne.symm a1], by simp [n8, Ne.symm a3], n7, by simp, by simp [n4, Ne.symm b1], by simp [n9, Ne.symm b3], by simp [n10, Ne.symm b4], by simp [Ne.symm n10, Ne.symm a5]⟩
theorem turn_zipM {P : Program} {w : World} {K : PySem.W.Frag} {elts : List Expr} {kk : Nat} {tpos : Pos} {a b z TI TO i1 i2 : Addr} (t u : Bool) (D : Apart5 z TI TO i1 i2 a b) :
    Turn P w K (.Tuple elts kk tpos) (ItzM K t u a b) [z, TI, TO, i1, i2] z (fun i h => IsZip h z TI TO .none ∧ IsTupOf2 h TI (.ref i1) (.ref i2) ∧ (∃ x y, IsTupOf2 h TO x y) ∧ ItK t h i1 a i ∧ ItK u h i2 b i) where
  mem := by simp
  obj := fun i h st c hc => by
    obtain ⟨hz, hTI, ⟨x, y, hTO⟩, h1, h2⟩ := st
    have e' : c = z ∨ c = TI ∨ c = TO ∨ c = i1 ∨ c = i2 := by simpa using hc
    rcases e' with q | q | q | q | q <;> rw [q]
    · exact ⟨_, hz, fun v q => nomatch q⟩
    · exact ⟨_, hTI, fun v q => nomatch q⟩
    · exact ⟨_, hTO, fun v q => nomatch q⟩
    · exact h1.obj
    · exact h2.obj
  keep := fun i h h' st k => by
    obtain ⟨hz, hTI, ⟨x, y, hTO⟩, h1, h2⟩ := st
    exact ⟨k z (by simp) _ hz, k TI (by simp) _ hTI, ⟨x, y, k TO (by simp) _ hTO⟩, h1.keep fun o q => k i1 (by simp) o q, h2.keep fun o q => k i2 (by simp) o q⟩
  item := by
    intro X hP hw hK hc i pins s σ H E I hf st hg
    subst hP hw hK
    obtain ⟨hz, hTI, ⟨x0, y0, hTO⟩, h1, h2⟩ := st
    obtain ⟨xs, ys, x, y, hqx, hqy, hx, hy⟩ := hg
    obtain ⟨its, rv, p, _⟩ := atK t I hqx
    obtain ⟨its2, rv2, p2, _⟩ := atK u I hqy
    obtain ⟨v1, hu, ru⟩ := rv.get hx
    obtain ⟨v2, hu2, ru2⟩ := rv2.get hy
    have S := D.sep
    have hzl : z < s.heap.objs.size := Heap.lt_size hz
    have hh : X.A.handled = none := I.ok.hd hc
    have ai : a ≠ i1 := fun e => D.na (by simp [e])
    have bi : b ≠ i2 := fun e => D.nb (by simp [e])
    have lt1 : i < its.toArray.size := by simpa using (List.getElem?_eq_some_iff.mp hu).1
    have lt2 : i < its2.toArray.size := by simpa using (List.getElem?_eq_some_iff.mp hu2).1
    refine wpAny_pyNext_zipD2_item S (drawsK (prog := X.prog) (w := X.w) (A := X.A.in1) t hh i1 a ai its.toArray) (drawsK (prog := X.prog) (w := X.w) (A := X.A.in1) u hh i2 b bi its2.toArray) hz hTI hTO ⟨h1, p⟩ ⟨h2, p2⟩ lt1 lt2 fun w1 w2 h' tk y1 y2 z' TO' d1 d2 hT hsz hk => ?_
    have e1 : w1 = v1 := by
      have : its[i]? = some w1 := by simpa using y1
      rw [hu] at this
      cases this
      rfl
    have e2 : w2 = v2 := by
      have : its2[i]? = some w2 := by simpa using y2
      rw [hu2] at this
      cases this
      rfl
    subst e1 e2
    refine ⟨_, rfl, wpAny_letOwnedTupleGo_zip (s := { s with heap := h', toks := tk }) z' fun h'' z'' sb => ?_⟩
    have hT2 : h''.get? s.heap.objs.size = some { cls := .type "tuple", data := .seq #[w1, w2] } := (sb.2 _ (Nat.ne_of_gt hzl)).trans hT
    have new : ObjOk X.prog X.w (upd H s.heap.objs.size (.tup [x, y])) h'' s.heap.objs.size (.tup [x, y]) :=
      ⟨by show 2 ≤ sizeLine; decide, [w1, w2], .cons ru (.cons ru2 .nil), ⟨_, hT2, rfl, _, rfl⟩⟩
    have I1 : Inv X pins σ (upd H s.heap.objs.size (.tup [x, y])) { s with heap := h'', toks := tk } :=
      I.turnedNew (t' := tk) (ch := [z, TI, TO, i1, i2]) (fun c o hb q => (sb.2 c (fun q' => hb (by simp [q']))).trans (hk c o (fun q' => hb (by simp [q'])) (fun q' => hb (by simp [q'])) (fun q' => hb (by simp [q'])) (fun q' => hb (by simp [q'])) q)) hf (Nat.le_refl _) new
    refine ⟨.ref s.heap.objs.size, _, I1, rfl, ⟨_, x, y, rfl, I.hok.fresh (Nat.le_refl _), rfl, fun l hl => by rw [injK t I hl hqx]; exact hx, fun l hl => by rw [injK u I hl hqy]; exact hy⟩, ⟨z'', ?_, ⟨w1, w2, ?_⟩, ?_, ?_⟩, fun c hcm => ?_⟩
    · exact (sb.2 _ S.TIz).trans (hk _ _ S.TIz S.TITO S.TIi1 S.TIi2 hTI)
    · exact (sb.2 _ S.TOz).trans TO'
    · exact d1.1.keep fun o q => (sb.2 _ (Ne.symm S.zi1)).trans q
    · exact d2.1.keep fun o q => (sb.2 _ (Ne.symm S.zi2)).trans q
    · have hlt : c < s.heap.objs.size := by
        have e' : c = z ∨ c = TI ∨ c = TO ∨ c = i1 ∨ c = i2 := by simpa using hcm
        rcases e' with q | q | q | q | q <;> rw [q]
        · exact hzl
        · exact Heap.lt_size hTI
        · exact Heap.lt_size hTO
        · obtain ⟨_, e1, _⟩ := h1.obj
          exact Heap.lt_size e1
        · obtain ⟨_, e2, _⟩ := h2.obj
          exact Heap.lt_size e2
      rw [upd_ne (Nat.ne_of_lt hlt)]
      exact (hf c hcm).1
  done := by
    intro X hP hw hK hc i pins s σ H E I hf st hg
    subst hP hw hK
    obtain ⟨hz, hTI, ⟨x0, y0, hTO⟩, h1, h2⟩ := st
    obtain ⟨xs, ys, hqx, hqy, le1, le2, hend⟩ := hg
    obtain ⟨its, rv, p, _⟩ := atK t I hqx
    obtain ⟨its2, rv2, p2, _⟩ := atK u I hqy
    have l1 := rv.length
    have l2 := rv2.length
    have hh : X.A.handled = none := I.ok.hd hc
    have ai : a ≠ i1 := fun e => D.na (by simp [e])
    have bi : b ≠ i2 := fun e => D.nb (by simp [e])
    have s1 : its.toArray.size = its.length := by simp
    have s2 : its2.toArray.size = its2.length := by simp
    exact wpAny_pyNext_zipD2_end D.sep (drawsK (prog := X.prog) (w := X.w) (A := X.A.in1) t hh i1 a ai its.toArray) (drawsK (prog := X.prog) (w := X.w) (A := X.A.in1) u hh i2 b bi its2.toArray) hz hTI hTO ⟨h1, p⟩ ⟨h2, p2⟩ (by omega) (by omega) (by omega) fun h' tk hk => ⟨rfl, I.turnedL (t' := tk) (ch := [z, TI, TO, i1, i2]) (fun c o hb q =>
      hk c o (fun q' => hb (by simp [q'])) (fun q' => hb (by simp [q'])) (fun q' => hb (by simp [q'])) (fun q' => hb (by simp [q'])) q) hf⟩
  self := fun A i s Q E st h => wpAny_pyIter_zip st.1 h
def iZipM (K : PySem.W.Frag) (t u : Bool) (ta : TA) : TI := fun σ H R => ta σ H fun vs H1 => ∃ a b xs ys, vs = [.ref a, .ref b] ∧ SqK K t H1 a xs ∧ SqK K u H1 b ys ∧ R (ItzM K t u a b) H1
theorem out5 (n a : Nat) (la : a < n) : (a : Addr) ∉ ([n + 4, n + 2, n + 3, n, n + 1] : List Addr) := by
  intro h
  have h' : a = n + 4 ∨ a = n + 2 ∨ a = n + 3 ∨ a = n ∨ a = n + 1 := by simpa using h
  omega
theorem apart5 (n a b : Nat) (la : a < n) (lb : b < n) : Apart5 (n + 4) (n + 2) (n + 3) n (n + 1) a b := ⟨by simp, out5 n a la, out5 n b lb⟩
theorem pi_zipM {X : Cx} {e e2 : Expr} {ta : TA} {p pos tpos : Pos} {elts : List Expr} {kk : Nat} (t u : Bool) (hg : Gl X "zip") (hm : X.mg "zip" = none) (ha : PA X [e, e2] ta)
    (hs : starEach [e, e2] X.env = (false, eval e X.env) :: starEach [e2] X.env := by rfl) (hpl : (backTo pos (starEach [e2] X.env)).any (·.1) = false := by rfl) :
    PI X (.Tuple elts kk tpos) (.Call (.Name "zip" p) [e, e2] [] pos) (iZipM X.K t u ta) := by
  refine ⟨fun pins s σ H R I h => ?_⟩
  refine Call_ (ld_blt I hg hm PyProof.Rows.boot_zip (PyProof.Rows.callWith_type1 (thn (ha.run pos pins s σ H _ I h) fun us s1 ⟨vs, H1, I1, r1, q1⟩ => ?_) hs hpl))
  obtain ⟨a, b, xs, ys, ex, hqx, hqy, q⟩ := q1
  subst ex
  cases r1 with
  | cons r rr =>
    cases rr with
    | cons r' rr =>
      cases rr
      cases r
      cases r'
      obtain ⟨its, rv, p1, la⟩ := atK t I1 hqx
      obtain ⟨its2, rv2, p2, lb⟩ := atK u I1 hqy
      obtain ⟨o1, B1, k1⟩ := beginsK t a its.toArray
      obtain ⟨o2, B2, k2⟩ := beginsK u b its2.toArray
      refine zip_begins2 B1 B2 p1 p2 fun h' hz hTI hTO h1 h2 hsz hk => wpAny_pyIter_zip hz ?_
      have I2 : Inv X pins σ H1 { s1 with heap := h' } := I1.kept (t' := s1.toks) hk
      refine ⟨s1.heap.objs.size + 4, [s1.heap.objs.size + 4, s1.heap.objs.size + 2, s1.heap.objs.size + 3, s1.heap.objs.size, s1.heap.objs.size + 1], _, _, H1, rfl, I2, turn_zipM t u (apart5 s1.heap.objs.size a b la lb), ⟨hz, hTI, ⟨_, _, hTO⟩, k1 _ _ h1, k2 _ _ h2⟩, fun c hcm => ?_, q⟩
      have e' : c = s1.heap.objs.size + 4 ∨ c = s1.heap.objs.size + 2 ∨ c = s1.heap.objs.size + 3 ∨ c = s1.heap.objs.size ∨ c = s1.heap.objs.size + 1 := by simpa using hcm
      have hle : s1.heap.objs.size ≤ c := by
        rcases e' with z | z | z | z | z <;> rw [z]
        · exact Nat.le_add_right _ _
        · exact Nat.le_add_right _ _
        · exact Nat.le_add_right _ _
        · exact Nat.le_refl _
        · exact Nat.le_add_right _ _
      exact I1.fpOk hle (I1.hok.fresh hle)
def isTup : D → Bool
  | .tup _ => true
  | _ => false
def sqD : D → Option (List D)
  | .tup xs => some xs
  | .lst xs => some xs
  | _ => none
def zipMI (t u : Bool) : List D → S → R (List D)
  | [d, e], s => if isTup d == t && isTup e == u then (match sqD d, sqD e with
    | some xs, some ys => .ok (zipL xs ys) s
    | _, _ => .stuck) else .stuck
  | _, _ => .stuck
section
variable {T : Tb} {X : Cx} {Γ : Fls} {e a b : Expr} {fs : S → R (List D)} {pos : Pos}
theorem sqK_of {K : PySem.W.Frag} {g : Gh} {H : Hp} {d : D} {v : V} {xs : List D} {t : Bool} (wf : WF g H) (r : Rp K T g H d v) (e : sqD d = some xs) (ht : isTup d = t) : ∃ x vs, v = .ref x ∧ SqK K t H x vs ∧ Rps K T g H xs vs ∧ ∀ g' H', Step g H g' H' → WF g' H' → SqK K t H' x vs := by
  cases d <;> simp [sqD] at e
  · subst e ht
    simp only [Rp] at r
    obtain ⟨x, vs, e, h1, h2⟩ := r
    exact ⟨x, vs, e, h1, h2, fun g' H' s w => SqT.step wf s h1⟩
  · subst e ht
    simp only [Rp] at r
    obtain ⟨x, vs, e, h0, h1, h2⟩ := r
    exact ⟨x, vs, e, .inl (.inl h1), h2, sql_st wf h0 h1⟩
theorem ji_zipM (t u : Bool) {p tpos : Pos} {elts : List Expr} {kk : Nat} (hg : Gl X "zip") (hm : X.mg "zip" = none) (ha : JA T X Γ [a, b] fs) (hs : starEach [a, b] X.env = (false, eval a X.env) :: starEach [b] X.env := by rfl) (hpl : (backTo pos (starEach [b] X.env)).any (·.1) = false := by rfl) :
    JI T X Γ (.Tuple elts kk tpos) (.Call (.Name "zip" p) [a, b] [] pos) (iN (zipMI t u) fs) := by
  refine ⟨fun W tk => PI.imp (pi_zipM t u hg hm (ha.run W tk) hs hpl) fun σ H R ⟨g, st, I, p⟩ => ?_⟩
  refine ta_bind ipI I p fun ds s1 vs H1 g1 q1 I1 r1 p1 => ?_
  unfold zipMI at p1
  split at p1
  case h_2 => exact p1.elim
  rename_i d1 d2
  split at p1
  case isFalse => exact p1.elim
  rename_i hz
  simp only [Bool.and_eq_true, beq_iff_eq] at hz
  split at p1
  case h_2 => exact p1.elim
  rename_i xs ys e1 e2
  simp only [Rps] at r1
  obtain ⟨v1, r, e3, h1, v2, r', e4, h2, e5⟩ := r1
  subst e3 e4 e5
  obtain ⟨x, ws, ex, k1, k2, k3⟩ := sqK_of I1.wf h1 e1 hz.1
  obtain ⟨y, us, ey, k4, k5, k6⟩ := sqK_of I1.wf h2 e2 hz.2
  subst ex ey
  refine ⟨x, y, ws, us, rfl, k1, k4, p1 _ H1 g1 (.refl g1 H1) I1 ⟨fun i d g' H' s w e => ?_, fun g' H' s w => ?_, fun i d g' H' z H'' s w e yl => ?_⟩⟩
  · obtain ⟨p, q, ep, eq, _⟩ := zipL_get e
    obtain ⟨v, hv, _⟩ := k2.get ep
    obtain ⟨v', hv', _⟩ := k5.get eq
    exact ⟨ws, us, v, v', k3 g' H' s w, k6 g' H' s w, hv, hv'⟩
  · refine ⟨ws, us, k3 g' H' s w, k6 g' H' s w, ?_, ?_, ?_⟩ <;> rw [zipL_len] <;> have := k2.length <;> have := k5.length <;> omega
  · obtain ⟨p, q, ep, eq, ed⟩ := zipL_get e
    obtain ⟨v, hv, rv⟩ := k2.get ep
    obtain ⟨v', hv', rv'⟩ := k5.get eq
    obtain ⟨pp, x', y', ez, hp, eh, hx, hy⟩ := yl
    have e6 := (hx ws (k3 g' H' s w)).symm.trans hv
    have e7 := (hy us (k6 g' H' s w)).symm.trans hv'
    cases e6
    cases e7
    subst ed ez eh
    refine .inr ⟨pp, _, hp, rfl, ?_⟩
    simp only [Rp]
    exact ⟨pp, _, rfl, .inl (.inl upd_same), Rps.cons ((rv.step I1.wf s).step w (.new hp)) (.one ((rv'.step I1.wf s).step w (.new hp)))⟩
def shapeAt (t u : Bool) (fs : S → R (List D)) : S → Bool := fun s => match fs s with
  | .ok [d, e] _ => isTup d == t && isTup e == u
  | _ => false
def iZipB (fs : S → R (List D)) : S → R (List D) := fun s => if shapeAt true true fs s then iN (zipMI true true) fs s else if shapeAt true false fs s then iN (zipMI true false) fs s else if shapeAt false true fs s then iN (zipMI false true) fs s else iN (zipMI false false) fs s
theorem ji_zipB {p tpos : Pos} {elts : List Expr} {kk : Nat} (hg : Gl X "zip") (hm : X.mg "zip" = none) (ha : JA T X Γ [a, b] fs) (hs : starEach [a, b] X.env = (false, eval a X.env) :: starEach [b] X.env := by rfl) (hpl : (backTo pos (starEach [b] X.env)).any (·.1) = false := by rfl) :
    JI T X Γ (.Tuple elts kk tpos) (.Call (.Name "zip" p) [a, b] [] pos) (iZipB fs) :=
  ji_either _ (ji_zipM true true hg hm ha hs hpl) (ji_either _ (ji_zipM true false hg hm ha hs hpl) (ji_either _ (ji_zipM false true hg hm ha hs hpl) (ji_zipM false false hg hm ha hs hpl)))
end
end DL

set_option linter.all false
set_option Elab.async false
set_option maxRecDepth 100000
namespace DL
open PySem PySem.Spec PyProof.Rows L2

/-! ### a call with own lists lent -/
mutual
/-- no list within -/
def nl : D → Bool
  | .tup ds => nls ds
  | .lst _ => false
  | .scr _ => false
  | .pt ds => nls ds
  | _ => true
def nls : List D → Bool
  | [] => true
  | d :: ds => nl d && nls ds
end
def nlC : Cell → Bool
  | .lst ds => nls ds
  | .dic _ kvs => nls (kvs.map (·.2))
def nlE : Ex → Bool
  | .mk _ fs => nls fs
section
variable {K : PySem.W.Frag} {T : Tb} {g g' : Gh} {H H' : Hp} {Γ : Fls} {σ : L2.St} {st : S} {W : WX} {Q : VK} {m : Mo}
mutual
theorem nl_rp (e : g'.mu = g.mu) : ∀ {d : D} {v : V}, nl d = true → Rp K T g H d v → Rp K T g' H d v
  | .non, v, _, h => by simpa [Rp] using h
  | .bl b, v, _, h => by simpa [Rp] using h
  | .int i, v, _, h => by simpa [Rp] using h
  | .str x, v, _, h => by simpa [Rp] using h
  | .tup ds, v, n, h => by
    simp only [Rp, nl] at h n ⊢
    obtain ⟨a, vs, e1, q, r⟩ := h
    exact ⟨a, vs, e1, q, nl_rps e n r⟩
  | .lst ds, v, n, h => by simp [nl] at n
  | .fn i, v, _, h => by simpa [Rp] using h
  | .ref n, v, _, h => by
    simp only [Rp] at h ⊢
    rw [e]
    exact h
  | .scr xs, v, n, h => by simp [nl] at n
  | .pt ds, v, n, h => by
    simp only [Rp, nl] at h n ⊢
    obtain ⟨a, vs, o, e1, q, z, r⟩ := h
    exact ⟨a, vs, o, e1, q, z, nl_rps e n r⟩
theorem nl_rps (e : g'.mu = g.mu) : ∀ {ds : List D} {vs : List V}, nls ds = true → Rps K T g H ds vs → Rps K T g' H ds vs
  | [], vs, _, h => by simpa [Rps] using h
  | d :: ds, vs, n, h => by
    simp only [Rps, nls, Bool.and_eq_true] at h n ⊢
    obtain ⟨v, r, e1, h1, h2⟩ := h
    exact ⟨v, r, e1, nl_rp e n.1 h1, nl_rps e n.2 h2⟩
end
theorem nl_mr (e : g'.mu = g.mu) {ms : List Cell} (n : ms.all nlC = true) (h : MR K T g H ms) : MR K T g' H ms := by
  refine ⟨by rw [e]; exact h.len, fun k c a h1 h2 => ?_⟩
  rw [e] at h2
  have q := h.at_ k c a h1 h2
  have nc : nlC c = true := List.all_eq_true.mp n c (List.mem_of_getElem? h1)
  cases c with
  | lst ds =>
    obtain ⟨vs, q1, q2⟩ := q
    exact ⟨vs, q1, nl_rps e nc q2⟩
  | dic lk kvs =>
    cases lk with
    | false =>
      obtain ⟨vs, q1, q2⟩ := q
      exact ⟨vs, q1, nl_rps e nc q2⟩
    | true =>
      obtain ⟨vs, od, q1, q2⟩ := q
      exact ⟨vs, od, q1, nl_rps e nc q2⟩
def RbS (K : PySem.W.Frag) (T : Tb) (g : Gh) (H : Hp) : List D → List V → Prop
  | [], vs => vs = []
  | d :: ds, vs => ∃ v r, vs = v :: r ∧ RpM K T g H H .b1 d v ∧ RbS K T g H ds r
theorem RbS.step (wf : WF g H) (wf' : WF g' H') (s : QStep g H g' H') : ∀ {ds : List D} {vs : List V}, RbS K T g H ds vs → RbS K T g' H' ds vs
  | [], vs, h => h
  | d :: ds, vs, h => by
    obtain ⟨v, r, e, h1, h2⟩ := h
    refine ⟨v, r, e, ?_, h2.step wf wf' s⟩
    have z := h1.step wf wf' s
    cases d <;> exact z
/-- all that is tracked and no cell is listed -/
def Gh.lend (g : Gh) (H : Hp) : Gh := ⟨fun b => g.A b ∨ ((∃ xs, H b = some (.lst xs)) ∧ b ∉ g.mu), fun _ => [], g.mu⟩
theorem lend_own {b : Addr} (h : (g.lend H).Own b) : b ∈ g.mu := by
  rcases h with ⟨i, h⟩ | h
  · cases h
  · exact h
theorem WF.lend (w : WF g H) : WF (g.lend H) H := ⟨fun b h => by
  rcases h with h | ⟨⟨xs, h⟩, _⟩
  · exact w.ta b h
  · exact ⟨_, h⟩, fun b h => w.ot b (.inr (lend_own h)), fun b h q => by
  rcases h with h | ⟨_, h⟩
  · exact w.ao b h (.inr (lend_own q))
  · exact h (lend_own q), fun _ => List.nodup_nil, fun i j b h => (by cases h), fun i b h => (by cases h), w.nm⟩
theorem Sub.lend : Sub g H (g.lend H) H := ⟨fun _ h => .inl h, fun _ _ _ h => h, fun _ _ h _ => h, List.prefix_refl _⟩
theorem rb_lend : ∀ {ds : List D} {vs : List V}, RbS K T g H ds vs → Rps K T (g.lend H) H ds vs
  | [], vs, h => h
  | d :: ds, vs, h => by
    obtain ⟨v, r, e, h1, h2⟩ := h
    subst e
    refine Rps.cons ?_ (rb_lend h2)
    cases d with
    | lst es =>
      obtain ⟨a, ws, e1, e2, e3, e4⟩ := h1
      simp only [Rp]
      exact ⟨a, ws, e1, .inr ⟨⟨_, e2⟩, e3⟩, e2, e4.sub .lend⟩
    | _ => exact Rp.sub .lend h1
/-- the ghost taken back -/
def Gh.took (g g' : Gh) : Gh := ⟨g.A, g.fp, g'.mu⟩
theorem took_q (w : WF g H) (s : Step (g.lend H) H g' H') : QStep g H (g.took g') H' := by
  have nf : ∀ i b, b ∈ g.fp i → ¬ (g.lend H).Own b := fun i b h q => w.fm i b h (lend_own q)
  refine ⟨⟨fun _ h => h, fun _ h => .inl h, fun b h => ?_, fun b o h n => s.fr b o h fun q => n (.inr (lend_own q)), s.im, s.tr, s.mu⟩, rfl, fun i b hb => ?_⟩
  · rcases h with h | h
    · exact .inl (.inl h)
    · rcases s.on b (.inr h) with q | q
      · exact .inl (.inr (lend_own q))
      · exact .inr q
  · obtain ⟨o, e, _⟩ := w.ot b (.inl ⟨i, hb⟩)
    rw [e]
    exact s.fr b o e (nf i b hb)
theorem took_wf (w : WF g H) (s : Step (g.lend H) H g' H') (w' : WF g' H') : WF (g.took g') H' := by
  have key : ∀ b, b ∈ g'.mu → b ∈ g.mu ∨ H b = none := fun b h => (s.on b (.inr h)).imp lend_own id
  have st : ∀ b o, H b = some o → b ∉ g.mu → H' b = some o := fun b o h n => s.fr b o h fun q => n (lend_own q)
  refine ⟨fun b h => ?_, fun b h => ?_, fun b h q => ?_, w.nf, w.df, fun i b h q => ?_, w'.nm⟩
  · obtain ⟨o, e⟩ := w.ta b h
    exact ⟨o, st b o e fun z => w.ao b h (.inr z)⟩
  · rcases h with ⟨i, h⟩ | h
    · obtain ⟨o, e, i'⟩ := w.ot b (.inl ⟨i, h⟩)
      exact ⟨o, st b o e (w.fm i b h), i'⟩
    · exact w'.ot b (.inr h)
  · rcases q with q | q
    · exact w.ao b h (.inl q)
    · rcases key b q with z | z
      · exact w.ao b h (.inr z)
      · obtain ⟨o, e⟩ := w.ta b h
        rw [z] at e
        cases e
  · rcases key b q with z | z
    · exact w.fm i b h z
    · obtain ⟨o, e, _⟩ := w.ot b (.inl ⟨i, h⟩)
      rw [z] at e
      cases e
def callRb (r : RF) (s : S) : R D := match r with
  | .ok d m => if nl d && m.all nlC then .ok d ⟨s.r, m⟩ else .stuck
  | .raise e m => if nlE e && m.all nlC then .raise e ⟨s.r, m⟩ else .stuck
  | .stuck => .stuck
theorem sp_lend {n : Nat} {mf : MF} {ds : List D} {vs : List V} (I : SR K T Γ g σ H st) (r : RbS K T g H ds vs) (hl : ds.length = n) (p : PostE K T Γ σ g H .sh W Q (callRb (mf ds st.m) st)) : spOf K T n .sh mf vs H Q (WE W σ) := by
  have me0 : MR K T (g.lend H) H st.m := I.me.sub .lend rfl fun _ _ => rfl
  refine ⟨ds, st.m, g.lend H, hl, I.wf.lend, fun _ => rfl, rb_lend r, me0, ?_⟩
  cases e : mf ds st.m with
  | ok d m' =>
    rw [e] at p
    simp only [callRb] at p
    split at p
    case isFalse => exact p.elim
    rename_i hz
    rw [Bool.and_eq_true] at hz
    intro v H' g' s w' hfp me rv
    have qs := took_q I.wf s
    have w2 := took_wf I.wf s w'
    exact p v H' _ qs (I.re (qs.toStep.sub I.wf) w2 rfl qs.qo (nl_mr (g := g') (g' := g.took g') rfl hz.2 me)) (nl_rp (g := g') (g' := g.took g') rfl hz.1 rv)
  | raise ex m' =>
    rw [e] at p
    simp only [callRb] at p
    split at p
    case isFalse => exact p.elim
    rename_i hz
    rw [Bool.and_eq_true] at hz
    intro cls dd H' g' s w' hfp me x
    have qs := took_q I.wf s
    have w2 := took_wf I.wf s w'
    have I2 := I.re (qs.toStep.sub I.wf) w2 rfl qs.qo (nl_mr (g := g') (g' := g.took g') rfl hz.2 me)
    refine p cls dd H' _ (qs.toStep.trans (.frz I2.wf (p := fun _ => true))) I2.frzAll ?_
    cases ex with
    | mk i fs =>
      obtain ⟨C, h1, h2, h3⟩ := x
      refine ⟨C, h1, h2, ?_⟩
      rcases h3 with h3 | ⟨ne, dx, vs, e1, e2, r, l⟩
      · exact .inl h3
      · exact .inr ⟨ne, dx, vs, e1, e2, nl_rps (g := g') (g' := (g.took g').frz fun _ => true) rfl hz.1 r, l⟩
  | stuck => rw [e] at p; exact p.elim
def PostB (K : PySem.W.Frag) (T : Tb) (Γ : Fls) (σ : L2.St) (g : Gh) (H : Hp) (W : WX) (Q : List V → Hp → Prop) : R (List D) → Prop
  | .ok ds st => ∀ vs H' g', QStep g H g' H' → SR K T Γ g' σ H' st → RbS K T g' H' ds vs → Q vs H'
  | .raise e st => PostX K T σ g H W e st
  | .stuck => False
def tb_ (K : PySem.W.Frag) (T : Tb) (Γ : Fls) (W : WX) (f : S → R (List D)) : TA := fun σ H Q => ∃ g st, SR K T Γ g σ H st ∧ PostB K T Γ σ g H W Q (f st)
theorem PostB.shift {Q : List V → Hp → Prop} {r : R (List D)} (s : QStep g H g' H') (h : PostB K T Γ σ g H W Q r) : PostB K T Γ σ g' H' W Q r := by
  cases r with
  | ok ds st => exact fun vs H2 g2 s2 => h vs H2 g2 (s.trans s2)
  | raise e st => exact PostX.shift s.toStep h
  | stuck => exact h
theorem ipB {Q : List V → Hp → Prop} : IsPost K T σ W (fun g H => PostB K T Γ σ g H W Q) := ⟨fun _ _ _ _ h => h, fun _ _ _ _ h => h, fun _ _ h => h, fun _ _ _ _ _ s h => h.shift s⟩
theorem tb_bind {α : Type} {P : Gh → Hp → R α → Prop} {f : S → R (List D)} {k : List D → S → R α} {Q : List V → Hp → Prop} (ip : IsPost K T σ W P) (I : SR K T Γ g σ H st) (h : P g H ((f st).bind k))
    (hk : ∀ ds st' vs H' g', QStep g H g' H' → SR K T Γ g' σ H' st' → RbS K T g' H' ds vs → P g' H' (k ds st') → Q vs H') : tb_ K T Γ W f σ H Q := by
  refine ⟨g, st, I, ?_⟩
  cases e : f st with
  | ok ds s1 => rw [e] at h; exact fun vs H' g' s I' r => hk ds s1 vs H' g' s I' r (ip.sh _ _ _ _ _ s h)
  | raise ex s1 => rw [e] at h; exact ip.px _ _ _ _ h
  | stuck => rw [e] at h; exact (ip.ps _ _ h).elim
end
structure JB (T : Tb) (X : Cx) (Γ : Fls) (es : List Expr) (f : S → R (List D)) : Prop where
  run : ∀ W, Takes X W → PA X es (tb_ X.K T Γ W f)
section
variable {T : Tb} {X : Cx} {Γ : Fls} {e : Expr} {es : List Expr} {f : S → R D} {fs : S → R (List D)} {pos : Pos} {k n : Nat} {mf : MF}
theorem jb_nil : JB T X Γ [] aNil := ⟨fun W tk => PA.imp pa_nil fun σ H Q ⟨g, st, I, p⟩ => p [] H g (.refl g H) I rfl⟩
theorem jb_cons (ha : JE T X Γ e .b1 f) (hr : JB T X Γ es fs) (hs : starEach (e :: es) X.env = (false, eval e X.env) :: starEach es X.env := by rfl) : JB T X Γ (e :: es) (aCons f fs) := by
  refine ⟨fun W tk => PA.imp (pa_cons (ha.run W tk) (hr.run W tk) hs) fun σ H Q ⟨g, st, I, p⟩ => ?_⟩
  refine te_bind ipB I p fun d1 s1 x H1 g1 q1 I1 r1 p1 => tb_bind ipB I1 p1 fun ds s2 xs H2 g2 q2 I2 r2 p2 => ?_
  have z := r1.step I1.wf I2.wf q2
  exact p2 _ H2 g2 (.refl g2 H2) I2 ⟨x, xs, rfl, by cases d1 <;> exact z, r2⟩
def eCallB (n : Nat) (mf : MF) (fs : S → R (List D)) : S → R D := fun st => (fs st).bind fun ds s => if ds.length = n then callRb (mf ds s.m) s else .stuck
theorem je_callB {x : Str} {p : Pos} (C : Cal X.prog X.w X.K X.mg X.base T x k n .sh mf) {k0 : Nat} (hr : Room k0 X.A) (hk : k ≤ k0) (hg : Gl X x) (ha : JB T X Γ (e :: es) fs) (hdb : (x == ("__debug__" : Str)) = false := by decide)
    (he : starEach (e :: es) X.env = (false, eval e X.env) :: starEach es X.env := by rfl) (hpl : (backTo pos (starEach es X.env)).any (·.1) = false := by rfl) : JE T X Γ (.Call (.Name x p) (e :: es) [] pos) .sh (eCallB n mf fs) := by
  obtain ⟨fa, fd, ps, Fn, hmg, kp, hb⟩ := C.ex
  refine ⟨fun W tk => PE.imp (pe_callS (E := WE W) Fn (hr.mono hk) hg hmg kp hb (passAt tk) (ha.run W tk) hdb he hpl) fun σ H Q ⟨g, st, I, p⟩ => ?_⟩
  refine tb_bind ipE I p fun ds s1 vs H1 g1 q1 I1 r1 p1 => ?_
  split at p1
  · rename_i hl
    exact sp_lend I1 r1 hl p1
  · exact p1.elim
end
end DL

set_option linter.all false
set_option Elab.async false
set_option maxRecDepth 100000
namespace DL
open PySem PySem.Spec PyProof.Rows L2 HT

/-! ### slices with the step -1 -/
def rvA (n : Nat) (lo hi : Option Int) : Int × Int := Builtin.Slice.sliceAdjust lo hi (-1) (n : Int)
def rvI (n : Nat) (lo hi : Option Int) : List Nat := (List.range (Builtin.Slice.slicePlaces (rvA n lo hi).1 (rvA n lo hi).2 (-1))).map fun (k : Nat) => ((rvA n lo hi).1 + (k : Int) * (-1)).toNat
def revG {α : Type} (xs : List α) (lo hi : Option Int) : List α := (rvI xs.length lo hi).filterMap fun i => xs[i]?
theorem revG_map {α β : Type} (F : α → β) (xs : List α) (lo hi : Option Int) : revG (xs.map F) lo hi = (revG xs lo hi).map F := by
  unfold revG
  rw [List.length_map, List.map_filterMap]
  congr 1
  funext i
  rw [List.getElem?_map]
theorem rvA_bounds (n : Nat) (lo hi : Option Int) : sliceBounds lo hi (some (-1)) n = ((rvA n lo hi).1, (rvA n lo hi).2, -1) := by
  unfold sliceBounds rvA Builtin.Slice.sliceAdjust
  have h1 : ¬ ((-1 : Int) > 0) := by omega
  have h2 : (-1 : Int) < 0 := by omega
  simp only [Option.getD_some, h1, h2, if_true, if_false]
  refine Prod.ext ?_ (Prod.ext ?_ rfl)
  · cases lo with
    | none => rfl
    | some v => dsimp only; split <;> omega
  · cases hi with
    | none => rfl
    | some v => dsimp only; split <;> omega
theorem rvI_range (n : Nat) (lo hi : Option Int) : sliceRange (rvA n lo hi).1 (rvA n lo hi).2 (-1) = rvI n lo hi := by
  unfold sliceRange rvI Builtin.Slice.slicePlaces
  have h1 : ¬ ((-1 : Int) > 0) := by omega
  simp only [h1, if_false]
  have e : (if (rvA n lo hi).1 > (rvA n lo hi).2 then ((rvA n lo hi).1 - (rvA n lo hi).2 - -1 - 1) / (- -1) else 0 : Int) = (if (rvA n lo hi).1 > (rvA n lo hi).2 then ((rvA n lo hi).1 - (rvA n lo hi).2 - 1) / (- -1) + 1 else 0) := by
    split
    · rw [show (- -1 : Int) = 1 by decide, Int.ediv_one, Int.ediv_one]; omega
    · rfl
  rw [e]
  apply List.map_congr_left
  intro k _
  congr 1
  omega
theorem revG_pick (its : Array Value) (lo hi : Option Int) : slicePick its lo hi (some (-1)) = (revG its.toList lo hi).toArray := by
  unfold slicePick
  rw [rvA_bounds]
  show ((sliceRange (rvA its.size lo hi).1 (rvA its.size lo hi).2 (-1)).filterMap (its[·]?)).toArray = _
  rw [rvI_range]
  unfold revG
  rw [Array.length_toList]
  congr 2
  funext i
  rw [Array.getElem?_toList]
theorem rvI_len (n : Nat) (lo hi : Option Int) : (rvI n lo hi).length ≤ n := by
  rw [← rvI_range]
  have b := rvA_bounds n lo hi
  refine sliceRange_length_le _ _ _ n (fun h => absurd h (by omega)) fun _ => ?_
  unfold rvA Builtin.Slice.sliceAdjust
  have h2 : (-1 : Int) < 0 := by omega
  simp only [h2, if_true]
  constructor
  · cases lo with
    | none => exact Int.le_refl _
    | some v => dsimp only; split <;> omega
  · cases hi with
    | none => exact Int.le_refl _
    | some v => dsimp only; split <;> omega
theorem revG_len {α : Type} (xs : List α) (lo hi : Option Int) : (revG xs lo hi).length ≤ xs.length := Nat.le_trans (List.length_filterMap_le ..) (rvI_len ..)
theorem Rps.picks {K : PySem.W.Frag} {g : Gh} {H : Hp} {ds : List D} {vs : List V} (h : Rps K T g H ds vs) : ∀ is : List Nat, Rps K T g H (is.filterMap fun i => ds[i]?) (is.filterMap fun i => vs[i]?)
  | [] => Rps.nil
  | i :: is => by
    have ih := Rps.picks h is
    cases e1 : ds[i]? with
    | some d =>
      obtain ⟨v, e2, r⟩ := h.get e1
      simp only [List.filterMap_cons, e1, e2]
      exact Rps.cons r ih
    | none =>
      have e2 : vs[i]? = none := List.getElem?_eq_none (by have := List.getElem?_eq_none_iff.mp e1; rw [h.length]; exact this)
      simp only [List.filterMap_cons, e1, e2]
      exact ih
theorem Rps.rev {K : PySem.W.Frag} {g : Gh} {H : Hp} {ds : List D} {vs : List V} (h : Rps K T g H ds vs) (lo hi : Option Int) : Rps K T g H (revG ds lo hi) (revG vs lo hi) := by
  unfold revG
  rw [h.length]
  exact h.picks _

section
variable {prog : Program} {w : World} {A : Around} {E : Value → Shared → Prop} {s : Shared}
theorem sliceApplied_rev {sl : Addr} {vl vu vs : Value} {lo hi : Option Int} {n : Nat} {Q : Int × Int × Nat → Shared → Prop} (hs : s.heap.IsSliceOf sl vl vu vs) (pl : IsPart vl lo) (pu : IsPart vu hi) (ps : IsPart vs (some (-1)))
    (h : Q ((rvA n lo hi).1, -1, Builtin.Slice.slicePlaces (rvA n lo hi).1 (rvA n lo hi).2 (-1)) s) : wpAny (model prog w) A (Builtin.Slice.sliceApplied (.ref sl) (pure (n : Int))) Q E s := by
  obtain ⟨os, hos, hcs, hds⟩ := id hs
  unfold Builtin.Slice.sliceApplied Builtin.Slice.sliceFields
  refine wpAny_bind (wpAny_bind (wpAny_field hos hds (x := vl) rfl (wpAny_bind (wpAny_field hos hds (x := vu) rfl (wpAny_bind (wpAny_field hos hds (x := vs) rfl (wpAny_pure ?_)))))))
  refine wpAny_bind (slicePart_ ps ?_)
  show wpAny _ _ (if ((-1 : Int) == 0) = true then _ else _) _ _ s
  rw [if_neg (by decide)]
  refine wpAny_bind (slicePart_ pl (wpAny_bind (slicePart_ pu (wpAny_bind (wpAny_pure ?_)))))
  exact wpAny_pure h
theorem getItem_tuple_rev {t sl : Addr} {items : Array Value} {vl vu vs : Value} {lo hi : Option Int} {Q : Value → Shared → Prop} (ht : IsTup s.heap t items) (hs : s.heap.IsSliceOf sl vl vu vs) (pl : IsPart vl lo) (pu : IsPart vu hi) (ps : IsPart vs (some (-1)))
    (h : Q (.ref s.heap.objs.size) { s with heap := s.heap.push { cls := .type "tuple", data := .seq (revG items.toList lo hi).toArray } })
    (hsz : items.size ≤ sizeLine) : wpAny (model prog w) A (getItem (.ref t) (.ref sl)) Q E s := by
  have htake : sizeOk (.seq (revG items.toList lo hi).toArray) := by
    show (revG items.toList lo hi).toArray.size ≤ sizeLine
    have := revG_len items.toList lo hi
    have e0 : items.toList.length = items.size := Array.length_toList
    have e1 : (revG items.toList lo hi).toArray.size = (revG items.toList lo hi).length := List.size_toArray ..
    omega
  obtain ⟨os, hos, hcs, hds⟩ := id hs
  have hTs : s.TypeIs (.ref sl) "slice" := ⟨os, hos, hcs⟩
  unfold getItem
  try with_reducible refine wpAny_holding ?_
  first | refine wpAny_bind (wpAny_pure ?_) | skip
  refine wpAny_bind (wpAny_sequenceKey ht.typeIs (by decide) ?_)
  refine wpAny_bind (wpAny_callSpecial?_slot (name := Str.ofString "__getitem__") ht.typeIs PyProof.Rows.slot_tuple_getitem
    (wpAny_call_entry PyProof.Rows.slot_tuple_getitem ht.typeIs entry_tuple_getitem ?_ (args_tuple_getitem _ _)))
  show wpAny _ _ (Builtin.Tuple.tupleItemsOf (.ref t) >>= _) _ _ s
  refine wpAny_bind (tupleItemsOf_ ht ?_)
  refine wpAny_bind (wpAny_typeOf hTs ?_)
  rw [if_pos (by decide)]
  refine wpAny_bind (sliceApplied_rev hs pl pu ps ?_)
  have hno : ¬ (((rvA items.size lo hi).1 == 0 && (-1 : Int) == 1 && Builtin.Slice.slicePlaces (rvA items.size lo hi).1 (rvA items.size lo hi).2 (-1) == items.size) = true) := by simp
  show wpAny _ _ (if ((rvA items.size lo hi).1 == 0 && (-1 : Int) == 1 && Builtin.Slice.slicePlaces (rvA items.size lo hi).1 (rvA items.size lo hi).2 (-1) == items.size) = true then _ else _) _ _ s
  have e : ((List.range (Builtin.Slice.slicePlaces (rvA items.size lo hi).1 (rvA items.size lo hi).2 (-1))).filterMap fun (k : Nat) => items[((rvA items.size lo hi).1 + (k : Int) * (-1)).toNat]?).toArray = (revG items.toList lo hi).toArray := by
    unfold revG rvI
    rw [Array.length_toList, List.filterMap_map]
    congr 2
    funext i
    show _ = items.toList[_]?
    rw [Array.getElem?_toList]
  rw [if_neg hno, e]
  first
    | exact wpAny_bind (m := Builtin.Tuple.tupleExact _) (wpAny_newObj_type (wpAny_pure ⟨_, rfl, wpAny_pure h⟩) htake)
    | exact wpAny_bind (m := Builtin.Tuple.tupleExact _) (wpAny_newObj_type (wpAny_bind (wpAny_pure (wpAny_pure ⟨_, rfl, wpAny_pure h⟩))) htake)
    | exact wpAny_bind (wpAny_bind (m := Builtin.Tuple.tupleExact _) (wpAny_newObj_type (wpAny_pure (wpAny_pure ⟨_, rfl, wpAny_pure h⟩)) htake))
    | exact wpAny_bind (wpAny_bind (m := Builtin.Tuple.tupleExact _) (wpAny_newObj_type (wpAny_pure ⟨_, rfl, wpAny_pure h⟩) htake))
end
section
variable {X : Cx}
theorem Vals.rev {vs : List V} {its : List Value} (h : Vals vs its) (lo hi : Option Int) : Vals (revG vs lo hi) (revG its lo hi) := by
  unfold revG
  have hl : vs.length = its.length := h.length
  rw [hl]
  induction rvI its.length lo hi with
  | nil => exact .nil
  | cons i is ih =>
    cases e1 : vs[i]? with
    | none =>
      have e2 : its[i]? = none := List.getElem?_eq_none (by have := List.getElem?_eq_none_iff.mp e1; omega)
      simp only [List.filterMap_cons, e1, e2]
      exact ih
    | some v =>
      obtain ⟨u, e2, r⟩ := h.get e1
      simp only [List.filterMap_cons, e1, e2]
      exact .cons r ih
/-- xs[lo:hi:-1], a list or a tuple -/
def tRev (K : PySem.W.Frag) (te : TE) (tl th : TO) : TE := fun σ H Q => te σ H fun x H1 => tl σ H1 fun l H2 => th σ H2 fun u H3 => ∃ a xs, x = .ref a ∧ ((SqL K H3 a xs ∧ ∀ p, H3 p = none → Q (.ref p) (upd H3 p (.lst (revG xs l u)))) ∨ (SqT K H3 a xs ∧ ∀ p, H3 p = none → Q (.ref p) (upd H3 p (.tup (revG xs l u)))))
theorem pe_rev {e : Expr} {te : TE} {lo hi : Option Expr} {tl th : TO} {k : Nat} {p1 p2 p3 pos : Pos} (he : PE X e te) (hl : PO X lo tl) (hu : PO X hi th) : PE X (.Subscript e (.Slice lo hi (some (.UnaryOp .USub (.Constant (.int 1) k p1) p2)) p3) pos) (tRev X.K te tl th) := by
  refine ⟨fun pins s σ H Q I h => ?_⟩
  refine Subscript_ (thn (he.run pins s σ H _ I h) fun v s1 ⟨x, H1, I1, rx, q1⟩ => ?_)
  have hst : PO X (some (.UnaryOp .USub (.Constant (.int 1) k p1) p2)) (tPart (tUn (rU fun i => .int (-i)) (tC (.int 1)))) := po_some (pe_un un_neg pe_int)
  refine wpAny_Slice (thn (hl.run pins s1 σ H1 _ I1 q1) fun vl s2 ⟨l, H2, I2, pl, q2⟩ => ?_)
  refine thn (hu.run pins s2 σ H2 _ I2 q2) fun vu s3 ⟨u, H3, I3, pu, q3⟩ => ?_
  refine thn (hst.run pins s3 σ H3 (fun o H4 => o = some (-1) ∧ H4 = H3) I3 ⟨1, rfl, -1, rfl, rfl, rfl⟩) fun vs s4 ⟨o, H4, I4, ps, eo, e4⟩ => ?_
  subst eo e4
  obtain ⟨a, xs, ex, q⟩ := q3
  subst ex
  cases rx
  have I5 : Inv X pins σ H4 { s4 with heap := s4.heap.push { cls := .type "slice", data := .fields #[vl, vu, vs] } } := I4.kept (t' := s4.toks) fun b ob q => Heap.get?_push_of_some _ q
  show wpAny (model X.prog X.w) X.A (subscriptTail e (.Slice lo hi (some (.UnaryOp .USub (.Constant (.int 1) k p1) p2)) p3) (.ref a) (.ref s4.heap.objs.size)) (EP X pins σ Q) X.xe { s4 with heap := s4.heap.push { cls := .type "slice", data := .fields #[vl, vu, vs] } }
  rcases q with ⟨hx, q⟩ | ⟨hx, q⟩
  · obtain ⟨its, r, ht, hz⟩ := I5.list hx
    have hlen := r.length
    refine tail_any (ops := [.ref a, .ref s4.heap.objs.size]) ht.isList.typeIs (PySem.slot_list_getitem.lookup) ?_ (by with_unfolding_all rfl)
    refine wpAny_getItem_list_slice ht.isList (Heap.IsSliceOf.new _ vl vu vs) pl pu ps (by decide) ?_ (by rw [List.size_toArray]; omega)
    rw [revG_pick]
    refine ⟨.ref _, _, I5.laid (t' := s4.toks) (o := .lst (revG xs l u)) (fun b ob q => Heap.get?_push_of_some _ q) (Nat.le_refl _) ?_, rfl, q _ (I5.hok.fresh (Nat.le_refl _))⟩
    exact ⟨Nat.le_trans (revG_len ..) hz, _, 0, Vals.rev r l u, Heap.get?_push_size _ rfl⟩
  · obtain ⟨its, r, ht, hz⟩ := I5.tuple hx
    have hlen : its.toArray.size = xs.length := by rw [List.size_toArray]; exact r.length.symm
    refine tail_any (ops := [.ref a, .ref s4.heap.objs.size]) ht.typeIs (PyProof.Rows.slot_tuple_getitem.lookup) ?_ (by with_unfolding_all rfl)
    refine getItem_tuple_rev ht (Heap.IsSliceOf.new _ vl vu vs) pl pu ps ?_ (by rw [hlen]; exact hz)
    refine ⟨.ref _, _, I5.laid (t' := s4.toks) (o := .tup (revG xs l u)) (fun b ob q => Heap.get?_push_of_some _ q) (Nat.le_refl _) ?_, rfl, q _ (I5.hok.fresh (Nat.le_refl _))⟩
    exact ⟨Nat.le_trans (revG_len ..) hz, _, Vals.rev r l u, IsTup.new _ _⟩
end
section
variable {T : Tb} {X : Cx} {Γ : Fls} {a : Expr} {f : S → R D} {pos p1 p2 p3 : Pos}
def slRD : D → Option Int → Option Int → S → R D
  | .lst xs, lo, hi, s => .ok (.lst (revG xs lo hi)) s
  | .scr xs, lo, hi, s => .ok (.lst ((revG xs lo hi).map D.int)) s
  | .tup xs, lo, hi, s => .ok (.tup (revG xs lo hi)) s
  | _, _, _, _ => .stuck
def eSlR (f : S → R D) (l h : S → R (Option Int)) : S → R D := fun st => (f st).bind fun d s => (l s).bind fun i s1 => (h s1).bind fun j s2 => slRD d i j s2
/-- a[lo:hi:-1] -/
theorem je_slR {lo hi : Option Expr} {fl fh : S → R (Option Int)} {k : Nat} (ha : JE T X Γ a .b1 f) (hl : JO T X Γ lo fl) (hh : JO T X Γ hi fh) : JE T X Γ (.Subscript a (.Slice lo hi (some (.UnaryOp .USub (.Constant (.int 1) k p1) p2)) p3) pos) .f1 (eSlR f fl fh) := by
  refine ⟨fun W tk => PE.imp (pe_rev (ha.run W tk) (hl.run W tk) (hh.run W tk)) fun σ H Q ⟨g, st, I, p⟩ => ?_⟩
  refine te_bind ipE I p fun d s1 x H1 g1 q1 I1 r1 p1 => to_bind ipE I1 p1 fun i s2 H2 g2 q2 I2 p2 => to_bind ipE I2 p2 fun j s3 H3 g3 q3 I3 p3 => ?_
  have r3 := (r1.step I1.wf I2.wf q2).step I2.wf I3.wf q3
  unfold slRD at p3
  split at p3
  · obtain ⟨ad, vs, e1, h1, _, h2⟩ := b_lst r3
    exact ⟨ad, vs, e1, .inl ⟨.inl (.inl h1), fun p' hp => post_lst I3 (h2.rev i j) hp p3⟩⟩
  · simp only [RpM, Rp] at r3
    obtain ⟨ad, e1, h1⟩ := r3
    refine ⟨ad, _, e1, .inl ⟨h1.sq, fun p' hp => ?_⟩⟩
    rw [revG_map]
    exact post_lst I3 (Rps.ints _) hp p3
  · obtain ⟨ad, vs, e1, h1, h2⟩ := b_tup r3
    exact ⟨ad, vs, e1, .inr ⟨h1, fun p' hp => post_tup1 I3 (h2.rev i j) hp p3⟩⟩
  · exact p3.elim
end
end DL

set_option linter.all false
set_option Elab.async false
set_option maxRecDepth 100000
namespace DL
open PySem PySem.Spec PyProof.Rows L2

/-! ### a call whose own cells are forgotten -/
mutual
/-- no reference within -/
def nr : D → Bool
  | .tup ds => nrs ds
  | .lst ds => nrs ds
  | .ref _ => false
  | .pt ds => nrs ds
  | _ => true
def nrs : List D → Bool
  | [] => true
  | d :: ds => nr d && nrs ds
end
def nrC : Cell → Bool
  | .lst ds => nrs ds
  | .dic _ kvs => nrs (kvs.map (·.2))
def nrE : Ex → Bool
  | .mk _ fs => nrs fs
def trimF (mf : MF) : MF := fun ds m => match mf ds m with
  | .ok d m' => if nr d && (m'.take m.length).all nrC then .ok d (m'.take m.length) else .stuck
  | .raise e m' => if nrE e && (m'.take m.length).all nrC then .raise e (m'.take m.length) else .stuck
  | .stuck => .stuck
section
variable {K : PySem.W.Frag} {T : Tb} {g g' : Gh} {H H' : Hp}
mutual
theorem nr_rp (e : g'.A = g.A) : ∀ {d : D} {v : V}, nr d = true → Rp K T g H d v → Rp K T g' H d v
  | .non, v, _, h => by simpa [Rp] using h
  | .bl b, v, _, h => by simpa [Rp] using h
  | .int i, v, _, h => by simpa [Rp] using h
  | .str x, v, _, h => by simpa [Rp] using h
  | .tup ds, v, n, h => by
    simp only [Rp, nr] at h n ⊢
    obtain ⟨a, vs, e1, q, r⟩ := h
    exact ⟨a, vs, e1, q, nr_rps e n r⟩
  | .lst ds, v, n, h => by
    simp only [Rp, nr] at h n ⊢
    obtain ⟨a, vs, e1, q1, q2, r⟩ := h
    exact ⟨a, vs, e1, by rw [e]; exact q1, q2, nr_rps e n r⟩
  | .fn i, v, _, h => by simpa [Rp] using h
  | .ref n, v, n', h => by simp [nr] at n'
  | .scr xs, v, n, h => by
    simp only [Rp, ScrOk] at h ⊢
    obtain ⟨a, e1, q⟩ := h
    refine ⟨a, e1, ?_⟩
    rw [e]
    exact q
  | .pt ds, v, n, h => by
    simp only [Rp, nr] at h n ⊢
    obtain ⟨a, vs, o, e1, q, z, r⟩ := h
    exact ⟨a, vs, o, e1, q, z, nr_rps e n r⟩
theorem nr_rps (e : g'.A = g.A) : ∀ {ds : List D} {vs : List V}, nrs ds = true → Rps K T g H ds vs → Rps K T g' H ds vs
  | [], vs, _, h => by simpa [Rps] using h
  | d :: ds, vs, n, h => by
    simp only [Rps, nrs, Bool.and_eq_true] at h n ⊢
    obtain ⟨v, r, e1, h1, h2⟩ := h
    exact ⟨v, r, e1, nr_rp e n.1 h1, nr_rps e n.2 h2⟩
end
theorem nr_cell (e : g'.A = g.A) {a : Addr} {c : Cell} (n : nrC c = true) (h : CellR K T g H a c) : CellR K T g' H a c := by
  cases c with
  | lst ds =>
    obtain ⟨vs, q1, q2⟩ := h
    exact ⟨vs, q1, nr_rps e n q2⟩
  | dic lk kvs =>
    cases lk with
    | false =>
      obtain ⟨vs, q1, q2⟩ := h
      exact ⟨vs, q1, nr_rps e n q2⟩
    | true =>
      obtain ⟨vs, od, q1, q2⟩ := h
      exact ⟨vs, od, q1, nr_rps e n q2⟩
/-- back to the cells that were -/
def Gh.cut (g' g : Gh) : Gh := ⟨g'.A, g'.fp, g.mu⟩
theorem cut_own (s : Step g H g' H') {b : Addr} (h : (g'.cut g).Own b) : g'.Own b := by
  rcases h with h | h
  · exact .inl h
  · exact .inr (s.mu.subset h)
theorem Step.cut (s : Step g H g' H') : Step g H (g'.cut g) H' :=
  ⟨s.aa, s.an, fun b h => s.on b (cut_own s h), s.fr, s.im, s.tr, List.prefix_refl _⟩
theorem WF.cut (s : Step g H g' H') (w : WF g H) (w' : WF g' H') : WF (g'.cut g) H' :=
  ⟨w'.ta, fun b h => w'.ot b (cut_own s h), fun b h q => w'.ao b h (cut_own s q), w'.nf, w'.df, fun i b h q => w'.fm i b h (s.mu.subset q), w.nm⟩
theorem MR.cut (s : Step g H g' H') {m m' : List Cell} (hl : g.mu.length = m.length) (h : MR K T g' H' m') (n : (m'.take m.length).all nrC = true) : MR K T (g'.cut g) H' (m'.take m.length) := by
  obtain ⟨t, ht⟩ := s.mu
  have h2 := h.len
  rw [← ht, List.length_append] at h2
  refine ⟨?_, fun k c a h3 h4 => ?_⟩
  · show g.mu.length = _
    rw [List.length_take]
    omega
  · have hk : k < m.length := by
      have := (List.getElem?_eq_some_iff.mp h3).1
      rw [List.length_take] at this
      omega
    have nc : nrC c = true := List.all_eq_true.mp n c (List.mem_of_getElem? h3)
    rw [List.getElem?_take_of_lt hk] at h3
    refine nr_cell (g := g') (g' := g'.cut g) rfl nc (h.at_ k c a h3 ?_)
    have h4' : g.mu[k]? = some a := h4
    rw [← ht, List.getElem?_append_left (by omega)]
    exact h4'
theorem RpM.cut (s : Step g H g' H') {m : Mo} (hm : m = .sh ∨ m = .f1) {H0 : Hp} {d : D} {v : V} (n : nr d = true) (h : RpM K T g' H0 H' m d v) : RpM K T (g'.cut g) H0 H' m d v := by
  rcases hm with rfl | rfl
  · exact nr_rp (g := g') (g' := g'.cut g) rfl n h
  · cases d with
    | lst ds =>
      obtain ⟨a, vs, e, h1, h2, h3⟩ := h
      exact ⟨a, vs, e, h1, ⟨h2.1, fun q => h2.2.1 (cut_own s q), h2.2.2⟩, nr_rps (g := g') (g' := g'.cut g) rfl n h3⟩
    | _ => exact nr_rp (g := g') (g' := g'.cut g) rfl n h
theorem ExR.cut {e : Ex} {cls : Value} {dd : Option Addr} (n : nrE e = true) (h : ExR K T g' H' e cls dd) : ExR K T (g'.cut g) H' e cls dd := by
  cases e with
  | mk i fs =>
    obtain ⟨C, h1, h2, h3⟩ := h
    refine ⟨C, h1, h2, ?_⟩
    rcases h3 with h3 | ⟨ne, dx, vs, e1, e2, r, l⟩
    · exact .inl h3
    · exact .inr ⟨ne, dx, vs, e1, e2, nr_rps (g := g') (g' := g'.cut g) rfl n r, l⟩
theorem sp_trim {k : Nat} {rm : Mo} (hm : rm = .sh ∨ rm = .f1) {mf : MF} {vs : List V} {Q : VK} {E : XK} (h : spOf K T k rm (trimF mf) vs H Q E) : spOf K T k rm mf vs H Q E := by
  obtain ⟨ds, m, g, hl, wf, hfp, r, me, p⟩ := h
  refine ⟨ds, m, g, hl, wf, hfp, r, me, ?_⟩
  unfold trimF at p
  cases e : mf ds m with
  | ok d m' =>
    simp only [e] at p
    split at p
    case h_2 q => split at q <;> cases q
    case h_3 q => exact p.elim
    rename_i q
    split at q
    case isFalse => cases q
    rename_i hz
    rw [Bool.and_eq_true] at hz
    cases q
    intro v H' g' s w' hf' me' rv
    exact p v H' (g'.cut g) s.cut (WF.cut s wf w') hf' (me'.cut s me.len hz.2) (RpM.cut s hm hz.1 rv)
  | raise ex m' =>
    simp only [e] at p
    split at p
    case h_1 q => split at q <;> cases q
    case h_3 q => exact p.elim
    rename_i q
    split at q
    case isFalse => cases q
    rename_i hz
    rw [Bool.and_eq_true] at hz
    cases q
    intro cls dd H' g' s w' hf' me' x
    exact p cls dd H' (g'.cut g) s.cut (WF.cut s wf w') hf' (me'.cut s me.len hz.2) (ExR.cut hz.1 x)
  | stuck => simp only [e] at p
end
theorem Cal.trim {P : Program} {w : World} {K : PySem.W.Frag} {mg : Str → Option Value} {base : Heap} {T : Tb} {x : Str} {k n : Nat} {rm : Mo} {mf : MF} (C : Cal P w K mg base T x k n rm mf) (hm : rm = .sh ∨ rm = .f1 := by first | exact .inl rfl | exact .inr rfl) : Cal P w K mg base T x k n rm (trimF mf) := by
  obtain ⟨f, fd, ps, F, r⟩ := C.ex
  exact ⟨f, fd, ps, F.imp fun vs H Q E h => sp_trim hm h, r⟩
end DL

set_option linter.all false
set_option Elab.async false
set_option maxRecDepth 100000
namespace DL
open PySem PySem.Spec PyProof.Rows L2

/-! ### max(xs), min(xs) of ints, in a list or a tuple -/
def rMaxT (K : PySem.W.Frag) : List V → Hp → VK → Prop := fun vs H Q => ∃ (a : Addr) (ns : List Int), vs = [V.ref a] ∧ SqT K H a (ns.map V.int) ∧ 0 < ns.length ∧ ∀ m, m ∈ ns → (∀ y, y ∈ ns → y ≤ m) → Q (.int m) H
def rMinT (K : PySem.W.Frag) : List V → Hp → VK → Prop := fun vs H Q => ∃ (a : Addr) (ns : List Int), vs = [V.ref a] ∧ SqT K H a (ns.map V.int) ∧ 0 < ns.length ∧ ∀ m, m ∈ ns → (∀ y, y ∈ ns → m ≤ y) → Q (.int m) H
theorem alike_ints (ns : List Int) : PySem.W.AlikeAll (ns.map PyData.int) := by
  refine ⟨fun x hx y hy => ?_, fun x hx => ?_⟩
  · obtain ⟨i, _, rfl⟩ := List.mem_map.1 hx
    obtain ⟨j, _, rfl⟩ := List.mem_map.1 hy
    rfl
  · obtain ⟨i, _, rfl⟩ := List.mem_map.1 hx
    exact PyData.noConfusion
theorem depth_ints : ∀ ns : List Int, PyData.depthAll (ns.map PyData.int) ≤ 1
  | [] => by simp [PyData.depthAll]
  | n :: ns => by
    have := depth_ints ns
    simp only [List.map_cons, PyData.depthAll, PyData.depth]
    omega
theorem fold_le (n : Int) : ∀ (ns : List Int) (z : Int), z ≤ ns.foldl max z ∧ (∀ y ∈ ns, y ≤ ns.foldl max z) ∧ (ns.foldl max z = z ∨ ns.foldl max z ∈ ns)
  | [], z => ⟨Int.le_refl _, fun _ h => (List.not_mem_nil h).elim, Or.inl rfl⟩
  | a :: ns, z => by
    obtain ⟨h1, h2, h3⟩ := fold_le n ns (max z a)
    simp only [List.foldl_cons]
    refine ⟨by omega, fun y hy => ?_, ?_⟩
    · rcases List.mem_cons.1 hy with rfl | hy
      · omega
      · exact h2 y hy
    · rcases h3 with h3 | h3
      · rw [h3]
        by_cases hz : z ≤ a
        · rw [Int.max_eq_right hz]; exact .inr List.mem_cons_self
        · rw [Int.max_eq_left (by omega)]; exact .inl rfl
      · exact .inr (List.mem_cons_of_mem _ h3)
theorem fold_ge (n : Int) : ∀ (ns : List Int) (z : Int), ns.foldl min z ≤ z ∧ (∀ y ∈ ns, ns.foldl min z ≤ y) ∧ (ns.foldl min z = z ∨ ns.foldl min z ∈ ns)
  | [], z => ⟨Int.le_refl _, fun _ h => (List.not_mem_nil h).elim, Or.inl rfl⟩
  | a :: ns, z => by
    obtain ⟨h1, h2, h3⟩ := fold_ge n ns (min z a)
    simp only [List.foldl_cons]
    refine ⟨by omega, fun y hy => ?_, ?_⟩
    · rcases List.mem_cons.1 hy with rfl | hy
      · omega
      · exact h2 y hy
    · rcases h3 with h3 | h3
      · rw [h3]
        by_cases hz : z ≤ a
        · rw [Int.min_eq_left hz]; exact .inl rfl
        · rw [Int.min_eq_right (by omega)]; exact .inr List.mem_cons_self
      · exact .inr (List.mem_cons_of_mem _ h3)
section
variable {X : Cx}
theorem units_ok {X : Cx} (hu : X.A.units + 65 < cLine) (ns : List Int) : X.A.units + 1 + PyData.depthAll (ns.map PyData.int) < cLine := by
  have := depth_ints ns
  omega
theorem cr_maxT (hc : X.calm = true) (hu : X.A.units + 65 < cLine) : CallR X (.builtin "max") (rMaxT X.K) := by
  intro pins s σ H vs us Q I r h
  obtain ⟨a, ns, rfl, hs, hne, q⟩ := h
  obtain ⟨its, rv, hl, _⟩ := I.tuple hs
  rw [Vals.ref1 r]
  have hr := rv.ints.reads s.heap
  cases ns with
  | nil => cases hne
  | cons n ns =>
    refine PySem.W.max_tuple_data (I.ok.hd hc) hl (by simpa using hr) (alike_ints (n :: ns)) (units_ok hu (n :: ns)) fun i v h' tk bs hv hrd hk => ?_
    rw [PySem.W.maxD_ints] at hrd
    cases hrd
    have hm := fold_le 0 ns n
    exact ⟨.int _, H, I.kept hk, ⟨_, rfl⟩, q _ (by rcases hm.2.2 with z | z; rw [z]; exact List.mem_cons_self; exact List.mem_cons_of_mem _ z) fun y hy => by
      rcases List.mem_cons.1 hy with rfl | hy
      · exact hm.1
      · exact hm.2.1 y hy⟩
theorem cr_minT (hc : X.calm = true) (hu : X.A.units + 65 < cLine) : CallR X (.builtin "min") (rMinT X.K) := by
  intro pins s σ H vs us Q I r h
  obtain ⟨a, ns, rfl, hs, hne, q⟩ := h
  obtain ⟨its, rv, hl, _⟩ := I.tuple hs
  rw [Vals.ref1 r]
  have hr := rv.ints.reads s.heap
  cases ns with
  | nil => cases hne
  | cons n ns =>
    refine PySem.W.min_tuple_data (I.ok.hd hc) hl (by simpa using hr) (alike_ints (n :: ns)) (units_ok hu (n :: ns)) fun i v h' tk bs hv hrd hk => ?_
    rw [PySem.W.minD_ints] at hrd
    cases hrd
    have hm := fold_ge 0 ns n
    exact ⟨.int _, H, I.kept hk, ⟨_, rfl⟩, q _ (by rcases hm.2.2 with z | z; rw [z]; exact List.mem_cons_self; exact List.mem_cons_of_mem _ z) fun y hy => by
      rcases List.mem_cons.1 hy with rfl | hy
      · exact hm.1
      · exact hm.2.1 y hy⟩
end
/-- ints only -/
def intsOf : List D → Option (List Int)
  | [] => some []
  | .int i :: r => (intsOf r).map (i :: ·)
  | _ :: _ => none
theorem ints_of {K : PySem.W.Frag} {T : Tb} {g : Gh} {H : Hp} : ∀ {ds : List D} {vs : List V} {ns : List Int}, Rps K T g H ds vs → intsOf ds = some ns → vs = ns.map V.int
  | [], vs, ns, h, e => by
    simp only [Rps] at h
    cases e
    exact h
  | d :: ds, vs, ns, h, e => by
    simp only [Rps] at h
    obtain ⟨v, r, e1, h1, h2⟩ := h
    cases d with
    | int b =>
      simp only [intsOf] at e
      cases q : intsOf ds with
      | none => rw [q] at e; cases e
      | some l =>
        rw [q] at e
        cases e
        simp only [Rp] at h1
        rw [e1, h1, ints_of h2 q]
        rfl
    | _ => cases e
def maxF (n : Int) (ns : List Int) : Int := ns.foldl (fun a b => if ltB a b then b else a) n
def minF (n : Int) (ns : List Int) : Int := ns.foldl (fun a b => if ltB b a then b else a) n
theorem maxF_top (n : Int) (ns : List Int) {m : Int} (h1 : m ∈ n :: ns) (h2 : ∀ y ∈ n :: ns, y ≤ m) : maxF n ns = m := by
  have e : maxF n ns = ns.foldl max n := by
    unfold maxF
    congr 1
    funext a b
    rw [ltB_eq]
    by_cases h : a < b
    · rw [if_pos (by simpa using h), Int.max_eq_right (by omega)]
    · rw [if_neg (by simpa using h), Int.max_eq_left (by omega)]
  obtain ⟨a, b, c⟩ := fold_le 0 ns n
  rw [e]
  have z1 : ns.foldl max n ≤ m := by
    rcases c with c | c
    · rw [c]; exact h2 _ List.mem_cons_self
    · exact h2 _ (List.mem_cons_of_mem _ c)
  rcases List.mem_cons.1 h1 with rfl | h1
  · omega
  · have := b m h1
    omega
theorem minF_top (n : Int) (ns : List Int) {m : Int} (h1 : m ∈ n :: ns) (h2 : ∀ y ∈ n :: ns, m ≤ y) : minF n ns = m := by
  have e : minF n ns = ns.foldl min n := by
    unfold minF
    congr 1
    funext a b
    rw [ltB_eq]
    by_cases h : b < a
    · rw [if_pos (by simpa using h), Int.min_eq_right (by omega)]
    · rw [if_neg (by simpa using h), Int.min_eq_left (by omega)]
  obtain ⟨a, b, c⟩ := fold_ge 0 ns n
  rw [e]
  have z1 : m ≤ ns.foldl min n := by
    rcases c with c | c
    · rw [c]; exact h2 _ List.mem_cons_self
    · exact h2 _ (List.mem_cons_of_mem _ c)
  rcases List.mem_cons.1 h1 with rfl | h1
  · omega
  · have := b m h1
    omega
def max1D : D → S → R D
  | .lst xs, s => (match intsOf xs with
    | some (n :: ns) => .ok (.int (maxF n ns)) s
    | _ => .stuck)
  | .tup xs, s => (match intsOf xs with
    | some (n :: ns) => .ok (.int (maxF n ns)) s
    | _ => .stuck)
  | _, _ => .stuck
def min1D : D → S → R D
  | .lst xs, s => (match intsOf xs with
    | some (n :: ns) => .ok (.int (minF n ns)) s
    | _ => .stuck)
  | .tup xs, s => (match intsOf xs with
    | some (n :: ns) => .ok (.int (minF n ns)) s
    | _ => .stuck)
  | _, _ => .stuck
section
variable {X : Cx} {T : Tb}
theorem bi_max1 (hu : X.A.units + 65 < cLine) (hc : X.calm = true) : Bi1 X T (.builtin "max") .b1 .sh max1D := by
  refine ⟨_, (cr_max (X := X) hc).or (cr_maxT hc hu), fun Γ g σ H st W Q x d H0 I r p => ?_⟩
  unfold max1D at p
  split at p
  · split at p
    · rename_i n ns e
      obtain ⟨ad, vs, e1, h1, _, h2⟩ := b_lst r
      subst e1
      rw [ints_of h2 e] at h1
      exact .inl ⟨ad, n :: ns, rfl, .inl (.inl h1), Nat.zero_lt_succ _, fun m h3 h4 => by rw [← maxF_top n ns h3 h4]; exact post_v I p rm_int⟩
    · exact p.elim
  · split at p
    · rename_i n ns e
      obtain ⟨ad, vs, e1, h1, h2⟩ := b_tup r
      subst e1
      rw [ints_of h2 e] at h1
      exact .inr ⟨ad, n :: ns, rfl, h1, Nat.zero_lt_succ _, fun m h3 h4 => by rw [← maxF_top n ns h3 h4]; exact post_v I p rm_int⟩
    · exact p.elim
  · exact p.elim
theorem bi_min1 (hu : X.A.units + 65 < cLine) (hc : X.calm = true) : Bi1 X T (.builtin "min") .b1 .sh min1D := by
  refine ⟨_, (cr_min (X := X) hc).or (cr_minT hc hu), fun Γ g σ H st W Q x d H0 I r p => ?_⟩
  unfold min1D at p
  split at p
  · split at p
    · rename_i n ns e
      obtain ⟨ad, vs, e1, h1, _, h2⟩ := b_lst r
      subst e1
      rw [ints_of h2 e] at h1
      exact .inl ⟨ad, n :: ns, rfl, .inl (.inl h1), Nat.zero_lt_succ _, fun m h3 h4 => by rw [← minF_top n ns h3 h4]; exact post_v I p rm_int⟩
    · exact p.elim
  · split at p
    · rename_i n ns e
      obtain ⟨ad, vs, e1, h1, h2⟩ := b_tup r
      subst e1
      rw [ints_of h2 e] at h1
      exact .inr ⟨ad, n :: ns, rfl, h1, Nat.zero_lt_succ _, fun m h3 h4 => by rw [← minF_top n ns h3 h4]; exact post_v I p rm_int⟩
    · exact p.elim
  · exact p.elim
end
end DL

set_option linter.all false
set_option Elab.async false
set_option maxRecDepth 100000
namespace DL
open PySem PySem.Spec PyProof.Rows L2

/-! ### lists held as cells -/
/-- a fresh list becomes a cell -/
def eCell (f : S → R D) : S → R D := fun st => (f st).bind fun d s => match d with
  | .lst xs => .ok (.ref s.m.length) { s with m := s.m ++ [.lst xs] }
  | _ => .stuck
section
variable {T : Tb} {X : Cx} {Γ Γ' : Fls} {F : Fx} {nx lp : Fls} {rm : Mo} {e a b c o : Expr} {m m1 m2 m3 : Mo} {f f1 f2 f3 fo : S → R D} {pos p2 pos' apos cpos : Pos} {es : List Expr} {fs : S → R (List D)}
theorem je_cell (he : JE T X Γ e .f1 f) : JE T X Γ e .sh (eCell f) := by
  refine ⟨fun W tk => PE.imp (he.run W tk) fun σ H Q ⟨g, st, I, p⟩ => ⟨g, st, I, ?_⟩⟩
  unfold eCell at p
  cases e : f st with
  | raise ex s1 => rw [e] at p; exact p
  | stuck => rw [e] at p; exact p
  | ok d s1 =>
    rw [e] at p
    intro v H1 g1 q1 I1 r1
    cases d with
    | lst ds =>
      obtain ⟨a, vs, ev, h1, h2, h3⟩ := r1
      subst ev
      exact p _ H1 (g1.more a) ⟨q1.toStep.more h2.2.2, q1.qf, q1.qo⟩ (I1.more h1 rfl h2.1 h2.2.1 ⟨vs, h1, h3.sub .more⟩) (ref_more I1)
    | _ => exact p.elim
/-- o[k] = e, o a cell -/
def sSetR (fo fk fe : S → R D) : S → RS := fun s => (fe s).then fun d s1 => (fo s1).then fun o s2 => match o with
  | .ref n => (fk s2).then fun k s3 => (match mLst s3 n, k with
    | some xs, .int k => (match ixN xs.length k with
      | some j => .next { s3 with m := s3.m.set n (.lst (xs.set j d)) }
      | none => .stuck)
    | _, _ => .stuck)
  | _ => .stuck
theorem js_setR {kx : Expr} {fk : S → R D} (he : JE T X Γ e .sh f) (ho : JE T X Γ o .sh fo) (hk : JE T X Γ kx .b1 fk)
    (ha : ∀ v, assign (.Subscript o kx pos') X.env v = (do
      let ov ← holding [v] (eval o X.env)
      let iv ← holding [v, ov] (eval kx X.env)
      standAt pos'
      holding [v, ov, iv] (setItem ov iv v)
      release [v, ov, iv] []) := by intro _; rfl)
    (hs : swapsWithSole [.Subscript o kx pos'] e pos.line X.env = pure false := by rfl) (hw : swappedStores [.Subscript o kx pos'] e X.env = pure none := by rfl)
    (h1 : (assignEach [.Subscript o kx pos'] X.env).map (·.2) = [assign (.Subscript o kx pos') X.env] := by rfl) : JS T X Γ ⟨Γ, lp, rm⟩ (.Assign [.Subscript o kx pos'] e pos) (sSetR fo fk f) := by
  refine ⟨fun W tk => PS.imp (ps_asg (he.run W tk) (pg_sub (ho.run W tk) (hk.run W tk) set_list ha) hs hw h1) fun E σ H ⟨B, g, st, I, p⟩ => ?_⟩
  unfold sSetR at p
  refine te_then I.toSR p fun d s1 x H1 g1 q1 I1 r1 p1 => te_then I1 p1 fun o s2 y H2 g2 q2 I2 r2 p2 => ?_
  cases o with
  | ref n =>
    simp only [RpM, Rp] at r2
    obtain ⟨ad, ev, ha⟩ := r2
    refine te_then I2 p2 fun k s3 z H3 g3 q3 I3 r3 p3 => ?_
    subst ev
    have ha2 : g3.mu[n]? = some ad := by
      obtain ⟨tl, ht⟩ := q3.mu
      rw [← ht, List.getElem?_append_left (List.getElem?_eq_some_iff.mp ha).1]
      exact ha
    cases em : mLst s3 n with
    | none => rw [em] at p3; exact p3.elim
    | some xs =>
      rw [em] at p3
      obtain ⟨vs, h3', h4'⟩ := mcell I3 em ha2
      cases k with
      | int k =>
        simp only at p3
        split at p3
        · rename_i j ej
          obtain ⟨st2, I4⟩ := I3.cell ha2 ⟨vs, h3'⟩ (h4'.set j (Rp.step I2.wf q3.toStep (Rp.step I1.wf q2.toStep r1)))
          exact ⟨ad, vs, k, j, rfl, b_int r3, h3', by rw [h4'.length]; exact ej, p3 σ _ g3 st2 I4⟩
        · exact p3.elim
      | _ => exact p3.elim
  | _ => exact p2.elim
/-- o[k] = a value that is there; then on -/
def putK (fo fk : S → R D) (d : D) (k : S → RS) : S → RS := fun s1 => (fo s1).then fun o s2 => match o with
  | .ref n => (fk s2).then fun i s3 => (match mLst s3 n, i with
    | some xs, .int i => (match ixN xs.length i with
      | some j => k { s3 with m := s3.m.set n (.lst (xs.set j d)) }
      | none => .stuck)
    | _, _ => .stuck)
  | _ => .stuck
theorem put_of {K : PySem.W.Frag} {B : Bs} {E : Ends} {W : WX} {g : Gh} {H : Hp} {σ : L2.St} {st : S} {fk : S → R D} {d : D} {v : V} {k : S → RS} {Q : L2.St → Hp → Prop} (I : SR K T Γ g σ H st) (r : Rp K T g H d v) (p : PostS K T F B g H W E (putK fo fk d k st))
    (hk : ∀ g' H' st', Step g H g' H' → SR K T Γ g' σ H' st' → PostS K T F B g' H' W E (k st') → Q σ H') : gSub (te K T Γ .sh W fo) (te K T Γ .b1 W fk) rSetL v σ H Q := by
  unfold putK at p
  refine te_then I p fun o s2 y H2 g2 q2 I2 r2 p2 => ?_
  cases o with
  | ref n =>
    simp only [RpM, Rp] at r2
    obtain ⟨ad, ev, ha⟩ := r2
    refine te_then I2 p2 fun k s3 z H3 g3 q3 I3 r3 p3 => ?_
    subst ev
    have ha2 : g3.mu[n]? = some ad := by
      obtain ⟨tl, ht⟩ := q3.mu
      rw [← ht, List.getElem?_append_left (List.getElem?_eq_some_iff.mp ha).1]
      exact ha
    cases em : mLst s3 n with
    | none => rw [em] at p3; exact p3.elim
    | some xs =>
      rw [em] at p3
      obtain ⟨vs, h3', h4'⟩ := mcell I3 em ha2
      cases k with
      | int k =>
        simp only at p3
        split at p3
        · rename_i j ej
          obtain ⟨st2, I4⟩ := I3.cell ha2 ⟨vs, h3'⟩ (h4'.set j (Rp.step I2.wf q3.toStep (Rp.step I.wf q2.toStep r)))
          exact ⟨ad, vs, k, j, rfl, b_int r3, h3', by rw [h4'.length]; exact ej, hk g3 _ _ ((q2.toStep.trans q3.toStep).trans st2) I4 (p3.shift st2)⟩
        · exact p3.elim
      | _ => exact p3.elim
  | _ => exact p2.elim
/-- o[k], o'[k'] = a, b -/
def sSetR2 (fo fk fo2 fk2 fa fb : S → R D) : S → RS := fun s => (eTup (aCons fa (aCons fb aNil)) s).then fun d s1 => match d with
  | .tup [d1, d2] => putK fo fk d1 (putK fo2 fk2 d2 .next) s1
  | _ => .stuck
theorem js_setR2 {kx kx2 o2 : Expr} {fk fo2 fk2 fa fb : S → R D} {pos1 pos3 tpos vpos : Pos} {kt kv : Nat} (hc : X.calm = true) (ha' : JE T X Γ a .sh fa) (hb' : JE T X Γ b .sh fb) (ho : JE T X Γ o .sh fo) (hk : JE T X Γ kx .b1 fk) (ho2 : JE T X Γ o2 .sh fo2) (hk2 : JE T X Γ kx2 .b1 fk2)
    (ha : ∀ v, assign (.Subscript o kx pos1) X.env v = (do
      let ov ← holding [v] (eval o X.env)
      let iv ← holding [v, ov] (eval kx X.env)
      standAt pos1
      holding [v, ov, iv] (setItem ov iv v)
      release [v, ov, iv] []) := by intro _; rfl)
    (hb : ∀ v, assign (.Subscript o2 kx2 pos3) X.env v = (do
      let ov ← holding [v] (eval o2 X.env)
      let iv ← holding [v, ov] (eval kx2 X.env)
      standAt pos3
      holding [v, ov, iv] (setItem ov iv v)
      release [v, ov, iv] []) := by intro _; rfl)
    (h2 : (assignEach [.Subscript o kx pos1, .Subscript o2 kx2 pos3] X.env).map (·.2) = assign (.Subscript o kx pos1) X.env :: (assignEach [.Subscript o2 kx2 pos3] X.env).map (·.2) := by rfl)
    (h3 : (assignEach [.Subscript o2 kx2 pos3] X.env).map (·.2) = assign (.Subscript o2 kx2 pos3) X.env :: (assignEach [] X.env).map (·.2) := by rfl)
    (hn : (assignEach [.Subscript o kx pos1, .Subscript o2 kx2 pos3] X.env).length = 2 := by rfl) (hst : (assignEach [.Subscript o kx pos1, .Subscript o2 kx2 pos3] X.env).findIdx? (·.1) = none := by rfl)
    (hs : swapsWithSole [.Tuple [.Subscript o kx pos1, .Subscript o2 kx2 pos3] kt tpos] (.Tuple [a, b] kv vpos) pos.line X.env = pure false := by rfl) (hw : swappedStores [.Tuple [.Subscript o kx pos1, .Subscript o2 kx2 pos3] kt tpos] (.Tuple [a, b] kv vpos) X.env = pure none := by rfl)
    (h1 : (assignEach [.Tuple [.Subscript o kx pos1, .Subscript o2 kx2 pos3] kt tpos] X.env).map (·.2) = [assign (.Tuple [.Subscript o kx pos1, .Subscript o2 kx2 pos3] kt tpos) X.env] := by rfl)
    (hs1 : starEach [a, b] X.env = (false, eval a X.env) :: starEach [b] X.env := by rfl) (hs2 : starEach [b] X.env = (false, eval b X.env) :: starEach [] X.env := by rfl) :
    JS T X Γ ⟨Γ, lp, rm⟩ (.Assign [.Tuple [.Subscript o kx pos1, .Subscript o2 kx2 pos3] kt tpos] (.Tuple [a, b] kv vpos) pos) (sSetR2 fo fk fo2 fk2 fa fb) := by
  have ht : JE T X Γ (.Tuple [a, b] kv vpos) .sh (eTup (aCons fa (aCons fb aNil))) := je_tup (ja_cons ha' (ja_cons hb' ja_nil hs2) hs1)
  refine ⟨fun W tk => PS.imp (ps_asg (ht.run W tk) (pg_tup (n := 2) hc (pgs_cons (pg_sub (ho.run W tk) (hk.run W tk) set_list ha) (pgs_cons (pg_sub (ho2.run W tk) (hk2.run W tk) set_list hb) pgs_nil h3) h2) hn hst) hs hw h1) fun E σ H ⟨B, g, st, I, p⟩ => ?_⟩
  unfold sSetR2 at p
  refine te_then I.toSR p fun d s1 x H1 g1 q1 I1 r1 p1 => ?_
  split at p1
  · rename_i d1 d2
    simp only [RpM, Rp, Rps] at r1
    obtain ⟨ad, vs, ev, hq, v1, r1', e1, rp1, v2, r2', e2, rp2, e3⟩ := r1
    subst e3 e2 e1
    refine ⟨ad, [v1, v2], ev, hq, rfl, v1, [v2], rfl, put_of I1 rp1 p1 fun g' H' st' s' I' p' => ⟨v2, [], rfl, put_of I' (rp2.step I1.wf s') p' fun g2 H2 st2 s2 I2 p2 => ⟨rfl, ?_⟩⟩⟩
    exact p2 σ H2 g2 (.refl g2 H2) I2
  · exact p1.elim
/-! ### names.index(place), of ints -/
def idxF : List Int → Int → Option Nat
  | [], _ => none
  | n :: ns, k => if n == k then some 0 else (idxF ns k).map (· + 1)
theorem idxF_ok : ∀ {ns : List Int} {k : Int} {j : Nat}, idxF ns k = some j → ns[j]? = some k ∧ ∀ m z, m < j → ns[m]? = some z → z ≠ k
  | [], k, j, h => by cases h
  | n :: ns, k, j, h => by
    rw [idxF] at h
    split at h
    · rename_i e
      cases h
      rw [eq_of_beq e]
      exact ⟨rfl, fun m z hm => absurd hm (by omega)⟩
    · rename_i e
      cases q : idxF ns k with
      | none => rw [q] at h; cases h
      | some i =>
        rw [q] at h
        cases h
        obtain ⟨h1, h2⟩ := idxF_ok q
        refine ⟨by simpa using h1, fun m z hm hz => ?_⟩
        cases m with
        | zero =>
          simp at hz
          subst hz
          intro e2
          exact e (by simp [e2])
        | succ m => exact h2 m z (by simp only at hm; omega) (by simpa using hz)
def idxD : D → D → S → R D
  | .lst xs, .int k, s => (match intsOf xs with
    | some ns => (match idxF ns k with
      | some j => .ok (.int j) s
      | none => .stuck)
    | none => .stuck)
  | _, _, _ => .stuck
def eIdx (fo f : S → R D) : S → R D := fun st => (fo st).bind fun d s => match d with
  | .lst xs => (f s).bind fun k s2 => idxD (.lst xs) k s2
  | _ => .stuck
theorem intV_flat (ns : List Int) : (ns.map V.int).all flatV = true := by
  rw [List.all_eq_true]
  intro x hx
  obtain ⟨n, _, rfl⟩ := List.mem_map.1 hx
  rfl
theorem je_index {o e : Expr} (ho : JE T X Γ o .b1 fo) (he : JE T X Γ e .sh f)
    (hb : ∀ {to te : TE}, PE X o to → PE X e te → PE X (.Call (.Attribute o "index" apos) [e] [] cpos) (tBM X.K "list" (rIndex X.K) to (tCons te tNil)) := by
      exact fun h1 h2 => pe_bm PySem.F.plainAttrs_list PySem.F.slot_list_index PySem.F.type_list_index mt_index h1 (pa_cons h2 pa_nil)) :
    JE T X Γ (.Call (.Attribute o "index" apos) [e] [] cpos) .sh (eIdx fo f) := by
  refine ⟨fun W tk => PE.imp (hb (ho.run W tk) (he.run W tk)) fun σ H Q ⟨g, st, I, p⟩ => ?_⟩
  refine te_bind ipE I p fun d1 s1 x H1 g1 q1 I1 r1 p1 => ?_
  cases d1 with
  | lst xs =>
    obtain ⟨ad, vs, e1, h1, hm, h2⟩ := b_lst r1
    refine ⟨by rw [e1]; exact .inl ⟨rfl, vs, .inl (.inl h1)⟩, ?_⟩
    refine te_bind ipE I1 p1 fun k s2 y H2 g2 q2 I2 r2 p2 => ?_
    obtain ⟨ad', vs', e1', h1', _, h2'⟩ := b_lst (r1.step I1.wf I2.wf q2)
    unfold idxD at p2
    split at p2
    · rename_i xs' k' exs
      cases exs
      split at p2
      · rename_i ns en
        split at p2
        · rename_i j ej
          obtain ⟨z1, z2⟩ := idxF_ok ej
          have ev := ints_of h2' en
          simp only [RpM, Rp] at r2
          refine ⟨ad', vs', .int k', j, .int k', e1', by rw [r2], .inl (.inl h1'), rfl, by rw [ev]; exact intV_flat ns, by rw [ev]; simp [z1], by simp [eqV], fun m z hm hz => ?_, post_v I2 p2 rm_int⟩
          rw [ev] at hz
          have hz' : ∃ n, ns[m]? = some n ∧ V.int n = z := by simpa using hz
          obtain ⟨n, hn, rfl⟩ := hz'
          have := z2 m n hm hn
          simpa [eqV] using this
        · exact p2.elim
      · exact p2.elim
    · exact p2.elim
  | _ => exact p1.elim
/-! ### pool.pop(k), pool a cell -/
def ePop (fo f : S → R D) : S → R D := fun st => (fo st).bind fun d s => match d with
  | .ref n => (match mLst s n with
    | some _ => (f s).bind fun k s2 => (match k, mLst s2 n with
      | .int k, some xs => (match (if xs.length ≤ sizeLine then ixN xs.length k else none) with
        | some j => (match xs[j]? with
          | some d => .ok d { s2 with m := s2.m.set n (.lst (xs.eraseIdx j)) }
          | none => .stuck)
        | none => .stuck)
      | _, _ => .stuck)
    | none => .stuck)
  | _ => .stuck
theorem Rps.erase {K : PySem.W.Frag} {g : Gh} {H : Hp} : ∀ {ds : List D} {vs : List V} (j : Nat), Rps K T g H ds vs → Rps K T g H (ds.eraseIdx j) (vs.eraseIdx j)
  | [], vs, j, h => by
    simp only [Rps] at h
    subst h
    simpa using Rps.nil
  | d :: ds, vs, 0, h => by
    simp only [Rps] at h
    obtain ⟨v, r, e1, h1, h2⟩ := h
    subst e1
    exact h2
  | d :: ds, vs, j + 1, h => by
    simp only [Rps] at h
    obtain ⟨v, r, e1, h1, h2⟩ := h
    subst e1
    exact Rps.cons h1 (Rps.erase j h2)
theorem je_popM {o e : Expr} (ho : JE T X Γ o .sh fo) (he : JE T X Γ e .b1 f)
    (hb : ∀ {to te : TE}, PE X o to → PE X e te → PE X (.Call (.Attribute o "pop" apos) [e] [] cpos) (tBM X.K "list" rPopAt to (tCons te tNil)) := by
      exact fun h1 h2 => pe_bm PySem.F.plainAttrs_list PySem.F.slot_list_pop PySem.F.type_list_pop mt_popAt h1 (pa_cons h2 pa_nil)) :
    JE T X Γ (.Call (.Attribute o "pop" apos) [e] [] cpos) .sh (ePop fo f) := by
  refine ⟨fun W tk => PE.imp (hb (ho.run W tk) (he.run W tk)) fun σ H Q ⟨g, st, I, p⟩ => ?_⟩
  refine te_bind ipE I p fun d1 s1 x H1 g1 q1 I1 r1 p1 => ?_
  cases d1 with
  | ref n =>
    simp only [RpM, Rp] at r1
    obtain ⟨ad, ev, ha⟩ := r1
    subst ev
    cases em : mLst s1 n with
    | none => simp only [em] at p1; exact p1.elim
    | some xs0 =>
      simp only [em] at p1
      obtain ⟨vs0, h1, h2⟩ := mcell I1 em ha
      refine ⟨.inl ⟨rfl, vs0, .inl (.inl h1)⟩, ?_⟩
      refine te_bind ipE I1 p1 fun k s2 y H2 g2 q2 I2 r2 p2 => ?_
      have ha2 : g2.mu[n]? = some ad := by
        obtain ⟨tl, ht⟩ := q2.mu
        rw [← ht, List.getElem?_append_left (List.getElem?_eq_some_iff.mp ha).1]
        exact ha
      split at p2
      · rename_i k' xs exs
        obtain ⟨vs, h3, h4⟩ := mcell I2 exs ha2
        split at p2
        · rename_i j ej0
          have ej : ixN xs.length k' = some j ∧ xs.length ≤ sizeLine := by
            split at ej0
            · exact ⟨ej0, by assumption⟩
            · cases ej0
          obtain ⟨ej, hsz⟩ := ej
          rw [sizeLine_eq] at hsz
          split at p2
          · rename_i d ed
            obtain ⟨v, hv, rv⟩ := h4.get ed
            obtain ⟨st2, I3⟩ := I2.cell ha2 ⟨vs, h3⟩ (h4.erase j)
            obtain ⟨z1, z2, z3, z4⟩ := ixN_seq ej
            have hm : ad ∈ g2.mu := List.mem_of_getElem? ha2
            refine ⟨ad, vs, k', j, v, rfl, by rw [b_int r2], h3, by omega, by omega, by rw [h4.length]; exact z1, hv, ?_⟩
            exact p2 v _ g2 ⟨st2, rfl, fun i b hb => by rw [upd_ne fun z => I2.wf.fm i b hb (by rw [z]; exact hm)]⟩ I3 (rv.step I2.wf st2)
          · exact p2.elim
        · exact p2.elim
      · exact p2.elim
  | _ => exact p1.elim
/-! ### list(range(n)) -/
def lrgD : D → S → R D
  | .int n, s => if n.natAbs ≤ 16777216 then .ok (.lst (rngL 0 n.toNat)) s else .stuck
  | _, _ => .stuck
theorem je_listRg {p p2' rpos : Pos} (hc : X.calm = true) (hg : Gl X "list") (hm : X.mg "list" = none) (hg2 : Gl X "range") (hm2 : X.mg "range" = none) (he : JE T X Γ e .b1 f)
    (na : starEach [.Call (.Name "range" p2') [e] [] rpos] X.env = (false, eval (.Call (.Name "range" p2') [e] [] rpos) X.env) :: starEach [] X.env := by rfl) (nb : starEach [e] X.env = (false, eval e X.env) :: starEach [] X.env := by rfl) :
    JE T X Γ (.Call (.Name "list" p) [.Call (.Name "range" p2') [e] [] rpos] [] pos) .f1 (e1 lrgD f) := by
  refine ⟨fun W tk => PE.imp (pe_listRg hc hg hm (prg_1 hg2 hm2 (he.run W tk) nb) na) fun σ H Q ⟨g, st, I, p⟩ => ?_⟩
  refine te_bind ipE I p fun d1 s1 x H1 g1 q1 I1 r1 p1 => ?_
  unfold lrgD at p1
  split at p1
  · rename_i n
    split at p1
    · rename_i hz
      refine ⟨n, b_int r1, ⟨by omega, by omega, by omega, by omega, by omega⟩, fun q hq => ?_⟩
      have e1 : rgV 0 n = ((List.range n.toNat).map fun (i : Nat) => (0 : Int) + (i : Int)).map V.int := by
        unfold rgV
        rw [List.map_map, Int.sub_zero]
        rfl
      have e2 : rngL 0 n.toNat = ((List.range n.toNat).map fun (i : Nat) => (0 : Int) + (i : Int)).map D.int := by
        unfold rngL
        rw [List.map_map]
        rfl
      rw [e1]
      rw [e2] at p1
      exact post_lst I1 (Rps.ints _) hq p1
    · exact p1.elim
  · exact p1.elim
/-! ### sorted(xs), of ints -/
def insF (n : Int) : List Int → List Int
  | [] => [n]
  | k :: l => if ltB k n then k :: insF n l else n :: k :: l
def isort : List Int → List Int
  | [] => []
  | n :: l => insF n (isort l)
theorem insF_perm (n : Int) : ∀ l : List Int, (insF n l).Perm (n :: l)
  | [] => .refl _
  | k :: l => by
    rw [insF]
    split
    · exact ((insF_perm n l).cons k).trans (.swap n k l)
    · exact .refl _
theorem isort_perm : ∀ l : List Int, (isort l).Perm l
  | [] => .refl _
  | n :: l => (insF_perm n (isort l)).trans ((isort_perm l).cons n)
theorem insF_sorted (n : Int) : ∀ l : List Int, l.Pairwise (· ≤ ·) → (insF n l).Pairwise (· ≤ ·)
  | [], _ => by simp [insF]
  | k :: l, h => by
    rw [insF]
    rw [List.pairwise_cons] at h
    split
    · rename_i hk
      rw [ltB_eq] at hk
      have hk' : k < n := by simpa using hk
      rw [List.pairwise_cons]
      refine ⟨fun x hx => ?_, insF_sorted n l h.2⟩
      rcases List.mem_cons.1 ((insF_perm n l).mem_iff.1 hx) with rfl | hx
      · omega
      · exact h.1 x hx
    · rename_i hk
      rw [ltB_eq] at hk
      have hk' : ¬ k < n := by simpa using hk
      rw [List.pairwise_cons, List.pairwise_cons]
      refine ⟨fun x hx => ?_, h⟩
      rcases List.mem_cons.1 hx with rfl | hx
      · omega
      · have := h.1 x hx
        omega
theorem isort_sorted : ∀ l : List Int, (isort l).Pairwise (· ≤ ·)
  | [] => List.Pairwise.nil
  | n :: l => insF_sorted n _ (isort_sorted l)
theorem sorted_uniq : ∀ {l l' : List Int}, l.Perm l' → l.Pairwise (· ≤ ·) → l'.Pairwise (· ≤ ·) → l = l'
  | [], l', h, _, _ => (List.Perm.nil_eq h)
  | a :: l, [], h, _, _ => absurd h.length_eq (by simp)
  | a :: l, b :: l', h, s, s' => by
    rw [List.pairwise_cons] at s s'
    have h1 : a ∈ b :: l' := h.mem_iff.1 List.mem_cons_self
    have h2 : b ∈ a :: l := h.mem_iff.2 List.mem_cons_self
    have e : a = b := by
      rcases List.mem_cons.1 h1 with e | h1
      · exact e
      · rcases List.mem_cons.1 h2 with e | h2
        · exact e.symm
        · have := s.1 b h2
          have := s'.1 a h1
          omega
    subst e
    rw [sorted_uniq (List.Perm.cons_inv h) s.2 s'.2]
def sortD : D → S → R D
  | .lst xs, s => (match intsOf xs with
    | some ns => .ok (.lst ((isort ns).map D.int)) s
    | none => .stuck)
  | _, _ => .stuck
theorem bi_sorted : Bi1 X T (.builtin "sorted") .b1 .f1 sortD := by
  refine ⟨_, cr_sortedI (X := X), fun Γ g σ H st W Q x d H0 I r p => ?_⟩
  unfold sortD at p
  split at p
  · split at p
    · rename_i ns e
      obtain ⟨ad, vs, e1, h1, _, h2⟩ := b_lst r
      subst e1
      rw [ints_of h2 e] at h1
      refine ⟨ad, ns, rfl, .inl (.inl h1), fun ns' q hp hs hq => ?_⟩
      have : ns' = isort ns := sorted_uniq (hp.trans (isort_perm ns).symm) hs (isort_sorted ns)
      rw [this]
      exact post_lst I (Rps.ints _) hq p
    · exact p.elim
  · exact p.elim
/-! ### tuple(x), list(x), x a cell -/
theorem post_tupC {K : PySem.W.Frag} {g : Gh} {H : Hp} {σ : L2.St} {st : S} {W : WX} {Q : VK} {n : Nat} {xs : List D} {x : V} (I : SR K T Γ g σ H st) (r : Rp K T g H (.ref n) x) (em : mLst st n = some xs) : ∃ ad vs, x = .ref ad ∧ SqL K H ad vs ∧ Rps K T g H xs vs := by
  simp only [Rp] at r
  obtain ⟨ad, ev, ha⟩ := r
  obtain ⟨vs, h1, h2⟩ := mcell I em ha
  exact ⟨ad, vs, ev, .inl (.inl h1), h2⟩
def tupleC : D → S → R D
  | .ref n, s => (match mLst s n with
    | some xs => .ok (.tup xs) s
    | none => .stuck)
  | d, s => tupleD d s
theorem bi_tupleC : Bi1 X T (.type "tuple") .b1 .sh tupleC := by
  obtain ⟨r0, h0, k0⟩ := (bi_tuple (X := X) (T := T)).ex
  refine ⟨_, h0.or (call_tuple_of (X := X)), fun Γ g σ H st W Q x d H0 I r p => ?_⟩
  unfold tupleC at p
  split at p
  · split at p
    · rename_i n xs em
      obtain ⟨ad, vs, e1, h1, h2⟩ := post_tupC (W := W) (Q := Q) I r em
      subst e1
      exact .inr ⟨ad, vs, rfl, .inl ⟨h1, fun l hl => post_tup I h2 hl p⟩⟩
    · exact p.elim
  · exact .inl (k0 Γ g σ H st W Q x d H0 I r p)
def listC : D → S → R D
  | .ref n, s => (match mLst s n with
    | some xs => .ok (.lst xs) s
    | none => .stuck)
  | d, s => listD d s
theorem bi_listC : Bi1 X T (.type "list") .b1 .f1 listC := by
  obtain ⟨r0, h0, k0⟩ := (bi_list (X := X) (T := T)).ex
  refine ⟨_, h0.or (call_list_of (X := X)), fun Γ g σ H st W Q x d H0 I r p => ?_⟩
  unfold listC at p
  split at p
  · split at p
    · rename_i n xs em
      obtain ⟨ad, vs, e1, h1, h2⟩ := post_tupC (W := W) (Q := Q) I r em
      subst e1
      exact .inr ⟨ad, vs, rfl, .inl h1, fun l hl => post_lst I h2 hl p⟩
    · exact p.elim
  · exact .inl (k0 Γ g σ H st W Q x d H0 I r p)
def lenC : D → S → R D
  | .ref n, s => (match mLst s n with
    | some xs => .ok (.int xs.length) s
    | none => .stuck)
  | d, s => lenD d s
theorem bi_lenC : Bi1 X T (.builtin "len") .b1 .sh lenC := by
  obtain ⟨r0, h0, k0⟩ := (bi_len (X := X) (T := T)).ex
  refine ⟨_, h0.or (call_len_seq (X := X)), fun Γ g σ H st W Q x d H0 I r p => ?_⟩
  unfold lenC at p
  split at p
  · split at p
    · rename_i n xs em
      obtain ⟨ad, vs, e1, h1, h2⟩ := post_tupC (W := W) (Q := Q) I r em
      subst e1
      exact .inr ⟨ad, vs, rfl, .inl h1, by rw [h2.length]; exact post_v I p rm_int⟩
    · exact p.elim
  · exact .inl (k0 Γ g σ H st W Q x d H0 I r p)
end
end DL

set_option linter.all false
set_option Elab.async false
set_option maxRecDepth 100000
namespace DL
open PySem PySem.Spec PyProof.Rows L2

/-! ### x, y, z = a, b, c with fresh lists -/
section
variable {T : Tb} {X : Cx} {Γ Γ' Γ2 Γ3 : Fls} {F : Fx} {nx lp : Fls} {rm : Mo} {e a b c tg iter : Expr} {m m1 m2 m3 : Mo} {f f1 f2 f3 : S → R D} {pos p2 pos' : Pos}
def sParM3 (m1 m2 m3 : Mo) (i j l : Nat) (f1 f2 f3 : S → R D) : S → RS := fun s => (f1 s).then fun d1 s1 => (f2 s1).then fun d2 s2 => (f3 s2).then fun d3 s3 => if isL m1 d1 && isL m2 d2 && isL m3 d3 then .next { s3 with r := ((s3.r.set i (some d1)).set j (some d2)).set l (some d3) } else .stuck
theorem js_parM3 (i j l : Nat) {x y z : Str} {px py pz pt : Pos} {kt k2 pt2} (hc : X.calm = true) (hN : X.N.Nodup) (ha : JE T X Γ a m1 f1) (hb : JE T X Γ b m2 f2) (hcc : JE T X Γ c m3 f3) (hm1 : m1 = .sh ∨ m1 = .f1) (hm2 : m2 = .sh ∨ m2 = .f1) (hm3 : m3 = .sh ∨ m3 = .f1)
    (hΓ1 : ∀ k, fl Γ3 k = if k = l then m3.fl else fl Γ k) (hΓ2 : ∀ k, fl Γ2 k = if k = j then m2.fl else fl Γ3 k) (hΓ3 : ∀ k, fl Γ' k = if k = i then m1.fl else fl Γ2 k) (hi : X.N[i]? = some x := by rfl) (hj : X.N[j]? = some y := by rfl) (hl : X.N[l]? = some z := by rfl) (hij : i ≠ j := by decide) (hil : i ≠ l := by decide) (hjl : j ≠ l := by decide)
    (hx : X.env.scope.names.lookup x = some .local := by rfl) (hy : X.env.scope.names.lookup y = some .local := by rfl) (hz : X.env.scope.names.lookup z = some .local := by rfl)
    (hw : swappedStores [.Tuple [.Name x px, .Name y py, .Name z pz] kt pt] (.Tuple [a, b, c] k2 pt2) X.env = pure (some [x, y, z]) := by rfl) (hs : swapsWithSole [.Tuple [.Name x px, .Name y py, .Name z pz] kt pt] (.Tuple [a, b, c] k2 pt2) pos.line X.env = pure false := by rfl)
    (hst : starEach [a, b, c] X.env = (false, eval a X.env) :: starEach [b, c] X.env := by rfl) (hst2 : starEach [b, c] X.env = (false, eval b X.env) :: starEach [c] X.env := by rfl) (hst3 : starEach [c] X.env = (false, eval c X.env) :: starEach [] X.env := by rfl) :
    JS T X Γ ⟨Γ', lp, rm⟩ (.Assign [.Tuple [.Name x px, .Name y py, .Name z pz] kt pt] (.Tuple [a, b, c] k2 pt2) pos) (sParM3 m1 m2 m3 i j l f1 f2 f3) := by
  refine ⟨fun W tk => PS.imp (ps_par3 hc hN hi hj hl hij hil hjl hx hy hz (pa_cons (ha.run W tk) (pa_cons (hb.run W tk) (pa_cons (hcc.run W tk) pa_nil hst3) hst2) hst) hw hs) fun E σ H ⟨B, g, st, I, p⟩ => ?_⟩
  have fm : ∀ {m : Mo} {d : D}, (m = .sh ∨ m = .f1) → isL m d = true → flOf m d = m.fl := by
    intro m d h q
    rcases h with rfl | rfl
    · rfl
    · cases d <;> first | rfl | cases q
  refine ⟨g, st, I.toSR, ?_⟩
  unfold sParM3 at p
  cases e1 : f1 st with
  | raise ex s1 => rw [e1] at p; exact fun cls dd H' g' => p cls dd σ H' g'
  | stuck => rw [e1] at p; exact p
  | ok d1 s1 =>
    rw [e1] at p
    intro v H1 g1 q1 I1 r1
    refine ⟨g1, s1, I1, ?_⟩
    simp only [R.then] at p
    cases e2 : f2 s1 with
    | raise ex s2 => rw [e2] at p; exact fun cls dd H' g' s => p cls dd σ H' g' (q1.toStep.trans s)
    | stuck => rw [e2] at p; exact p
    | ok d2 s2 =>
      rw [e2] at p
      intro w H2 g2 q2 I2 r2
      refine ⟨g2, s2, I2, ?_⟩
      simp only [R.then] at p
      cases e3 : f3 s2 with
      | raise ex s3 => rw [e3] at p; exact fun cls dd H' g' s => p cls dd σ H' g' (q1.toStep.trans (q2.toStep.trans s))
      | stuck => rw [e3] at p; exact p
      | ok d3 s3 =>
        rw [e3] at p
        intro u H3 g3 q3 I3 r3
        simp only at p
        split at p
        case isFalse => exact p.elim
        rename_i hz
        rw [Bool.and_eq_true, Bool.and_eq_true] at hz
        obtain ⟨L3, k1, k2', k3⟩ := I3.asg (Γ' := Γ3) (i := l) q3.toStep (by rcases hm3 with h | h <;> simp [h]) r3 (by rw [fm hm3 hz.2]; exact hΓ1)
        have r2' := RpM.slot (i := l) hm2 (fun b hb => (k3 b hb).2.2) r2 (r2.step I2.wf I3.wf q3)
        obtain ⟨L2, k4, k5, k6⟩ := k2'.asg (Γ' := Γ2) (i := j) (q2.toStep.trans k1) (by rcases hm2 with h | h <;> simp [h]) r2' (by rw [fm hm2 hz.1.2]; exact hΓ2)
        have r1a := r1.step I1.wf I2.wf q2
        have r1b := RpM.slot (i := l) hm1 (fun b hb => (k3 b hb).2.2) r1a (r1a.step I2.wf I3.wf q3)
        have r1c := RpM.slot (i := j) hm1 (fun b hb => (k6 b hb).2.2) r1 r1b
        obtain ⟨L1, k7, k8, _⟩ := k5.asg (Γ' := Γ') (i := i) (q1.toStep.trans k4) (by rcases hm1 with h | h <;> simp [h]) r1c (by rw [fm hm1 hz.1.1]; exact hΓ3)
        refine ⟨v, w, u, rfl, ?_⟩
        have cm : ∀ {α : Type} (q : List α) (v w u : α), ((q.set i v).set j w).set l u = ((q.set l u).set j w).set i v := by
          intro α q v w u
          rw [List.set_comm v w (l := q) hij, List.set_comm v u (l := q.set j w) hil, List.set_comm w u (l := q) hjl]
        rw [cm σ]
        rw [cm s3.r] at p
        exact p _ H3 _ k7 k8
end
end DL

set_option linter.all false
set_option Elab.async false
set_option maxRecDepth 100000
namespace DL
open PySem PySem.Spec PyProof.Rows L2

/-! ### // of wider numbers: no division by _pylong where what is divided is short enough -/
theorem noPylong_w {x y : Int} (h : y.natAbs.log2 < 9000 ∨ x.natAbs.log2 < 13500) : Builtin.divisionGoesByPylong x y = false := by
  rcases h with h | h
  · exact PyProof.noPylong_of_log2 h
  · by_cases h9 : y.natAbs.log2 < 9000
    · exact PyProof.noPylong_of_log2 h9
    · have key : ¬ ((if x == 0 then 0 else x.natAbs.log2 / 30 + 1) > (if y == 0 then 0 else y.natAbs.log2 / 30 + 1) + 150) := by
        have hy : (y == 0) = false := by
          rw [beq_eq_false_iff_ne]
          intro e
          subst e
          exact h9 (by decide)
        rw [hy]
        simp only [Bool.false_eq_true, if_false]
        split <;> omega
      show (_ && decide ((if x == 0 then 0 else x.natAbs.log2 / 30 + 1) > (if y == 0 then 0 else y.natAbs.log2 / 30 + 1) + 150)) = false
      rw [decide_eq_false key, Bool.and_false]
def fdivW : D → D → S → R D
  | .int i, .int j, s => if j ≠ 0 ∧ (j.natAbs.log2 < 9000 ∨ i.natAbs.log2 < 13500) then .ok (.int (i.fdiv j)) s else .stuck
  | _, _, _ => .stuck
section
variable {T : Tb} {X : Cx}
theorem op_fdivW : OpR X (binaryOp .FloorDiv) (rI (fun i j => j ≠ 0 ∧ (j.natAbs.log2 < 9000 ∨ i.natAbs.log2 < 13500)) fun i j => .int (i.fdiv j)) := opI fun _ _ _ _ _ _ _ hc q => floordiv_int hc.1 q (.inl (noPylong_w hc.2))
theorem bin_fdivW : BinR X T .FloorDiv .b1 .b1 .sh fdivW := by
  refine ⟨_, op_fdivW (X := X), fun Γ g σ H st W Q x y d1 d2 H0 H1 I r1 r2 p => ?_⟩
  unfold fdivW at p
  split at p
  · rename_i i j
    split at p
    · exact ⟨i, j, b_int r1, b_int r2, by assumption, post_v I p rm_int⟩
    · exact p.elim
  · exact p.elim
end
end DL

set_option linter.all false
set_option Elab.async false
set_option maxRecDepth 100000
set_option maxHeartbeats 4000000
namespace DL
open PySem PySem.Spec PyProof.Rows L2

/-! ### a tuple times 1 is that tuple -/
theorem tuple_mul1 (l : Addr) (items : Array Value) (n : Nat) (dd : Option Addr) (sl : Array (Option Value)) (u : Tok) (c1 : items.isEmpty = false) :
    Meets (Builtin.«tuple.__mul__» ⟨[.ref l, .int 1 u], []⟩) (fun _ R s => s.heap.get? l = some { cls := .type "tuple", dict := dd, data := .seq items n, slots := sl } ∧
      R (.ok (.ret (Value.ref l))) { s with heap := s.heap, toks := s.toks }) :=
  .of_wp fun prog w A R s h => by
    obtain ⟨hp, g, d, tk, os⟩ := s
    obtain ⟨hl, h⟩ := h
    have f1 := AutoSeq1.idx_int
    wp_walk using wpAny_loadPart' hl
    exact ⟨_, rfl, h⟩
def rRepT1 (K : PySem.W.Frag) : R2 := fun x y H Q => ∃ l xs, x = .ref l ∧ y = .int 1 ∧ SqT K H l xs ∧ xs ≠ [] ∧ Q (.ref l) H
section
variable {X : Cx} {T : Tb}
theorem op_repT1 : OpR X (binaryOp .Mult) (rRepT1 X.K) := by
  intro pins s σ H x y v u Q I rx ry h
  obtain ⟨l, xs, rfl, rfl, hT, hne, q⟩ := h
  cases rx
  obtain ⟨t, rfl⟩ := ry
  obtain ⟨its, r, ⟨⟨cls, dd, data, sl⟩, ho, hc, n, hd⟩, hs⟩ := I.tuple hT
  simp only at hc hd
  subst hc hd
  have hle : its.length = xs.length := r.length.symm
  have hi : its.toArray.isEmpty = false := by
    cases its with
    | nil =>
      rw [List.length_nil] at hle
      exact absurd (List.eq_nil_of_length_eq_zero hle.symm) hne
    | cons a b => rfl
  refine wpAny_binaryOp_repeat_ref (T := "tuple") (U := "int") (by decide) ⟨_, ho, rfl⟩ (fun s' => typeIs_int s' 1 t) noFill_tuple_mul F.fills_int_mul F.slot_int_rmul repeat_tuple F.slot_int_index.lookup
    (call_meets F.slot_int_rmul (typeIs_int s 1 t) F.entry_int_rmul (F.args_int_rmul_2 _ _) (int_rmul_tuple 1 t l its.toArray n dd sl)
      ⟨ho, rfl, ⟨_, ho, rfl⟩, call_meets F.slot_tuple_mul ⟨_, ho, rfl⟩ F.entry_tuple_mul (F.args_tuple_mul_2 _ _) (tuple_mul1 l its.toArray n dd sl t hi) ⟨ho, ?_⟩⟩)
  exact ⟨.ref l, H, I, rfl, q⟩
/-- *, a tuple times 1 too -/
def mulE : D → D → S → R D
  | .tup xs, .int k, s => if k = 1 ∧ xs ≠ [] then .ok (.tup xs) s else mulD (.tup xs) (.int k) s
  | a, b, s => mulD a b s
theorem bin_mulE : BinR X T .Mult .b1 .b1 .f1 mulE := by
  obtain ⟨r, h, k⟩ := bin_mul (X := X) (T := T)
  refine ⟨_, h.or op_repT1, fun Γ g σ H st W Q x y d1 d2 H0 H1 I r1 r2 p => ?_⟩
  unfold mulE at p
  split at p
  · rename_i xs c
    split at p
    · rename_i hz
      obtain ⟨rfl, hne⟩ := hz
      obtain ⟨a, vs, e1, s1, q1⟩ := b_tup r1
      subst e1
      exact .inr ⟨a, vs, rfl, b_int r2, s1, fun e => hne (by
        have := q1.length
        rw [e] at this
        exact List.eq_nil_of_length_eq_zero this.symm), post_v I p (by
          simp only [RpM, Rp]
          exact ⟨a, vs, rfl, s1, q1⟩)⟩
    · exact .inl (k Γ g σ H st W Q x y _ _ H0 H1 I r1 r2 p)
  · exact .inl (k Γ g σ H st W Q x y _ _ H0 H1 I r1 r2 p)
end
end DL

set_option linter.all false
set_option Elab.async false
set_option maxRecDepth 100000
namespace DL
open PySem PySem.Spec PyProof.Rows L2

/-! ### // of numbers of any width: the long division has its room -/
structure SeerP (P : Program) (base : Heap) : Prop where
  ns : base.NoSeer
  tree : P.given.tree = none
def fdivP : D → D → S → R D
  | .int i, .int j, s => if j ≠ 0 then .ok (.int (i.fdiv j)) s else .stuck
  | _, _, _ => .stuck
section
variable {T : Tb} {X : Cx}
theorem op_fdivP {k : Nat} (hs : SeerP X.prog X.base) (hr : Room k X.A) (hk : 32 ≤ k) (hstk : X.stack = X.env :: X.outer) (hg : X.env.scope.isGenerator = false) (hco : X.env.scope.isCoroutine = false) : OpR X (binaryOp .FloorDiv) (rI (fun _ j => j ≠ 0) fun i j => .int (i.fdiv j)) := by
  intro pins s σ H x y v u Q I rx ry h
  obtain ⟨i, j, rfl, rfl, hc, q⟩ := h
  obtain ⟨t, rfl⟩ := rx
  obtain ⟨t', rfl⟩ := ry
  have room : PySem.PylongRoom (model X.prog X.w) X.A s := by
    refine PySem.PylongRoom.of I.nolimit ?_ (PySem.SeerAt.of (env := X.env) (l := X.outer) (hs.ns.keeps I.bk) hs.tree (by rw [I.ok.frames, hstk]) hg hco I.ok.blt I.ok.glob)
    have := hr.dp
    have e1 : Builtin.pylongFrames = 100 := rfl
    omega
  exact floordiv_int hc ⟨.int (i.fdiv j), H, I.tok _, ⟨_, rfl⟩, q⟩ (.inr room)
theorem bin_fdivP {k : Nat} (hs : SeerP X.prog X.base) (hr : Room k X.A) (hk : 32 ≤ k) (hstk : X.stack = X.env :: X.outer := by rfl) (hg : X.env.scope.isGenerator = false := by rfl) (hco : X.env.scope.isCoroutine = false := by rfl) : BinR X T .FloorDiv .b1 .b1 .sh fdivP := by
  refine ⟨_, op_fdivP hs hr hk hstk hg hco, fun Γ g σ H st W Q x y d1 d2 H0 H1 I r1 r2 p => ?_⟩
  unfold fdivP at p
  split at p
  · rename_i i j
    split at p
    · exact ⟨i, j, b_int r1, b_int r2, by assumption, post_v I p rm_int⟩
    · exact p.elim
  · exact p.elim
end
/-! ### the end, with the seer's facts of the base -/
section
theorem look_app {K E : PySem.W.Frag} (a : Addr) : List.lookup a (K ++ E) = (K.lookup a).or (E.lookup a) := by
  induction K with
  | nil => simp
  | cons p r ih =>
    obtain ⟨b, o⟩ := p
    simp only [List.cons_append, List.lookup]
    split
    · simp
    · exact ih
theorem ns_at {h h' : Heap} {a : Addr} {m : Str → Option Value} {o : Obj} (x : h.Ns a m) (e : h.get? a = some o) (e' : h'.get? a = some o) : h'.Ns a m := by
  obtain ⟨o2, es, ep, e2, r⟩ := x
  have : o2 = o := Option.some.inj (e2.symm.trans e)
  subst this
  exact ⟨_, es, ep, e', r⟩
theorem ns_obj {h : Heap} {a : Addr} {m : Str → Option Value} (x : h.Ns a m) : ∃ o es ep, h.get? a = some o ∧ o.data = .dict es ep := by
  obtain ⟨o, es, ep, e, d, _⟩ := x
  exact ⟨o, es, ep, e, d⟩
theorem walk_ofS {l : PySem.W.OpenLaw} {n k : Nat} {q : Program} {loose : List Str} {XP : (Str → Option Value) → Heap → Prop} {YP : World → Heap → Prop} {d : DefRec} {K : Params → PySem.W.Frag} {x : Str}
    (hn : l.most = some n) (hn2 : n ≤ sizeLine) (h63 : n ≤ 63) (hdf : d.params.defaults = []) (hr : Room k callerA) (hi : importsNone q = true) (ht : l.prog.given.tree = none)
    (hY : ∀ (w : World) (h : Heap), YP w h → (K w.params).In h)
    (F : ∀ (w : World) (mg : Str → Option Value) (fa : Addr) (h : Heap), (K w.params).In h → h.Ns mainGlobals mg → mg d.name = some (.ref fa) →
      ∃ fd : FuncData, (∀ (s : Shared) (u : Value), BindsTo s fd ⟨[u], []⟩ [(x, u)]) ∧
        ∀ base : Heap, (K w.params).In base → base.Ns mainGlobals mg → SeerP l.prog base → FnOk l.prog w (K w.params) mg base (L2.CX l.prog w) k fa fd [x] (spLaw (K w.params))) :
    PySem.W.WalkO q loose XP YP l.row.toRowW d [] (fun f vs => PySem.call f vs) := by
  refine Att.attach_callB hn hdf fun w s₀ s₁ mg mb fa o pm cd doc a vs ns G Y ho hd hcd hmg hobj hints hlen hbits hg => ?_
  have KX := hY w _ Y
  obtain ⟨fd, hb, hF⟩ := F w mg fa _ KX G.T.g hmg
  have NS := G.T.seer hi
  obtain ⟨mc, nc, c1, c2⟩ := NS.statics
  obtain ⟨mm, nm, m1⟩ := NS.mods
  obtain ⟨mb', nb, b0⟩ := NS.imp
  obtain ⟨bm, ob, g1, _, g2, g3, g4, g5⟩ := G.T.bmain
  obtain ⟨oc, esc, epc, ec, dc⟩ := ns_obj nc
  obtain ⟨om, esm, epm, em, dm⟩ := ns_obj nm
  obtain ⟨obl, esb, epb, eb, db⟩ := ns_obj nb
  obtain ⟨E, hE⟩ : ∃ E : PySem.W.Frag, E = [(cStatics, oc), (sysModules, om), (builtinsNs, obl), (bm, ob)] := ⟨_, rfl⟩
  have hEin : ∀ b u, E.lookup b = some u → s₁.heap.get? b = some u ∧ ∀ its n, u.data ≠ .seq its n := fun b u e => by
    rw [hE] at e
    simp only [List.lookup] at e
    split at e
    · rename_i z
      cases e
      exact ⟨by rw [beq_iff_eq.mp z]; exact ec, fun its n e => by rw [dc] at e; cases e⟩
    · split at e
      · rename_i z
        cases e
        exact ⟨by rw [beq_iff_eq.mp z]; exact em, fun its n e => by rw [dm] at e; cases e⟩
      · split at e
        · rename_i z
          cases e
          exact ⟨by rw [beq_iff_eq.mp z]; exact eb, fun its n e => by rw [db] at e; cases e⟩
        · split at e
          · rename_i z
            cases e
            exact ⟨by rw [beq_iff_eq.mp z]; exact g2, fun its n e => by rw [g5] at e; cases e⟩
          · cases e
  have KX' : PySem.W.Frag.In (K w.params ++ E) s₁.heap := fun b u e => by
    rw [look_app] at e
    cases hk : (K w.params).lookup b with
    | some u' =>
      rw [hk] at e
      cases e
      exact KX _ _ hk
    | none =>
      rw [hk] at e
      exact (hEin b u (by simpa using e)).1
  have hat : ∀ (b : Addr) (u : Obj), s₁.heap.get? b = some u → (E.lookup b).isSome = true → ∀ base : Heap, PySem.W.Frag.In (K w.params ++ E) base → base.get? b = some u := fun b u e hs base hin => by
    obtain ⟨u', hu'⟩ : ∃ u', (K w.params ++ E).lookup b = some u' := by
      rw [look_app]
      cases hk : (K w.params).lookup b with
      | some v => exact ⟨v, rfl⟩
      | none =>
        obtain ⟨v, hv⟩ := Option.isSome_iff_exists.mp hs
        exact ⟨v, by rw [hv]; rfl⟩
    have h1 := KX' _ _ hu'
    rw [e] at h1
    cases h1
    exact hin _ _ hu'
  have kin : ∀ base : Heap, PySem.W.Frag.In (K w.params ++ E) base → (K w.params).In base := fun base hin b u e => hin b u (by rw [look_app, e]; rfl)
  have seer : ∀ base : Heap, PySem.W.Frag.In (K w.params ++ E) base → base.Ns mainGlobals mg → SeerP l.prog base := fun base hin hmgb => by
    refine ⟨⟨⟨mc, ns_at nc ec (hat _ _ ec (by rw [hE]; simp [List.lookup]) base hin), c1, c2⟩, ⟨mm, ns_at nm em (hat _ _ em (by rw [hE]; simp only [List.lookup]; split <;> simp) base hin), m1⟩,
      ⟨mb', ns_at nb eb (hat _ _ eb (by rw [hE]; simp only [List.lookup]; split <;> (try split) <;> simp) base hin), b0⟩, ⟨mg, bm, ob, hmgb, g1, hat _ _ g2 (by rw [hE]; simp only [List.lookup]; split <;> (try split) <;> (try split) <;> simp) base hin, g3, g4⟩⟩, ht⟩
  have hsq : ∀ (H : Hp) (b : Addr) (zs : List V), SqL (K w.params ++ E) H b zs → SqL (K w.params) H b zs := fun H b zs h => by
    rcases h with h | ⟨u, its, n, e, h1, h2, h3, h4⟩
    · exact .inl h
    · rw [look_app] at e
      cases hk : (K w.params).lookup b with
      | some v =>
        rw [hk] at e
        cases e
        exact .inr ⟨_, its, n, hk, h1, h2, h3, h4⟩
      | none =>
        rw [hk] at e
        exact absurd h3 ((hEin b u (by simpa using e)).2 its n)
  have hsp : ∀ vs H Q X, spLaw (K w.params ++ E) vs H Q X → spLaw (K w.params) vs H Q X := fun vs H Q X h => by
    obtain ⟨a, ns, h1, h2, h3⟩ := h
    exact ⟨a, ns, h1, hsq _ _ _ h2, h3⟩
  refine law_call (K := K w.params ++ E) KX' G.T.g G.T.b G.T.builtins G.T.nolimit hg hobj hints (Nat.le_trans hlen hn2) hr (sp := spLaw (K w.params ++ E)) (CX := L2.CX l.prog w) (fun base hin hmgb => ?_) hb (fun H hO hS => ⟨a, ns, rfl, hS, Nat.le_trans hlen h63, hbits, fun _ => rfl⟩) fun H e s' => cx_none
  have f := hF base (kin base hin) hmgb (seer base hin hmgb)
  exact ⟨fun vs H Q X h => f.len vs H Q X (hsp _ _ _ _ h), fun A outer s H args us vs Q X hr he hb hv hs => f.run A outer s H args us vs Q X hr ⟨he.frames, ⟨kin base he.mod.kin, he.mod.glob, he.mod.blt, he.mod.nolimit⟩, he.bs, he.bsz, he.funs, he.frf, he.hok, he.bare⟩ hb hv (hsp _ _ _ _ hs)⟩
end
end DL

set_option linter.all false
set_option maxRecDepth 100000
/-! sorted of a tuple of ints -/
namespace DL
open PySem PySem.Spec PyProof.Rows L2
section
variable {X : Cx} {T : Tb}
theorem cr_sortedTI : CallR X (.builtin "sorted") (fun vs H Q => ∃ (a : Addr) (ns : List Int), vs = [V.ref a] ∧ SqT X.K H a (ns.map V.int) ∧ ∀ (ns' : List Int) (p : Addr), ns'.Perm ns → ns'.Pairwise (· ≤ ·) → H p = none → Q (.ref p) (upd H p (.lst (ns'.map V.int)))) := by
  intro pins s σ H vs us Q I r h
  obtain ⟨a, ns, rfl, hs, q⟩ := h
  obtain ⟨its, rv, hl, hz⟩ := I.tuple hs
  rw [Vals.ref1 r]
  have hi := rv.ints
  obtain ⟨o, ho, hc, n, hd⟩ := hl
  have hz' : its.length ≤ sizeLine := by rw [← rv.length]; exact hz
  refine Calls.call_function_entry kind_sorted plain_sorted entry_sorted (args_sorted1 _) ?_
  unfold Builtin.«sorted»
  refine wpAny_bind (m := checkCount "sorted" 1 1 _) (wpAny_pure ?_)
  refine wpAny_bind (wpAny_collect_seq a (.inr rfl) ho hc hd (fun h1 kp => ?_) (by simpa using hz'))
  have I1 : Inv X pins σ H { s with heap := h1 } := I.kept (t' := s.toks) kp
  refine wpAny_bind (wpAny_newList ?_ (by simpa using hz'))
  have hoL : (h1.push (seqObj "list" its.toArray 0)).get? h1.objs.size = some (seqObj "list" its.toArray 0) := Heap.get?_push_size _ rfl
  refine wpAny_bind (wpAny_holding (wpAny_call_entry slot_list_sort ⟨_, hoL, rfl⟩ entry_list_sort (SrtO.list_sort_ord SrtO.swo_int hoL hz' (fun h2 => SrtO.ints_sortable hi h2) fun out hs hb => ⟨_, rfl, ?_⟩) (args_list_sort _)))
  refine wpAny_pure ⟨_, rfl, ?_⟩
  obtain ⟨k1, k2, k3⟩ := SrtO.ints_out hi hs hb
  obtain ⟨ep, he'⟩ := PyProof.Rows.sortedHeap_at (vs := its) (out := out.toArray) hoL
  have hlen : ((out.map SrtO.iv).map V.int).length ≤ sizeLine := by
    rw [List.length_map, k2.length_eq]
    rw [List.length_map] at hz
    exact hz
  refine ⟨.ref _, upd H h1.objs.size (.lst ((out.map SrtO.iv).map V.int)), I1.laid (t' := s.toks) (fun b o hb => ?_) (Nat.le_refl _) ⟨hlen, out, ep, vals_of_ints k1, he'⟩, rfl, q _ _ k2 k3 (I1.hok.fresh (Nat.le_refl _))⟩
  have hlt : b < h1.objs.size := Heap.lt_size hb
  rw [PyProof.Rows.sortedHeap_old (Nat.ne_of_lt hlt) (Nat.lt_of_lt_of_le hlt (by rw [size_push']; exact Nat.le_succ _))]
  exact Heap.get?_push_of_some _ hb
def sortT : D → S → R D
  | .tup xs, s => (match intsOf xs with
    | some ns => .ok (.lst ((isort ns).map D.int)) s
    | none => .stuck)
  | d, s => sortD d s
theorem bi_sortT : Bi1 X T (.builtin "sorted") .b1 .f1 sortT := by
  obtain ⟨r0, h0, k0⟩ := bi_sorted (X := X) (T := T)
  refine ⟨_, h0.or (cr_sortedTI (X := X)), fun Γ g σ H st W Q x d H0 I r p => ?_⟩
  unfold sortT at p
  split at p
  · split at p
    · rename_i xs ns e
      obtain ⟨ad, vs, e1, h1, h2⟩ := b_tup r
      subst e1
      rw [ints_of h2 e] at h1
      refine .inr ⟨ad, ns, rfl, h1, fun ns' q hp hs hq => ?_⟩
      have : ns' = isort ns := sorted_uniq (hp.trans (isort_perm ns).symm) hs (isort_sorted ns)
      rw [this]
      exact post_lst I (Rps.ints _) hq p
    · exact p.elim
  · exact .inl (k0 Γ g σ H st W Q x _ H0 I r p)
/-- t.index(x), of ints -/
theorem mt_tupIdx : MtR X "tuple.index" (fun x xs H Q => ∃ (a : Addr) (ys : List V) (y : V) (j : Nat) (z : V), x = V.ref a ∧ xs = [y] ∧ SqT X.K H a ys ∧ flatV y = true ∧ ys.all flatV = true ∧ ys[j]? = some z ∧ eqV z y = true ∧
  (∀ (m : Nat) (z' : V), m < j → ys[m]? = some z' → eqV z' y = false) ∧ Q (.int (j : Nat)) H) := by
  intro pins s σ H x xs v us Q I rx rxs h
  obtain ⟨a, ys, y, j, z, rfl, rfl, hs, fy, fys, hz, hzj, hno, q⟩ := h
  cases rx
  cases rxs with
  | cons ry rt =>
    rename_i uy ut
    cases rt
    obtain ⟨its, rv, ⟨⟨cls, dd, data, sl⟩, ho, hc, n, hd⟩, hlen⟩ := I.tuple hs
    simp only at hc hd
    subst hc hd
    obtain ⟨u, hu, ru⟩ := rv.get hz
    obtain ⟨hjl, hje⟩ := List.getElem?_eq_some_iff.mp hu
    have hvl := rv.length
    have hj : j < its.toArray.size := by simpa using hjl
    refine call_meets PySem.F.slot_tuple_index ⟨_, ho, rfl⟩ PySem.F.entry_tuple_index (PySem.F.args_tuple_index_2 _ _)
      (_root_.TI.tuple_indexAt a its.toArray n dd sl uy (eqU y) j hj ?_ ?_) ⟨ho, fun u' hu' => mem_eqAt ry fy rv fys u' (by simpa using hu'), ?_⟩
    · have e1 : its.toArray[j] = u := by simpa using hje
      rw [e1, eqU_of ru (flat_at fys hz)]
      exact hzj
    · intro m hm hmj
      have hml : m < its.length := by simpa using hm
      have hmy : m < ys.length := by omega
      have hy' : ys[m]? = some ys[m] := List.getElem?_eq_getElem hmy
      obtain ⟨u2, hu2, ru2⟩ := rv.get hy'
      obtain ⟨_, hme⟩ := List.getElem?_eq_some_iff.mp hu2
      have e1 : its.toArray[m] = u2 := by simpa using hme
      rw [e1, eqU_of ru2 (flat_at fys hy')]
      exact hno m _ hmj hy'
    · exact ⟨.int (j : Nat), H, I.tok _, ⟨_, rfl⟩, q⟩
/-- tuple(xs), a new tuple that has no dict -/
theorem call_tupleP : CallR X (.type "tuple") (fun xs H Q => ∃ p ys, xs = [.ref p] ∧ SqL X.K H p ys ∧ ∀ l o, o.dict = none → H l = none → Q (.ref l) (upd H l (.frz o (.tup ys)))) := by
  intro pins s σ H xs us Q I r h
  obtain ⟨p, ys, rfl, hq, q⟩ := h
  obtain ⟨u, rfl, rx⟩ := vals1 r
  cases rx
  obtain ⟨its, r', pl, hz⟩ := I.list hq
  have hlen := r'.length
  refine call_tuple_list pl.isList (fun h' kp => ?_) (by simp only [List.size_toArray] <;> omega)
  have I1 : Inv X pins σ H { s with heap := h' } := I.kept (t' := s.toks) kp
  have I2 : Inv X pins σ (upd H h'.objs.size (.frz { cls := .type "tuple", data := .seq its.toArray } (.tup ys))) { s with heap := h'.push { cls := .type "tuple", data := .seq its.toArray } } :=
    I1.laid (t' := s.toks) (fun b o e => Heap.get?_push_of_some _ e) (Nat.le_refl _) (show ObjOk X.prog X.w _ _ _ (.frz _ (.tup ys)) from ⟨Heap.get?_push_size _ rfl, hz, its, r', IsTup.new _ _⟩)
  exact ⟨.ref h'.objs.size, _, I2, rfl, q _ _ rfl (I1.hok.fresh (Nat.le_refl _))⟩
def tuplePD : D → S → R D
  | .lst xs, s => .ok (.pt xs) s
  | _, _ => .stuck
theorem bi_tupleP : Bi1 X T (.type "tuple") .b1 .sh tuplePD := by
  refine ⟨_, call_tupleP (X := X), fun Γ g σ H st W Q x d H0 I r p => ?_⟩
  unfold tuplePD at p
  split at p
  · obtain ⟨ad, vs, e1, h1, _, h2⟩ := b_lst r
    subst e1
    refine ⟨ad, vs, rfl, .inl (.inl h1), fun l o ho hl => ?_⟩
    refine p _ _ g ⟨.new hl, rfl, fun i b hb => ?_⟩ (I.new hl) ?_
    · obtain ⟨o, e, _⟩ := I.wf.ot b (.inl ⟨i, hb⟩)
      rw [upd_ne (ne_of_none e hl)]
    · simp only [RpM, Rp]
      exact ⟨l, vs, o, rfl, upd_same, ho, h2.step I.wf (.new hl)⟩
  · exact p.elim
/-- such a tuple read as any tuple -/
def unpt : D → D
  | .pt xs => .tup xs
  | d => d
def eUn (f : S → R D) : S → R D := fun st => (f st).bind fun d s => .ok (unpt d) s
theorem rp_unpt {K : PySem.W.Frag} {g : Gh} {H0 H : Hp} {m : Mo} {d : D} {v : V} (h : RpM K T g H0 H m d v) : RpM K T g H0 H m (unpt d) v := by
  unfold unpt
  split
  · rename_i xs
    have h' : Rp K T g H (.pt xs) v := by cases m <;> simpa only [RpM] using h
    simp only [Rp] at h'
    obtain ⟨a, vs, o, e, q, _, r⟩ := h'
    have r' : Rp K T g H (.tup xs) v := by
      simp only [Rp]
      exact ⟨a, vs, e, .inl (.inr ⟨o, q⟩), r⟩
    cases m <;> simpa only [RpM] using r'
  · exact h
theorem je_unpt {Γ : Fls} {e : Expr} {m : Mo} {f : S → R D} (h : JE T X Γ e m f) : JE T X Γ e m (eUn f) := by
  refine ⟨fun W tk => PE.imp (h.run W tk) fun σ H Q ⟨g, st, I, p⟩ => ⟨g, st, I, ?_⟩⟩
  unfold eUn at p
  cases hf : f st with
  | ok d s => 
    rw [hf] at p
    exact fun v H' g' q I' r => p v H' g' q I' (rp_unpt r)
  | raise e s =>
    rw [hf] at p
    exact p
  | stuck =>
    rw [hf] at p
    exact p
def idxT : D → D → S → R D
  | .pt xs, .int k, s => (match intsOf xs with
    | some ns => (match idxF ns k with
      | some j => .ok (.int j) s
      | none => .stuck)
    | none => .stuck)
  | _, _, _ => .stuck
def eIdxT (fo f : S → R D) : S → R D := fun st => (fo st).bind fun d s => match d with
  | .pt xs => (f s).bind fun k s2 => idxT (.pt xs) k s2
  | _ => .stuck
/-- o.m(e), o a tuple that has no dict -/
def tBMP (r : V → List V → Hp → VK → Prop) (to : TE) (t : TA) : TE := fun σ H Q => to σ H fun x H1 => (∃ a o vs, x = .ref a ∧ H1 a = some (.frz o (.tup vs)) ∧ o.dict = none) ∧ t σ H1 fun xs H2 => r x xs H2 Q
theorem pe_bmP {o e : Expr} {es : List Expr} {to : TE} {t : TA} {name : Str} {apos cpos : Pos} {id : String} {r : V → List V → Hp → VK → Prop} (pa : PlainAttrs "tuple") (slot : Slot "tuple" name id) (hty : typeOf (.builtin id) = pure (.type "method_descriptor")) (hm : MtR X id r) (ho : PE X o to) (ha : PA X (e :: es) t)
    (hbase : attributeBase o name X.env (eval o X.env) = eval o X.env := by rfl)
    (hfew : ((backTo cpos (starEach (e :: es) X.env)).all (fun x => !x.1) && (backToKw cpos (keywordEach [] X.env)).all (fun x => x.1.isSome)
      && decide ((e :: es).length + ([] : List Keyword).length + (if ([] : List Keyword).isEmpty then 0 else 1) < 30)) = true := by rfl)
    (hline : (apos.endLine == cpos.line) = true := by rfl) (hs : starEach (e :: es) X.env = (false, eval e X.env) :: starEach es X.env := by rfl) (hplain : (backTo cpos (starEach es X.env)).any (·.1) = false := by rfl) :
    PE X (.Call (.Attribute o name apos) (e :: es) [] cpos) (tBMP r to t) := by
  refine ⟨fun pins s σ H Q I h => ?_⟩
  refine wpAny_Call_method_late hbase hfew hline rfl (thn (ho.run pins s σ H _ I h) fun v s1 ⟨x, H1, I1, r1, ⟨a, ob, vs, ex, hfz, hdn⟩, q1⟩ => ?_)
  subst ex
  cases r1
  obtain ⟨hget, _, its, _, o', ho', hc', _⟩ := I1.hok a _ hfz
  have eo : o' = ob := by
    have := ho'.symm.trans hget
    exact Option.some.inj this
  refine ⟨"tuple", id, pa, slot, hty, ⟨o', ho', hc'⟩, fun b hb => ?_, ?_⟩
  · cases hb
    exact ⟨ob, hget, hdn⟩
  have hA := ha.run cpos pins s1 σ H1 _ I1 q1
  rw [hs] at hA ⊢
  refine Calls.callWith_builtin (by show (false || (backTo cpos (starEach es X.env)).any (·.1)) = false; rw [hplain] <;> rfl) (Calls.evalArgs_plain ?_)
  exact thn hA fun us s2 ⟨vs', H2, I2, r2, q2⟩ => hm pins s2 σ H2 (.ref a) vs' _ us Q I2 rfl r2 q2
theorem b_pt {K : PySem.W.Frag} {g : Gh} {H0 H : Hp} {ds : List D} {v : V} (h : RpM K T g H0 H .b1 (.pt ds) v) : ∃ a vs o, v = .ref a ∧ H a = some (.frz o (.tup vs)) ∧ o.dict = none ∧ Rps K T g H ds vs := by simpa [RpM, Rp] using h
theorem je_indexT {Γ : Fls} {o e : Expr} {fo f : S → R D} {apos cpos : Pos} (ho : JE T X Γ o .b1 fo) (he : JE T X Γ e .sh f)
    (hb : ∀ {to te : TE}, PE X o to → PE X e te → PE X (.Call (.Attribute o "index" apos) [e] [] cpos) (tBMP (fun x xs H Q => ∃ (a : Addr) (ys : List V) (y : V) (j : Nat) (z : V), x = V.ref a ∧ xs = [y] ∧ SqT X.K H a ys ∧ flatV y = true ∧ ys.all flatV = true ∧ ys[j]? = some z ∧ eqV z y = true ∧
  (∀ (m : Nat) (z' : V), m < j → ys[m]? = some z' → eqV z' y = false) ∧ Q (.int (j : Nat)) H) to (tCons te tNil)) := by
      exact fun h1 h2 => pe_bmP PySem.F.plainAttrs_tuple PySem.F.slot_tuple_index PySem.F.type_tuple_index mt_tupIdx h1 (pa_cons h2 pa_nil)) :
    JE T X Γ (.Call (.Attribute o "index" apos) [e] [] cpos) .sh (eIdxT fo f) := by
  refine ⟨fun W tk => PE.imp (hb (ho.run W tk) (he.run W tk)) fun σ H Q ⟨g, st, I, p⟩ => ?_⟩
  refine te_bind ipE I p fun d1 s1 x H1 g1 q1 I1 r1 p1 => ?_
  cases d1 with
  | pt xs =>
    obtain ⟨ad, vs, ob, e1, h1, hd, h2⟩ := b_pt r1
    refine ⟨⟨ad, ob, vs, e1, h1, hd⟩, ?_⟩
    refine te_bind ipE I1 p1 fun k s2 y H2 g2 q2 I2 r2 p2 => ?_
    obtain ⟨ad', vs', ob', e1', h1', _, h2'⟩ := b_pt (r1.step I1.wf I2.wf q2)
    unfold idxT at p2
    split at p2
    · rename_i xs' k' exs
      cases exs
      split at p2
      · rename_i ns en
        split at p2
        · rename_i j ej
          obtain ⟨z1, z2⟩ := idxF_ok ej
          have ev := ints_of h2' en
          simp only [RpM, Rp] at r2
          refine ⟨ad', vs', .int k', j, .int k', e1', by rw [r2], .inl (.inr ⟨ob', h1'⟩), rfl, by rw [ev]; exact intV_flat ns, by rw [ev]; simp [z1], by simp [eqV], fun m z hm hz => ?_, post_v I2 p2 rm_int⟩
          rw [ev] at hz
          have hz' : ∃ n, ns[m]? = some n ∧ V.int n = z := by simpa using hz
          obtain ⟨n, hn, rfl⟩ := hz'
          have := z2 m n hm hn
          simpa [eqV] using this
        · exact p2.elim
      · exact p2.elim
    · exact p2.elim
  | _ => exact p1.elim
end
end DL

set_option linter.all false
set_option maxRecDepth 100000
/-! texts -/
namespace DL
open PySem PySem.Spec PyProof.Rows L2
section
variable {T : Tb} {X : Cx} {Γ Γ' : Fls} {e o : Expr} {f fo : S → R D} {pos p2 apos cpos : Pos}
/-! ### str(n), int(s) -/
def strD : D → S → R D
  | .int i, s => if i.natAbs.log2 < 1920 then .ok (.str (Str.ofString (toString i))) s else .stuck
  | _, _ => .stuck
theorem bi_strI : Bi1 X T (.type "str") .b1 .sh strD := by
  refine ⟨_, call_str_int (X := X), fun Γ g σ H st W Q x d H0 I r p => ?_⟩
  unfold strD at p
  split at p
  · split at p
    · rename_i hz
      exact ⟨_, by rw [b_int r], hz, post_v I p rm_str⟩
    · exact p.elim
  · exact p.elim
def intSD : D → S → R D
  | .str a, s => (match PySem.intText? a with
    | some n => if a.length ≤ 640 then .ok (.int n) s else .stuck
    | none => .stuck)
  | _, _ => .stuck
theorem bi_intS : Bi1 X T (.type "int") .b1 .sh intSD := by
  refine ⟨_, call_int_str (X := X), fun Γ g σ H st W Q x d H0 I r p => ?_⟩
  unfold intSD at p
  split at p
  · split at p
    · rename_i n hn
      split at p
      · rename_i hz
        exact ⟨_, n, by rw [b_str r], hn, hz, post_v I p rm_int⟩
      · exact p.elim
    · exact p.elim
  · exact p.elim
/-! ### a sign in a text -/
def inSD : D → D → Option Bool
  | .str a, .str z => (match a.cps.toList with
    | [c] => some (decide (c ∈ z.cps.toList))
    | _ => none)
  | _, _ => none
theorem str_one {a : Str} {c : Nat} (h : a.cps.toList = [c]) : a = ⟨#[c]⟩ := by
  cases a with
  | mk cps =>
    have : cps = #[c] := Array.toList_inj.mp h
    rw [this]
theorem cmp_inS : CmpR X T .In .b1 .b1 inSD := by
  refine ⟨_, op_in_sign (X := X), fun Γ g σ H st Q x y d1 d2 H0 H1 k I r1 r2 e p => ?_⟩
  unfold inSD at e
  split at e
  · split at e
    · rename_i hc
      have e' := Option.some.inj e
      refine ⟨_, _, by rw [b_str r1, str_one hc], b_str r2, ?_⟩
      rw [e']
      exact p
    · cases e
  · cases e
def notInSD : D → D → Option Bool
  | .str a, .str z => some (!!(Builtin.Str.occurrences z a 0 z.length 1).isEmpty)
  | _, _ => none
theorem cmp_notInS : CmpR X T .NotIn .b1 .b1 notInSD := by
  refine ⟨_, op_notin_str (X := X), fun Γ g σ H st Q x y d1 d2 H0 H1 k I r1 r2 e p => ?_⟩
  unfold notInSD at e
  split at e
  · have e' := Option.some.inj e
    refine ⟨_, _, b_str r1, b_str r2, ?_⟩
    rw [e']
    exact p
  · cases e
/-! ### s[a:b] -/
def slSD : D → Option Int → Option Int → S → R D
  | .str z, lo, hi, s => if z.length ≤ sizeLine then .ok (.str (cutS z lo hi)) s else .stuck
  | _, _, _, _ => .stuck
def eSlS (f : S → R D) (fl fh : S → R (Option Int)) : S → R D := fun st => (f st).bind fun d s => (fl s).bind fun i s2 => (fh s2).bind fun j s3 => slSD d i j s3
theorem je_slS {lo hi : Option Expr} {fl fh : S → R (Option Int)} (ha : JE T X Γ e .b1 f) (hl : JO T X Γ lo fl) (hh : JO T X Γ hi fh) : JE T X Γ (.Subscript e (.Slice lo hi none p2) pos) .sh (eSlS f fl fh) := by
  refine ⟨fun W tk => PE.imp (pe_slice (sl_str (X := X)) (ha.run W tk) (hl.run W tk) (hh.run W tk)) fun σ H Q ⟨g, st, I, p⟩ => ?_⟩
  refine te_bind ipE I p fun d s1 x H1 g1 q1 I1 r1 p1 => to_bind ipE I1 p1 fun i s2 H2 g2 q2 I2 p2 => to_bind ipE I2 p2 fun j s3 H3 g3 q3 I3 p3 => ?_
  have r3 := (r1.step I1.wf I2.wf q2).step I2.wf I3.wf q3
  unfold slSD at p3
  split at p3
  · split at p3
    · rename_i hz
      exact ⟨_, b_str r3, hz, post_v I3 p3 rm_str⟩
    · exact p3.elim
  · exact p3.elim
/-! ### sep.join(xs), s.split(sep), s.index(t) -/
def strsOf : List D → Option (List Str)
  | [] => some []
  | .str i :: r => (strsOf r).map (i :: ·)
  | _ :: _ => none
theorem strs_of {K : PySem.W.Frag} {g : Gh} {H : Hp} : ∀ {ds : List D} {vs : List V} {ns : List Str}, Rps K T g H ds vs → strsOf ds = some ns → vs = ns.map V.str
  | [], vs, ns, h, e => by
    simp only [Rps] at h
    cases e
    exact h
  | d :: ds, vs, ns, h, e => by
    simp only [Rps] at h
    obtain ⟨v, r, rfl, h1, h2⟩ := h
    cases d with
    | str i =>
      simp only [strsOf] at e
      cases q : strsOf ds with
      | none => rw [q] at e; cases e
      | some ms =>
        rw [q] at e
        cases e
        simp only [Rp] at h1
        rw [h1, strs_of h2 q]
        rfl
    | _ => cases e
theorem rps_strs {K : PySem.W.Frag} {g : Gh} {H : Hp} : ∀ ys : List Str, Rps K T g H (ys.map D.str) (ys.map V.str)
  | [] => by simp [Rps]
  | y :: ys => by
    simp only [List.map_cons, Rps]
    exact ⟨_, _, rfl, by simp [Rp], rps_strs ys⟩
def joinD : D → D → S → R D
  | .str a, .lst xs, s => (match strsOf xs with
    | some ys => if (ys.map (·.length)).sum + ys.length * a.length ≤ 16777216 then .ok (.str (Txt.join a ys)) s else .stuck
    | none => .stuck)
  | _, _, _ => .stuck
def eTx (op : D → D → S → R D) (fo f : S → R D) : S → R D := fun st => (fo st).bind fun d s => match d with
  | .str a => (f s).bind fun k s2 => op (.str a) k s2
  | _ => .stuck
theorem je_join (ho : JE T X Γ o .b1 fo) (he : JE T X Γ e .b1 f)
    (hb : ∀ {to te : TE}, PE X o to → PE X e te → PE X (.Call (.Attribute o "join" apos) [e] [] cpos) (tM1 (fun x xs H Q => ∃ (a : Str) (p : Addr) (ys : List Str), x = V.str a ∧ xs = [V.ref p] ∧ (SqL X.K H p (ys.map V.str) ∨ SqT X.K H p (ys.map V.str)) ∧ (ys.map (fun x => x.length)).sum + ys.length * a.length ≤ 16777216 ∧ Q (V.str (Txt.join a ys)) H) to te) := by
      exact fun h1 h2 => pe_join h1 h2) :
    JE T X Γ (.Call (.Attribute o "join" apos) [e] [] cpos) .sh (eTx joinD fo f) := by
  refine ⟨fun W tk => PE.imp (hb (ho.run W tk) (he.run W tk)) fun σ H Q ⟨g, st, I, p⟩ => ?_⟩
  refine te_bind ipE I p fun d1 s1 x H1 g1 q1 I1 r1 p1 => ?_
  cases d1 with
  | str a =>
    refine ⟨⟨a, b_str r1⟩, ?_⟩
    refine te_bind ipE I1 p1 fun k s2 y H2 g2 q2 I2 r2 p2 => ?_
    unfold joinD at p2
    split at p2
    · rename_i a' xs ea
      cases ea
      split at p2
      · rename_i ys en
        split at p2
        · rename_i hz
          obtain ⟨ad, vs, e1, h1, _, h2⟩ := b_lst r2
          rw [strs_of h2 en] at h1
          exact ⟨a, ad, ys, b_str r1, by rw [e1], .inl (.inl (.inl h1)), hz, post_v I2 p2 rm_str⟩
        · exact p2.elim
      · exact p2.elim
    · exact p2.elim
  | _ => exact p1.elim
def splitD : D → D → S → R D
  | .str a, .str b, s => if (b.length == 0) = false ∧ a.length + 2 ≤ sizeLine then .ok (.lst ((Txt.split a b).map D.str)) s else .stuck
  | _, _, _ => .stuck
theorem je_split (ho : JE T X Γ o .b1 fo) (he : JE T X Γ e .b1 f)
    (hb : ∀ {to te : TE}, PE X o to → PE X e te → PE X (.Call (.Attribute o "split" apos) [e] [] cpos) (tM1 (fun x xs H Q => ∃ a b, x = V.str a ∧ xs = [V.str b] ∧ (b.length == 0) = false ∧ a.length + 2 ≤ sizeLine ∧ rNewStrs (Txt.split a b) H Q) to te) := by
      exact fun h1 h2 => pe_m1 PySem.F.slot_str_split PySem.F.type_str_split mt_split h1 h2) :
    JE T X Γ (.Call (.Attribute o "split" apos) [e] [] cpos) .f1 (eTx splitD fo f) := by
  refine ⟨fun W tk => PE.imp (hb (ho.run W tk) (he.run W tk)) fun σ H Q ⟨g, st, I, p⟩ => ?_⟩
  refine te_bind ipE I p fun d1 s1 x H1 g1 q1 I1 r1 p1 => ?_
  cases d1 with
  | str a =>
    refine ⟨⟨a, b_str r1⟩, ?_⟩
    refine te_bind ipE I1 p1 fun k s2 y H2 g2 q2 I2 r2 p2 => ?_
    unfold splitD at p2
    split at p2
    · rename_i a' b ea
      cases ea
      split at p2
      · rename_i hz
        exact ⟨a, b, b_str r1, by rw [b_str r2], hz.1, hz.2, fun p' hp => post_lst I2 (rps_strs _) hp p2⟩
      · exact p2.elim
    · exact p2.elim
  | _ => exact p1.elim
def sidxD : D → D → S → R D
  | .str a, .str b, s => (match Builtin.Str.occurrences a b 0 a.length 1 with
    | i :: _ => .ok (.int (i : Nat)) s
    | [] => .stuck)
  | _, _, _ => .stuck
theorem je_sindex (ho : JE T X Γ o .b1 fo) (he : JE T X Γ e .b1 f)
    (hb : ∀ {to te : TE}, PE X o to → PE X e te → PE X (.Call (.Attribute o "index" apos) [e] [] cpos) (tM1 (fun x xs H Q => ∃ a b i rest, x = V.str a ∧ xs = [V.str b] ∧ Builtin.Str.occurrences a b 0 a.length 1 = i :: rest ∧ Q (V.int (i : Nat)) H) to te) := by
      exact fun h1 h2 => pe_m1 PySem.F.slot_str_index PySem.F.type_str_index mt_sindex h1 h2) :
    JE T X Γ (.Call (.Attribute o "index" apos) [e] [] cpos) .sh (eTx sidxD fo f) := by
  refine ⟨fun W tk => PE.imp (hb (ho.run W tk) (he.run W tk)) fun σ H Q ⟨g, st, I, p⟩ => ?_⟩
  refine te_bind ipE I p fun d1 s1 x H1 g1 q1 I1 r1 p1 => ?_
  cases d1 with
  | str a =>
    refine ⟨⟨a, b_str r1⟩, ?_⟩
    refine te_bind ipE I1 p1 fun k s2 y H2 g2 q2 I2 r2 p2 => ?_
    unfold sidxD at p2
    split at p2
    · rename_i a' b ea
      cases ea
      split at p2
      · rename_i i rest ei
        exact ⟨a, b, i, rest, b_str r1, by rw [b_str r2], ei, post_v I2 p2 rm_int⟩
      · exact p2.elim
    · exact p2.elim
  | _ => exact p1.elim
/-! ### for c in s -/
def signsL (z : Str) : List D := z.cps.toList.map fun c => D.str ⟨#[c]⟩
theorem wlk_s {K : PySem.W.Frag} {g : Gh} {H : Hp} {z : Str} : Wlk K T g H (Its z) (signsL z) where
  go := fun i d g' H' s w e => by
    have := (List.getElem?_eq_some_iff.mp e).1
    show i < z.cps.size
    simpa [signsL] using this
  stop := fun g' H' s w => by
    show z.cps.size ≤ (signsL z).length
    simp [signsL]
  yld := fun i d g' H' x H'' s w e y => by
    obtain ⟨e1, c, hc, e2⟩ := y
    refine .inl ⟨e1, ?_⟩
    unfold signsL at e
    rw [List.getElem?_map, Array.getElem?_toList, hc] at e
    have e' := Option.some.inj e
    rw [e2, ← e']
    simp only [Rp]
def signsI : D → S → R (List D)
  | .str z, s => .ok (signsL z) s
  | _, _ => .stuck
theorem ji_signs {tg : Expr} (ha : JE T X Γ e .sh f) : JI T X Γ tg e (i1 signsI f) := by
  refine ⟨fun W tk => PI.imp (pi_str (ha.run W tk)) fun σ H R ⟨g, st, I, p⟩ => ?_⟩
  refine te_bind ipI I p fun d s1 x H1 g1 q1 I1 r1 p1 => ?_
  unfold signsI at p1
  split at p1
  · simp only [RpM, Rp] at r1
    exact ⟨_, r1, p1 _ H1 g1 (.refl g1 H1) I1 wlk_s⟩
  · exact p1.elim
/-! ### s * k -/
def repS (z : Str) (k : Nat) : Str := ⟨(List.replicate k z.cps).foldl (· ++ ·) #[]⟩
theorem repl_size (a : Array Nat) : ∀ (k : Nat) (acc : Array Nat), ((List.replicate k a).foldl (· ++ ·) acc).size = acc.size + k * a.size
  | 0, acc => by simp
  | k + 1, acc => by
    rw [List.replicate_succ, List.foldl_cons, repl_size a k (acc ++ a), Array.size_append, Nat.succ_mul]
    omega
theorem repS_len (z : Str) (k : Nat) : (repS z k).length = k * z.length := by
  have := repl_size z.cps k #[]
  simpa [repS, Str.length] using this
theorem op_repS : OpR X (binaryOp .Mult) (fun x y H Q => ∃ (z : Str) (k : Int), x = .str z ∧ y = .int k ∧ 2 ≤ k ∧ k ≤ 1000 ∧ 0 < z.length ∧ z.length ≤ 1000 ∧ Q (.str (repS z k.toNat)) H) := by
  intro pins s σ H x y v u Q I rx ry h
  obtain ⟨z, k, rfl, rfl, h2, h3, hz, hz2, q⟩ := h
  obtain ⟨t, rfl⟩ := rx
  obtain ⟨t', rfl⟩ := ry
  have hne : (k == 1 || z.length == 0) = false := by
    rw [Bool.or_eq_false_iff]
    refine ⟨by simpa using (show k ≠ 1 by omega), by simpa using (show z.length ≠ 0 by omega)⟩
  have hle : z.length * k.toNat ≤ 1000000 := Nat.mul_le_mul hz2 (show k.toNat ≤ 1000 by omega)
  refine P.mul_str ?_ (fun _ _ => ?_) (fun _ _ => ?_) ?_
  · rw [Bool.or_eq_false_iff]
    exact ⟨decide_eq_false (by omega), decide_eq_false (by omega)⟩
  · intro hgt
    have h1 : (1000 : Int) ≤ (2 ^ 63 - 1) / k := (Int.le_ediv_iff_mul_le (by omega)).2 (by omega)
    omega
  · unfold Builtin.Str.tooLong
    exact decide_eq_false (by rw [sizeLine_eq]; omega)
  · rw [if_neg (by omega), if_neg (by rw [hne]; decide)]
    refine ⟨?_, .str (repS z k.toNat), H, I.tok _, ⟨_, rfl⟩, q⟩
    have := repS_len z k.toNat
    unfold repS at this
    rw [this, sizeLine_eq, Nat.mul_comm]
    omega
def mulS : D → D → S → R D
  | .str z, .int k, s => if 2 ≤ k ∧ k ≤ 1000 ∧ 0 < z.length ∧ z.length ≤ 1000 then .ok (.str (repS z k.toNat)) s else .stuck
  | _, _, _ => .stuck
theorem bin_mulS : BinR X T .Mult .b1 .b1 .f1 mulS := by
  refine ⟨_, op_repS, fun Γ g σ H st W Q x y d1 d2 H0 H1 I r1 r2 p => ?_⟩
  unfold mulS at p
  split at p
  · split at p
    · rename_i z k hz
      exact ⟨z, k, b_str r1, b_int r2, hz.1, hz.2.1, hz.2.2.1, hz.2.2.2, post_v I p rm_str⟩
    · exact p.elim
  · exact p.elim
/-! ### f-strings of three parts -/
def fmtD : D → S → R D
  | .str y, s => if y.length ≤ sizeLine then .ok (.str y) s else .stuck
  | .int i, s => if i.natAbs.log2 < 1920 then .ok (.str (Str.ofString (toString i))) s else .stuck
  | _, _ => .stuck
theorem je_fmt (he : JE T X Γ e .sh f) : JE T X Γ (.FormattedValue e (-1) none pos) .sh (e1 fmtD f) := by
  refine ⟨fun W tk => PE.imp (pe_fmt (he.run W tk)) fun σ H Q ⟨g, st, I, p⟩ => ?_⟩
  refine te_bind ipE I p fun d1 s1 x H1 g1 q1 I1 r1 p1 => ?_
  unfold fmtD at p1
  split at p1
  · split at p1
    · rename_i hz
      simp only [RpM, Rp] at r1
      exact .inl ⟨_, r1, hz, post_v I1 p1 rm_str⟩
    · exact p1.elim
  · split at p1
    · rename_i hz
      simp only [RpM, Rp] at r1
      exact .inr ⟨_, r1, hz, post_v I1 p1 rm_str⟩
    · exact p1.elim
  · exact p1.elim
def eJ1 (acc : Str) (f : S → R D) (k : Str → S → R D) : S → R D := fun st => (f st).bind fun d s => match d with
  | .str a => if (acc ++ a).length ≤ sizeLine then k (acc ++ a) s else .stuck
  | _ => .stuck
def eJ3 (f1 f2 f3 : S → R D) : S → R D := eJ1 Str.empty f1 fun x => eJ1 x f2 fun y => eJ1 y f3 fun z s => .ok (.str z) s
theorem je_joined3 {v1 v2 v3 : Expr} {f1 f2 f3 : S → R D} (h1 : JE T X Γ v1 .sh f1) (h2 : JE T X Γ v2 .sh f2) (h3 : JE T X Γ v3 .sh f3) : JE T X Γ (.JoinedStr [v1, v2, v3] pos) .sh (eJ3 f1 f2 f3) := by
  refine ⟨fun W tk => PE.imp (pe_joined (.cons (h1.run W tk) (.cons (h2.run W tk) (.cons (h3.run W tk) .nil)))) fun σ H Q ⟨g, st, I, p⟩ => ?_⟩
  simp only [tJs]
  unfold eJ3 eJ1 at p
  refine te_bind ipE I p fun d1 s1 x H1 g1 q1 I1 r1 p1 => ?_
  cases d1 with
  | str a =>
    simp only [RpM, Rp] at r1
    simp only at p1
    split at p1
    · rename_i hz1
      refine ⟨a, r1, hz1, te_bind ipE I1 p1 fun d2 s2 y H2 g2 q2 I2 r2 p2 => ?_⟩
      cases d2 with
      | str b =>
        simp only [RpM, Rp] at r2
        simp only at p2
        split at p2
        · rename_i hz2
          refine ⟨b, r2, hz2, te_bind ipE I2 p2 fun d3 s3 z H3 g3 q3 I3 r3 p3 => ?_⟩
          cases d3 with
          | str c =>
            simp only [RpM, Rp] at r3
            simp only at p3
            split at p3
            · rename_i hz3
              exact ⟨c, r3, hz3, post_v I3 p3 rm_str⟩
            · exact p3.elim
          | _ => exact p3.elim
        · exact p2.elim
      | _ => exact p2.elim
    · exact p1.elim
  | _ => exact p1.elim
/-! ### s.split(sep, k) -/
def splitMD : D → D → D → S → R D
  | .str a, .str b, .int k, s => if (b.length == 0) = false ∧ k.natAbs < 2 ^ 62 ∧ a.length + 2 ≤ sizeLine then .ok (.lst ((Txt.splitMax a b k).map D.str)) s else .stuck
  | _, _, _, _ => .stuck
def eSpM (fo f fk : S → R D) : S → R D := fun st => (fo st).bind fun d s => match d with
  | .str a => (f s).bind fun b s2 => (fk s2).bind fun k s3 => splitMD (.str a) b k s3
  | _ => .stuck
theorem je_splitMax {ek : Expr} {fk : S → R D} (ho : JE T X Γ o .b1 fo) (he : JE T X Γ e .sh f) (hk : JE T X Γ ek .sh fk)
    (hb : ∀ {to te tk : TE}, PE X o to → PE X e te → PE X ek tk → PE X (.Call (.Attribute o "split" apos) [e, ek] [] cpos) (tBM X.K "str" (fun x xs H Q => ∃ (a b : Str) (k : Int), x = .str a ∧ xs = [.str b, .int k] ∧ (b.length == 0) = false ∧ -(2 ^ 63) ≤ k ∧ k < 2 ^ 63 ∧ a.length + 2 ≤ sizeLine ∧ rNewStrs (Txt.splitMax a b k) H Q) to (tCons te (tCons tk tNil))) := by
      exact fun h1 h2 h3 => pe_bm PySem.F.plainAttrs_str PySem.F.slot_str_split PySem.F.type_str_split mt_splitMax h1 (pa_cons h2 (pa_cons h3 pa_nil))) :
    JE T X Γ (.Call (.Attribute o "split" apos) [e, ek] [] cpos) .f1 (eSpM fo f fk) := by
  refine ⟨fun W tk => PE.imp (hb (ho.run W tk) (he.run W tk) (hk.run W tk)) fun σ H Q ⟨g, st, I, p⟩ => ?_⟩
  refine te_bind ipE I p fun d1 s1 x H1 g1 q1 I1 r1 p1 => ?_
  cases d1 with
  | str a =>
    have r1' := b_str r1
    refine ⟨by rw [r1']; rfl, ?_⟩
    refine te_bind ipE I1 p1 fun b s2 y H2 g2 q2 I2 r2 p2 => te_bind ipE I2 p2 fun k s3 z H3 g3 q3 I3 r3 p3 => ?_
    unfold splitMD at p3
    split at p3
    · rename_i ea
      cases ea
      split at p3
      · rename_i hz
        simp only [RpM, Rp] at r2 r3
        exact ⟨a, _, _, r1', by rw [r2, r3], hz.1, by have := hz.2.1; omega, by have := hz.2.1; omega, hz.2.2, fun p' hp => post_lst I3 (rps_strs _) hp p3⟩
      · exact p3.elim
    · exact p3.elim
  | _ => exact p1.elim
/-! ### o.append(e), o a cell that an expression gives -/
def sAppO (fo f : S → R D) : S → RS := fun s => (fo s).then fun o s1 => match o with
  | .ref n => (match mLst s1 n with
    | some _ => (f s1).then fun d s2 => (match mLst s2 n with
      | some xs => if xs.length < sizeLine then .next { s2 with m := s2.m.set n (.lst (xs ++ [d])) } else .stuck
      | none => .stuck)
    | none => .stuck)
  | _ => .stuck
theorem js_appO {ap pos' : Pos} {lp : Fls} {rm : Mo} (ho : JE T X Γ o .sh fo) (he : JE T X Γ e .sh f)
    (hb : ∀ {to te : TE}, PE X o to → PE X e te → PE X (.Call (.Attribute o "append" ap) [e] [] pos') (tBM X.K "list" rAppend to (tCons te tNil)) := by
      exact fun h1 h2 => pe_bm PySem.F.plainAttrs_list PySem.F.slot_list_append PySem.F.type_list_append mt_append h1 (pa_cons h2 pa_nil))
    (hs : swapsWith (.Call (.Attribute o "append" ap) [e] [] pos') none pos.line X.env = pure false := by rfl) : JS T X Γ ⟨Γ, lp, rm⟩ (.Expr (.Call (.Attribute o "append" ap) [e] [] pos') pos) (sAppO fo f) := by
  refine ⟨fun W tk => PS.imp (ps_expr (hb (ho.run W tk) (he.run W tk)) hs) fun E σ H ⟨B, g, st, I, p⟩ => ?_⟩
  unfold sAppO at p
  refine te_then I.toSR p fun o0 s1 x H1 g1 q1 I1 r1 p1 => ?_
  cases o0 with
  | ref n =>
    simp only [RpM, Rp] at r1
    obtain ⟨ad, ev, ha⟩ := r1
    cases em : mLst s1 n with
    | none => simp only [em] at p1; exact p1.elim
    | some xs0 =>
      simp only [em] at p1
      obtain ⟨vs, h3, h4⟩ := mcell I1 em ha
      refine ⟨by rw [ev]; exact .inl ⟨rfl, vs, .inl (.inl h3)⟩, te_then I1 p1 fun d s2 y H2 g2 q2 I2 r2 p2 => ?_⟩
      have ha2 : g2.mu[n]? = some ad := by
        obtain ⟨tl, ht⟩ := q2.mu
        rw [← ht, List.getElem?_append_left (List.getElem?_eq_some_iff.mp ha).1]
        exact ha
      cases em2 : mLst s2 n with
      | none => simp only [em2] at p2; exact p2.elim
      | some xs =>
        simp only [em2] at p2
        obtain ⟨vs', h3', h4'⟩ := mcell I2 em2 ha2
        split at p2
        · rename_i hz
          obtain ⟨st2, I3⟩ := I2.cell ha2 ⟨vs', h3'⟩ (h4'.append (.one r2))
          exact ⟨ad, vs', y, ev, rfl, h3', by rw [h4'.length]; exact hz, p2 σ _ g2 st2 I3⟩
        · exact p2.elim
  | _ => exact p1.elim
end
section
variable {K : PySem.W.Frag} {T : Tb} {mg : Str → Option Value} {h : Heap} {x : Str}
/-- a constant of the module: a text -/
theorem con_s {z : Str} {t : Nat} (X : K.In h) (G : h.Ns mainGlobals mg) (a : PySem.W.nsIn K mainGlobals x = some (some (.str z t))) : ConF K mg T x (.str z) :=
  ⟨.str z, .str z t, PySem.W.mg_of X G a, ⟨t, rfl⟩, fun g H => by simp only [Rp]⟩
end
end DL

set_option linter.all false
set_option Elab.async false
set_option maxRecDepth 100000
set_option maxHeartbeats 4000000
namespace DL
open PySem PySem.Spec PySem.Calls PyProof.Rows L2

/-! ### an exception class whose __init__ is: super().__init__(x); self.f = x -/
structure SupC (K : PySem.W.Frag) (C : Addr) (fld : Str) (B newId initId : String) (bmB : List Value) : Prop where
  eb : ExcBaseFacts B newId initId bmB
  kx : PySem.W.KxsFacts B initId
  sf : StoreFacts B bmB "object.__setattr__" "object"
  xi : PySem.W.excInitIn K C bmB newId = true
  ov : PySem.W.excOver K C bmB = true
  sa : PySem.W.findIn K (.ref C) "__setattr__" = some (some (.builtin "object.__setattr__"))
  ta : PySem.W.takerIn K C fld = some none
  hd : PySem.W.hasDictIn K C = true
  sB : PySem.W.subIn K (.ref C) (.type B) = some true
  sC : PySem.W.mroIn K C (.ref C) = some true
  op : PySem.W.nsIn K cStatics "thirdparty.any" = some none
  su : PySem.W.ks_superIn K C C "__init__" = some (some (.builtin initId))
  ex : PySem.W.subIn K (.ref C) (.type "BaseException") = some true
  ty : PySem.W.typeIn K (.ref C) = some (.type "type")
  kp : PySem.W.keepIn K (.ref C) = true

section
variable {P : Program} {w : World} {A : Around} {K : PySem.W.Frag} {mg : Str → Option Value} {base : Heap} {C : Addr} {fld : Str} {B newId initId : String} {bmB : List Value}
/-- self.f = v, the first field -/
theorem sup_set {E : Value → Shared → Prop} {Q : Unit → Shared → Prop} {hp : Heap} {g : Array GenState} {d : Drawn} {t : Nat} {os : OsState} {e t1 : Addr} {v : Value} (Z : SupC K C fld B newId initId bmB) (X : K.In hp) (he : hp.get? e = some (PySem.W.excObj C t1 none .none))
    (hq : ∀ h' tk dx, (∀ b o, b ≠ e → hp.get? b = some o → h'.get? b = some o) → hp.objs.size ≤ dx → dx ≠ e → h'.get? e = some (PySem.W.excObj C t1 (some dx) .none) → h'.Ns1 dx (fun y => if y = fld then some v else none) → Q () ⟨h', g, d, tk, os⟩) :
    wpAny (model P w) A (setAttr (.ref e) fld v) Q E ⟨hp, g, d, t, os⟩ := by
  have Ie : PySem.W.InstAt hp e (PySem.W.excObj C t1 none .none) C none := ⟨he, rfl, rfl, trivial⟩
  have ene : e ≠ hp.objs.size := Nat.ne_of_lt (Heap.lt_size he)
  refine PySem.W.set_plain (od := none) X Ie Z.sa (PySem.W.osa_openX (od := none) (r := none) Z.sf X Ie Z.ov Z.ta fun b => ?_)
  obtain ⟨cd, hc, hd'⟩ := PySem.W.any_some Z.hd
  have he1 : (hp.push (PySem.W.dictOf [] 0)).get? e = some (PySem.W.excObj C t1 none .none) := Heap.get?_push_of_some _ he
  refine wpAny_bind (wpAny_pure (wpAny_bind (PySem.W.instanceDict_exc he (PySem.W.looks_clsIn X hc) hd' ?_)))
  show wpAny _ _ (Builtin.ObjectAttr.storeInDict hp.objs.size (.str fld t) fld v) _ _ _
  refine HandSPX.store_in_new ?_ fun h' tk' hn hs => ?_
  · exact ⟨_, #[], _, (Heap.get?_update_ne _ _ _ _ ene.symm).trans (Heap.get?_push_at rfl rfl), rfl, fun x hx => absurd hx (by simp), fun _ => rfl⟩
  · refine hq h' tk' hp.objs.size (fun b o hb ho => ?_) (Nat.le_refl _) ene.symm ?_ hn
    · exact (hs.2 b (Nat.ne_of_lt (Heap.lt_size ho))).trans ((Heap.get?_update_ne _ _ _ _ hb).trans (Heap.get?_push_of_some _ ho))
    · exact (hs.2 e ene).trans (Heap.get?_update_self _ he1 rfl)

variable {f cda cc : Addr} {nm qual : Str} {params : Arguments} {body : List Stmt} {scope : Scope} {dV kV doc pm ct oc ccl cl : Value} {an od cdd cld : Option Addr} {osl ccs csl : Array (Option Value)} {vs : Array Value} {file : Str} {tf : Tok} {cd : ClassData}
  {sf y : Str} {p0 p1 p2 p3 p4 p5 p6 p7 p8 p9 : Pos}
/-- the base of super().__init__ -/
theorem sup_node {E : Value → Shared → Prop} {Q : Value → Shared → Prop} {G h1 : Heap} {gs : Array GenState} {d : Drawn} {t : Nat} {os : OsState} {L e t0 : Addr} {m : Str → Option Value} {whole : Sem Value} {news : List (Addr × Obj)} {ar : Arg}
    (M : Mod K mg base) (bG : ∀ b o, base.get? b = some o → G.get? b = some o) (F : Fr G L h1 m) (N : News G L h1 news) (hm : (e, PySem.W.excObj C t0 none .none) ∈ news) (Z : SupC K C fld B newId initId bmB) (hsup : mg "super" = none)
    (lk : K.lookup f = some ⟨oc, od, .func (PySem.W.ksFn nm qual params body scope dV kV doc pm an (.ref cda) ct cc), osl⟩) (lc : K.lookup cda = some ⟨ccl, cdd, .fields vs, ccs⟩) (lv : vs[2]? = some (.str file tf)) (lf : (P.main.file == file) = true)
    (lx : K.lookup cc = some ⟨cl, cld, .cell (some (.ref C)), csl⟩) (lC : PySem.W.clsIn K C = some cd) (hp : (params.posonlyargs ++ params.args).head? = some ar) (hv : m ar.arg = some (.ref e))
    (k1 : scope.names.lookup ("super" : Str) = some .globalImplicit) (k2 : scope.names.lookup ("__class__" : Str) = some .free) (k3 : scope.names.lookup ar.arg = some .local) (k4 : scope.kind = .function) (top : (P.main.scope.names.lookup ("super" : Str)).isSome = false)
    (h : ∀ so h', Fr G L h' m → News G L h' ((so, PySem.W.ks_superObj C e C) :: news) → (∀ p ∈ news, p.1 < so) → Q (.ref so) ⟨h', gs, d, t, os⟩) :
    _root_.PySem.wpAt (model P w) A (.func body (PySem.W.ksEnv qual scope L f (.ref cda) cc)) (attributeBase (.Call (.Name "super" p0) [] [] p1) "__init__" (PySem.W.ksEnv qual scope L f (.ref cda) cc) whole) Q E ⟨h1, gs, d, t, os⟩ := by
  have kb : ∀ b o, base.get? b = some o → h1.get? b = some o := fun b o q => F.keep b o (bG b o q)
  have X : K.In h1 := M.kin.keeps kb
  obtain ⟨mb, bn, bb⟩ := M.blt
  have he := (N _ hm).1
  obtain ⟨oD, d1, d2⟩ : ∃ oD, h1.get? C = some oD ∧ oD.data = .cls cd := by
    have lC' := lC
    unfold PySem.W.clsIn at lC'
    split at lC'
    · rename_i c dd cd' sl ho
      cases lC'
      exact ⟨_, X _ _ ho, rfl⟩
    · cases lC'
  refine ks_wpAt_super_base (env := PySem.W.ksEnv qual scope L f (.ref cda) cc) (of := ⟨oc, od, .func (PySem.W.ksFn nm qual params body scope dV kV doc pm an (.ref cda) ct cc), osl⟩) k1 k2 (by decide) rfl (X _ _ lk) rfl hp rfl (X _ _ lc) rfl lv lf top ?_
  refine PySem.W.ks_loadName_global k4 k1 (loadGlobal_builtin (env := PySem.W.ksEnv qual scope L f (.ref cda) cc) (M.glob.keeps kb) hsup (bn.keeps kb) (v := .type "super") ((bb "super" (by decide)).trans (by decide +kernel)) ⟨rfl, ?_⟩)
  refine wpAny_loadName_free k4 k2 rfl ⟨_, X _ _ lx, rfl⟩ ?_
  refine wpAny_loadName_local k4 k3 F.ns hv ?_
  refine ks_wpAny_isType_cls d1 d2 ⟨rfl, ?_⟩
  refine ks_wpAny_call_super d1 d2 he rfl (fun c z => by cases z) (PySem.W.looks_mroIn X Z.sC) (fun h' z k => ?_)
  obtain ⟨F', N', l'⟩ := PySem.W.ks_newsPush (s := ⟨h1, gs, d, t, os⟩) F N rfl z k
  exact h _ _ F' N' l'

/-- the call of such an __init__ -/
theorem sup_init {R : Result → Shared → Prop} {hp : Heap} {gs : Array GenState} {d : Drawn} {t : Nat} {os : OsState} {e t0 : Addr} {v : Value} {ar : Arg}
    (M : Mod K mg base) (kb : ∀ b o, base.get? b = some o → hp.get? b = some o) (eb : base.get? e = none) (he : hp.get? e = some (PySem.W.excObj C t0 none .none)) (Z : SupC K C fld B newId initId bmB) (hsup : mg "super" = none)
    (lk : K.lookup f = some ⟨oc, od, .func (PySem.W.ksFn nm qual params body scope dV kV doc pm an (.ref cda) ct cc), osl⟩) (hcd : PySem.W.codeIn K (.ref cda) qual = true) (lc : K.lookup cda = some ⟨ccl, cdd, .fields vs, ccs⟩) (lv : vs[2]? = some (.str file tf)) (lf : (P.main.file == file) = true)
    (lx : K.lookup cc = some ⟨cl, cld, .cell (some (.ref C)), csl⟩) (lC : PySem.W.clsIn K C = some cd) (hpr : (params.posonlyargs ++ params.args).head? = some ar) (har : ar.arg = sf) (hyn : y ≠ sf)
    (k1 : scope.names.lookup ("super" : Str) = some .globalImplicit) (k2 : scope.names.lookup ("__class__" : Str) = some .free) (k3 : scope.names.lookup sf = some .local) (k3y : scope.names.lookup y = some .local) (k4 : scope.kind = .function) (k5 : scope.isCoroutine = false) (k6 : scope.isGenerator = false)
    (k7 : ∀ x ∈ scope.names, x.2 ≠ .cell) (top : (P.main.scope.names.lookup ("super" : Str)).isSome = false)
    (hb : body = [.Expr (.Call (.Attribute (.Call (.Name "super" p0) [] [] p1) "__init__" p2) [.Name y p3] [] p4) p5, .Assign [.Attribute (.Name sf p6) fld p7] (.Name y p8) p9])
    (hsd : (sf == ("__debug__" : Str)) = false) (hyd : (y == ("__debug__" : Str)) = false)
    (c1 : ∀ env : Env, env = PySem.W.ksEnv qual scope hp.objs.size f (.ref cda) cc → interactive env = false) (c2 : ∀ env : Env, env = PySem.W.ksEnv qual scope hp.objs.size f (.ref cda) cc → swapsWith (.Call (.Attribute (.Call (.Name "super" p0) [] [] p1) "__init__" p2) [.Name y p3] [] p4) none p5.line env = pure false)
    (c3 : ∀ env : Env, env = PySem.W.ksEnv qual scope hp.objs.size f (.ref cda) cc → swapsWith (.Name y p8) (some (.Attribute (.Name sf p6) fld p7)) p9.line env = pure false)
    (c4 : ∀ env : Env, env = PySem.W.ksEnv qual scope hp.objs.size f (.ref cda) cc → ∃ pl : Sem Bool, eval (.Call (.Attribute (.Call (.Name "super" p0) [] [] p1) "__init__" p2) [.Name y p3] [] p4) env = (do
      let ov ← attributeBase (.Call (.Name "super" p0) [] [] p1) "__init__" env (eval (.Call (.Name "super" p0) [] [] p1) env)
      standAt p2.atName
      let (f, first) ← holding [ov] (getMethod ov "__init__" pl)
      callWith p4 f first (backTo p4 (starEach [.Name y p3] env)) []))
    (c5 : ∀ env : Env, starEach [.Name y p3] env = (false, eval (.Name y p3) env) :: starEach [] env)
    (c6 : ∀ env : Env, (backTo p4 (starEach [] env)).any (·.1) = false) (c7 : ∀ env : Env, backTo p4 ((false, eval (.Name y p3) env) :: starEach [] env) = (false, eval (.Name y p3) env) :: [])
    (bnd : BindsTo ⟨hp, gs, d, t, os⟩ (PySem.W.ksFn nm qual params body scope dV kV doc pm an (.ref cda) ct cc) ⟨[.ref e, v], []⟩ [(sf, .ref e), (y, v)]) (hroom : A.depth < recursionLimit)
    (hq : ∀ h' tk dx t1, (∀ b o, b ≠ e → hp.get? b = some o → h'.get? b = some o) → hp.objs.size ≤ dx → dx ≠ e → h'.get? e = some (PySem.W.excObj C t1 (some dx) .none) → h'.Ns1 dx (fun y => if y = fld then some v else none) → R (.ok (.ret .none)) ⟨h', gs, d, tk, os⟩) :
    codeAny (model P w) A (.call (.ref f) ⟨[.ref e, v], []⟩) R ⟨hp, gs, d, t, os⟩ := by
  have X : K.In hp := M.kin.keeps kb
  have bG : ∀ b o, base.get? b = some o → (PySem.W.hideAll hp [e]).get? b = some o := fun b o q => PySem.W.hideAll_get [e] (kb b o q) (by
    intro z
    rw [List.mem_singleton.mp z, eb] at q
    cases q)
  have XG : K.In (PySem.W.hideAll hp [e]) := M.kin.keeps bG
  refine ks_codeAny_call_defAt (s := ⟨hp, gs, d, t, os⟩) (fd := PySem.W.ksFn nm qual params body scope dV kV doc pm an (.ref cda) ct cc) (body := body) (binds := [(sf, .ref e), (y, v)]) hroom (X _ _ lk) rfl (M.nolimit.keeps kb) (PySem.W.codeRec_of X hcd) rfl bnd k7 (fun z hz => ?_) (fun h1 hns hk => ?_) k5 k6 k4
  · rcases List.mem_cons.mp hz with rfl | hz
    · exact k3
    · rw [List.mem_singleton.mp hz]
      exact k3y
  show _root_.PySem.wpAt (model P w) (A.deeper (PySem.W.ksEnv qual scope hp.objs.size f (.ref cda) cc)) (.func body (PySem.W.ksEnv qual scope hp.objs.size f (.ref cda) cc)) (execs body (PySem.W.ksEnv qual scope hp.objs.size f (.ref cda) cc)) _ _ _
  generalize hen : PySem.W.ksEnv qual scope hp.objs.size f (.ref cda) cc = en
  have ke : en.scope = scope := by rw [← hen]
  have kl : en.locals = hp.objs.size := by rw [← hen]
  have F1 : Fr (PySem.W.hideAll hp [e]) hp.objs.size h1 (fun x => [(sf, Value.ref e), (y, v)].reverse.lookup x) := ⟨hns, fun b o q => hk b o (PySem.W.of_hideAll [e] q), Nat.le_of_eq (PySem.W.hideAll_size [e] hp)⟩
  have N1 : News (PySem.W.hideAll hp [e]) hp.objs.size h1 [(e, PySem.W.excObj C t0 none .none)] := fun p hp' => by
    rw [List.mem_singleton.mp hp']
    exact ⟨hk _ _ he, Nat.ne_of_lt (Heap.lt_size he), PySem.W.hideAll_none [e] (by simp)⟩
  have m1 : (fun x => [(sf, Value.ref e), (y, v)].reverse.lookup x) sf = some (.ref e) := by
    show List.lookup sf [(y, v), (sf, Value.ref e)] = _
    rw [List.lookup_cons]
    rw [show (sf == y) = false from by simpa using Ne.symm hyn]
    simp [List.lookup]
  have m2 : (fun x => [(sf, Value.ref e), (y, v)].reverse.lookup x) y = some v := by
    show List.lookup y [(y, v), (sf, Value.ref e)] = _
    simp [List.lookup]
  revert F1 N1 m1 m2
  generalize (fun x => [(sf, Value.ref e), (y, v)].reverse.lookup x) = m
  intro F1 N1 m1 m2
  have low : ∀ {h2 : Heap} {q : Addr} {o : Obj}, hp.get? q = some o → q ≠ e → Fr (PySem.W.hideAll hp [e]) hp.objs.size h2 m → h2.get? q = some o := fun {h2 q o} z ne F => F.keep q o (PySem.W.hideAll_get [e] z (by simpa using ne))
  have ld : ∀ {h2 : Heap} {n : Str} {u : Value} {t2 : Nat} {p : Pos} {QQ : Value → Shared → Prop} {EE : Value → Shared → Prop} {AA : Around}, Fr (PySem.W.hideAll hp [e]) hp.objs.size h2 m → m n = some u → scope.names.lookup n = some .local → (n == ("__debug__" : Str)) = false → QQ u ⟨h2, gs, d, t2, os⟩ → wpAny (model P w) AA (eval (.Name n p) en) QQ EE ⟨h2, gs, d, t2, os⟩ := by
    intro h2 n u t2 p QQ EE AA F mm kk nd q
    refine wpAny_Name (wpAny_loadName_local (m := m) (by rw [ke]; exact k4) (by show en.scope.names.lookup n = _; rw [ke]; exact kk) (by rw [kl]; exact F.ns) mm q) nd
  obtain ⟨pl, c4'⟩ := c4 en hen.symm
  rw [show execs body en = execs [.Expr (.Call (.Attribute (.Call (.Name "super" p0) [] [] p1) "__init__" p2) [.Name y p3] [] p4) p5, .Assign [.Attribute (.Name sf p6) fld p7] (.Name y p8) p9] en from by rw [hb]]
  refine ks_wpAt_execs_cons (ks_wpAt_Expr_any (ks_wpAt_MethodCall (pl := pl) ?_ c4') (c1 en hen.symm) (c2 en hen.symm))
  rw [← hen]
  refine sup_node (e := e) (t0 := t0) (ar := ar) M bG F1 N1 (by simp) Z hsup lk lc lv lf lx lC hpr (by rw [har]; exact m1) k1 k2 (by rw [har]; exact k3) k4 top fun so h2 F2 N2 l2 => ?_
  refine PySem.W.kxs_method (x := e) (ox := PySem.W.excObj C t0 none .none) (odx := none) Z.kx F2 XG N2 (List.mem_cons_self ..) (PySem.W.InstAt.of_exc0 N2 (by simp)) Z.op Z.su Z.sB (by decide) fun q h3 F3 N3 l3 => ?_
  rw [hen]
  refine PySem.W.kxs_callWith1 (i := initId) (x := e) N3 (List.mem_cons_self ..) ?_ (c5 en) (c6 en)
  rw [c5 en, c7 en]
  refine spliced_cons (ld F3 m2 k3y hyd (spliced_nil ⟨PySem.W.kxs_at N3 (List.mem_cons_self ..), ?_⟩))
  have q1 : q ≠ e := fun z => by
    have := l3 (e, PySem.W.excObj C t0 none .none) (by simp)
    rw [z] at this
    exact absurd this (Nat.lt_irrefl _)
  have q2 : so ≠ e := fun z => by
    have := l2 (e, PySem.W.excObj C t0 none .none) (by simp)
    rw [z] at this
    exact absurd this (Nat.lt_irrefl _)
  refine PySem.W.kxs_call (x := e) F3 XG N3 Z.eb Z.xi (List.mem_cons_self ..) (.tail q1 (.tail q2 (.head fun p hp => by simp at hp))) (by show 1 ≤ sizeLine; decide) fun t' h4 F4 N4 l4 => ?_
  have he4 : h4.get? e = some (PySem.W.excObj C t' none .none) := (N4 (e, PySem.W.excObj C t' none .none) (by simp)).1
  have X4 : K.In h4 := XG.keeps F4.keep
  refine ks_wpAt_execs_cons (ks_wpAt_Assign_Attr (wpAt_of_wpAny (ld F4 m2 k3y hyd (ld F4 m1 k3 hsd ?_))) (c3 en hen.symm))
  refine sup_set Z X4 he4 fun h5 tk dx k ds de e5 n5 => ?_
  refine wpAt_of_wpAny (wpAny_execs_nil ?_)
  have big : hp.objs.size ≤ h4.objs.size := by
    obtain ⟨oL, _, _, eL, _⟩ := F4.ns
    exact Nat.le_of_lt (Heap.lt_size eL)
  refine hq h5 _ dx t' (fun b o ne z => k b o ne (low z ne F4)) (Nat.le_trans big ds) de e5 n5
end

/-! ### making it: C(a) -/
def MkSup (C : Addr) (fld : Str) (ta : TA) : L2.St → Hp → XK → Prop := fun σ H Q => ta σ H fun vs H1 => ∃ y, vs = [y] ∧ ∀ dx, H1 dx = none → Q (.ref C) (some dx) (upd H1 dx (.xd [(fld, y)]))
/-- an __init__ that does it -/
def InitOk (P : Program) (K : PySem.W.Frag) (mg : Str → Option Value) (C f : Addr) (fld : Str) : Prop :=
  ∀ (w : World) (A : Around) (R : Result → Shared → Prop) (base hp : Heap) (gs : Array GenState) (d : Drawn) (t : Nat) (os : OsState) (e t0 : Addr) (v : Value), Mod K mg base → (∀ b o, base.get? b = some o → hp.get? b = some o) → base.get? e = none →
    hp.get? e = some (PySem.W.excObj C t0 none .none) → A.depth < recursionLimit →
    (∀ h' tk dx t1, (∀ b o, b ≠ e → hp.get? b = some o → h'.get? b = some o) → hp.objs.size ≤ dx → dx ≠ e → h'.get? e = some (PySem.W.excObj C t1 (some dx) .none) → h'.Ns1 dx (fun y => if y = fld then some v else none) → R (.ok (.ret .none)) ⟨h', gs, d, tk, os⟩) →
    codeAny (model P w) A (.call (.ref f) ⟨[.ref e, v], []⟩) R ⟨hp, gs, d, t, os⟩
section
variable {X : Cx} {a : Expr} {ta : TA} {x fld : Str} {C f : Addr} {B newId initId : String} {bmB : List Value} {p pos : Pos}
theorem exo_sup {P : Program} {w : World} {H : Hp} {h : Heap} {e t1 : Addr} {dd : Option Addr} (he : h.get? e = some (PySem.W.excObj C t1 dd .none)) : ObjOk P w H h e (exo e C dd) := exo_ok he
theorem pmk_sup (Z : SupC X.K C fld B newId initId bmB) (iC : PySem.W.findIn X.K (.ref C) "__init__" = some (some (.ref f))) (tI : PySem.W.typeIn X.K (.ref f) = some (.type "function")) (io : InitOk X.prog X.K X.mg C f fld) (hr : Room 1 X.A) (hg : Gl X x) (hm : X.mg x = some (.ref C))
    (ha : PA X [a] ta) (hdb : (x == ("__debug__" : Str)) = false) (he : starEach [a] X.env = (false, eval a X.env) :: starEach [] X.env) (hpl : (backTo pos (starEach [] X.env)).any (·.1) = false) : PMk X (.Call (.Name x p) [a] [] pos) (MkSup C fld ta) := by
  intro pins s σ H Q I h
  refine wpAny_Call_Name_kw (ld_glob I hg hm ?_ hdb)
  refine PySem.W.callWith_K (h₀ := X.base) I.ok.mod.kin Z.kp (thn (ha.run pos pins s σ H _ I h) fun us s1 hh => ?_) he hpl
  obtain ⟨vs, H1, I1, r1, y, ey, q1⟩ := hh
  subst ey
  refine ⟨I1.kIn, ?_⟩
  show wpAny _ _ (call (.ref C) us) _ _ _
  obtain ⟨v, rfl, rv⟩ : ∃ v, us = [v] ∧ RelV y v := by
    cases r1 with
    | cons rx rr => cases rr; exact ⟨_, rfl, rx⟩
  obtain ⟨hp, gs, dr, tk, os⟩ := s1
  obtain ⟨nm, N', qn, bs, bm, hdct, sn, sub, ab, col, dd, k0, k1, k2, k3, k5, hC, hT⟩ := PySem.W.excInit_of I1.kIn Z.xi
  have sz : hp.objs.size ≤ hp.objs.size + 1 := Nat.le_succ _
  have hn : H1 (hp.objs.size + 1) = none := I1.hok.fresh sz
  have up : ∀ b o, hp.get? b = some o → ((hp.push (PySem.W.kdv_tup [v])).push (HandSPX.excO C hp.objs.size)).get? b = some o := fun b o z => Heap.get?_push_of_some _ (Heap.get?_push_of_some _ z)
  have ge : ((hp.push (PySem.W.kdv_tup [v])).push (HandSPX.excO C hp.objs.size)).get? (hp.objs.size + 1) = some (PySem.W.excObj C hp.objs.size none .none) := by heap_get
  have I2 : Inv X pins σ (upd H1 (hp.objs.size + 1) (exo (hp.objs.size + 1) C none)) ⟨(hp.push (PySem.W.kdv_tup [v])).push (HandSPX.excO C hp.objs.size), gs, dr, tk, os⟩ :=
    I1.laid (t' := tk) (a := hp.objs.size + 1) (o := exo (hp.objs.size + 1) C none) (h' := (hp.push (PySem.W.kdv_tup [v])).push (HandSPX.excO C hp.objs.size)) up sz (exo_sup ge)
  have s2 : ((hp.push (PySem.W.kdv_tup [v])).push (HandSPX.excO C hp.objs.size)).objs.size = hp.objs.size + 2 := by rw [Heap.size_push, Heap.size_push]
  have bn : X.base.get? (hp.objs.size + 1) = none := by
    cases z : X.base.get? (hp.objs.size + 1) with
    | none => rfl
    | some o =>
      have := Heap.lt_size ((I1.bs _ _ z).1)
      exact absurd (show hp.objs.size + 1 < hp.objs.size from this) (by omega)
  refine wpAny_call (HandSPX.call_own Z.eb hT hC (PySem.W.looks_findIn I1.kIn iC) (fun self => PySem.W.bind_fn I1.kIn self tI) (by show 1 ≤ sizeLine; decide) (io X.w _ _ X.base _ gs dr tk os (hp.objs.size + 1) hp.objs.size v I1.ok.mod (fun b o z => up b o ((I1.bs b o z).1)) bn ge (hr.make C [v] []).depth ?_))
  intro h3 tk3 dx t1 kp ds de e3 n3
  refine ⟨rfl, ?_⟩
  have hd1 : H1 dx = none := I1.hok.fresh (Nat.le_trans (Nat.le_trans (Nat.le_add_right _ 2) (Nat.le_of_eq s2.symm)) ds)
  have eA : upd H1 (hp.objs.size + 1) (exo (hp.objs.size + 1) C none) (hp.objs.size + 1) = some (exo (hp.objs.size + 1) C none) := upd_same
  have ud : upd H1 (hp.objs.size + 1) (exo (hp.objs.size + 1) C none) dx = none := by rw [upd_ne de]; exact hd1
  have nd : ∀ {b : Addr} {o : Obj}, ((hp.push (PySem.W.kdv_tup [v])).push (HandSPX.excO C hp.objs.size)).get? b = some o → b ≠ dx := fun {b o} z => Nat.ne_of_lt (Nat.lt_of_lt_of_le (Heap.lt_size z) ds)
  have na : ∀ {b : Addr}, upd H1 (hp.objs.size + 1) (exo (hp.objs.size + 1) C none) b = none → b ≠ hp.objs.size + 1 := fun {b} n z => by
    rw [z, upd_same] at n
    cases n
  have U : Un (frs X.stack) [] (upd H1 (hp.objs.size + 1) (exo (hp.objs.size + 1) C none)) (upd (upd (upd H1 (hp.objs.size + 1) (exo (hp.objs.size + 1) C none)) dx (exd dx [(fld, y)])) (hp.objs.size + 1) (exo (hp.objs.size + 1) C (some dx))) ((hp.push (PySem.W.kdv_tup [v])).push (HandSPX.excO C hp.objs.size)) h3 := {
    keep := fun b o z n _ _ => kp b o (na n) z
    slot := fun b o z n _ _ => ⟨o.slots, kp b o (na n) z⟩
    free := fun b o z n _ => by rw [upd_ne (na n), upd_ne (nd z)]; exact n
    there := fun b o z _ => by
      by_cases hb : b = hp.objs.size + 1
      · exact ⟨_, by rw [hb]; exact e3⟩
      · exact ⟨o, kp b o hb z⟩
    tups := fun b xs z => by rw [upd_ne (at_ne eA z exo_tup), upd_ne (ne_of_none z ud)]; exact z
    frzs := fun b o u z => by rw [upd_ne (at_ne eA z exo_frz), upd_ne (ne_of_none z ud)]; exact z
    tbls := fun b ps z => ⟨#[], by rw [upd_ne (at_ne eA z exo_tbl), upd_ne (ne_of_none z ud), z]; simp⟩ }
  have hok3 : HOk X.prog X.w (upd (upd (upd H1 (hp.objs.size + 1) (exo (hp.objs.size + 1) C none)) dx (exd dx [(fld, y)])) (hp.objs.size + 1) (exo (hp.objs.size + 1) C (some dx))) h3 := fun b o z => by
    by_cases hb : b = hp.objs.size + 1
    · subst hb
      rw [upd_same] at z
      cases z
      exact exo_sup e3
    · rw [upd_ne hb] at z
      by_cases hd : b = dx
      · subst hd
        rw [upd_same] at z
        cases z
        exact exd_ok n3 (relO_put (fs := []) rv fun g => True.intro)
      · rw [upd_ne hd] at z
        exact (I2.hok b o z).stay (fun c u hc zz => kp c u (by
            rcases hc with hc | hc
            · rw [hc]; exact hb
            · exact at_ne eA hc exo_own) zz)
          (fun c hc => by rw [upd_ne (at_ne eA hc exo_own), upd_ne (ne_of_none hc ud)]; exact hc) (fun c xs hc => by rw [upd_ne (at_ne eA hc exo_tup), upd_ne (ne_of_none hc ud)]; exact hc)
  refine mk_end (fs := [(fld, y)]) (d1 := dr) (t1 := tk) (os1 := os) (g1 := gs) (raises_own Z.ex Z.ty) I1 sz up U hok3 rfl I1.bare upd_same (by rw [upd_ne de]; exact upd_same) hd1 ?_
  have ef : upd (del (upd (upd (upd H1 (hp.objs.size + 1) (exo (hp.objs.size + 1) C none)) dx (exd dx [(fld, y)])) (hp.objs.size + 1) (exo (hp.objs.size + 1) C (some dx))) (hp.objs.size + 1)) dx (.xd [(fld, y)]) = upd H1 dx (.xd [(fld, y)]) := by
    funext b
    by_cases hd : b = dx
    · rw [hd, upd_same, upd_same]
    · rw [upd_ne hd, upd_ne hd]
      by_cases hb : b = hp.objs.size + 1
      · rw [hb, del_same, hn]
      · rw [del_ne hb, upd_ne hb, upd_ne hd, upd_ne hb]
  rw [ef]
  exact q1 dx hd1
end

/-! ### raise C(a) -/
structure Exc1 (P : Program) (K : PySem.W.Frag) (T : Tb) (mg : Str → Option Value) (x : Str) (i : Nat) : Prop where
  ex : ∃ (C f : Addr) (fld : Str) (B newId initId : String) (bmB : List Value), T.exc i = some C ∧ T.fld i = [fld] ∧ mg x = some (.ref C) ∧ SupC K C fld B newId initId bmB ∧ PySem.W.findIn K (.ref C) "__init__" = some (some (.ref f)) ∧ PySem.W.typeIn K (.ref f) = some (.type "function") ∧ InitOk P K mg C f fld
def sRaiseF (i : Nat) (m : S → R D) : S → RS := fun s => (m s).then fun d s1 => .raise (.mk i [d]) s1
section
variable {T : Tb} {X : Cx} {Γ : Fls} {F : Fx} {a : Expr} {m : S → R D} {pos pos' : Pos}
theorem js_raiseF (i : Nat) {x : Str} {p : Pos} {j : Nat} (hc : X.calm = true) (h : Exc1 X.prog X.K T X.mg x i) (hr : Room j X.A) (hj : 1 ≤ j) (hg : Gl X x) (ha : JE T X Γ a .sh m) (hdb : (x == ("__debug__" : Str)) = false := by decide)
    (he : starEach [a] X.env = (false, eval a X.env) :: starEach [] X.env := by rfl) (hpl : (backTo pos' (starEach [] X.env)).any (·.1) = false := by rfl) : JS T X Γ F (.Raise (some (.Call (.Name x p) [a] [] pos')) none pos) (sRaiseF i m) := by
  obtain ⟨C, f, fld, B, newId, initId, bmB, hT, hF, hm, Z, iC, tI, io⟩ := h.ex
  refine ⟨fun W tk => PS.imp (L2.ps_raise hc tk (pmk_sup Z iC tI io (hr.mono hj) hg hm (pa_cons (ha.run W tk) pa_nil he) hdb he hpl)) fun E σ H ⟨Bs, g, st, I, p⟩ => ?_⟩
  refine te_then I.toSR p fun d s1 v H1 g1 q1 I1 r1 p1 => ?_
  refine ⟨v, rfl, fun dx hd => ?_⟩
  have st1 : Step g1 H1 g1 (upd H1 dx (.xd [(fld, v)])) := Step.new hd
  have I2 := I1.new (o := .xd [(fld, v)]) hd
  have r2 : Rp X.K T g1 (upd H1 dx (.xd [(fld, v)])) d v := Rp.step I1.wf st1 r1
  refine p1 _ _ σ _ _ (st1.trans (.frz I2.wf)) I2.frzAll ⟨C, hT, rfl, .inr ⟨by simp, dx, [v], rfl, ?_, ?_, ?_⟩⟩
  · rw [hF]
    exact upd_same
  · exact Rps.cons (Rp.step I2.wf (.frz I2.wf) r2) Rps.nil
  · rw [hF]
    rfl
end
end DL

set_option linter.all false
set_option Elab.async false
set_option maxRecDepth 100000
set_option maxHeartbeats 4000000
namespace DL
open PySem PySem.Spec PySem.Calls PyProof.Rows L2
open PySem.W (KitX InstAt Looks findObj looks_findIn looks_find looks_subIn)
/-! ### isinstance of a caught error that has a dict -/
section
variable {prog : Program} {w : World} {A : Around} {E : Value → Shared → Prop} {s : Shared} {K : PySem.W.Frag} {x D : Addr} {ox : Obj} {dd : Option Obj}
theorem fo_data {C : Addr} {n : Str} {u v : Value} (h1 : (PySem.W.clsIn K C).isSome = true) (h2 : PySem.W.findIn K (.ref C) n = some (some u)) (h3 : PySem.W.specialIn K u "__get__" = some (some v)) (h4 : PySem.W.takesIn K u = some true) : findObj K C dd n = some (.bind v u) := by
  obtain ⟨cd, h1⟩ := Option.isSome_iff_exists.mp h1
  unfold findObj
  rw [h1, Option.bind_some, h2, Option.bind_some]
  simp [h3, h4]
theorem kin_classD {Q : Option Value → Shared → Prop} (Z : ExcC K D) (X : K.In s.heap) (J : InstAt s.heap x ox D dd) (h : Q (some (.ref D)) { s with toks := s.toks + 1 }) : wpAny (model prog w) A (getAttr? (.ref x) "__class__") Q E s := by
  have fo : findObj K D dd "__class__" = some (.bind (.builtin "getset_descriptor.__get__") (.builtin "object.__class__")) := fo_data (by obtain ⟨cd, hc, _⟩ := PySem.W.any_some Z.hd; rw [hc]; rfl) Z.ha Z.hn Z.ht
  obtain ⟨hp, g, d, t, os⟩ := s
  have T0 := J.type (M := model prog w)
  have T1 := looks_findIn (M := model prog w) X Z.hg
  have T2 := looks_findIn (M := model prog w) X Z.hk
  have T3 := looks_find (M := model prog w) X J fo
  have sb : Looks (model prog w) hp (isInstance (.ref x) (.type "BaseException")) true := T0.andThen (looks_subIn X Z.hs)
  have b0 : (Value.builtin "BaseException.__getattribute__" == Value.builtin "object.__getattribute__") = false := by decide +kernel
  have b1 : (onTheHeap (Value.ref D) && Value.builtin "BaseException.__getattribute__" == Value.builtin "object.__getattribute__") = false := by rw [b0] <;> rfl
  have b2 : (false && onTheHeap (Value.builtin "BaseException.__getattribute__")) = false := by rfl
  unfold getAttr? getAttrBy? getAttrBy
  refine wpAny_bind (wpAny_mkText (wpAny_bind (wpAny_attempt (wpAny_holding (wpAny_bind (T0.at (wpAny_bind (T1.at ?_))))))))
  show wpAny _ _ (if (onTheHeap (Value.ref D) && Value.builtin "BaseException.__getattribute__" == Value.builtin "object.__getattribute__") = true then _ else _) _ _ _
  rw [b1, if_neg Bool.false_ne_true]; unfold getAttrByItsOwn hookBefore
  refine wpAny_bind ?_
  rw [if_pos (show onTheHeap (Value.ref D) = true by rfl)]
  refine T2.at (wpAny_bind (wpAny_attempt (wpAny_holding ?_)))
  unfold callGetattribute; rw [b2, if_neg Bool.false_ne_true]; unfold boundAndCalled
  rw [PySem.F.excAttr_ValueError.ga.bind (.ref x)]; refine wpAny_bind (wpAny_pure ?_)
  show wpAny _ _ (call (.builtin "BaseException.__getattribute__") [.ref x, .str "__class__" t]) _ _ _; refine wpAny_call (codeAny_call_builtin PySem.F.excAttr_ValueError.ga.plain PySem.F.entry_bexc_ga ?_)
  refine @PySem.W.check_slot (model prog w) _ _ ⟨hp, g, d, t + 1, os⟩ "BaseException.__getattribute__" "BaseException" "__getattribute__" (.ref x) [.str "__class__" t] [] _ (by decide +kernel) (by decide +kernel) sb (PySem.F.args_bexc_ga (.ref x) (.str "__class__" t)) ?_
  unfold Builtin.«object.__getattribute__»; refine wpAny_bind (wpAny_of_eq (a := ((Value.ref x : Value), [Value.str "__class__" t])) (by first | rfl | (simp only [slotArgs]; rfl)) ?_)
  refine wpAny_bind (wpAny_pure (wpAny_bind (T0.at (wpAny_bind (T3.at ?_)))))
  show wpAny _ _ (holding [Value.builtin "object.__class__"] (call (.builtin "getset_descriptor.__get__") [.builtin "object.__class__", .ref x, .ref D]) >>= ret) _ _ _
  refine wpAny_bind (wpAny_holding (wpAny_call (PySem.W.class_get (s := ⟨hp, g, d, t + 1, os⟩) (ox := ox) (od := dd) X J Z.hm (wpAny_pure ?_))))
  show wpAny _ _ (handedOut (.ref D)) _ _ _
  rw [PySem.W.handedOut_of (v := .ref D) rfl]
  first
    | exact wpAny_pure (wpAny_pure h)
    | exact wpAny_pure h
    | exact wpAny_pure (wpAny_bind (wpAny_pure (wpAny_pure h)))
theorem kitD (Z : ExcC K D) : KitX K (.ref x) (.ref D) (fun h => ∃ od, InstAt h x ox D (some od)) where
  ty := fun _ _ _ ⟨_, J⟩ => J.type
  it := fun _ _ X _ => by
    obtain ⟨cdD, hcD, _⟩ := PySem.W.any_some Z.hd
    unfold PySem.W.clsIn at hcD
    split at hcD
    case h_2 => cases hcD
    rename_i ho
    intro A' Q' E' s' k q
    unfold isType loadHead
    exact wpAny_bind (wpAny_loadPart (k _ _ (X _ _ ho)) (wpAny_pure q))
  ne := fun h tp dd its n sl X htp => by
    obtain ⟨cdD, hcD, _⟩ := PySem.W.any_some Z.hd
    refine Bool.eq_false_iff.mpr fun q => ?_
    obtain rfl : D = tp := Value.ref.inj (beq_iff_eq.mp q)
    unfold PySem.W.clsIn at hcD
    split at hcD
    case h_2 => cases hcD
    rename_i ho
    have z := (X _ _ ho).symm.trans htp
    cases z
  ca := fun X ⟨_, J⟩ k => kin_classD Z X J k
end
/-- isinstance(e, c), e the exception that the suite holds, with a dict at dd -/
def rIsF (K : PySem.W.Frag) (D a dd : Addr) : List V → Hp → VK → Prop := fun xs H Q => ∃ (c : V) (cv : Value) (b : Bool) (fs : List (Str × V)), xs = [.ref a, c] ∧ (∀ u, RelV c u → u = cv) ∧ PySem.W.kitOne K (.ref D) cv = some b ∧ H dd = some (.xd fs) ∧ Q (.bl b) H
theorem call_isF {X : Cx} {a D dd : Addr} {oe : Obj} {pn : List (Addr × Obj)} (Z : ExcC X.K D) (hz : Zc (.ref D) (some dd) oe) (hf : ∃ vs, oe.data = .fields vs) : CallR (X.suite a ((a, oe) :: pn)) (.builtin "isinstance") (rIsF X.K D a dd) := by
  intro pins s σ H xs us Q I r h
  obtain ⟨c, cv, b, fs, rfl, hcv, e, hd, q⟩ := h
  cases r with
  | cons rx rr =>
    cases rr with
    | cons rt rr =>
      cases rr
      cases rx
      obtain rfl := hcv _ rt
      obtain ⟨hget, _⟩ := I.pin (a, oe) (List.mem_append.mpr (.inl List.mem_cons_self))
      have hx : ObjOk X.prog X.w H s.heap dd (.xd fs) := I.hok dd _ hd
      obtain ⟨mA, hns, hr⟩ := hx
      obtain ⟨od, ho, hl⟩ := lookIn_ns hns
      obtain ⟨vs, hv⟩ := hf
      have J : InstAt s.heap a oe D (some od) := ⟨hget, hz.1, by unfold PySem.W.notCls; rw [hv] <;> rfl, by rw [hz.2]; exact ho⟩
      exact PySem.W.kia_one (kitD (ox := oe) Z) I.kIn ⟨od, J⟩ e (fun z => nomatch z) fun tk => ⟨.bl b, H, I.kept (t' := tk) fun _ _ z => z, rfl, q⟩

/-! ### except C as n: c = [txt, n.f, isinstance(n, t)] -/
def hSayF (cm : Nat → Bool) (i c : Nat) (txt : Str) (b : Bool) (r : Ex → S → RS) : Ex → S → RS := fun e s => if cm e.ix then (match e with
  | .mk _ [d] => if i < s.r.length then .next { s with r := ((s.r.set c (some (.lst [.str txt, d, .bl b])))).set i none } else .stuck
  | _ => .stuck) else r e s
def tSayF (K : PySem.W.Frag) (i c : Nat) (txt : Str) (b : Bool) (t : String) (fld : Str) (a : Addr) (cls : Value) (d : Option Addr) : TS := fun E σ H =>
  σ[i]? = some (some (.ref a)) ∧ ∃ (C dd : Addr) (fs : List (Str × V)) (v : V), cls = .ref C ∧ d = some dd ∧ H dd = some (.xd fs) ∧ fs.lookup fld = some v ∧ ExcC K C ∧ XfC K C ∧ PySem.W.findIn K (.ref C) fld = some none ∧ PySem.W.kitOne K (.ref C) (.type t) = some b ∧
    ∀ p, H p = none → E.nx (σ.set c (some (.ref p))) (upd H p (.lst [.str txt, v, .bl b]))
/-- what isinstance and the reading of a field tell of the caught ones -/
structure SayF (K : PySem.W.Frag) (T : Tb) (cm : Nat → Bool) (t : String) (b : Bool) (fld : Str) : Prop where
  ok : ∀ j C, T.exc j = some C → cm j = true → ExcC K C ∧ XfC K C ∧ PySem.W.findIn K (.ref C) fld = some none ∧ PySem.W.kitOne K (.ref C) (.type t) = some b ∧ T.fld j = [fld]
section
variable {T : Tb} {X : Cx} {F : Fx} {pos p1 p2 p3 p4 p5 p6 p7 q1 q2 : Pos} {r : Ex → S → RS} {hds : List ExceptHandler} {lp : Fls} {rm : Mo}
theorem su_sayF (i c : Nat) {n y tx xi fld : Str} {b : Bool} {t : String} {ki : Nat} {a : Addr} {oe : Obj} {cls : Value} {d : Option Addr} {pn : List (Addr × Obj)} (hN : X.N.Nodup) (hi : X.N[i]? = some n) (hv : Vis X.env.scope n) (hc : X.N[c]? = some y) (hx : Loc X.env.scope y) (hf : X.fn y = true ∨ X.env.scope.names.lookup y = some .local)
    (hd : (n == ("__debug__" : Str)) = false) (hcd : (n == ("__classdict__" : Str)) = false) (hx0 : xi = "isinstance") (hg : Gl X xi) (hm : X.mg xi = none) (hg' : Gl X (.ofString t)) (hm' : X.mg (.ofString t) = none) (hv' : bootBuiltins (.ofString t) = some (.type t)) (hn' : (.ofString t : Str) ≠ "__name__") (hdb : ((.ofString t : Str) == ("__debug__" : Str)) = false)
    (st1 : starEach [.Constant (.str tx) ki p1, .Attribute (.Name n q1) fld q2, .Call (.Name xi p2) [.Name n p3, .Name (.ofString t) p4] [] p5] X.env = (false, eval (.Constant (.str tx) ki p1) X.env) :: starEach [.Attribute (.Name n q1) fld q2, .Call (.Name xi p2) [.Name n p3, .Name (.ofString t) p4] [] p5] X.env)
    (st0 : starEach [.Attribute (.Name n q1) fld q2, .Call (.Name xi p2) [.Name n p3, .Name (.ofString t) p4] [] p5] X.env = (false, eval (.Attribute (.Name n q1) fld q2) X.env) :: starEach [.Call (.Name xi p2) [.Name n p3, .Name (.ofString t) p4] [] p5] X.env)
    (st2 : starEach [.Call (.Name xi p2) [.Name n p3, .Name (.ofString t) p4] [] p5] X.env = (false, eval (.Call (.Name xi p2) [.Name n p3, .Name (.ofString t) p4] [] p5) X.env) :: starEach [] X.env)
    (st3 : starEach [.Name n p3, .Name (.ofString t) p4] X.env = (false, eval (.Name n p3) X.env) :: starEach [.Name (.ofString t) p4] X.env) (st4 : starEach [.Name (.ofString t) p4] X.env = (false, eval (.Name (.ofString t) p4) X.env) :: starEach [] X.env)
    (hpl : (backTo p5 (starEach [.Name (.ofString t) p4] X.env)).any (·.1) = false) (hab : attributeBase (.Name n q1) fld X.env (eval (.Name n q1) X.env) = eval (.Name n q1) X.env)
    (hz : Zc cls d oe) (hv2 : ∃ vs, oe.data = .fields vs)
    (hsw : swapsWith (.List [.Constant (.str tx) ki p1, .Attribute (.Name n q1) fld q2, .Call (.Name xi p2) [.Name n p3, .Name (.ofString t) p4] [] p5] p6) (some (.Name y p7)) pos.line X.env = pure false) :
    PSs (X.suite a ((a, oe) :: pn)) [.Assign [.Name y p7] (.List [.Constant (.str tx) ki p1, .Attribute (.Name n q1) fld q2, .Call (.Name xi p2) [.Name n p3, .Name (.ofString t) p4] [] p5] p6) pos] (tSayF X.K i c tx b t fld a cls d) := by
  subst hx0
  refine ⟨fun pins s σ H E I h => ?_⟩
  obtain ⟨h1, C, dd, fs, v, rfl, rfl, hdd, hl, ec, xf, hno, kk, h4⟩ := h
  have e0 := call_isF (X := X) (a := a) (pn := pn) ec hz hv2
  have ea := pe_xf (X := X) (pn := pn) (pos := q2) xf hno hz hv2 (pe_var (X := X.suite a ((a, oe) :: pn)) (pos := q1) hi hv hd hcd) hab
  have e1 := pe_callB (X := X.suite a ((a, oe) :: pn)) (p := p2) (pos := p5) e0 hg hm (by decide +kernel) (pa_cons (pe_var (pos := p3) hi hv hd hcd) (pa_cons (pe_bltn (pos := p4) (v := .ty t) hg' hm' hv' rfl hn' hdb) pa_nil st4) st3) (by decide) (by decide) st3 hpl
  have e2 := ps_set (X := X.suite a ((a, oe) :: pn)) (pos := pos) (pos' := p7) hN hc hx (pe_lst (pos := p6) (pa_cons pe_str (pa_cons ea (pa_cons e1 pa_nil st2) st0) st1)) hsw hf
  refine (pss_one e2).run pins s σ H E I ?_
  refine ⟨_, h1, rfl, rfl, dd, fs, v, rfl, hdd, hl, ?_⟩
  refine ⟨_, h1, .ty t, .type t, b, fs, rfl, fun u hu => by cases hu; rfl, kk, hdd, by show 3 ≤ sizeLine; decide, fun p' hp => h4 p' hp⟩
theorem jh_sayF (i c : Nat) (b : Bool) (t : String) {x n y tx xi fld : Str} {ki : Nat} {cm : Nat → Bool} (C : Cat X T x cm) (Sa : SayF X.K T cm t b fld) (hr : JHs T X ⟨[], lp, rm⟩ hds r) (hN : X.N.Nodup) (hi : X.N[i]? = some n := by rfl) (hk : X.env.kindOf n = some .local := by rfl)
    (hv : Vis X.env.scope n := by first | exact Or.inl rfl | exact Or.inr (Or.inl rfl) | exact Or.inr (Or.inr rfl)) (hc : X.N[c]? = some y := by rfl) (hx : Loc X.env.scope y := by first | exact Or.inl rfl | exact Or.inr rfl) (hf : X.fn y = true ∨ X.env.scope.names.lookup y = some .local := by first | exact .inl rfl | exact .inr rfl | assumption)
    (hd : (n == ("__debug__" : Str)) = false := by decide) (hcd : (n == ("__classdict__" : Str)) = false := by decide) (hx0 : xi = "isinstance" := by rfl) (hg : Gl X xi := by rfl) (hm : X.mg xi = none := by first | rfl | assumption) (hg' : Gl X (.ofString t) := by rfl) (hm' : X.mg (.ofString t) = none := by first | rfl | assumption) (hv' : bootBuiltins (.ofString t) = some (.type t) := by decide +kernel)
    (hn' : (.ofString t : Str) ≠ "__name__" := by decide) (hdb : ((.ofString t : Str) == ("__debug__" : Str)) = false := by decide) (hic : i ≠ c := by decide)
    (st1 : starEach [.Constant (.str tx) ki p1, .Attribute (.Name n q1) fld q2, .Call (.Name xi p2) [.Name n p3, .Name (.ofString t) p4] [] p5] X.env = (false, eval (.Constant (.str tx) ki p1) X.env) :: starEach [.Attribute (.Name n q1) fld q2, .Call (.Name xi p2) [.Name n p3, .Name (.ofString t) p4] [] p5] X.env := by rfl)
    (st0 : starEach [.Attribute (.Name n q1) fld q2, .Call (.Name xi p2) [.Name n p3, .Name (.ofString t) p4] [] p5] X.env = (false, eval (.Attribute (.Name n q1) fld q2) X.env) :: starEach [.Call (.Name xi p2) [.Name n p3, .Name (.ofString t) p4] [] p5] X.env := by rfl)
    (st2 : starEach [.Call (.Name xi p2) [.Name n p3, .Name (.ofString t) p4] [] p5] X.env = (false, eval (.Call (.Name xi p2) [.Name n p3, .Name (.ofString t) p4] [] p5) X.env) :: starEach [] X.env := by rfl)
    (st3 : starEach [.Name n p3, .Name (.ofString t) p4] X.env = (false, eval (.Name n p3) X.env) :: starEach [.Name (.ofString t) p4] X.env := by rfl) (st4 : starEach [.Name (.ofString t) p4] X.env = (false, eval (.Name (.ofString t) p4) X.env) :: starEach [] X.env := by rfl)
    (hpl : (backTo p5 (starEach [.Name (.ofString t) p4] X.env)).any (·.1) = false := by rfl) (hab : attributeBase (.Name n q1) fld X.env (eval (.Name n q1) X.env) = eval (.Name n q1) X.env := by rfl)
    (hsw : swapsWith (.List [.Constant (.str tx) ki p1, .Attribute (.Name n q1) fld q2, .Call (.Name xi p2) [.Name n p3, .Name (.ofString t) p4] [] p5] p6) (some (.Name y p7)) pos.line X.env = pure false := by rfl) {np p8 : Pos} :
    JHs T X ⟨[], lp, rm⟩ (.ExceptHandler (some (.Name x np)) (some n) [.Assign [.Name y p7] (.List [.Constant (.str tx) ki p1, .Attribute (.Name n q1) fld q2, .Call (.Name xi p2) [.Name n p3, .Name (.ofString t) p4] [] p5] p6) pos] p8 :: hds) (hSayF cm i c tx b r) := by
  obtain ⟨l, cl, go⟩ := hr.ex
  refine ⟨_, .named C.nm hi hk (fun a oe cls d pn hz hv2 => su_sayF (b := b) i c hN hi hv hc hx hf hd hcd hx0 hg hm hg' hm' hv' hn' hdb st1 st0 st2 st3 st4 hpl hab hz hv2 hsw) cl, fun W B g σ H st e cls dd E I x p => ?_⟩
  cases e with
  | mk j fs =>
    have x' := x
    obtain ⟨C', hC, rfl, x2⟩ := x'
    unfold hSayF at p
    refine ⟨cm j, C.cm j C' hC, fun hb a ha => ?_, fun hb => ?_⟩
    · rw [show (Ex.mk j fs).ix = j from rfl, hb, if_pos rfl] at p
      match fs, x2, p with
      | [], _, p => exact p.elim
      | _ :: _ :: _, _, p => exact p.elim
      | [dv], x2, p =>
        obtain ⟨k1, k2, k3, k4, k5⟩ := Sa.ok j C' hC hb
        rcases x2 with ⟨ne, _⟩ | ⟨_, dx, vs, hdn, hxd, rs, _⟩
        · cases ne
        obtain ⟨v, w', rfl, rv, rw'⟩ := rs
        have ew : w' = [] := rw'
        subst ew
        rw [k5] at hxd
        dsimp only at p
        split at p
        case isFalse => exact p.elim
        rename_i li
        rw [← I.len] at li
        refine ⟨by simp [withName, li], C', dx, [(fld, v)], v, rfl, hdn, hxd, by simp [List.lookup], k1, k2, k3, k4, fun q hq => ?_⟩
        have I2 := (I.toSR.new (o := .lst [.str tx, v, .bl b]) hq).add upd_same (I.wf.noto hq)
        have st1 : Step g H (g.add q) (upd H q (.lst [.str tx, v, .bl b])) := (Step.new hq).add hq
        have I3 := I2.set (i := c) (d := .lst [.str tx, dv, .bl b]) (v := .ref q) rfl (by
          simp only [Rp]
          exact ⟨q, _, rfl, .inr rfl, upd_same, Rps.cons rp_str (Rps.cons (Rp.step I.wf st1 rv) (Rps.cons rp_bl Rps.nil))⟩)
        have I4 := I3.wipe (vs := [i]) fun _ _ => rfl
        refine p _ _ _ st1 ?_
        have es : ((withName (some i) a σ).set c (some (.ref q))).set i none = L2.wipe (σ.set c (some (.ref q))) [i] := by
          show ((σ.set i (some (.ref a))).set c (some (.ref q))).set i none = ((σ.set c (some (.ref q))).set i none)
          rw [List.set_comm _ _ hic, List.set_set, List.set_comm _ _ hic.symm]
        rw [es]
        exact I4
    · rw [show (Ex.mk j fs).ix = j from rfl, hb] at p
      exact go W B g σ H st _ _ dd E I x p
end

/-! ### makers of facts -/
section
variable {P : Program} {K : PySem.W.Frag} {T : Tb} {mg : Str → Option Value} {h : Heap} {x : Str}
/-- the places where such a statement's body may stand -/
structure SupB (st : Stmt) (sf y fld : Str) : Prop where
  ex : ∃ (p0 p1 p2 p3 p4 p5 p6 p7 p8 p9 : Pos) (ar : Arg), defBody st = [.Expr (.Call (.Attribute (.Call (.Name "super" p0) [] [] p1) "__init__" p2) [.Name y p3] [] p4) p5, .Assign [.Attribute (.Name sf p6) fld p7] (.Name y p8) p9] ∧
    ((defArgs st).posonlyargs ++ (defArgs st).args).head? = some ar ∧ ar.arg = sf
end
end DL

set_option linter.all false
set_option Elab.async false
set_option maxRecDepth 100000
set_option maxHeartbeats 4000000
namespace DL
open PySem PySem.Spec PySem.Calls PyProof.Rows L2

/-! ### statements never come to -/
theorem jss_never {T : Tb} {X : Cx} {Γ : Fls} {F : Fx} {ss : List Stmt} : JSs T X Γ F ss (fun _ => .stuck) := ⟨fun W tk => ⟨fun pins s σ H Q I ⟨B, g, st, _, p⟩ => p.elim⟩⟩

/-! ### own.remove(e), of ints -/
def allI : List D → Bool
  | [] => true
  | .int _ :: r => allI r
  | _ => false
def remL (k : Int) : List D → Option (List D)
  | .int i :: r => if i == k then (if allI r then some r else none) else (remL k r).map (D.int i :: ·)
  | _ => none
theorem allI_ints : ∀ {ds : List D}, allI ds = true → ∃ ns : List Int, ds = ns.map D.int
  | [], _ => ⟨[], rfl⟩
  | .int i :: r, h => by
    obtain ⟨ns, e⟩ := allI_ints (ds := r) h
    exact ⟨i :: ns, by rw [e]; rfl⟩
theorem remL_ints {k : Int} : ∀ {ds ds' : List D}, remL k ds = some ds' → ∃ (ns : List Int) (j : Nat), ds = ns.map D.int ∧ ns[j]? = some k ∧ (∀ m : Nat, m < j → ns[m]? ≠ some k) ∧ ds' = (ns.eraseIdx j).map D.int
  | .int i :: r, ds', h => by
    rw [remL] at h
    split at h
    · rename_i e
      split at h
      · rename_i ha
        obtain ⟨ns, rfl⟩ := allI_ints ha
        cases h
        exact ⟨i :: ns, 0, rfl, by rw [beq_iff_eq.mp e] <;> rfl, fun m hm => absurd hm (Nat.not_lt_zero _), rfl⟩
      · cases h
    · rename_i e
      cases h2 : remL k r with
      | none => rw [h2] at h; cases h
      | some d2 =>
        rw [h2] at h
        cases h
        obtain ⟨ns, j, rfl, h3, h4, rfl⟩ := remL_ints h2
        refine ⟨i :: ns, j + 1, rfl, h3, fun m hm => ?_, rfl⟩
        cases m with
        | zero => exact fun z => e (beq_iff_eq.mpr (Option.some.inj z))
        | succ m => exact h4 m (Nat.lt_of_succ_lt_succ hm)
theorem rps_ints {K : PySem.W.Frag} {T : Tb} {g : Gh} {H : Hp} : ∀ {ns : List Int} {vs : List V}, Rps K T g H (ns.map D.int) vs → vs = ns.map V.int
  | [], vs, h => h
  | n :: ns, vs, h => by
    obtain ⟨v, r, rfl, h1, h2⟩ := h
    rw [rps_ints h2]
    simp only [Rp] at h1
    rw [h1]
    rfl
def sRem (i : Nat) (f : S → R D) : S → RS := fun s => match s.r.getD i none with
  | some _ => (f s).then fun d s1 => (match s1.r.getD i none, d with
    | some (.lst xs), .int k => (match remL k xs with
      | some ys => .next { s1 with r := s1.r.set i (some (.lst ys)) }
      | none => .stuck)
    | _, _ => .stuck)
  | none => .stuck
section
variable {T : Tb} {X : Cx} {Γ : Fls} {e : Expr} {f : S → R D} {pos pos' : Pos} {lp : Fls} {rm : Mo}
theorem js_rem (i : Nat) {x : Str} {p' ap : Pos} (he : JE T X Γ e .sh f) (hN : X.N[i]? = some x := by rfl) (hv : Vis X.env.scope x := by first | exact Or.inl rfl | exact Or.inr (Or.inl rfl) | exact Or.inr (Or.inr rfl)) (hf : fl Γ i = .o1 := by rfl)
    (hd : (x == ("__debug__" : Str)) = false := by decide) (hcd : (x == ("__classdict__" : Str)) = false := by decide)
    (hb : ∀ {te : TE}, PE X e te → PE X (.Call (.Attribute (.Name x p') "remove" ap) [e] [] pos') (tBM X.K "list" rRemI (tVar i) (tCons te tNil)) := by
      exact fun h => pe_bm PySem.F.plainAttrs_list PySem.F.slot_list_remove PySem.F.type_list_remove mt_remove (pv _) (pa_cons h pa_nil))
    (hs : swapsWith (.Call (.Attribute (.Name x p') "remove" ap) [e] [] pos') none pos.line X.env = pure false := by rfl) : JS T X Γ ⟨Γ, lp, rm⟩ (.Expr (.Call (.Attribute (.Name x p') "remove" ap) [e] [] pos') pos) (sRem i f) := by
  refine ⟨fun W tk => PS.imp (ps_expr (hb (he.run W tk)) hs) fun E σ H ⟨B, g, st, I, p⟩ => ?_⟩
  unfold sRem at p
  cases e0 : st.r.getD i none with
  | none => rw [e0] at p; exact p.elim
  | some d0 =>
    rw [e0] at p
    obtain ⟨ad, vs0, ds0, e1, h1, h1', h2, h3, h4⟩ := I.getO hf e0
    refine ⟨_, h1, .inl ⟨rfl, _, .inl (.inl h3)⟩, te_then I.toSR p fun d s1 x H1 g1 q1 I1 r1 p1 => ?_⟩
    cases e2 : s1.r.getD i none with
    | none => rw [e2] at p1; exact p1.elim
    | some d1 =>
      rw [e2] at p1
      obtain ⟨ad', vs, ds, e3, _, h1'', h2', h3', h4'⟩ := I1.getO hf e2
      subst e3
      have ea : ad' = ad := by
        rw [h1'] at h1''
        cases h1''
        rfl
      subst ea
      cases d with
      | int k =>
        dsimp only at p1
        cases hr : remL k ds with
        | none => rw [hr] at p1; exact p1.elim
        | some ys =>
          rw [hr] at p1
          obtain ⟨ns, j, rfl, j1, j2, rfl⟩ := remL_ints hr
          have ev := rps_ints h4'
          subst ev
          have ex : x = V.int k := by simpa only [RpM, Rp] using r1
          subst ex
          obtain ⟨st2, I2⟩ := I1.own1 hf h2' h1' ⟨_, h3'⟩ (Rps.ints (K := X.K) (T := T) (g := g1) (H := H1) (ns.eraseIdx j))
          exact ⟨ad', ns, k, j, rfl, rfl, h3', j1, j2, p1 σ _ g1 st2 I2⟩
      | _ => exact p1.elim
end

/-! ### tuple(range(n)): a tuple that has no dict -/
def tTupRgP (t : L2.St → Hp → (Int → Int → Hp → Prop) → Prop) : TE := fun σ H Q => t σ H fun a b H1 => RgOk a b ∧ ∀ q o, o.dict = none → H1 q = none → Q (.ref q) (upd H1 q (.frz o (.tup (rgV a b))))
section
variable {X : Cx} {e : Expr} {t : L2.St → Hp → (Int → Int → Hp → Prop) → Prop}
theorem pe_tupRgP {p pos : Pos} (hc : X.calm = true) (hg : Gl X "tuple") (hm : X.mg "tuple" = none) (he : PRg X e t) (na : starEach [e] X.env = (false, eval e X.env) :: starEach [] X.env) : PE X (.Call (.Name "tuple" p) [e] [] pos) (tTupRgP t) := by
  refine ⟨fun pins s σ H Q I h => ?_⟩
  refine Call_ (ld_blt I hg hm PyProof.Rows.boot_tuple (PyProof.Rows.callWith_type1 (args_cons (thn (he pins s σ H _ I h) fun x s1 ⟨r, a, b, c, u, v, H1, ex, hr, J, ok, q⟩ => args_nil ?_) na) na))
  subst ex
  obtain ⟨b1, b2, b3, b4, b5⟩ := ok
  refine call_tuple_range (n := (b - a).toNat) (J.ok.hd hc) hr (small_one b1 b2 b3 b4) (rangeSize_nat a b) b5 fun h2 t2 ac hk hi => ?_
  have J2 : Inv X pins σ H1 { s1 with heap := h2, toks := t2 } := J.kept hk
  refine ⟨.ref h2.objs.size, upd H1 h2.objs.size (.frz { cls := .type "tuple", data := .seq ac } (.tup (rgV a b))), J2.laid (t' := t2) (fun c o z => Heap.get?_push_of_some _ z) (Nat.le_refl _) (show ObjOk X.prog X.w _ _ _ (.frz _ (.tup (rgV a b))) from ⟨Heap.get?_push_size _ rfl, ?_, ac.toList, vals_rg hi, ?_⟩), rfl, q _ _ rfl (J2.hok.fresh (Nat.le_refl _))⟩
  · rw [rgV_length, sizeLine_eq]; omega
  · rw [Array.toArray_toList]; exact IsTup.new _ _
end
def trgD : D → S → R D
  | .int n, s => if n.natAbs ≤ 16777216 then .ok (.pt (rngL 0 n.toNat)) s else .stuck
  | _, _ => .stuck
section
variable {T : Tb} {X : Cx} {Γ : Fls} {e : Expr} {f : S → R D} {pos : Pos}
theorem je_tupRg {p p2' rpos : Pos} (hc : X.calm = true) (hg : Gl X "tuple") (hm : X.mg "tuple" = none) (hg2 : Gl X "range") (hm2 : X.mg "range" = none) (he : JE T X Γ e .b1 f)
    (na : starEach [.Call (.Name "range" p2') [e] [] rpos] X.env = (false, eval (.Call (.Name "range" p2') [e] [] rpos) X.env) :: starEach [] X.env := by rfl) (nb : starEach [e] X.env = (false, eval e X.env) :: starEach [] X.env := by rfl) :
    JE T X Γ (.Call (.Name "tuple" p) [.Call (.Name "range" p2') [e] [] rpos] [] pos) .sh (e1 trgD f) := by
  refine ⟨fun W tk => PE.imp (pe_tupRgP hc hg hm (prg_1 hg2 hm2 (he.run W tk) nb) na) fun σ H Q ⟨g, st, I, p⟩ => ?_⟩
  refine te_bind ipE I p fun d1 s1 x H1 g1 q1 I1 r1 p1 => ?_
  unfold trgD at p1
  split at p1
  · rename_i n
    split at p1
    · rename_i hz
      refine ⟨n, b_int r1, ⟨by omega, by omega, by omega, by omega, by omega⟩, fun q o ho hq => ?_⟩
      have e1 : rgV 0 n = ((List.range n.toNat).map fun (i : Nat) => (0 : Int) + (i : Int)).map V.int := by
        unfold rgV
        rw [List.map_map, Int.sub_zero]
        rfl
      have e2 : rngL 0 n.toNat = ((List.range n.toNat).map fun (i : Nat) => (0 : Int) + (i : Int)).map D.int := by
        unfold rngL
        rw [List.map_map]
        rfl
      rw [e1]
      rw [e2] at p1
      refine p1 _ _ g1 ⟨.new hq, rfl, fun i b hb => ?_⟩ (I1.new hq) ?_
      · obtain ⟨o, e, _⟩ := I1.wf.ot b (.inl ⟨i, hb⟩)
        rw [upd_ne (ne_of_none e hq)]
      · simp only [RpM, Rp]
        exact ⟨q, _, o, rfl, upd_same, ho, (Rps.ints _).step I1.wf (.new hq)⟩
    · exact p1.elim
  · exact p1.elim
end

/-! ### facts of an exception with its own __init__ -/
def inSt : Stmt → Stmt
  | .ClassDef (body := b) .. => b.getD 0 (.Pass ⟨0, 0, 0, 0⟩)
  | s => s
section
variable {P : Program} {K : PySem.W.Frag} {T : Tb} {mg : Str → Option Value} {h : Heap} {x : Str}
theorem init_ok {C f cda cc : Addr} {fld : Str} {B newId initId : String} {bmB : List Value} {qual : Str} {st : Stmt} {kV doc pm ct oc ccl cl : Value} {an od cdd cld : Option Addr} {osl ccs csl : Array (Option Value)} {vs : Array Value} {file : Str} {tf : Tok} {cd : ClassData} {sf y : Str} {p0 p1 p2 p3 p4 p5 p6 p7 p8 p9 : Pos} {ar : Arg}
    (Z : SupC K C fld B newId initId bmB) (hsup : mg "super" = none)
    (lk : K.lookup f = some ⟨oc, od, .func (PySem.W.ksFn "__init__" qual (defArgs st) (defBody st) (defScope st) .none kV doc pm an (.ref cda) ct cc), osl⟩) (hcd : PySem.W.codeIn K (.ref cda) qual = true) (lc : K.lookup cda = some ⟨ccl, cdd, .fields vs, ccs⟩) (lv : vs[2]? = some (.str file tf)) (lf : (P.main.file == file) = true)
    (lx : K.lookup cc = some ⟨cl, cld, .cell (some (.ref C)), csl⟩) (lC : PySem.W.clsIn K C = some cd) (top : (P.main.scope.names.lookup ("super" : Str)).isSome = false)
    (hb : defBody st = [.Expr (.Call (.Attribute (.Call (.Name "super" p0) [] [] p1) "__init__" p2) [.Name y p3] [] p4) p5, .Assign [.Attribute (.Name sf p6) fld p7] (.Name y p8) p9])
    (hpr : ((defArgs st).posonlyargs ++ (defArgs st).args).head? = some ar := by rfl) (har : ar.arg = sf := by rfl) (hyn : y ≠ sf := by decide)
    (k1 : (defScope st).names.lookup ("super" : Str) = some .globalImplicit := by rfl) (k2 : (defScope st).names.lookup ("__class__" : Str) = some .free := by rfl) (k3 : (defScope st).names.lookup sf = some .local := by rfl) (k3y : (defScope st).names.lookup y = some .local := by rfl) (k4 : (defScope st).kind = .function := by rfl) (k5 : (defScope st).isCoroutine = false := by rfl) (k6 : (defScope st).isGenerator = false := by rfl)
    (k7 : ∀ x ∈ (defScope st).names, x.2 ≠ .cell := by decide +kernel)
    (hsd : (sf == ("__debug__" : Str)) = false := by decide) (hyd : (y == ("__debug__" : Str)) = false := by decide)
    (c1 : ∀ env : Env, env.scope = defScope st → interactive env = false := by intro env hh; unfold interactive; rw [hh] <;> rfl)
    (c2 : ∀ env : Env, swapsWith (.Call (.Attribute (.Call (.Name "super" p0) [] [] p1) "__init__" p2) [.Name y p3] [] p4) none p5.line env = pure false := by intro env; rfl)
    (c3 : ∀ env : Env, swapsWith (.Name y p8) (some (.Attribute (.Name sf p6) fld p7)) p9.line env = pure false := by intro env; rfl)
    (c4 : ∀ env : Env, ∃ pl : Sem Bool, eval (.Call (.Attribute (.Call (.Name "super" p0) [] [] p1) "__init__" p2) [.Name y p3] [] p4) env = (do
      let ov ← attributeBase (.Call (.Name "super" p0) [] [] p1) "__init__" env (eval (.Call (.Name "super" p0) [] [] p1) env)
      standAt p2.atName
      let (f, first) ← holding [ov] (getMethod ov "__init__" pl)
      callWith p4 f first (backTo p4 (starEach [.Name y p3] env)) []) := by intro env; exact ⟨_, rfl⟩)
    (c5 : ∀ env : Env, starEach [.Name y p3] env = (false, eval (.Name y p3) env) :: starEach [] env := by intro env; rfl)
    (c6 : ∀ env : Env, (backTo p4 (starEach [] env)).any (·.1) = false := by intro env; rfl) (c7 : ∀ env : Env, backTo p4 ((false, eval (.Name y p3) env) :: starEach [] env) = (false, eval (.Name y p3) env) :: [] := by intro env; rfl)
    (bnd : ∀ (s : Shared) (e : Addr) (v : Value), BindsTo s (PySem.W.ksFn "__init__" qual (defArgs st) (defBody st) (defScope st) .none kV doc pm an (.ref cda) ct cc) ⟨[.ref e, v], []⟩ [(sf, .ref e), (y, v)] := by intro s e v; exact .of_eq rfl) : InitOk P K mg C f fld :=
  fun w A R base hp gs d t os e t0 v M kb eb he hroom hq => sup_init M kb eb he Z hsup lk hcd lc lv lf lx lC hpr har hyn k1 k2 k3 k3y k4 k5 k6 k7 top hb hsd hyd (fun env q => c1 env (by rw [q])) (fun env _ => c2 env) (fun env _ => c3 env) (fun env _ => c4 env) c5 c6 c7 (bnd _ e v) hroom hq
theorem exc1_mk {C f : Addr} {fld : Str} {B newId initId : String} {bmB : List Value} {i : Nat} (X : K.In h) (G : h.Ns mainGlobals mg) (a : PySem.W.nsIn K mainGlobals x = some (some (.ref C))) (hT : T.exc i = some C) (hF : T.fld i = [fld]) (Z : SupC K C fld B newId initId bmB)
    (iC : PySem.W.findIn K (.ref C) "__init__" = some (some (.ref f))) (tI : PySem.W.typeIn K (.ref f) = some (.type "function")) (io : InitOk P K mg C f fld) : Exc1 P K T mg x i :=
  ⟨C, f, fld, B, newId, initId, bmB, hT, hF, PySem.W.mg_of X G a, Z, iC, tI, io⟩
end
end DL

set_option linter.all false
set_option Elab.async false
set_option maxRecDepth 100000
set_option maxHeartbeats 4000000
namespace DL
open PySem PySem.Spec PyProof.Rows L2

/-! ### comprehensions that walk over an own list: nothing writes into it meanwhile -/
structure WlkQ (K : PySem.W.Frag) (T : Tb) (g : Gh) (H : Hp) (J : It) (ds : List D) : Prop where
  go : ∀ i d g' H', QStep g H g' H' → WF g' H' → ds[i]? = some d → J.go i H'
  stop : ∀ g' H', QStep g H g' H' → WF g' H' → J.stop ds.length H'
  yld : ∀ i d g' H' x H'', QStep g H g' H' → WF g' H' → ds[i]? = some d → J.yld i H' x H'' → (H'' = H' ∧ Rp K T g' H' d x) ∨ (∃ p vs, H' p = none ∧ H'' = upd H' p (.tup vs) ∧ Rp K T g' H'' d x)
def PostIQ (K : PySem.W.Frag) (T : Tb) (Γ : Fls) (σ : L2.St) (g : Gh) (H : Hp) (W : WX) (Q : It → Hp → Prop) : R (List D) → Prop
  | .ok ds st => ∀ J H' g', QStep g H g' H' → SR K T Γ g' σ H' st → WlkQ K T g' H' J ds → Q J H'
  | .raise e st => PostX K T σ g H W e st
  | .stuck => False
def tiQ (K : PySem.W.Frag) (T : Tb) (Γ : Fls) (W : WX) (f : S → R (List D)) : TI := fun σ H R => ∃ g st, SR K T Γ g σ H st ∧ PostIQ K T Γ σ g H W R (f st)
structure JIQ (T : Tb) (X : Cx) (Γ : Fls) (tg e : Expr) (f : S → R (List D)) : Prop where
  run : ∀ W, Takes X W → PI X tg e (tiQ X.K T Γ W f)
theorem wlkQ_l {K : PySem.W.Frag} {T : Tb} {g : Gh} {H : Hp} {a : Addr} {vs : List V} {ds : List D} (wf : WF g H) (h : ∀ g' H', QStep g H g' H' → SqL K H' a vs) (r : Rps K T g H ds vs) : WlkQ K T g H (Itl K a) ds where
  go := fun i d g' H' s w e => by
    obtain ⟨v, q, _⟩ := r.get e
    exact ⟨vs, v, h g' H' s, q⟩
  stop := fun g' H' s w => ⟨vs, h g' H' s, by rw [r.length]; exact Nat.le_refl _⟩
  yld := fun i d g' H' x H'' s w e y => by
    obtain ⟨v, q, rv⟩ := r.get e
    obtain ⟨e1, y⟩ := y
    have := (y vs (h g' H' s)).symm.trans q
    cases this
    exact .inl ⟨e1, Rp.step wf s.toStep rv⟩
section
variable {T : Tb} {X : Cx} {Γ : Fls}
theorem ji_own (i : Nat) {tg : Expr} {x : Str} {pos : Pos} (hN : X.N[i]? = some x := by rfl) (hv : Vis X.env.scope x := by first | exact Or.inl rfl | exact Or.inr (Or.inl rfl) | exact Or.inr (Or.inr rfl)) (hd : (x == ("__debug__" : Str)) = false := by decide)
    (hcd : (x == ("__classdict__" : Str)) = false := by decide) (hf : fl Γ i = .o1 := by rfl) : JIQ T X Γ tg (.Name x pos) (i1 seqI (eVar i)) := by
  refine ⟨fun W tk => PI.imp (pi_seq (pe_var hN hv hd hcd)) fun σ H R ⟨g, st, I, p⟩ => ?_⟩
  unfold i1 eVar at p
  cases e : st.r.getD i none with
  | none =>
    rw [e] at p
    exact p.elim
  | some d =>
    rw [e] at p
    obtain ⟨v, h1, h2⟩ := I.slot e
    rw [hf] at h2
    obtain ⟨ad, vs, ds, e1, e2, e3, h3, h4⟩ := h2
    subst e1 e2
    refine ⟨_, h1, ad, rfl, .inl ⟨⟨vs, .inl (.inl h3)⟩, p _ H g (.refl g H) I (wlkQ_l I.wf (fun g' H' s => .inl (.inl ?_)) h4)⟩⟩
    rw [s.qo i ad (by rw [e3]; exact List.mem_cons_self)]
    exact h3
end
section
variable {T : Tb} {X : Cx} {Γ : Fls} {e a b c tg elt iter : Expr} {m m1 m2 m3 : Mo} {f f1 f2 f3 fe : S → R D} {pos p2 : Pos} {es rest ifs : List Expr} {k1 k2 ct : S → R Bool} {fs fi : S → R (List D)} {is : List Nat} {t : Tg}
theorem lcQ_inv {own : List (Str × Nat)} {W : WX} (tk : Takes X W) (hown : own.map (·.2) = t.vs) (hf : ∀ i ∈ t.vs, fl Γ i = .sh)
    {σ : L2.St} {H1 : Hp} {g1 : Gh} {ds : List D} {s1 : S} {J : It} {ys : List D} {mf : List Cell} (I1 : SR X.K T Γ g1 σ H1 s1) (wl : WlkQ X.K T g1 H1 J ds) (hz : ds.length ≤ sizeLine)
    (e : lcL t ct fe s1.r ds s1.m = some (ys, mf)) {Q : VK} (q : PostE X.K T Γ σ g1 H1 .f1 W Q (.ok (.lst ys) ⟨s1.r, mf⟩)) (Dd : Addr) (hD : H1 Dd = none) :
    ∃ Wi : Nat → Nat → Hp → Prop, (∃ m, Wi 0 m (upd H1 Dd (.lst []))) ∧ ∀ i m H, Wi i m H →
      (J.stop i H ∧ Q (.ref Dd) H) ∨ (J.go i H ∧ ∃ Nx : Hp → Prop, (∀ H', Nx H' → ∃ m', m' < m ∧ Wi (i + 1) m' H') ∧ ∀ x H', J.yld i H x H' → tgR X.K T t x (wipe σ (own.map (·.2))) H' fun σ2 H2 => wipe σ2 (own.map (·.2)) = wipe σ (own.map (·.2)) ∧ tt X.K T Γ (fun _ _ _ _ => False) ct σ2 H2 fun b H3 =>
        if b = true then te X.K T Γ .sh (fun _ _ _ _ => False) fe σ2 H3 fun y H4 => ∃ acc, H4 Dd = some (.lst acc) ∧ acc.length < sizeLine ∧ Nx (upd H4 Dd (.lst (acc ++ [y]))) else Nx H3) := by
  rw [hown]
  let Inv : Nat → Hp → Prop := fun i H => ∃ g mc acc vs rs, QStep g1 H1 g H ∧ SR X.K T Γ g σ H ⟨s1.r, mc⟩ ∧ Tmp g H Dd ∧ H Dd = some (.lst vs) ∧ Rps X.K T g H acc vs ∧ acc.length ≤ i ∧ lcL t ct fe s1.r (ds.drop i) mc = some (rs, mf) ∧ acc ++ rs = ys
  refine ⟨fun i m H => i ≤ ds.length ∧ m = ds.length - i ∧ Inv i H, ⟨ds.length, Nat.zero_le _, by simp, ?_⟩, ?_⟩
  · refine ⟨g1, s1.m, [], [], ys, ⟨.new hD, rfl, fun i b hb => ?_⟩, I1.new hD, ⟨⟨[], upd_same⟩, I1.wf.nota hD, I1.wf.noto hD⟩, upd_same, Rps.nil, Nat.le_refl _, by rw [List.drop_zero]; exact e, rfl⟩
    obtain ⟨o, eo, _⟩ := I1.wf.ot b (.inl ⟨i, hb⟩)
    rw [upd_ne (ne_of_none eo hD)]
  · rintro i m H ⟨hi, rfl, g, mc, acc, vs, rs, s, I, tm, eD, ra, hl, el, ey⟩
    by_cases hlt : i < ds.length
    · -- a turn
      have ed : ds.drop i = ds[i] :: ds.drop (i + 1) := (List.drop_eq_getElem_cons hlt)
      have eg : ds[i]? = some ds[i] := List.getElem?_eq_getElem hlt
      refine .inr ⟨wl.go i _ g H s I.wf eg, Inv (i + 1), fun H' h' => ⟨ds.length - (i + 1), by omega, hlt, rfl, h'⟩, fun x H' y => ?_⟩
      rw [ed] at el
      unfold lcL at el
      -- the item has come
      have hy : ∃ sH : QStep g1 H1 g H', SR X.K T Γ g σ H' ⟨s1.r, mc⟩ ∧ Tmp g H' Dd ∧ H' Dd = some (.lst vs) ∧ Rps X.K T g H' acc vs ∧ Rp X.K T g H' ds[i] x := by
        rcases wl.yld i _ g H x H' s I.wf eg y with ⟨e1, r⟩ | ⟨p, ws, hp, e1, r⟩
        · subst e1
          exact ⟨s, I, tm, eD, ra, r⟩
        · subst e1
          have st2 : Step g H g (upd H p (.tup ws)) := .new hp
          exact ⟨s.trans ⟨st2, rfl, fun i b hb => by
            obtain ⟨o, eo, _⟩ := I.wf.ot b (.inl ⟨i, hb⟩)
            rw [upd_ne (ne_of_none eo hp)]⟩, I.new hp, tm.step st2, by rw [upd_ne (ne_of_none eD hp)]; exact eD, ra.step I.wf st2, r⟩
      obtain ⟨s', I', tm', eD', ra', rx⟩ := hy
      cases ea : asgD t ds[i] ⟨wipeD s1.r t.vs, mc⟩ with
      | none => rw [ea] at el; cases el
      | some s2 =>
        rw [ea] at el
        simp only at el
        refine tgR_of (I'.wipe hf) rx hf ea fun σ2 I2 hw => ⟨?_, ?_⟩
        · rw [hw t.vs fun _ h => h, wipe_wipe σ t.vs t.vs fun _ h => h]
        · refine ⟨g, s2, I2, ?_⟩
          cases ec : ct s2 with
          | raise _ _ => rw [ec] at el; cases el
          | stuck => rw [ec] at el; cases el
          | ok b s3 =>
            rw [ec] at el
            intro H3 g3 q3 I3
            cases b with
            | false =>
              simp only at el
              rw [if_neg Bool.false_ne_true]
              have eD3 := q3.fr _ _ eD' tm'.no
              exact ⟨g3, s3.m, acc, vs, rs, s'.trans q3, I'.re (q3.toStep.sub I'.wf) I3.wf q3.qf q3.qo I3.me, tm'.step q3.toStep, eD3, ra'.step I'.wf q3.toStep, Nat.le_succ_of_le hl, el, ey⟩
            | true =>
              simp only at el
              rw [if_pos rfl]
              refine ⟨g3, s3, I3, ?_⟩
              cases ef : fe s3 with
              | raise _ _ => rw [ef] at el; cases el
              | stuck => rw [ef] at el; cases el
              | ok yd s4 =>
                rw [ef] at el
                simp only at el
                cases er : lcL t ct fe s1.r (ds.drop (i + 1)) s4.m with
                | none => rw [er] at el; cases el
                | some pr =>
                  rw [er] at el
                  obtain ⟨ys', m'⟩ := pr
                  simp only [Option.some.injEq, Prod.mk.injEq] at el
                  obtain ⟨el1, el2⟩ := el
                  subst el1 el2
                  intro v H4 g4 q4 I4 rv
                  have q34 := q3.trans q4
                  have eD4 := q34.fr _ _ eD' tm'.no
                  have tm4 := tm'.step q34.toStep
                  have ra4 := ra'.step I'.wf q34.toStep
                  refine ⟨vs, eD4, by rw [ra'.length]; omega, ?_⟩
                  refine ⟨g4, s4.m, acc ++ [yd], vs ++ [v], ys', tm4.q hD (s'.trans q34) I1.wf, tm4.sr (I'.re (q34.toStep.sub I'.wf) I4.wf q34.qf q34.qo I4.me), ⟨⟨_, upd_same⟩, tm4.na, tm4.no⟩, upd_same, (ra4.append (.one rv)).sub tm4.sub, by rw [List.length_append]; simp; omega, er, by rw [List.append_assoc]; exact ey⟩
    · have hi' : i = ds.length := by omega
      subst hi'
      refine .inl ⟨wl.stop g H s I.wf, ?_⟩
      rw [List.drop_length] at el
      simp only [lcL, Option.some.injEq, Prod.mk.injEq] at el
      obtain ⟨e1, e2⟩ := el
      subst e1 e2
      rw [List.append_nil] at ey
      subst ey
      exact q _ H g s I ⟨Dd, vs, rfl, eD, ⟨tm.na, tm.no, hD⟩, ra⟩

theorem je_lcQ {scope : Scope} (own : List (Str × Nat)) (hc : X.calm = true) (hN : X.N.Nodup) (hi : JIQ T X Γ tg iter fi) (ok : BlkOk X.N X.env.scope scope own)
    (hg : ∀ (s : Shared) (H : Hp) (C : Addr) (cl : List (Str × Addr)) (fp : List Addr), JG T (X.blk s H scope (compEnvC scope cl C X.env) fp) tg t) (ht : ∀ (s : Shared) (H : Hp) (C : Addr) (cl : List (Str × Addr)) (fp : List Addr), JTs T (X.blk s H scope (compEnvC scope cl C X.env) fp) Γ ifs ct)
    (he : ∀ (s : Shared) (H : Hp) (C : Addr) (cl : List (Str × Addr)) (fp : List Addr), JE T (X.blk s H scope (compEnvC scope cl C X.env) fp) Γ elt .sh fe) (hown : own.map (·.2) = t.vs := by rfl) (hf : ∀ i ∈ t.vs, fl Γ i = .sh := by decide) (hs : ∀ x, foldedSetIterable iter X.env x = pure x := by intro _; rfl) :
    JE T X Γ (.ListComp elt [⟨tg, iter, ifs, 0⟩] scope pos) .f1 (eLc fi t ct fe) := by
  refine ⟨fun W tk => PE.imp (pe_lc (g := tgR X.K T t) (tt := tt X.K T Γ (fun _ _ _ _ => False) ct) (te := te X.K T Γ .sh (fun _ _ _ _ => False) fe) hc hN (hi.run W tk) ok (fun s H C cl fp => (hg s H C cl fp).run) (fun s H C cl fp => (ht s H C cl fp).run _ takes0) (fun s H C cl fp => (he s H C cl fp).run _ takes0) hs) fun σ H Q ⟨g, st, I, p⟩ => ?_⟩
  refine ⟨g, st, I, ?_⟩
  unfold eLc at p
  cases e : fi st with
  | raise _ _ => rw [e] at p; exact p
  | stuck => rw [e] at p; exact p
  | ok ds s1 =>
    rw [e] at p
    intro J H1 g1 q1 I1 wl Dd hD
    simp only [R.bind] at p
    split at p
    · split at p
      · rename_i ys mf el
        exact lcQ_inv tk hown hf I1 wl (by assumption) el (p.shift q1) Dd hD
      · exact p.elim
    · exact p.elim
end
section
variable {T : Tb} {X : Cx} {Γ Γ' : Fls} {F : Fx} {e a b c tg iter : Expr} {m m1 m2 m3 : Mo} {f f1 f2 f3 : S → R D} {pos p2 pos' : Pos} {es rest : List Expr} {k1 k2 : S → R Bool} {fs fi : S → R (List D)} {is : List Nat} {t : Tg} {nx lp : Fls} {rm : Mo}
theorem js_setLcQ {y : Str} {py spos : Pos} {elt : Expr} {ifs : List Expr} {scope : Scope} {ct : S → R Bool} {fe : S → R D} (i : Nat) (own : List (Str × Nat)) (hc : X.calm = true) (hN : X.N.Nodup) (hi : JIQ T X Γ tg iter fi) (ok : BlkOk X.N X.env.scope scope own)
    (hg : ∀ (s : Shared) (H : Hp) (C : Addr) (cl : List (Str × Addr)) (fp : List Addr), JG T (X.blk s H scope (compEnvC scope cl C X.env) fp) tg t) (ht : ∀ (s : Shared) (H : Hp) (C : Addr) (cl : List (Str × Addr)) (fp : List Addr), JTs T (X.blk s H scope (compEnvC scope cl C X.env) fp) Γ ifs ct)
    (he : ∀ (s : Shared) (H : Hp) (C : Addr) (cl : List (Str × Addr)) (fp : List Addr), JE T (X.blk s H scope (compEnvC scope cl C X.env) fp) Γ elt .sh fe)
    (hsw : swapsWith (.ListComp elt [⟨tg, iter, ifs, 0⟩] scope pos) (some (.Name y py)) spos.line X.env = pure true)
    (hΓ : ∀ j, fl Γ' j = if j = i then .o1 else fl Γ j) (hy : X.N[i]? = some y := by rfl) (hyl : X.env.scope.names.lookup y = some .local := by rfl)
    (hown : own.map (·.2) = t.vs := by rfl) (hf : ∀ i ∈ t.vs, fl Γ i = .sh := by decide) (hs : ∀ x, foldedSetIterable iter X.env x = pure x := by intro _; rfl) :
    JS T X Γ ⟨Γ', lp, rm⟩ (.Assign [.Name y py] (.ListComp elt [⟨tg, iter, ifs, 0⟩] scope pos) spos) (sAsgF i (eLc fi t ct fe)) := by
  refine ⟨fun W tk => PS.imp (ps_setLc (g := tgR X.K T t) (tt := tt X.K T Γ (fun _ _ _ _ => False) ct) (te := te X.K T Γ .sh (fun _ _ _ _ => False) fe) hc hN hy hyl hsw (hi.run W tk) ok (fun s H C cl fp => (hg s H C cl fp).run) (fun s H C cl fp => (ht s H C cl fp).run _ takes0) (fun s H C cl fp => (he s H C cl fp).run _ takes0) hs) fun E σ H ⟨B, g, st, I, p⟩ => ?_⟩
  refine ⟨g, st, I.toSR, ?_⟩
  unfold sAsgF eLc at p
  cases e : fi st with
  | raise _ _ => rw [e] at p; exact fun cls dd H' g' => p cls dd σ H' g'
  | stuck => rw [e] at p; exact p
  | ok ds s1 =>
    rw [e] at p
    intro J H1 g1 q1 I1 wl Dd hD
    simp only [R.bind] at p
    split at p
    · split at p
      · rename_i ys mf el
        simp only [R.then] at p
        refine lcQ_inv (W := W) (Q := fun x H1 => gName i x σ H1 E.nx) tk hown hf I1 wl (by assumption) el (fun v H2 g2 q2 I2 r2 => ?_) Dd hD
        obtain ⟨L, st2, I3, _⟩ := I2.asg (Γ' := Γ') (i := i) (q1.trans q2).toStep (.inr (.inl rfl)) (r2.base q1.tr) (fun j => by rw [hΓ j]; rfl)
        exact p _ H2 _ st2 I3
      · exact p.elim
    · exact p.elim
/-- x, y = a, b by way of a tuple, with fresh lists -/
theorem js_parMT {m1 m2 : Mo} {a b : Expr} {f1 f2 : S → R D} {Γ2 : Fls} (i j : Nat) {x y : Str} {px py pt : Pos} {kt k2 pt2} (ha : JE T X Γ a m1 f1) (hb : JE T X Γ b m2 f2) (hm1 : m1 = .sh ∨ m1 = .f1) (hm2 : m2 = .sh ∨ m2 = .f1)
    (hΓ1 : ∀ k, fl Γ2 k = if k = j then m2.fl else fl Γ k) (hΓ2 : ∀ k, fl Γ' k = if k = i then m1.fl else fl Γ2 k) (hg : JG T X (.Tuple [.Name x px, .Name y py] kt pt) (.many [i, j])) (hij : i ≠ j := by decide)
    (hs : swapsWithSole [.Tuple [.Name x px, .Name y py] kt pt] (.Tuple [a, b] k2 pt2) pos.line X.env = pure false := by rfl) (hw : swappedStores [.Tuple [.Name x px, .Name y py] kt pt] (.Tuple [a, b] k2 pt2) X.env = pure none := by rfl)
    (h1 : (assignEach [.Tuple [.Name x px, .Name y py] kt pt] X.env).map (·.2) = [assign (.Tuple [.Name x px, .Name y py] kt pt) X.env] := by rfl)
    (hst : starEach [a, b] X.env = (false, eval a X.env) :: starEach [b] X.env := by rfl) (hst2 : starEach [b] X.env = (false, eval b X.env) :: starEach [] X.env := by rfl) :
    JS T X Γ ⟨Γ', lp, rm⟩ (.Assign [.Tuple [.Name x px, .Name y py] kt pt] (.Tuple [a, b] k2 pt2) pos) (sParM m1 m2 i j f1 f2) := by
  refine ⟨fun W tk => PS.imp (ps_asg (pe_tup (pa_cons (ha.run W tk) (pa_cons (hb.run W tk) pa_nil hst2) hst)) hg.run hs hw h1) fun E σ H ⟨B, g, st, I, p⟩ => ?_⟩
  have fm : ∀ {m : Mo} {d : D}, (m = .sh ∨ m = .f1) → isL m d = true → flOf m d = m.fl := by
    intro m d h q
    rcases h with rfl | rfl
    · rfl
    · cases d <;> first | rfl | cases q
  refine ⟨g, st, I.toSR, ?_⟩
  unfold sParM at p
  cases e1 : f1 st with
  | raise ex s1 => rw [e1] at p; exact fun cls dd H' g' => p cls dd σ H' g'
  | stuck => rw [e1] at p; exact p
  | ok d1 s1 =>
    rw [e1] at p
    intro v H1 g1 q1 I1 r1
    refine ⟨g1, s1, I1, ?_⟩
    simp only [R.then] at p
    cases e2 : f2 s1 with
    | raise ex s2 => rw [e2] at p; exact fun cls dd H' g' s => p cls dd σ H' g' (q1.toStep.trans s)
    | stuck => rw [e2] at p; exact p
    | ok d2 s2 =>
      rw [e2] at p
      intro w H2 g2 q2 I2 r2
      simp only at p
      split at p
      case isFalse => exact p.elim
      rename_i hz
      rw [Bool.and_eq_true] at hz
      obtain ⟨L, k1, k2', k3⟩ := I2.asg (Γ' := Γ2) (i := j) q2.toStep (by rcases hm2 with h | h <;> simp [h]) r2 (by rw [fm hm2 hz.2]; exact hΓ1)
      have r1' := RpM.slot (i := j) hm1 (fun b hb => (k3 b hb).2.2) r1 (r1.step I1.wf I2.wf q2)
      obtain ⟨L', k4, k5, _⟩ := k2'.asg (Γ' := Γ') (i := i) (q1.toStep.trans k1) (by rcases hm1 with h | h <;> simp [h]) r1' (by rw [fm hm1 hz.1]; exact hΓ2)
      refine ⟨by show 2 ≤ sizeLine; decide, fun pp hp => ⟨pp, [v, w], rfl, .inl (.inl upd_same), rfl, ?_⟩⟩
      show E.nx ((σ.set i (some v)).set j (some w)) _
      rw [show (σ.set i (some v)).set j (some w) = (σ.set j (some w)).set i (some v) from List.set_comm _ _ hij]
      rw [show ((s2.r.set i (some d1)).set j (some d2)) = (s2.r.set j (some d2)).set i (some d1) from List.set_comm _ _ hij] at p
      exact p _ _ _ (k4.trans (.new hp)) (k5.new hp)
end
end DL

set_option linter.all false
set_option Elab.async false
set_option maxRecDepth 100000
set_option maxHeartbeats 2000000
namespace DL
open PySem PySem.Spec PyProof.Rows L2
/-! ### join of a cell -/
def joinC : D → D → S → R D
  | .str a, .ref n, s => (match mLst s n with
    | some xs => joinD (.str a) (.lst xs) s
    | none => .stuck)
  | a, d, s => joinD a d s
section
variable {T : Tb} {X : Cx} {Γ : Fls} {e o : Expr} {f fo : S → R D} {apos cpos : Pos}
theorem je_joinC (ho : JE T X Γ o .b1 fo) (he : JE T X Γ e .b1 f)
    (hb : ∀ {to te : TE}, PE X o to → PE X e te → PE X (.Call (.Attribute o "join" apos) [e] [] cpos) (tM1 (fun x xs H Q => ∃ (a : Str) (p : Addr) (ys : List Str), x = V.str a ∧ xs = [V.ref p] ∧ (SqL X.K H p (ys.map V.str) ∨ SqT X.K H p (ys.map V.str)) ∧ (ys.map (fun x => x.length)).sum + ys.length * a.length ≤ 16777216 ∧ Q (V.str (Txt.join a ys)) H) to te) := by
      exact fun h1 h2 => pe_join h1 h2) :
    JE T X Γ (.Call (.Attribute o "join" apos) [e] [] cpos) .sh (eTx joinC fo f) := by
  refine ⟨fun W tk => PE.imp (hb (ho.run W tk) (he.run W tk)) fun σ H Q ⟨g, st, I, p⟩ => ?_⟩
  refine te_bind ipE I p fun d1 s1 x H1 g1 q1 I1 r1 p1 => ?_
  cases d1 with
  | str a =>
    refine ⟨⟨a, b_str r1⟩, ?_⟩
    refine te_bind ipE I1 p1 fun k s2 y H2 g2 q2 I2 r2 p2 => ?_
    have key : ∀ (xs : List D) (ad : Addr) (vs : List V), y = .ref ad → SqL X.K H2 ad vs → Rps X.K T g2 H2 xs vs → PostE X.K T Γ σ g2 H2 .sh W Q (joinD (.str a) (.lst xs) s2) →
        ∃ (a' : Str) (p : Addr) (ys : List Str), x = V.str a' ∧ [y] = [V.ref p] ∧ (SqL X.K H2 p (ys.map V.str) ∨ SqT X.K H2 p (ys.map V.str)) ∧ (ys.map (fun x => x.length)).sum + ys.length * a'.length ≤ 16777216 ∧ Q (V.str (Txt.join a' ys)) H2 := by
      intro xs ad vs ey hs hr pp
      unfold joinD at pp
      dsimp only at pp
      split at pp
      · rename_i ys en
        split at pp
        · rename_i hz
          rw [strs_of hr en] at hs
          exact ⟨a, ad, ys, b_str r1, by rw [ey], .inl hs, hz, post_v I2 pp rm_str⟩
        · exact pp.elim
      · exact pp.elim
    cases k with
    | ref n =>
      unfold joinC at p2
      dsimp only at p2
      split at p2
      · rename_i xs em
        obtain ⟨ad, vs, e1, h1, h2⟩ := post_tupC (W := W) (Q := Q) I2 (by simpa only [RpM] using r2) em
        exact key xs ad vs e1 h1 h2 p2
      · exact p2.elim
    | lst xs =>
      obtain ⟨ad, vs, e1, h1, _, h2⟩ := b_lst r2
      exact key xs ad vs e1 (.inl (.inl h1)) h2 p2
    | _ => exact p2.elim
  | _ => exact p1.elim
end
end DL

set_option linter.all false
set_option Elab.async false
set_option maxRecDepth 100000
namespace A00
open PySem PySem.Spec PyProof.Rows L2 DL
def topS (i : Nat) : Stmt := PySem.Challenge.pw_hingewebs_k00_whole_words.main.body.getD i (.Pass ⟨0, 0, 0, 0⟩)
def d_FIGURES : D := (.str "0123456789")
def d_LONGEST : D := (.int 60)
def d_MINUS : D := (.str "-")
def d_REMARK : D := (.str "#")
def d_SIGNS : D := (.str "abcdefghijklmnopqrstuvwxyz0123456789-/")
def d_STROKE : D := (.str "/")
abbrev s__law_box : Stmt := topS 23
abbrev s__law_same : Stmt := topS 27
abbrev s__law_cells : Stmt := topS 25
abbrev s__law_cut : Stmt := topS 28
abbrev s_figures_of : Stmt := topS 18
abbrev s_number_of : Stmt := topS 19
abbrev s_fraction_of : Stmt := topS 20
abbrev s_run_from : Stmt := topS 14
abbrev s_line_words : Stmt := topS 15
abbrev s_words : Stmt := topS 16
abbrev s_text_of : Stmt := topS 17
abbrev s__law_take : Stmt := topS 24
abbrev s__law_heard : Stmt := topS 29
abbrev s__law_of : Stmt := topS 26
abbrev s__law_words_right : Stmt := topS 30
abbrev s_word_of : Stmt := topS 21
abbrev s_law : Stmt := topS 31
structure Fa (K : PySem.W.Frag) (mg : Str → Option Value) (T : Tb) (P : Program) (base : Heap) : Prop where
  seer : SeerP P base
  f__law_box : FnF K mg "_law_box" s__law_box ["script", "k"]
  f__law_same : FnF K mg "_law_same" s__law_same ["got", "due"]
  f__law_cells : FnF K mg "_law_cells" s__law_cells ["script", "most_so"]
  f__law_cut : FnF K mg "_law_cut" s__law_cut ["over_so", "parts_so"]
  f_figures_of : FnF K mg "figures_of" s_figures_of ["word"]
  f_number_of : FnF K mg "number_of" s_number_of ["word"]
  f_fraction_of : FnF K mg "fraction_of" s_fraction_of ["word"]
  f_run_from : FnF K mg "run_from" s_run_from ["line", "start"]
  f_line_words : FnF K mg "line_words" s_line_words ["line", "number"]
  f_words : FnF K mg "words" s_words ["text"]
  f_text_of : FnF K mg "text_of" s_text_of ["words"]
  f__law_take : FnF K mg "_law_take" s__law_take ["tin", "below_so"]
  f__law_heard : FnF K mg "_law_heard" s__law_heard ["door_so", "its"]
  f__law_of : FnF K mg "_law_of" s__law_of ["tin", "goods_so"]
  f__law_words_right : FnF K mg "_law_words_right" s__law_words_right ["tin"]
  f_word_of : FnF K mg "word_of" s_word_of ["fraction"]
  f_law : FnF K mg "law" s_law ["script"]
  t_words : ∃ f, mg "words" = some (.ref f) ∧ T.fn 0 = some f
  t_all : ∀ j f, T.fn j = some f → j < 1
  n_ValueError : mg "ValueError" = none
  n_abs : mg "abs" = none
  n_all : mg "all" = none
  n_bool : mg "bool" = none
  n_enumerate : mg "enumerate" = none
  n_int : mg "int" = none
  n_isinstance : mg "isinstance" = none
  n_len : mg "len" = none
  n_list : mg "list" = none
  n_max : mg "max" = none
  n_range : mg "range" = none
  n_str : mg "str" = none
  n_super : mg "super" = none
  n_tuple : mg "tuple" = none
  n_zip : mg "zip" = none
  c_FIGURES : ConF K mg T "FIGURES" d_FIGURES
  c_LONGEST : ConF K mg T "LONGEST" d_LONGEST
  c_MINUS : ConF K mg T "MINUS" d_MINUS
  c_REMARK : ConF K mg T "REMARK" d_REMARK
  c_SIGNS : ConF K mg T "SIGNS" d_SIGNS
  c_STROKE : ConF K mg T "STROKE" d_STROKE
  b_gcd : mg "gcd" = some (.builtin "math.gcd")
  x_BadText : Exc1 P K T mg "BadText" 0
  k_BadText : CatF K T mg "BadText" (· == 0)
  k_CanNot : CatF K T mg "CanNot" (fun _ => false)
  k_NoPlace : CatF K T mg "NoPlace" (fun _ => false)
  k_TooMany : CatF K T mg "TooMany" (fun _ => false)
  k_Unfit : CatF K T mg "Unfit" (fun _ => false)
  s_BadText : SayF K T (· == 0) "ValueError" true "line"
section
variable {P : Program} {w : World} {K : PySem.W.Frag} {mg : Str → Option Value} {base : Heap} {T : Tb}
def N__law_box : List Str := ["script", "k", "bit_so"]
theorem sc__law_box : FnScope N__law_box ["script", "k"] (defScope s__law_box) := ⟨rfl, rfl, rfl, by decide +kernel, rfl, by decide +kernel, by decide +kernel⟩
def q__law_box : S → RS :=
  (sSeq (sAsg (.one 2) (eIf (t2 (cmpB (iCmp ltB)) (eVar 1) (e1 lenD (eVar 0))) (e2 ixD (eVar 0) (eVar 1)) (eC (.int 0))))
    (sRet (eLst (aCons (e2 mulD (e1 absD (eVar 2)) (e1 intD (e2 (cmpD (iCmp fun i j => !ltB i j)) (e1 absD (eVar 2)) (e2 powD (eC (.int 10)) (eC (.int 18)))))) (aCons (e2 addD (e2 addD (e2 modD (e1 intD (eVar 2)) (eC (.int 2305843009213693951))) (e2 mulD (eC (.int 40961)) (eVar 1))) (eC (.int 9520000))) (aCons (eC (.int 0)) aNil))))))
def m__law_box : MF := mkF 3 q__law_box
set_option maxHeartbeats 0 in
theorem c__law_box (Z : Fa K mg T P base) : Cal P w K mg base T "_law_box" 1 2 .f1 m__law_box := by
  obtain ⟨f, fd, F, b, g⟩ := Z.f__law_box
  refine ⟨f, fd, ["script", "k"], fn_mk F sc__law_box rfl (by decide) (Γ' := []) (fun cdv A outer s H E hr hp => ?_), g, F.kp, b⟩
  have nd := sc__law_box.nd
  exact (jss_cons (js_set 2 nd (je_if (jt_cmp cmp_lt (je_b (je_var 1)) (je_b (je_bi bi_len rfl Z.n_len (je_b (je_var 0))))) (je_ix (je_b (je_var 0)) (je_b (je_var 1))) je_int))
    (jss_one (js_ret (je_lst (ja_cons (je_f (je_op bin_mul (je_b (je_bi bi_abs rfl Z.n_abs (je_b (je_var 2)))) (je_b (je_bty bi_int rfl Z.n_int (je_b (je_cmp cmp_ge (je_b (je_bi bi_abs rfl Z.n_abs (je_b (je_var 2)))) (je_b (je_op bin_pow (je_b je_int) (je_b je_int))))))))) (ja_cons (je_f (je_op bin_add (je_fb (je_op bin_add (je_b (je_op bin_mod (je_b (je_bty bi_int rfl Z.n_int (je_b (je_var 2)))) (je_b je_int))) (je_fb (je_op bin_mul (je_b je_int) (je_b (je_var 1)))))) (je_b je_int))) (ja_cons je_int ja_nil)))))))
def N__law_same : List Str := ["got", "due", "mine", "its"]
theorem sc__law_same : FnScope N__law_same ["got", "due"] (defScope s__law_same) := ⟨rfl, rfl, rfl, by decide +kernel, rfl, by decide +kernel, by decide +kernel⟩
def q__law_same (self : MF) : S → RS :=
  (sSeq (sIf (tTru (e1 (isi2D .list .tuple) (eVar 1)))
    (sSeq (sIf (tOrS (t2 (cmpB neD) (e1 (isiD .list) (eVar 0)) (e1 (isiD .list) (eVar 1))) (t2 (cmpB neD) (e1 (isiD .tuple) (eVar 0)) (e1 (isiD .tuple) (eVar 1))))
    (sRet (eC (.bl false)))
    sNil)
    (sRet (eAndB (e2 (cmpD eqD) (e1 lenD (eVar 0)) (e1 lenD (eVar 1))) (e1 allD (eLc (iZipB (aCons (eVar 0) (aCons (eVar 1) aNil))) (.many [2, 3]) tYesS (eCallN 2 self (aCons (eVar 2) (aCons (eVar 3) aNil))))))))
    sNil)
    (sSeq (sIf (t2 (cmpB isND) (eVar 1) (eC .non))
    (sRet (e2 (cmpD isND) (eVar 0) (eC .non)))
    sNil)
    (sSeq (sIf (tTru (e1 (isi2D .bool .str) (eVar 1)))
    (sRet (eAndB (e2 (cmpD eqD) (e1 (isiD .bool) (eVar 0)) (e1 (isiD .bool) (eVar 1))) (eAndB (e2 (cmpD eqD) (e1 (isiD .str) (eVar 0)) (e1 (isiD .str) (eVar 1))) (e2 (cmpD eqD) (eVar 0) (eVar 1)))))
    sNil)
    (sRet (eAndB (e1 (isiD .int) (eVar 0)) (eAndB (eNotB (e1 (isiD .bool) (eVar 0))) (e2 (cmpD eqD) (eVar 0) (eVar 1))))))))
def m__law_same : Nat → MF
  | 0 => fun _ _ => .stuck
  | n + 1 => mkF 4 (q__law_same (m__law_same n))
set_option maxHeartbeats 0 in
theorem c__law_same (Z : Fa K mg T P base) : ∀ n, Cal P w K mg base T "_law_same" (n + 1) 2 .sh (m__law_same n)
  | 0 => let ⟨f, fd, F, b, g⟩ := Z.f__law_same; ⟨f, fd, ["got", "due"], fn_never, g, F.kp, b⟩
  | n + 1 => by
    have ih := c__law_same Z n
    obtain ⟨f, fd, F, b, g⟩ := Z.f__law_same
    refine ⟨f, fd, ["got", "due"], fn_mk F sc__law_same rfl (by decide) (Γ' := []) (fun cdv A outer s H E hr hp => ?_), g, F.kp, b⟩
    have nd := sc__law_same.nd
    exact (jss_cons (js_if (jt_tru (je_b (je_isi2 .list .tuple rfl Z.n_isinstance rfl Z.n_list rfl Z.n_tuple (je_b (je_var 1)))))
    (jss_cons (js_if (jw_pt (jw_or (jt_cmp (cmp_ne (hu64 hr)) (je_b (je_isi .list rfl Z.n_isinstance rfl Z.n_list (je_b (je_var 0)))) (je_b (je_isi .list rfl Z.n_isinstance rfl Z.n_list (je_b (je_var 1))))) (jw_or1 (jt_cmp (cmp_ne (hu64 hr)) (je_b (je_isi .tuple rfl Z.n_isinstance rfl Z.n_tuple (je_b (je_var 0)))) (je_b (je_isi .tuple rfl Z.n_isinstance rfl Z.n_tuple (je_b (je_var 1))))))))
    (jss_one (js_ret je_bl))
    jss_nil)
    (jss_one (js_ret (je_and (je_b (je_cmp (cmp_eq (hu64 hr)) (je_b (je_bi bi_len rfl Z.n_len (je_b (je_var 0)))) (je_b (je_bi bi_len rfl Z.n_len (je_b (je_var 1)))))) (je_one (je_bi (bi_all rfl) rfl Z.n_all (je_fb (je_lc [("mine", 2), ("its", 3)] rfl nd (ji_zipB rfl Z.n_zip (ja_cons (je_var 0) (ja_cons (je_var 1) ja_nil))) (blk_of rfl) (fun _ _ _ _ _ => (jg_many rfl (jgs_cons 2 nd (jgs_cons 3 nd jgs_nil)))) (fun _ _ _ _ _ => jts_nil) (fun _ _ _ _ _ => (je_call ih hr (by omega) rfl (ja_cons (je_var 2) (ja_cons (je_var 3) ja_nil))))))))))))
    jss_nil)
    (jss_cons (js_if (jt_cmp cmp_isN (je_b (je_var 1)) (je_b je_non))
    (jss_one (js_ret (je_cmp cmp_isN (je_b (je_var 0)) (je_b je_non))))
    jss_nil)
    (jss_cons (js_if (jt_tru (je_b (je_isi2 .bool .str rfl Z.n_isinstance rfl Z.n_bool rfl Z.n_str (je_b (je_var 1)))))
    (jss_one (js_ret (je_and (je_b (je_cmp (cmp_eq (hu64 hr)) (je_b (je_isi .bool rfl Z.n_isinstance rfl Z.n_bool (je_b (je_var 0)))) (je_b (je_isi .bool rfl Z.n_isinstance rfl Z.n_bool (je_b (je_var 1)))))) (je_and (je_b (je_cmp (cmp_eq (hu64 hr)) (je_b (je_isi .str rfl Z.n_isinstance rfl Z.n_str (je_b (je_var 0)))) (je_b (je_isi .str rfl Z.n_isinstance rfl Z.n_str (je_b (je_var 1)))))) (je_one (je_cmp (cmp_eq (hu64 hr)) (je_b (je_var 0)) (je_b (je_var 1))))))))
    jss_nil)
    (jss_one (js_ret (je_and (je_b (je_isi .int rfl Z.n_isinstance rfl Z.n_int (je_b (je_var 0)))) (je_and (je_b (je_not (je_b (je_isi .bool rfl Z.n_isinstance rfl Z.n_bool (je_b (je_var 0)))))) (je_one (je_cmp (cmp_eq (hu64 hr)) (je_b (je_var 0)) (je_b (je_var 1)))))))))))
def N__law_cells : List Str := ["script", "most_so", "cells_so", "k", "bit_so", "at_so"]
theorem sc__law_cells : FnScope N__law_cells ["script", "most_so"] (defScope s__law_cells) := ⟨rfl, rfl, rfl, by decide +kernel, rfl, by decide +kernel, by decide +kernel⟩
def q__law_cells_b1 : S → RS :=
  (sSeq (sAsg (.one 5) (e2 modD (e1 intD (eVar 3)) (eVar 1)))
    (sSetI 2 (eVar 5) (e2 addD (e2 ixD (eVar 2) (eVar 5)) (e2 mulD (eVar 4) (e2 addD (eVar 3) (eC (.int 2)))))))
def q__law_cells : S → RS :=
  (sSeq (sAsgF 2 (eOrV (e1 listD (eSl (eVar 0) pNone (pSome (eVar 1)))) (eLst (aCons (eC (.int 0)) aNil))))
    (sSeq (sFor (iEnumB (aCons (eSl (eVar 0) (pSome (eVar 1)) (pSome (eC (.int 63)))) aNil)) (.many [3, 4])
    q__law_cells_b1)
    (sRet (eVar 2))))
def m__law_cells : MF := mkF 6 q__law_cells
set_option maxHeartbeats 0 in
theorem c__law_cells (Z : Fa K mg T P base) : Cal P w K mg base T "_law_cells" 1 2 .sh m__law_cells := by
  obtain ⟨f, fd, F, b, g⟩ := Z.f__law_cells
  refine ⟨f, fd, ["script", "most_so"], fn_mk F sc__law_cells rfl (by decide) (Γ' := []) (fun cdv A outer s H E hr hp => ?_), g, F.kp, b⟩
  have nd := sc__law_cells.nd
  exact (jss_cons (js_setF (Γ' := [.sh, .sh, .o1]) 2 nd (je_orV (by simp) (je_bty bi_list rfl Z.n_list (je_fb (je_sl (je_b (je_var 0)) jo_none (jo_some (je_b (je_var 1)))))) (je_one (je_lst (ja_cons je_int ja_nil)))) (hΓ := flf_of 6 (by decide) (by decide) (by decide) (by decide)))
    (jss_cons (js_for hp rfl (ji_enumB rfl Z.n_enumerate (ja_cons (je_f (je_sl (je_b (je_var 0)) (jo_some (je_b (je_var 1))) (jo_some (je_b je_int)))) ja_nil)) (jg_many rfl (jgs_cons 3 nd (jgs_cons 4 nd jgs_nil)))
    (jss_cons (js_set 5 nd (je_op bin_mod (je_b (je_bty bi_int rfl Z.n_int (je_b (je_var 3)))) (je_b (je_var 1))))
    (jss_one (js_setI 2 (je_f (je_op bin_add (je_b (je_ix (je_varB 2) (je_b (je_var 5)))) (je_fb (je_op bin_mul (je_b (je_var 4)) (je_fb (je_op bin_add (je_b (je_var 3)) (je_b je_int))))))) (je_b (je_var 5))))))
    (jss_one (js_frz (Γ' := []) (fun i => i == 2) (flz_of 6 (by decide) (by decide) (by decide)) (js_ret (je_var 2))))))
def fuel__law_cut : S → Nat := fun s => match s.r.getD 3 none with
  | some (.int i) => i.natAbs + 1
  | _ => 0
def N__law_cut : List Str := ["over_so", "parts_so", "one", "two"]
theorem sc__law_cut : FnScope N__law_cut ["over_so", "parts_so"] (defScope s__law_cut) := ⟨rfl, rfl, rfl, by decide +kernel, rfl, by decide +kernel, by decide +kernel⟩
def q__law_cut_b1 : S → RS :=
  (sPar 2 3 (eVar 3) (e2 modD (e1 intD (eVar 2)) (eVar 3)))
def q__law_cut : S → RS :=
  (sSeq (sPar 2 3 (e1 absD (eVar 0)) (e1 absD (eVar 1)))
    (sSeq (sWhile fuel__law_cut (t2 (cmpB neD) (eVar 3) (eC (.int 0)))
    q__law_cut_b1)
    (sSeq (sIf (t2 (cmpB (iCmp ltB)) (eVar 1) (eC (.int 0)))
    (sAsg (.one 2) (e2 subD (eC (.int 0)) (eVar 2)))
    sNil)
    (sRet (eTup (aCons (e2 fdivW (eVar 0) (eVar 2)) (aCons (e2 fdivW (eVar 1) (eVar 2)) aNil)))))))
def m__law_cut : MF := mkF 4 q__law_cut
set_option maxHeartbeats 0 in
theorem c__law_cut (Z : Fa K mg T P base) : Cal P w K mg base T "_law_cut" 1 2 .sh m__law_cut := by
  obtain ⟨f, fd, F, b, g⟩ := Z.f__law_cut
  refine ⟨f, fd, ["over_so", "parts_so"], fn_mk F sc__law_cut rfl (by decide) (Γ' := []) (fun cdv A outer s H E hr hp => ?_), g, F.kp, b⟩
  have nd := sc__law_cut.nd
  exact (jss_cons (js_par 2 3 rfl nd (je_bi bi_abs rfl Z.n_abs (je_b (je_var 0))) (je_bi bi_abs rfl Z.n_abs (je_b (je_var 1))))
    (jss_cons (js_while fuel__law_cut hp (jt_cmp (cmp_ne (hu64 hr)) (je_b (je_var 3)) (je_b je_int))
    (jss_one (js_par 2 3 rfl nd (je_var 3) (je_op bin_mod (je_b (je_bty bi_int rfl Z.n_int (je_b (je_var 2)))) (je_b (je_var 3))))))
    (jss_cons (js_if (jt_cmp cmp_lt (je_b (je_var 1)) (je_b je_int))
    (jss_one (js_set 2 nd (je_op bin_sub (je_b je_int) (je_b (je_var 2)))))
    jss_nil)
    (jss_one (js_ret (je_tup (ja_cons (je_op bin_fdivW (je_b (je_var 0)) (je_b (je_var 2))) (ja_cons (je_op bin_fdivW (je_b (je_var 1)) (je_b (je_var 2))) ja_nil))))))))
def N_figures_of : List Str := ["word", "sign", "found"]
theorem sc_figures_of : FnScope N_figures_of ["word"] (defScope s_figures_of) := ⟨rfl, rfl, rfl, by decide +kernel, rfl, by decide +kernel, by decide +kernel⟩
def q_figures_of_b1 : S → RS :=
  (sAsg (.one 2) (e2 addD (e2 mulD (eVar 2) (eC (.int 10))) (eTx sidxD (eC d_FIGURES) (eVar 1))))
def q_figures_of : S → RS :=
  (sSeq (sIf (tOrS (t2 (cmpB eqD) (eVar 0) (eC (.str ""))) (tOrS (t2 (cmpB (iCmp fun i j => ltB j i)) (e1 lenD (eVar 0)) (eC d_LONGEST)) (tNotS (tTru (e1 allD (eLc (i1 signsI (eVar 0)) (.one 1) tYesS (e2 (cmpD inSD) (eVar 1) (eC d_FIGURES))))))))
    (sRet (eC .non))
    sNil)
    (sSeq (sIf (tAndS (t2 (cmpB eqD) (e2 ixD (eVar 0) (eC (.int 0))) (eC (.str "0"))) (t2 (cmpB neD) (eVar 0) (eC (.str "0"))))
    (sRet (eC .non))
    sNil)
    (sSeq (sAsg (.one 2) (eC (.int 0)))
    (sSeq (sFor (i1 signsI (eVar 0)) (.one 1)
    q_figures_of_b1)
    (sRet (eVar 2))))))
def m_figures_of : MF := mkF 3 q_figures_of
set_option maxHeartbeats 0 in
theorem c_figures_of (Z : Fa K mg T P base) : Cal P w K mg base T "figures_of" 1 1 .sh m_figures_of := by
  obtain ⟨f, fd, F, b, g⟩ := Z.f_figures_of
  refine ⟨f, fd, ["word"], fn_mk F sc_figures_of rfl (by decide) (Γ' := []) (fun cdv A outer s H E hr hp => ?_), g, F.kp, b⟩
  have nd := sc_figures_of.nd
  exact (jss_cons (js_if (jw_pt (jw_or (jt_cmp (cmp_eq (hu64 hr)) (je_b (je_var 0)) (je_b je_str)) (jw_or (jt_cmp cmp_gt (je_b (je_bi bi_len rfl Z.n_len (je_b (je_var 0)))) (je_b (je_conZ d_LONGEST rfl Z.c_LONGEST))) (jw_or1 (jt_not (jt_tru (je_b (je_bi (bi_all rfl) rfl Z.n_all (je_fb (je_lc [("sign", 1)] rfl nd (ji_signs (je_var 0)) (blk_of rfl) (fun _ _ _ _ _ => (jg_one 1 nd)) (fun _ _ _ _ _ => jts_nil) (fun _ _ _ _ _ => (je_cmp cmp_inS (je_b (je_var 1)) (je_b (je_conZ d_FIGURES rfl Z.c_FIGURES))))))))))))))
    (jss_one (js_ret je_non))
    jss_nil)
    (jss_cons (js_if (jw_pt (jw_and (jt_cmp (cmp_eq (hu64 hr)) (je_b (je_ix (je_b (je_var 0)) (je_b je_int))) (je_b je_str)) (jw_and1 (jt_cmp (cmp_ne (hu64 hr)) (je_b (je_var 0)) (je_b je_str)))))
    (jss_one (js_ret je_non))
    jss_nil)
    (jss_cons (js_set 2 nd je_int)
    (jss_cons (js_for hp rfl (ji_signs (je_var 0)) (jg_one 1 nd)
    (jss_one (js_set 2 nd (je_f (je_op bin_add (je_fb (je_op bin_mul (je_b (je_var 2)) (je_b je_int))) (je_b (je_sindex (je_b (je_conZ d_FIGURES rfl Z.c_FIGURES)) (je_b (je_var 1)))))))))
    (jss_one (js_ret (je_var 2)))))))
def N_number_of : List Str := ["word", "found"]
theorem sc_number_of : FnScope N_number_of ["word"] (defScope s_number_of) := ⟨rfl, rfl, rfl, by decide +kernel, rfl, by decide +kernel, by decide +kernel⟩
def q_number_of : S → RS :=
  (sSeq (sIf (t2 (cmpB neD) (eSlS (eVar 0) pNone (pSome (eC (.int 1)))) (eC d_MINUS))
    (sRet (eCallN 1 m_figures_of (aCons (eVar 0) aNil)))
    sNil)
    (sSeq (sAsg (.one 1) (eCallN 1 m_figures_of (aCons (eSlS (eVar 0) (pSome (eC (.int 1))) pNone) aNil)))
    (sRet (eIf (tOrS (t2 (cmpB isND) (eVar 1) (eC .non)) (t2 (cmpB eqD) (eVar 1) (eC (.int 0)))) (eC .non) (e2 subD (eC (.int 0)) (eVar 1))))))
def m_number_of : MF := mkF 2 q_number_of
set_option maxHeartbeats 0 in
theorem c_number_of (Z : Fa K mg T P base) : Cal P w K mg base T "number_of" 2 1 .sh m_number_of := by
  obtain ⟨f, fd, F, b, g⟩ := Z.f_number_of
  refine ⟨f, fd, ["word"], fn_mk F sc_number_of rfl (by decide) (Γ' := []) (fun cdv A outer s H E hr hp => ?_), g, F.kp, b⟩
  have nd := sc_number_of.nd
  exact (jss_cons (js_if (jt_cmp (cmp_ne (hu64 hr)) (je_b (je_slS (je_b (je_var 0)) jo_none (jo_some (je_b je_int)))) (je_b (je_conZ d_MINUS rfl Z.c_MINUS)))
    (jss_one (js_ret (je_call (c_figures_of Z) hr (by omega) rfl (ja_cons (je_var 0) ja_nil))))
    jss_nil)
    (jss_cons (js_set 1 nd (je_call (c_figures_of Z) hr (by omega) rfl (ja_cons (je_slS (je_b (je_var 0)) (jo_some (je_b je_int)) jo_none) ja_nil)))
    (jss_one (js_ret (je_if (jw_pt (jw_or (jt_cmp cmp_isN (je_b (je_var 1)) (je_b je_non)) (jw_or1 (jt_cmp (cmp_eq (hu64 hr)) (je_b (je_var 1)) (je_b je_int))))) je_non (je_op bin_sub (je_b je_int) (je_b (je_var 1))))))))
def N_fraction_of : List Str := ["word", "whole", "above", "below", "over", "parts"]
theorem sc_fraction_of : FnScope N_fraction_of ["word"] (defScope s_fraction_of) := ⟨rfl, rfl, rfl, by decide +kernel, rfl, by decide +kernel, by decide +kernel⟩
def q_fraction_of : S → RS :=
  (sSeq (sIf (t2 (cmpB notInSD) (eC d_STROKE) (eVar 0))
    (sSeq (sAsg (.one 1) (eCallN 1 m_number_of (aCons (eVar 0) aNil)))
    (sRet (eIf (t2 (cmpB isND) (eVar 1) (eC .non)) (eC .non) (eTup (aCons (eVar 1) (aCons (eC (.int 1)) aNil))))))
    sNil)
    (sSeq (sAsg (.manyL [2, 3]) (eSpM (eVar 0) (eC d_STROKE) (eC (.int 1))))
    (sSeq (sPar 4 5 (eCallN 1 m_number_of (aCons (eVar 2) aNil)) (eCallN 1 m_figures_of (aCons (eVar 3) aNil)))
    (sSeq (sIf (tOrS (t2 (cmpB isND) (eVar 4) (eC .non)) (tOrS (t2 (cmpB isND) (eVar 5) (eC .non)) (tOrS (t2 (cmpB (iCmp ltB)) (eVar 5) (eC (.int 2))) (t2 (cmpB neD) (eBi gcdD (aCons (eVar 4) (aCons (eVar 5) aNil))) (eC (.int 1))))))
    (sRet (eC .non))
    sNil)
    (sRet (eTup (aCons (eVar 4) (aCons (eVar 5) aNil))))))))
def m_fraction_of : MF := mkF 6 q_fraction_of
set_option maxHeartbeats 0 in
theorem c_fraction_of (Z : Fa K mg T P base) : Cal P w K mg base T "fraction_of" 3 1 .sh m_fraction_of := by
  obtain ⟨f, fd, F, b, g⟩ := Z.f_fraction_of
  refine ⟨f, fd, ["word"], fn_mk F sc_fraction_of rfl (by decide) (Γ' := []) (fun cdv A outer s H E hr hp => ?_), g, F.kp, b⟩
  have nd := sc_fraction_of.nd
  exact (jss_cons (js_if (jt_cmp cmp_notInS (je_b (je_conZ d_STROKE rfl Z.c_STROKE)) (je_b (je_var 0)))
    (jss_cons (js_set 1 nd (je_call (c_number_of Z) hr (by omega) rfl (ja_cons (je_var 0) ja_nil)))
    (jss_one (js_ret (je_if (jt_cmp cmp_isN (je_b (je_var 1)) (je_b je_non)) je_non (je_tup (ja_cons (je_var 1) (ja_cons je_int ja_nil)))))))
    jss_nil)
    (jss_cons (js_asgT (je_f (je_splitMax (je_b (je_var 0)) (je_conZ d_STROKE rfl Z.c_STROKE) je_int)) (jg_manyL rfl (jgs_cons 2 nd (jgs_cons 3 nd jgs_nil))))
    (jss_cons (js_par 4 5 rfl nd (je_call (c_number_of Z) hr (by omega) rfl (ja_cons (je_var 2) ja_nil)) (je_call (c_figures_of Z) hr (by omega) rfl (ja_cons (je_var 3) ja_nil)))
    (jss_cons (js_if (jw_pt (jw_or (jt_cmp cmp_isN (je_b (je_var 4)) (je_b je_non)) (jw_or (jt_cmp cmp_isN (je_b (je_var 5)) (je_b je_non)) (jw_or (jt_cmp cmp_lt (je_b (je_var 5)) (je_b je_int)) (jw_or1 (jt_cmp (cmp_ne (hu64 hr)) (je_b (je_biM bi_gcd rfl Z.b_gcd (ja_cons (je_var 4) (ja_cons (je_var 5) ja_nil)))) (je_b je_int)))))))
    (jss_one (js_ret je_non))
    jss_nil)
    (jss_one (js_ret (je_tup (ja_cons (je_var 4) (ja_cons (je_var 5) ja_nil)))))))))
def fuel_run_from : S → Nat := fun s => match s.r.getD 0 none with
  | some (.str z) => z.length + 1
  | _ => 0
def N_run_from : List Str := ["line", "start", "place"]
theorem sc_run_from : FnScope N_run_from ["line", "start"] (defScope s_run_from) := ⟨rfl, rfl, rfl, by decide +kernel, rfl, by decide +kernel, by decide +kernel⟩
def q_run_from_b1 : S → RS :=
  (sAug augD 2 (eC (.int 1)))
def q_run_from : S → RS :=
  (sSeq (sAsg (.one 2) (eVar 1))
    (sSeq (sWhile fuel_run_from (tAndS (t2 (cmpB (iCmp ltB)) (eVar 2) (e1 lenD (eVar 0))) (t2 (cmpB inSD) (e2 ixD (eVar 0) (eVar 2)) (eC d_SIGNS)))
    q_run_from_b1)
    (sRet (eSlS (eVar 0) (pSome (eVar 1)) (pSome (eVar 2))))))
def m_run_from : MF := mkF 3 q_run_from
set_option maxHeartbeats 0 in
theorem c_run_from (Z : Fa K mg T P base) : Cal P w K mg base T "run_from" 1 2 .sh m_run_from := by
  obtain ⟨f, fd, F, b, g⟩ := Z.f_run_from
  refine ⟨f, fd, ["line", "start"], fn_mk F sc_run_from rfl (by decide) (Γ' := []) (fun cdv A outer s H E hr hp => ?_), g, F.kp, b⟩
  have nd := sc_run_from.nd
  exact (jss_cons (js_set 2 nd (je_var 1))
    (jss_cons (js_while fuel_run_from hp (jw_pt (jw_and (jt_cmp cmp_lt (je_b (je_var 2)) (je_b (je_bi bi_len rfl Z.n_len (je_b (je_var 0))))) (jw_and1 (jt_cmp cmp_inS (je_b (je_ix (je_b (je_var 0)) (je_b (je_var 2)))) (je_b (je_conZ d_SIGNS rfl Z.c_SIGNS))))))
    (jss_one (js_augAdd 2 nd (je_b je_int))))
    (jss_one (js_ret (je_slS (je_b (je_var 0)) (jo_some (je_b (je_var 1))) (jo_some (je_b (je_var 2))))))))
def fuel_line_words : S → Nat := fun s => match s.r.getD 0 none with
  | some (.str z) => z.length + 1
  | _ => 0
def N_line_words : List Str := ["line", "number", "found", "place", "own"]
theorem sc_line_words : FnScope N_line_words ["line", "number"] (defScope s_line_words) := ⟨rfl, rfl, rfl, by decide +kernel, rfl, by decide +kernel, by decide +kernel⟩
def q_line_words_b1 : S → RS :=
  (sSeq (sAsg (.one 4) (eCallN 2 m_run_from (aCons (eVar 0) (aCons (eVar 3) aNil))))
    (sSeq (sIf (t2 (cmpB neD) (eVar 4) (eC (.str "")))
    (sApp 2 (eTup (aCons (eVar 4) (aCons (eVar 1) aNil))))
    (sIf (t2 (cmpB neD) (e2 ixD (eVar 0) (eVar 3)) (eC (.str " ")))
    (sRaiseF 0 (eVar 1))
    sNil))
    (sAug augD 3 (eBi max2D (aCons (eC (.int 1)) (aCons (e1 lenD (eVar 4)) aNil))))))
def q_line_words : S → RS :=
  (sSeq (sParM .f1 .sh 2 3 (eLst aNil) (eC (.int 0)))
    (sSeq (sWhile fuel_line_words (tAndS (t2 (cmpB (iCmp ltB)) (eVar 3) (e1 lenD (eVar 0))) (t2 (cmpB neD) (e2 ixD (eVar 0) (eVar 3)) (eC d_REMARK)))
    q_line_words_b1)
    (sRet (eVar 2))))
def m_line_words : MF := mkF 5 q_line_words
set_option maxHeartbeats 0 in
theorem c_line_words (Z : Fa K mg T P base) : Cal P w K mg base T "line_words" 2 2 .sh m_line_words := by
  obtain ⟨f, fd, F, b, g⟩ := Z.f_line_words
  refine ⟨f, fd, ["line", "number"], fn_mk F sc_line_words rfl (by decide) (Γ' := []) (fun cdv A outer s H E hr hp => ?_), g, F.kp, b⟩
  have nd := sc_line_words.nd
  exact (jss_cons (js_parM (Γ2 := []) (Γ' := [.sh, .sh, .o1]) 2 3 rfl nd (je_lst ja_nil) je_int (.inr rfl) (.inl rfl) (flf_of 5 (by decide) (by decide) (by decide) (by decide)) (flf_of 5 (by decide) (by decide) (by decide) (by decide)))
    (jss_cons (js_while fuel_line_words hp (jw_pt (jw_and (jt_cmp cmp_lt (je_b (je_var 3)) (je_b (je_bi bi_len rfl Z.n_len (je_b (je_var 0))))) (jw_and1 (jt_cmp (cmp_ne (hu64 hr)) (je_b (je_ix (je_b (je_var 0)) (je_b (je_var 3)))) (je_b (je_conZ d_REMARK rfl Z.c_REMARK))))))
    (jss_cons (js_set 4 nd (je_call (c_run_from Z) hr (by omega) rfl (ja_cons (je_var 0) (ja_cons (je_var 3) ja_nil))))
    (jss_cons (js_if (jt_cmp (cmp_ne (hu64 hr)) (je_b (je_var 4)) (je_b je_str))
    (jss_one (js_app 2 (je_tup (ja_cons (je_var 4) (ja_cons (je_var 1) ja_nil)))))
    (jss_one (js_if (jt_cmp (cmp_ne (hu64 hr)) (je_b (je_ix (je_b (je_var 0)) (je_b (je_var 3)))) (je_b je_str))
    (jss_one (js_raiseF 0 rfl Z.x_BadText hr (by omega) rfl (je_var 1)))
    jss_nil)))
    (jss_one (js_augAdd 3 nd (je_b (je_biN (bi_max2 rfl) rfl Z.n_max (ja_cons je_int (ja_cons (je_bi bi_len rfl Z.n_len (je_b (je_var 4))) ja_nil)))))))))
    (jss_one (js_frz (Γ' := []) (fun i => i == 2) (flz_of 5 (by decide) (by decide) (by decide)) (js_ret (je_var 2))))))
def N_words : List Str := ["text", "found", "number", "line"]
theorem sc_words : FnScope N_words ["text"] (defScope s_words) := ⟨rfl, rfl, rfl, by decide +kernel, rfl, by decide +kernel, by decide +kernel⟩
def q_words_b1 : S → RS :=
  (sExt 1 (eCallN 2 m_line_words (aCons (eVar 3) (aCons (eVar 2) aNil))))
def q_words : S → RS :=
  (sSeq (sAsgF 1 (eLst aNil))
    (sSeq (sFor (iEnumB (aCons (eTx splitD (eVar 0) (eC (.str "\n"))) aNil)) (.many [2, 3])
    q_words_b1)
    (sRet (eVar 1))))
def m_words : MF := mkF 4 q_words
set_option maxHeartbeats 0 in
theorem c_words (Z : Fa K mg T P base) : Cal P w K mg base T "words" 3 1 .sh m_words := by
  obtain ⟨f, fd, F, b, g⟩ := Z.f_words
  refine ⟨f, fd, ["text"], fn_mk F sc_words rfl (by decide) (Γ' := []) (fun cdv A outer s H E hr hp => ?_), g, F.kp, b⟩
  have nd := sc_words.nd
  exact (jss_cons (js_setF (Γ' := [.sh, .o1]) 1 nd (je_lst ja_nil) (hΓ := flf_of 4 (by decide) (by decide) (by decide) (by decide)))
    (jss_cons (js_for hp rfl (ji_enumB rfl Z.n_enumerate (ja_cons (je_f (je_split (je_b (je_var 0)) (je_b je_str))) ja_nil)) (jg_many rfl (jgs_cons 2 nd (jgs_cons 3 nd jgs_nil)))
    (jss_one (js_ext 1 (je_b (je_call (c_line_words Z) hr (by omega) rfl (ja_cons (je_var 3) (ja_cons (je_var 2) ja_nil)))))))
    (jss_one (js_frz (Γ' := []) (fun i => i == 1) (flz_of 4 (by decide) (by decide) (by decide)) (js_ret (je_var 1))))))
def N_text_of : List Str := ["words", "lines", "place", "word", "line", "own"]
theorem sc_text_of : FnScope N_text_of ["words"] (defScope s_text_of) := ⟨rfl, rfl, rfl, by decide +kernel, rfl, by decide +kernel, by decide +kernel⟩
def q_text_of_b1 : S → RS :=
  (sAppO (e2 ixD (eVar 1) (eVar 4)) (eVar 3))
def q_text_of : S → RS :=
  (sSeq (sIf (t2 (cmpB eqD) (e1 lenC (eVar 0)) (eC (.int 0)))
    (sRet (eC (.str "")))
    sNil)
    (sSeq (sAsgF 1 (eLc (iN rng1I (aCons (e2 addD (e2 ixD (e2 ixD (eVar 0) (e1 negD (eC (.int 1)))) (eC (.int 1))) (eC (.int 1))) aNil)) (.one 2) tYesS (eCell (eLst aNil))))
    (sSeq (sFor (i1 seqI (eVar 0)) (.many [3, 4])
    q_text_of_b1)
    (sRet (eTx joinC (eC (.str "")) (eLc (i1 seqI (eVar 1)) (.one 5) tYesS (e2 addD (eTx joinC (eC (.str " ")) (eVar 5)) (eC (.str "\n")))))))))
def m_text_of : MF := mkF 6 q_text_of
set_option maxHeartbeats 0 in
theorem c_text_of (Z : Fa K mg T P base) : Cal P w K mg base T "text_of" 1 1 .sh m_text_of := by
  obtain ⟨f, fd, F, b, g⟩ := Z.f_text_of
  refine ⟨f, fd, ["words"], fn_mk F sc_text_of rfl (by decide) (Γ' := []) (fun cdv A outer s H E hr hp => ?_), g, F.kp, b⟩
  have nd := sc_text_of.nd
  exact (jss_cons (js_if (jt_cmp (cmp_eq (hu64 hr)) (je_b (je_bi bi_lenC rfl Z.n_len (je_b (je_var 0)))) (je_b je_int))
    (jss_one (js_ret je_str))
    jss_nil)
    (jss_cons (js_setLc (Γ' := [.sh, .o1]) 1 [("place", 2)] rfl nd (ji_range1 rfl Z.n_range (ja_cons (je_f (je_op bin_add (je_b (je_ix (je_b (je_ix (je_b (je_var 0)) (je_b (je_un uni_neg (je_b je_int))))) (je_b je_int))) (je_b je_int))) ja_nil)) (blk_of rfl) (fun _ _ _ _ _ => (jg_one 2 nd)) (fun _ _ _ _ _ => jts_nil) (fun _ _ _ _ _ => (je_cell (je_lst ja_nil))) (sw_true rfl rfl rfl (by rfl)) (flf_of 6 (by decide) (by decide) (by decide) (by decide)))
    (jss_cons (js_for hp rfl (ji_seq (je_var 0)) (jg_many rfl (jgs_cons 3 nd (jgs_cons 4 nd jgs_nil)))
    (jss_one (js_appO (je_ix (je_varB 1) (je_b (je_var 4))) (je_var 3))))
    (jss_one (js_ret (je_joinC (je_b je_str) (je_fb (je_lcQ [("own", 5)] rfl nd (ji_own 1) (blk_of rfl) (fun _ _ _ _ _ => (jg_one 5 nd)) (fun _ _ _ _ _ => jts_nil) (fun _ _ _ _ _ => (je_f (je_op bin_add (je_b (je_joinC (je_b je_str) (je_b (je_var 5)))) (je_b je_str))))))))))))
def N__law_take : List Str := ["tin", "below_so", "drawn_so", "once_so", "wide_so", "twice_so"]
theorem sc__law_take : FnScope N__law_take ["tin", "below_so"] (defScope s__law_take) := ⟨rfl, rfl, rfl, by decide +kernel, rfl, by decide +kernel, by decide +kernel⟩
def q__law_take : S → RS :=
  (sSeq (sIf (t2 (cmpB (iCmp fun i j => ltB j i)) (e2 ixD (eVar 0) (eC (.int 0))) (eC (.int 0)))
    (sSeq (sAsg (.one 2) (e2 modD (e1 intD (e2 ixD (eVar 0) (eC (.int 0)))) (eVar 1)))
    (sSeq (sSetM 0 (eC (.int 0)) (e2 fdivD (e2 ixD (eVar 0) (eC (.int 0))) (eVar 1)))
    (sRet (eVar 2))))
    sNil)
    (sSeq (sSetM 0 (eC (.int 2)) (e2 addD (e2 ixD (eVar 0) (eC (.int 2))) (eC (.int 1))))
    (sSeq (sAsg (.one 3) (e2 modD (e1 intD (e2 mulD (e2 addD (e2 ixD (eVar 0) (eC (.int 1))) (e2 mulD (eC (.int 48271)) (e2 ixD (eVar 0) (eC (.int 2))))) (e2 addD (eC (.int 40961)) (e2 ixD (eVar 0) (eC (.int 2)))))) (eC (.int 2147483647))))
    (sSeq (sAsg (.one 4) (e2 addD (e2 modD (e1 intD (eVar 3)) (eC (.int 40009))) (eC (.int 7))))
    (sSeq (sAsg (.one 5) (e2 modD (e1 intD (e2 mulD (e2 addD (e2 addD (eVar 3) (e2 ixD (eVar 0) (eC (.int 2)))) (e2 fdivD (e2 ixD (eVar 0) (eC (.int 1))) (eC (.int 1000003)))) (eVar 4))) (eC (.int 2147483629))))
    (sRet (e2 modD (e1 intD (e2 fdivD (e2 modD (e1 intD (e2 addD (e2 mulD (eVar 5) (eC (.int 48271))) (eVar 3))) (eC (.int 2147483587))) (eC (.int 64)))) (eVar 1))))))))
def m__law_take : MF := mkF 6 q__law_take
set_option maxHeartbeats 0 in
theorem c__law_take (Z : Fa K mg T P base) : Cal P w K mg base T "_law_take" 1 2 .sh m__law_take := by
  obtain ⟨f, fd, F, b, g⟩ := Z.f__law_take
  refine ⟨f, fd, ["tin", "below_so"], fn_mk F sc__law_take rfl (by decide) (Γ' := []) (fun cdv A outer s H E hr hp => ?_), g, F.kp, b⟩
  have nd := sc__law_take.nd
  exact (jss_cons (js_if (jt_cmp cmp_gt (je_b (je_ix (je_b (je_var 0)) (je_b je_int))) (je_b je_int))
    (jss_cons (js_set 2 nd (je_op bin_mod (je_b (je_bty bi_int rfl Z.n_int (je_b (je_ix (je_b (je_var 0)) (je_b je_int))))) (je_b (je_var 1))))
    (jss_cons (js_setM 0 (je_op bin_fdiv (je_b (je_ix (je_b (je_var 0)) (je_b je_int))) (je_b (je_var 1))) (je_b je_int))
    (jss_one (js_ret (je_var 2)))))
    jss_nil)
    (jss_cons (js_setM 0 (je_f (je_op bin_add (je_b (je_ix (je_b (je_var 0)) (je_b je_int))) (je_b je_int))) (je_b je_int))
    (jss_cons (js_set 3 nd (je_op bin_mod (je_b (je_bty bi_int rfl Z.n_int (je_fb (je_op bin_mul (je_fb (je_op bin_add (je_b (je_ix (je_b (je_var 0)) (je_b je_int))) (je_fb (je_op bin_mul (je_b je_int) (je_b (je_ix (je_b (je_var 0)) (je_b je_int))))))) (je_fb (je_op bin_add (je_b je_int) (je_b (je_ix (je_b (je_var 0)) (je_b je_int))))))))) (je_b je_int)))
    (jss_cons (js_set 4 nd (je_f (je_op bin_add (je_b (je_op bin_mod (je_b (je_bty bi_int rfl Z.n_int (je_b (je_var 3)))) (je_b je_int))) (je_b je_int))))
    (jss_cons (js_set 5 nd (je_op bin_mod (je_b (je_bty bi_int rfl Z.n_int (je_fb (je_op bin_mul (je_fb (je_op bin_add (je_fb (je_op bin_add (je_b (je_var 3)) (je_b (je_ix (je_b (je_var 0)) (je_b je_int))))) (je_b (je_op bin_fdiv (je_b (je_ix (je_b (je_var 0)) (je_b je_int))) (je_b je_int))))) (je_b (je_var 4)))))) (je_b je_int)))
    (jss_one (js_ret (je_op bin_mod (je_b (je_bty bi_int rfl Z.n_int (je_b (je_op bin_fdiv (je_b (je_op bin_mod (je_b (je_bty bi_int rfl Z.n_int (je_fb (je_op bin_add (je_fb (je_op bin_mul (je_b (je_var 5)) (je_b je_int))) (je_b (je_var 3)))))) (je_b je_int))) (je_b je_int))))) (je_b (je_var 1))))))))))
def arV : Nat → Nat := fun _ => 1
def mfV : Nat → MF := fun _ => m_words
def N__law_heard : List Str := ["door_so", "its", "caught", "told_so", "slip_a", "slip_b", "slip_c", "slip_d", "slip_e"]
theorem sc__law_heard : FnScope N__law_heard ["door_so", "its"] (defScope s__law_heard) := ⟨rfl, rfl, rfl, by decide +kernel, rfl, by decide +kernel, by decide +kernel⟩
def q__law_heard : S → RS :=
  (sSeq (sAsg (.many [2, 3]) (eTup (aCons (eC .non) (aCons (eC .non) aNil))))
    (sSeq (sTry (sIf (t2 (cmpB (iCmp ltB)) (e1 lenD (eVar 1)) (eC (.int 3)))
    (sAsg (.one 3) (eIf (t2 (cmpB eqD) (e1 lenD (eVar 1)) (eC (.int 0))) (fun _ => .stuck) (eIf (t2 (cmpB eqD) (e1 lenD (eVar 1)) (eC (.int 1))) (eCallV 0 arV mfV (aCons (e2 ixD (eVar 1) (eC (.int 0))) aNil)) (eCallV 0 arV mfV (aCons (e2 ixD (eVar 1) (eC (.int 0))) (aCons (e2 ixD (eVar 1) (eC (.int 1))) aNil))))))
    (sAsg (.one 3) (eIf (t2 (cmpB eqD) (e1 lenD (eVar 1)) (eC (.int 3))) (eCallV 0 arV mfV (aCons (e2 ixD (eVar 1) (eC (.int 0))) (aCons (e2 ixD (eVar 1) (eC (.int 1))) (aCons (e2 ixD (eVar 1) (eC (.int 2))) aNil)))) (eCallV 0 arV mfV (aCons (e2 ixD (eVar 1) (eC (.int 0))) (aCons (e2 ixD (eVar 1) (eC (.int 1))) (aCons (e2 ixD (eVar 1) (eC (.int 2))) (aCons (e2 ixD (eVar 1) (eC (.int 3))) aNil))))))))
    (hSayF (· == 0) 8 2 "BadText" true hNil))
    (sRet (eIf (t2 (cmpB isND) (eVar 2) (eC .non)) (eLst (aCons (eC (.str "told")) (aCons (eVar 3) aNil))) (eVar 2)))))
def m__law_heard : MF := mkF 9 q__law_heard
set_option maxHeartbeats 0 in
theorem c__law_heard (Z : Fa K mg T P base) (V : Tab P w K mg base T 20 arV mfV) : Cal P w K mg base T "_law_heard" 21 2 .sh m__law_heard := by
  obtain ⟨f, fd, F, b, g⟩ := Z.f__law_heard
  refine ⟨f, fd, ["door_so", "its"], fn_mk F sc__law_heard rfl (by decide) (Γ' := []) (fun cdv A outer s H E hr hp => ?_), g, F.kp, b⟩
  have nd := sc__law_heard.nd
  exact (jss_cons (js_asgT (je_tup (ja_cons je_non (ja_cons je_non ja_nil))) (jg_many rfl (jgs_cons 2 nd (jgs_cons 3 nd jgs_nil))))
    (jss_cons (js_try rfl rfl nd (fun _ _ hp => (jss_one (js_if (jt_cmp cmp_lt (je_b (je_bi bi_len rfl Z.n_len (je_b (je_var 1)))) (je_b je_int))
    (jss_one (js_set 3 nd (je_if (jt_cmp (cmp_eq (hu64 hr)) (je_b (je_bi bi_len rfl Z.n_len (je_b (je_var 1)))) (je_b je_int)) je_never (je_if (jt_cmp (cmp_eq (hu64 hr)) (je_b (je_bi bi_len rfl Z.n_len (je_b (je_var 1)))) (je_b je_int)) (je_callV 0 V hr (by omega) (ja_cons (je_ix (je_b (je_var 1)) (je_b je_int)) ja_nil)) (je_callV 0 V hr (by omega) (ja_cons (je_ix (je_b (je_var 1)) (je_b je_int)) (ja_cons (je_ix (je_b (je_var 1)) (je_b je_int)) ja_nil)))))))
    (jss_one (js_set 3 nd (je_if (jt_cmp (cmp_eq (hu64 hr)) (je_b (je_bi bi_len rfl Z.n_len (je_b (je_var 1)))) (je_b je_int)) (je_callV 0 V hr (by omega) (ja_cons (je_ix (je_b (je_var 1)) (je_b je_int)) (ja_cons (je_ix (je_b (je_var 1)) (je_b je_int)) (ja_cons (je_ix (je_b (je_var 1)) (je_b je_int)) ja_nil)))) (je_callV 0 V hr (by omega) (ja_cons (je_ix (je_b (je_var 1)) (je_b je_int)) (ja_cons (je_ix (je_b (je_var 1)) (je_b je_int)) (ja_cons (je_ix (je_b (je_var 1)) (je_b je_int)) (ja_cons (je_ix (je_b (je_var 1)) (je_b je_int)) ja_nil)))))))))))
    (jh_not 4 (Classical.choice (cat_of Z.k_Unfit (by rfl) (by decide))) (jh_not 5 (Classical.choice (cat_of Z.k_NoPlace (by rfl) (by decide))) (jh_not 6 (Classical.choice (cat_of Z.k_CanNot (by rfl) (by decide))) (jh_not 7 (Classical.choice (cat_of Z.k_TooMany (by rfl) (by decide))) (jh_sayF 8 2 true "ValueError" (Classical.choice (cat_of Z.k_BadText (by rfl) (by decide))) Z.s_BadText jh_nil nd (hm := Z.n_isinstance) (hm' := Z.n_ValueError)) rfl) rfl) rfl) rfl))
    (jss_one (js_ret (je_if (jt_cmp cmp_isN (je_b (je_var 2)) (je_b je_non)) (je_f (je_lst (ja_cons je_str (ja_cons (je_var 3) ja_nil)))) (je_var 2))))))
def N__law_of : List Str := ["tin", "goods_so"]
theorem sc__law_of : FnScope N__law_of ["tin", "goods_so"] (defScope s__law_of) := ⟨rfl, rfl, rfl, by decide +kernel, rfl, by decide +kernel, by decide +kernel⟩
def q__law_of : S → RS :=
  (sRet (e2 ixD (eVar 1) (eCallN 2 m__law_take (aCons (eVar 0) (aCons (e1 lenD (eVar 1)) aNil)))))
def m__law_of : MF := mkF 2 q__law_of
set_option maxHeartbeats 0 in
theorem c__law_of (Z : Fa K mg T P base) : Cal P w K mg base T "_law_of" 2 2 .sh m__law_of := by
  obtain ⟨f, fd, F, b, g⟩ := Z.f__law_of
  refine ⟨f, fd, ["tin", "goods_so"], fn_mk F sc__law_of rfl (by decide) (Γ' := []) (fun cdv A outer s H E hr hp => ?_), g, F.kp, b⟩
  have nd := sc__law_of.nd
  exact (jss_one (js_ret (je_ix (je_b (je_var 1)) (je_b (je_call (c__law_take Z) hr (by omega) rfl (ja_cons (je_var 0) (ja_cons (je_bi bi_len rfl Z.n_len (je_b (je_var 1))) ja_nil)))))))
def N__law_words_right : List Str := ["tin", "rows_so", "told_so", "line_so", "row_so", "lap", "word", "lines_so", "last_so", "due", "place", "bad_so"]
theorem sc__law_words_right : FnScope N__law_words_right ["tin"] (defScope s__law_words_right) := ⟨rfl, rfl, rfl, by decide +kernel, rfl, by decide +kernel, by decide +kernel⟩
def q__law_words_right_b1 : S → RS :=
  (sApp 4 (eCallN 2 m__law_of (aCons (eVar 0) (aCons (eLst (aCons (eC (.str "web")) (aCons (eC (.str "0")) (aCons (eC (.str "-7")) (aCons (eC (.str "1/2")) (aCons (eC (.str "a-b")) (aCons (eC (.str "07")) (aCons (eC (.str "hinges")) (aCons (eC (.str "-")) (aCons (eC (.str "/")) (aCons (eC (.str "z9")) aNil))))))))))) aNil))))
def q__law_words_right_r1 : S → RS :=
  (sSeq (sApp 1 (eVar 4))
    (sExt 2 (eLc (i1 seqI (eVar 4)) (.one 6) tYesS (eTup (aCons (eVar 6) (aCons (eVar 3) aNil))))))
def q__law_words_right_b2 : S → RS :=
  (sSeq (sAsgF 4 (eLst aNil))
    (sSeq (sFor (iN rng1I (aCons (eCallN 2 m__law_take (aCons (eVar 0) (aCons (eC (.int 4)) aNil))) aNil)) (.one 5)
    q__law_words_right_b1)
    q__law_words_right_r1))
def q__law_words_right_c1 : S → RS :=
  (sRet (eCallN 2 (m__law_same 8) (aCons (eCallN 2 m__law_heard (aCons (eC (.fn 0)) (aCons (eLst (aCons (eTx joinC (eC (.str "\n")) (eVar 11)) aNil)) aNil))) (aCons (eLst (aCons (eC (.str "BadText")) (aCons (eVar 10) (aCons (eC (.bl true)) aNil)))) aNil))))
def q__law_words_right_c2 : S → RS :=
  (sSeq (sAsg (.one 11) (e2 addD (e2 addD (eSl (eVar 7) pNone (pSome (eVar 10))) (eLst (aCons (eCallN 2 m__law_of (aCons (eVar 0) (aCons (eLst (aCons (eC (.str "A")) (aCons (eC (.str "web 1.")) (aCons (eC (.str "0 , 1")) (aCons (eC (.str "_")) (aCons (eC (.str "web	1")) (aCons (eC (.str "1+1")) aNil))))))) aNil))) aNil))) (eSl (eVar 7) (pSome (eVar 10)) pNone)))
    q__law_words_right_c1)
def q__law_words_right_c3 : S → RS :=
  (sSeq (sAsg (.one 10) (eCallN 2 m__law_take (aCons (eVar 0) (aCons (e2 addD (e1 lenC (eVar 7)) (eC (.int 1))) aNil))))
    q__law_words_right_c2)
def q__law_words_right_c4 : S → RS :=
  (sSeq (sIf (tNotS (tTru (eCallN 2 (m__law_same 8) (aCons (eCallN 1 (trimF m_text_of) (aCons (eVar 2) aNil)) (aCons (eVar 9) aNil)))))
    (sRet (eC (.bl false)))
    sNil)
    q__law_words_right_c3)
def q__law_words_right_c5 : S → RS :=
  (sSeq (sAsg (.one 9) (eTx joinC (eC (.str "")) (eLc (i1 seqI (eSl (eVar 1) pNone (pSome (e2 addD (eVar 8) (eC (.int 1)))))) (.one 4) tYesS (e2 addD (eTx joinC (eC (.str " ")) (eVar 4)) (eC (.str "\n"))))))
    q__law_words_right_c4)
def q__law_words_right_c6 : S → RS :=
  (sSeq (sAsg (.one 8) (eIf (t2 (cmpB neD) (eVar 2) (eLst aNil)) (e2 ixD (e2 ixD (eVar 2) (e1 negD (eC (.int 1)))) (eC (.int 1))) (e2 subD (eC (.int 0)) (eC (.int 1)))))
    q__law_words_right_c5)
def q__law_words_right_c7 : S → RS :=
  (sSeq (sIf (tNotS (tTru (eCallN 2 (m__law_same 8) (aCons (eCallN 1 m_words (aCons (eCallN 1 (trimF m_text_of) (aCons (eVar 2) aNil)) aNil)) (aCons (eVar 2) aNil)))))
    (sRet (eC (.bl false)))
    sNil)
    q__law_words_right_c6)
def q__law_words_right_c8 : S → RS :=
  (sSeq (sIf (tNotS (tTru (eCallN 2 (m__law_same 8) (aCons (eCallN 2 m__law_heard (aCons (eC (.fn 0)) (aCons (eLst (aCons (eTx joinC (eC (.str "\n")) (eVar 7)) aNil)) aNil))) (aCons (eLst (aCons (eC (.str "told")) (aCons (eVar 2) aNil))) aNil)))))
    (sRet (eC (.bl false)))
    sNil)
    q__law_words_right_c7)
def q__law_words_right_r2 : S → RS :=
  (sSeq (sAsgF 7 (eLc (i1 seqI (eVar 1)) (.one 4) tYesS (e2 addD (eTx joinC (eC (.str "  ")) (eVar 4)) (eCallN 2 m__law_of (aCons (eVar 0) (aCons (eLst (aCons (eC (.str "")) (aCons (eC (.str " ")) (aCons (eC (.str " # web 1")) (aCons (eC (.str "#x")) aNil))))) aNil))))))
    q__law_words_right_c8)
def q__law_words_right_c9 : S → RS :=
  q__law_words_right_r2
def q__law_words_right : S → RS :=
  (sSeq (sParM .f1 .f1 1 2 (eLst aNil) (eLst aNil))
    (sSeq (sFor (iN rng1I (aCons (eCallN 2 m__law_take (aCons (eVar 0) (aCons (eC (.int 5)) aNil))) aNil)) (.one 3)
    q__law_words_right_b2)
    q__law_words_right_c9))
def m__law_words_right : MF := mkF 12 q__law_words_right
set_option maxHeartbeats 0 in
theorem c__law_words_right (Z : Fa K mg T P base) (V : Tab P w K mg base T 20 arV mfV) : Cal P w K mg base T "_law_words_right" 22 1 .sh m__law_words_right := by
  obtain ⟨f, fd, F, b, g⟩ := Z.f__law_words_right
  refine ⟨f, fd, ["tin"], fn_mk F sc__law_words_right rfl (by decide) (Γ' := []) (fun cdv A outer s H E hr hp => ?_), g, F.kp, b⟩
  have nd := sc__law_words_right.nd
  exact (jss_cons (js_parM (Γ2 := [.sh, .sh, .o1]) (Γ' := [.sh, .o1, .o1]) 1 2 rfl nd (je_lst ja_nil) (je_lst ja_nil) (.inr rfl) (.inr rfl) (flf_of 12 (by decide) (by decide) (by decide) (by decide)) (flf_of 12 (by decide) (by decide) (by decide) (by decide)))
    (jss_cons (js_for hp rfl (ji_range1 rfl Z.n_range (ja_cons (je_call (c__law_take Z) hr (by omega) rfl (ja_cons (je_var 0) (ja_cons je_int ja_nil))) ja_nil)) (jg_one 3 nd)
    (jss_cons (js_setF (Γ' := [.sh, .o1, .o1, .sh, .o1]) 4 nd (je_lst ja_nil) (hΓ := flf_of 12 (by decide) (by decide) (by decide) (by decide)))
    (jss_cons (js_for hp rfl (ji_range1 rfl Z.n_range (ja_cons (je_call (c__law_take Z) hr (by omega) rfl (ja_cons (je_var 0) (ja_cons je_int ja_nil))) ja_nil)) (jg_one 5 nd)
    (jss_one (js_app 4 (je_call (c__law_of Z) hr (by omega) rfl (ja_cons (je_var 0) (ja_cons (je_f (je_lst (ja_cons je_str (ja_cons je_str (ja_cons je_str (ja_cons je_str (ja_cons je_str (ja_cons je_str (ja_cons je_str (ja_cons je_str (ja_cons je_str (ja_cons je_str ja_nil)))))))))))) ja_nil))))))
    (jss_cons (js_frz (Γ' := [.sh, .o1, .o1]) (fun i => i == 4) (flz_of 12 (by decide) (by decide) (by decide)) (js_app 1 (je_var 4)))
    (jss_one (js_ext 2 (je_fb (je_lc [("word", 6)] rfl nd (ji_seq (je_var 4)) (blk_of rfl) (fun _ _ _ _ _ => (jg_one 6 nd)) (fun _ _ _ _ _ => jts_nil) (fun _ _ _ _ _ => (je_tup (ja_cons (je_var 6) (ja_cons (je_var 3) ja_nil))))))))))))
    (jss_cons (js_setLcQ (Γ' := [.sh, .o1, .o1, .sh, .sh, .sh, .sh, .o1]) 7 [("row_so", 4)] rfl nd (ji_own 1) (blk_of rfl) (fun _ _ _ _ _ => (jg_one 4 nd)) (fun _ _ _ _ _ => jts_nil) (fun _ _ _ _ _ => (je_f (je_op bin_add (je_b (je_joinC (je_b je_str) (je_b (je_var 4)))) (je_b (je_call (c__law_of Z) hr (by omega) rfl (ja_cons (je_var 0) (ja_cons (je_f (je_lst (ja_cons je_str (ja_cons je_str (ja_cons je_str (ja_cons je_str ja_nil)))))) ja_nil))))))) (sw_true rfl rfl rfl (by rfl)) (flf_of 12 (by decide) (by decide) (by decide) (by decide)))
    (jss_cons (js_frz (Γ' := [.sh, .o1, .sh, .sh, .sh, .sh, .sh, .o1]) (fun i => i == 2) (flz_of 12 (by decide) (by decide) (by decide)) (js_if (jt_not (jt_tru (je_b (je_call (c__law_same Z 8) hr (by omega) rfl (ja_cons (je_call (c__law_heard Z V) hr (by omega) rfl (ja_cons (je_fnZ 0 rfl Z.t_words) (ja_cons (je_f (je_lst (ja_cons (je_joinC (je_b je_str) (je_varB 7)) ja_nil))) ja_nil))) (ja_cons (je_f (je_lst (ja_cons je_str (ja_cons (je_var 2) ja_nil)))) ja_nil))))))
    (jss_one (js_ret je_bl))
    jss_nil))
    (jss_cons (js_if (jt_not (jt_tru (je_b (je_call (c__law_same Z 8) hr (by omega) rfl (ja_cons (je_call (c_words Z) hr (by omega) rfl (ja_cons (je_call (Cal.trim (c_text_of Z)) hr (by omega) rfl (ja_cons (je_var 2) ja_nil)) ja_nil)) (ja_cons (je_var 2) ja_nil))))))
    (jss_one (js_ret je_bl))
    jss_nil)
    (jss_cons (js_set 8 nd (je_if (jt_cmp (cmp_ne (hu64 hr)) (je_b (je_var 2)) (je_fb (je_lst ja_nil))) (je_ix (je_b (je_ix (je_b (je_var 2)) (je_b (je_un uni_neg (je_b je_int))))) (je_b je_int)) (je_op bin_sub (je_b je_int) (je_b je_int))))
    (jss_cons (js_set 9 nd (je_joinC (je_b je_str) (je_fb (je_lc [("row_so", 4)] rfl nd (ji_seq (je_f (je_sl (je_varB 1) jo_none (jo_some (je_fb (je_op bin_add (je_b (je_var 8)) (je_b je_int))))))) (blk_of rfl) (fun _ _ _ _ _ => (jg_one 4 nd)) (fun _ _ _ _ _ => jts_nil) (fun _ _ _ _ _ => (je_f (je_op bin_add (je_b (je_joinC (je_b je_str) (je_b (je_var 4)))) (je_b je_str))))))))
    (jss_cons (js_if (jt_not (jt_tru (je_b (je_call (c__law_same Z 8) hr (by omega) rfl (ja_cons (je_call (Cal.trim (c_text_of Z)) hr (by omega) rfl (ja_cons (je_var 2) ja_nil)) (ja_cons (je_var 9) ja_nil))))))
    (jss_one (js_ret je_bl))
    jss_nil)
    (jss_cons (js_set 10 nd (je_call (c__law_take Z) hr (by omega) rfl (ja_cons (je_var 0) (ja_cons (je_f (je_op bin_add (je_b (je_bi bi_lenC rfl Z.n_len (je_varB 7))) (je_b je_int))) ja_nil))))
    (jss_cons (js_set 11 nd (je_f (je_op bin_add (je_fb (je_op bin_add (je_fb (je_sl (je_varB 7) jo_none (jo_some (je_b (je_var 10))))) (je_fb (je_lst (ja_cons (je_call (c__law_of Z) hr (by omega) rfl (ja_cons (je_var 0) (ja_cons (je_f (je_lst (ja_cons je_str (ja_cons je_str (ja_cons je_str (ja_cons je_str (ja_cons je_str (ja_cons je_str ja_nil)))))))) ja_nil))) ja_nil))))) (je_fb (je_sl (je_varB 7) (jo_some (je_b (je_var 10))) jo_none)))))
    (jss_one (js_ret (je_call (c__law_same Z 8) hr (by omega) rfl (ja_cons (je_call (c__law_heard Z V) hr (by omega) rfl (ja_cons (je_fnZ 0 rfl Z.t_words) (ja_cons (je_f (je_lst (ja_cons (je_joinC (je_b je_str) (je_b (je_var 11))) ja_nil))) ja_nil))) (ja_cons (je_f (je_lst (ja_cons je_str (ja_cons (je_var 10) (ja_cons je_bl ja_nil))))) ja_nil)))))))))))))))
def N_word_of : List Str := ["fraction"]
theorem sc_word_of : FnScope N_word_of ["fraction"] (defScope s_word_of) := ⟨rfl, rfl, rfl, by decide +kernel, rfl, by decide +kernel, by decide +kernel⟩
def q_word_of : S → RS :=
  (sRet (eIf (t2 (cmpB eqD) (e2 ixD (eVar 0) (eC (.int 1))) (eC (.int 1))) (e1 strD (e2 ixD (eVar 0) (eC (.int 0)))) (eJ3 (e1 fmtD (e2 ixD (eVar 0) (eC (.int 0)))) (e1 fmtD (eC d_STROKE)) (e1 fmtD (e2 ixD (eVar 0) (eC (.int 1)))))))
def m_word_of : MF := mkF 1 q_word_of
set_option maxHeartbeats 0 in
theorem c_word_of (Z : Fa K mg T P base) : Cal P w K mg base T "word_of" 1 1 .sh m_word_of := by
  obtain ⟨f, fd, F, b, g⟩ := Z.f_word_of
  refine ⟨f, fd, ["fraction"], fn_mk F sc_word_of rfl (by decide) (Γ' := []) (fun cdv A outer s H E hr hp => ?_), g, F.kp, b⟩
  have nd := sc_word_of.nd
  exact (jss_one (js_ret (je_if (jt_cmp (cmp_eq (hu64 hr)) (je_b (je_ix (je_b (je_var 0)) (je_b je_int))) (je_b je_int)) (je_bty bi_strI rfl Z.n_str (je_b (je_ix (je_b (je_var 0)) (je_b je_int)))) (je_joined3 (je_fmt (je_ix (je_b (je_var 0)) (je_b je_int))) (je_fmt (je_conZ d_STROKE rfl Z.c_STROKE)) (je_fmt (je_ix (je_b (je_var 0)) (je_b je_int)))))))
def N_law : List Str := ["script", "tin", "lap", "own", "big_so", "got", "nones_so", "due"]
theorem sc_law : FnScope N_law ["script"] (defScope s_law) := ⟨rfl, rfl, rfl, by decide +kernel, rfl, by decide +kernel, by decide +kernel⟩
def q_law_b1 : S → RS :=
  (sSeq (sIf (tNotS (tTru (eCallN 1 m__law_words_right (aCons (eVar 1) aNil))))
    (sRet (eC (.bl false)))
    sNil)
    (sSeq (sAsg (.one 3) (eCallN 2 m__law_cut (aCons (e2 subD (eCallN 2 m__law_take (aCons (eVar 1) (aCons (eC (.int 40)) aNil))) (eC (.int 20))) (aCons (e2 addD (eC (.int 1)) (eCallN 2 m__law_take (aCons (eVar 1) (aCons (eC (.int 12)) aNil)))) aNil))))
    (sSeq (sAsg (.one 4) (eCallN 2 m__law_cut (aCons (e2 subD (e2 subD (e2 powD (eC (.int 10)) (eC (.int 60))) (eC (.int 1))) (eCallN 2 m__law_take (aCons (eVar 1) (aCons (eC (.int 9)) aNil)))) (aCons (e2 addD (eC (.int 1)) (eCallN 2 m__law_take (aCons (eVar 1) (aCons (eC (.int 7)) aNil)))) aNil))))
    (sSeq (sAsg (.one 5) (eLst (aCons (eCallN 1 m_fraction_of (aCons (eCallN 1 m_word_of (aCons (eVar 3) aNil)) aNil)) (aCons (eCallN 1 m_fraction_of (aCons (eCallN 1 m_word_of (aCons (eVar 4) aNil)) aNil)) (aCons (eCallN 1 m_number_of (aCons (e1 strD (e2 ixD (eVar 3) (eC (.int 0)))) aNil)) (aCons (eCallN 1 m_word_of (aCons (eTup (aCons (e2 ixD (eVar 3) (eC (.int 0))) (aCons (eC (.int 1)) aNil))) aNil)) aNil))))))
    (sIf (tNotS (tTru (eCallN 2 (m__law_same 8) (aCons (eVar 5) (aCons (eLst (aCons (eVar 3) (aCons (eVar 4) (aCons (e2 ixD (eVar 3) (eC (.int 0))) (aCons (e1 strD (e2 ixD (eVar 3) (eC (.int 0)))) aNil))))) aNil)))))
    (sRet (eC (.bl false)))
    sNil)))))
def q_law_r1 : S → RS :=
  (sSeq (sAsg (.one 6) (eLst (aCons (eC (.str "")) (aCons (eC (.str "-")) (aCons (eC (.str "-0")) (aCons (eC (.str "07")) (aCons (eC (.str "-07")) (aCons (eC (.str "1/")) (aCons (eC (.str "/2")) (aCons (eC (.str "2/4")) (aCons (eC (.str "3/1")) (aCons (eC (.str "0/5")) (aCons (eC (.str "1/0")) (aCons (eC (.str "1/-2")) (aCons (eC (.str "--1")) (aCons (eC (.str "1/2/3")) (aCons (eC (.str "a")) (aCons (e2 mulS (eC (.str "1")) (eC (.int 61))) (aCons (e2 addD (eC (.str "1/")) (e2 mulS (eC (.str "7")) (eC (.int 61)))) aNil)))))))))))))))))))
    (sSeq (sIf (tOrS (tNotS (tTru (eCallN 2 (m__law_same 8) (aCons (eLc (i1 seqI (eVar 6)) (.one 3) tYesS (eCallN 1 m_fraction_of (aCons (eVar 3) aNil))) (aCons (e2 mulD (eLst (aCons (eC .non) aNil)) (e1 lenC (eVar 6))) aNil))))) (tNotS (tTru (eCallN 2 (m__law_same 8) (aCons (eLc (i1 seqI (e2 addD (eVar 6) (eLst (aCons (eC (.str "1/2")) aNil)))) (.one 3) tYesS (eCallN 1 m_number_of (aCons (eVar 3) aNil))) (aCons (e2 mulD (eLst (aCons (eC .non) aNil)) (e2 addD (e1 lenC (eVar 6)) (eC (.int 1)))) aNil))))))
    (sRet (eC (.bl false)))
    sNil)
    (sSeq (sAsg (.one 5) (eLst (aCons (eCallN 1 m_number_of (aCons (e2 mulS (eC (.str "1")) (eC (.int 60))) aNil)) (aCons (eCallN 1 m_fraction_of (aCons (e2 addD (eC (.str "-5/")) (e2 mulS (eC (.str "3")) (eC (.int 60)))) aNil)) (aCons (eCallN 1 m_number_of (aCons (eC (.str "0")) aNil)) (aCons (eCallN 1 m_fraction_of (aCons (eC (.str "-3/2")) aNil)) (aCons (eCallN 1 m_words (aCons (eC (.str "")) aNil)) (aCons (eCallN 1 m_words (aCons (eC (.str " # a")) aNil)) (aCons (eCallN 1 (trimF m_text_of) (aCons (eLst aNil) aNil)) (aCons (eCallN 1 (trimF m_text_of) (aCons (eLst (aCons (eTup (aCons (eC (.str "a")) (aCons (eC (.int 2)) aNil))) aNil)) aNil)) aNil))))))))))
    (sSeq (sAsgF 7 (eLst (aCons (e1 intSD (e2 mulS (eC (.str "1")) (eC (.int 60)))) (aCons (eC .non) (aCons (eC (.int 0)) (aCons (eTup (aCons (e2 subD (eC (.int 0)) (eC (.int 3))) (aCons (eC (.int 2)) aNil))) (aCons (eLst aNil) (aCons (eLst aNil) (aCons (eC (.str "")) (aCons (eC (.str "\n\na\n")) aNil))))))))))
    (sSeq (sSetI 7 (eC (.int 1)) (eIf (t2 (cmpB neD) (e2 modD (e1 intSD (e2 mulS (eC (.str "3")) (eC (.int 60)))) (eC (.int 5))) (eC (.int 0))) (eTup (aCons (e2 subD (eC (.int 0)) (eC (.int 5))) (aCons (e1 intSD (e2 mulS (eC (.str "3")) (eC (.int 60)))) aNil))) (eC .non)))
    (sRet (eCallB 2 (m__law_same 8) (aCons (eVar 5) (aCons (eVar 7) aNil)))))))))
def q_law : S → RS :=
  (sSeq (sAsgC 1 (eCallN 2 m__law_box (aCons (eCallN 2 m__law_cells (aCons (eVar 0) (aCons (eC (.int 1)) aNil))) (aCons (eC (.int 0)) aNil))))
    (sSeq (sFor (iN rng1I (aCons (eC (.int 6)) aNil)) (.one 2)
    q_law_b1)
    q_law_r1))
def m_law : MF := mkF 8 q_law
set_option maxHeartbeats 0 in
theorem c_law (Z : Fa K mg T P base) (V : Tab P w K mg base T 20 arV mfV) : Cal P w K mg base T "law" 23 1 .sh m_law := by
  obtain ⟨f, fd, F, b, g⟩ := Z.f_law
  refine ⟨f, fd, ["script"], fn_mk F sc_law rfl (by decide) (Γ' := []) (fun cdv A outer s H E hr hp => ?_), g, F.kp, b⟩
  have nd := sc_law.nd
  exact (jss_cons (js_setC 1 nd (je_call (c__law_box Z) hr (by omega) rfl (ja_cons (je_call (c__law_cells Z) hr (by omega) rfl (ja_cons (je_var 0) (ja_cons je_int ja_nil))) (ja_cons je_int ja_nil))))
    (jss_cons (js_for hp rfl (ji_range1 rfl Z.n_range (ja_cons je_int ja_nil)) (jg_one 2 nd)
    (jss_cons (js_if (jt_not (jt_tru (je_b (je_call (c__law_words_right Z V) hr (by omega) rfl (ja_cons (je_var 1) ja_nil)))))
    (jss_one (js_ret je_bl))
    jss_nil)
    (jss_cons (js_set 3 nd (je_call (c__law_cut Z) hr (by omega) rfl (ja_cons (je_op bin_sub (je_b (je_call (c__law_take Z) hr (by omega) rfl (ja_cons (je_var 1) (ja_cons je_int ja_nil)))) (je_b je_int)) (ja_cons (je_f (je_op bin_add (je_b je_int) (je_b (je_call (c__law_take Z) hr (by omega) rfl (ja_cons (je_var 1) (ja_cons je_int ja_nil)))))) ja_nil))))
    (jss_cons (js_set 4 nd (je_call (c__law_cut Z) hr (by omega) rfl (ja_cons (je_op bin_sub (je_b (je_op bin_sub (je_b (je_op bin_pow (je_b je_int) (je_b je_int))) (je_b je_int))) (je_b (je_call (c__law_take Z) hr (by omega) rfl (ja_cons (je_var 1) (ja_cons je_int ja_nil))))) (ja_cons (je_f (je_op bin_add (je_b je_int) (je_b (je_call (c__law_take Z) hr (by omega) rfl (ja_cons (je_var 1) (ja_cons je_int ja_nil)))))) ja_nil))))
    (jss_cons (js_set 5 nd (je_f (je_lst (ja_cons (je_call (c_fraction_of Z) hr (by omega) rfl (ja_cons (je_call (c_word_of Z) hr (by omega) rfl (ja_cons (je_var 3) ja_nil)) ja_nil)) (ja_cons (je_call (c_fraction_of Z) hr (by omega) rfl (ja_cons (je_call (c_word_of Z) hr (by omega) rfl (ja_cons (je_var 4) ja_nil)) ja_nil)) (ja_cons (je_call (c_number_of Z) hr (by omega) rfl (ja_cons (je_bty bi_strI rfl Z.n_str (je_b (je_ix (je_b (je_var 3)) (je_b je_int)))) ja_nil)) (ja_cons (je_call (c_word_of Z) hr (by omega) rfl (ja_cons (je_tup (ja_cons (je_ix (je_b (je_var 3)) (je_b je_int)) (ja_cons je_int ja_nil))) ja_nil)) ja_nil)))))))
    (jss_one (js_if (jt_not (jt_tru (je_b (je_call (c__law_same Z 8) hr (by omega) rfl (ja_cons (je_var 5) (ja_cons (je_f (je_lst (ja_cons (je_var 3) (ja_cons (je_var 4) (ja_cons (je_ix (je_b (je_var 3)) (je_b je_int)) (ja_cons (je_bty bi_strI rfl Z.n_str (je_b (je_ix (je_b (je_var 3)) (je_b je_int)))) ja_nil)))))) ja_nil))))))
    (jss_one (js_ret je_bl))
    jss_nil)))))))
    (jss_cons (js_set 6 nd (je_f (je_lst (ja_cons je_str (ja_cons je_str (ja_cons je_str (ja_cons je_str (ja_cons je_str (ja_cons je_str (ja_cons je_str (ja_cons je_str (ja_cons je_str (ja_cons je_str (ja_cons je_str (ja_cons je_str (ja_cons je_str (ja_cons je_str (ja_cons je_str (ja_cons (je_f (je_op bin_mulS (je_b je_str) (je_b je_int))) (ja_cons (je_f (je_op bin_add (je_b je_str) (je_fb (je_op bin_mulS (je_b je_str) (je_b je_int))))) ja_nil))))))))))))))))))))
    (jss_cons (js_if (jw_pt (jw_or (jt_not (jt_tru (je_b (je_call (c__law_same Z 8) hr (by omega) rfl (ja_cons (je_f (je_lc [("own", 3)] rfl nd (ji_seq (je_var 6)) (blk_of rfl) (fun _ _ _ _ _ => (jg_one 3 nd)) (fun _ _ _ _ _ => jts_nil) (fun _ _ _ _ _ => (je_call (c_fraction_of Z) hr (by omega) rfl (ja_cons (je_var 3) ja_nil))))) (ja_cons (je_f (je_op bin_mul (je_fb (je_lst (ja_cons je_non ja_nil))) (je_b (je_bi bi_lenC rfl Z.n_len (je_b (je_var 6)))))) ja_nil)))))) (jw_or1 (jt_not (jt_tru (je_b (je_call (c__law_same Z 8) hr (by omega) rfl (ja_cons (je_f (je_lc [("own", 3)] rfl nd (ji_seq (je_f (je_op bin_add (je_b (je_var 6)) (je_fb (je_lst (ja_cons je_str ja_nil)))))) (blk_of rfl) (fun _ _ _ _ _ => (jg_one 3 nd)) (fun _ _ _ _ _ => jts_nil) (fun _ _ _ _ _ => (je_call (c_number_of Z) hr (by omega) rfl (ja_cons (je_var 3) ja_nil))))) (ja_cons (je_f (je_op bin_mul (je_fb (je_lst (ja_cons je_non ja_nil))) (je_fb (je_op bin_add (je_b (je_bi bi_lenC rfl Z.n_len (je_b (je_var 6)))) (je_b je_int))))) ja_nil)))))))))
    (jss_one (js_ret je_bl))
    jss_nil)
    (jss_cons (js_set 5 nd (je_f (je_lst (ja_cons (je_call (c_number_of Z) hr (by omega) rfl (ja_cons (je_f (je_op bin_mulS (je_b je_str) (je_b je_int))) ja_nil)) (ja_cons (je_call (c_fraction_of Z) hr (by omega) rfl (ja_cons (je_f (je_op bin_add (je_b je_str) (je_fb (je_op bin_mulS (je_b je_str) (je_b je_int))))) ja_nil)) (ja_cons (je_call (c_number_of Z) hr (by omega) rfl (ja_cons je_str ja_nil)) (ja_cons (je_call (c_fraction_of Z) hr (by omega) rfl (ja_cons je_str ja_nil)) (ja_cons (je_call (c_words Z) hr (by omega) rfl (ja_cons je_str ja_nil)) (ja_cons (je_call (c_words Z) hr (by omega) rfl (ja_cons je_str ja_nil)) (ja_cons (je_call (Cal.trim (c_text_of Z)) hr (by omega) rfl (ja_cons (je_f (je_lst ja_nil)) ja_nil)) (ja_cons (je_call (Cal.trim (c_text_of Z)) hr (by omega) rfl (ja_cons (je_f (je_lst (ja_cons (je_tup (ja_cons je_str (ja_cons je_int ja_nil))) ja_nil))) ja_nil)) ja_nil)))))))))))
    (jss_cons (js_setF (Γ' := [.sh, .sh, .sh, .sh, .sh, .sh, .sh, .o1]) 7 nd (je_lst (ja_cons (je_bty bi_intS rfl Z.n_int (je_fb (je_op bin_mulS (je_b je_str) (je_b je_int)))) (ja_cons je_non (ja_cons je_int (ja_cons (je_tup (ja_cons (je_op bin_sub (je_b je_int) (je_b je_int)) (ja_cons je_int ja_nil))) (ja_cons (je_f (je_lst ja_nil)) (ja_cons (je_f (je_lst ja_nil)) (ja_cons je_str (ja_cons je_str ja_nil))))))))) (hΓ := flf_of 8 (by decide) (by decide) (by decide) (by decide)))
    (jss_cons (js_setI 7 (je_if (jt_cmp (cmp_ne (hu64 hr)) (je_b (je_op bin_mod (je_b (je_bty bi_intS rfl Z.n_int (je_fb (je_op bin_mulS (je_b je_str) (je_b je_int))))) (je_b je_int))) (je_b je_int)) (je_tup (ja_cons (je_op bin_sub (je_b je_int) (je_b je_int)) (ja_cons (je_bty bi_intS rfl Z.n_int (je_fb (je_op bin_mulS (je_b je_str) (je_b je_int)))) ja_nil))) je_non) (je_b je_int))
    (jss_one (js_ret (je_callB (c__law_same Z 8) hr (by omega) rfl (jb_cons (je_b (je_var 5)) (jb_cons (je_varB 7) jb_nil))))))))))))
set_option maxHeartbeats 0 in
theorem ok_law (Z : Fa K mg T P base) (V : Tab P w K mg base T 20 arV mfV) {f : Addr} {fd : FuncData} (F : Fun K "law" "law" s_law f fd) : FnOk P w K mg base (L2.CX P w) 23 f fd ["script"] (spOf K T 1 .sh m_law) := by
  refine fn_mk F sc_law rfl (by decide) (Γ' := []) (fun cdv A outer s H E hr hp => ?_)
  have nd := sc_law.nd
  exact (jss_cons (js_setC 1 nd (je_call (c__law_box Z) hr (by omega) rfl (ja_cons (je_call (c__law_cells Z) hr (by omega) rfl (ja_cons (je_var 0) (ja_cons je_int ja_nil))) (ja_cons je_int ja_nil))))
    (jss_cons (js_for hp rfl (ji_range1 rfl Z.n_range (ja_cons je_int ja_nil)) (jg_one 2 nd)
    (jss_cons (js_if (jt_not (jt_tru (je_b (je_call (c__law_words_right Z V) hr (by omega) rfl (ja_cons (je_var 1) ja_nil)))))
    (jss_one (js_ret je_bl))
    jss_nil)
    (jss_cons (js_set 3 nd (je_call (c__law_cut Z) hr (by omega) rfl (ja_cons (je_op bin_sub (je_b (je_call (c__law_take Z) hr (by omega) rfl (ja_cons (je_var 1) (ja_cons je_int ja_nil)))) (je_b je_int)) (ja_cons (je_f (je_op bin_add (je_b je_int) (je_b (je_call (c__law_take Z) hr (by omega) rfl (ja_cons (je_var 1) (ja_cons je_int ja_nil)))))) ja_nil))))
    (jss_cons (js_set 4 nd (je_call (c__law_cut Z) hr (by omega) rfl (ja_cons (je_op bin_sub (je_b (je_op bin_sub (je_b (je_op bin_pow (je_b je_int) (je_b je_int))) (je_b je_int))) (je_b (je_call (c__law_take Z) hr (by omega) rfl (ja_cons (je_var 1) (ja_cons je_int ja_nil))))) (ja_cons (je_f (je_op bin_add (je_b je_int) (je_b (je_call (c__law_take Z) hr (by omega) rfl (ja_cons (je_var 1) (ja_cons je_int ja_nil)))))) ja_nil))))
    (jss_cons (js_set 5 nd (je_f (je_lst (ja_cons (je_call (c_fraction_of Z) hr (by omega) rfl (ja_cons (je_call (c_word_of Z) hr (by omega) rfl (ja_cons (je_var 3) ja_nil)) ja_nil)) (ja_cons (je_call (c_fraction_of Z) hr (by omega) rfl (ja_cons (je_call (c_word_of Z) hr (by omega) rfl (ja_cons (je_var 4) ja_nil)) ja_nil)) (ja_cons (je_call (c_number_of Z) hr (by omega) rfl (ja_cons (je_bty bi_strI rfl Z.n_str (je_b (je_ix (je_b (je_var 3)) (je_b je_int)))) ja_nil)) (ja_cons (je_call (c_word_of Z) hr (by omega) rfl (ja_cons (je_tup (ja_cons (je_ix (je_b (je_var 3)) (je_b je_int)) (ja_cons je_int ja_nil))) ja_nil)) ja_nil)))))))
    (jss_one (js_if (jt_not (jt_tru (je_b (je_call (c__law_same Z 8) hr (by omega) rfl (ja_cons (je_var 5) (ja_cons (je_f (je_lst (ja_cons (je_var 3) (ja_cons (je_var 4) (ja_cons (je_ix (je_b (je_var 3)) (je_b je_int)) (ja_cons (je_bty bi_strI rfl Z.n_str (je_b (je_ix (je_b (je_var 3)) (je_b je_int)))) ja_nil)))))) ja_nil))))))
    (jss_one (js_ret je_bl))
    jss_nil)))))))
    (jss_cons (js_set 6 nd (je_f (je_lst (ja_cons je_str (ja_cons je_str (ja_cons je_str (ja_cons je_str (ja_cons je_str (ja_cons je_str (ja_cons je_str (ja_cons je_str (ja_cons je_str (ja_cons je_str (ja_cons je_str (ja_cons je_str (ja_cons je_str (ja_cons je_str (ja_cons je_str (ja_cons (je_f (je_op bin_mulS (je_b je_str) (je_b je_int))) (ja_cons (je_f (je_op bin_add (je_b je_str) (je_fb (je_op bin_mulS (je_b je_str) (je_b je_int))))) ja_nil))))))))))))))))))))
    (jss_cons (js_if (jw_pt (jw_or (jt_not (jt_tru (je_b (je_call (c__law_same Z 8) hr (by omega) rfl (ja_cons (je_f (je_lc [("own", 3)] rfl nd (ji_seq (je_var 6)) (blk_of rfl) (fun _ _ _ _ _ => (jg_one 3 nd)) (fun _ _ _ _ _ => jts_nil) (fun _ _ _ _ _ => (je_call (c_fraction_of Z) hr (by omega) rfl (ja_cons (je_var 3) ja_nil))))) (ja_cons (je_f (je_op bin_mul (je_fb (je_lst (ja_cons je_non ja_nil))) (je_b (je_bi bi_lenC rfl Z.n_len (je_b (je_var 6)))))) ja_nil)))))) (jw_or1 (jt_not (jt_tru (je_b (je_call (c__law_same Z 8) hr (by omega) rfl (ja_cons (je_f (je_lc [("own", 3)] rfl nd (ji_seq (je_f (je_op bin_add (je_b (je_var 6)) (je_fb (je_lst (ja_cons je_str ja_nil)))))) (blk_of rfl) (fun _ _ _ _ _ => (jg_one 3 nd)) (fun _ _ _ _ _ => jts_nil) (fun _ _ _ _ _ => (je_call (c_number_of Z) hr (by omega) rfl (ja_cons (je_var 3) ja_nil))))) (ja_cons (je_f (je_op bin_mul (je_fb (je_lst (ja_cons je_non ja_nil))) (je_fb (je_op bin_add (je_b (je_bi bi_lenC rfl Z.n_len (je_b (je_var 6)))) (je_b je_int))))) ja_nil)))))))))
    (jss_one (js_ret je_bl))
    jss_nil)
    (jss_cons (js_set 5 nd (je_f (je_lst (ja_cons (je_call (c_number_of Z) hr (by omega) rfl (ja_cons (je_f (je_op bin_mulS (je_b je_str) (je_b je_int))) ja_nil)) (ja_cons (je_call (c_fraction_of Z) hr (by omega) rfl (ja_cons (je_f (je_op bin_add (je_b je_str) (je_fb (je_op bin_mulS (je_b je_str) (je_b je_int))))) ja_nil)) (ja_cons (je_call (c_number_of Z) hr (by omega) rfl (ja_cons je_str ja_nil)) (ja_cons (je_call (c_fraction_of Z) hr (by omega) rfl (ja_cons je_str ja_nil)) (ja_cons (je_call (c_words Z) hr (by omega) rfl (ja_cons je_str ja_nil)) (ja_cons (je_call (c_words Z) hr (by omega) rfl (ja_cons je_str ja_nil)) (ja_cons (je_call (Cal.trim (c_text_of Z)) hr (by omega) rfl (ja_cons (je_f (je_lst ja_nil)) ja_nil)) (ja_cons (je_call (Cal.trim (c_text_of Z)) hr (by omega) rfl (ja_cons (je_f (je_lst (ja_cons (je_tup (ja_cons je_str (ja_cons je_int ja_nil))) ja_nil))) ja_nil)) ja_nil)))))))))))
    (jss_cons (js_setF (Γ' := [.sh, .sh, .sh, .sh, .sh, .sh, .sh, .o1]) 7 nd (je_lst (ja_cons (je_bty bi_intS rfl Z.n_int (je_fb (je_op bin_mulS (je_b je_str) (je_b je_int)))) (ja_cons je_non (ja_cons je_int (ja_cons (je_tup (ja_cons (je_op bin_sub (je_b je_int) (je_b je_int)) (ja_cons je_int ja_nil))) (ja_cons (je_f (je_lst ja_nil)) (ja_cons (je_f (je_lst ja_nil)) (ja_cons je_str (ja_cons je_str ja_nil))))))))) (hΓ := flf_of 8 (by decide) (by decide) (by decide) (by decide)))
    (jss_cons (js_setI 7 (je_if (jt_cmp (cmp_ne (hu64 hr)) (je_b (je_op bin_mod (je_b (je_bty bi_intS rfl Z.n_int (je_fb (je_op bin_mulS (je_b je_str) (je_b je_int))))) (je_b je_int))) (je_b je_int)) (je_tup (ja_cons (je_op bin_sub (je_b je_int) (je_b je_int)) (ja_cons (je_bty bi_intS rfl Z.n_int (je_fb (je_op bin_mulS (je_b je_str) (je_b je_int)))) ja_nil))) je_non) (je_b je_int))
    (jss_one (js_ret (je_callB (c__law_same Z 8) hr (by omega) rfl (jb_cons (je_b (je_var 5)) (jb_cons (je_varB 7) jb_nil))))))))))))
theorem tabV (Z : Fa K mg T P base) : Tab P w K mg base T 20 arV mfV := by
  refine ⟨fun j f h => ?_⟩
  have hj := Z.t_all j f h
  match j, hj with
  | 0, _ => exact tab_one (j := 0) Z.t_words h (c_words Z) (by omega)
set_option maxHeartbeats 0 in
theorem all_mk (LT : LawTrue m_law) {l : PySem.W.OpenLaw} {h : Heap} {fa : Addr} (X : K.In h) (G : h.Ns mainGlobals mg) (hfa : mg "law" = some (.ref fa))
    {f__law_box : Addr} {od__law_box an__law_box : Option Addr} {sl__law_box : Array (Option Value)} {oc__law_box kV__law_box dc__law_box pm__law_box cd__law_box ct__law_box : Value} {f__law_same : Addr} {od__law_same an__law_same : Option Addr} {sl__law_same : Array (Option Value)} {oc__law_same kV__law_same dc__law_same pm__law_same cd__law_same ct__law_same : Value} {f__law_cells : Addr} {od__law_cells an__law_cells : Option Addr} {sl__law_cells : Array (Option Value)} {oc__law_cells kV__law_cells dc__law_cells pm__law_cells cd__law_cells ct__law_cells : Value} {f__law_cut : Addr} {od__law_cut an__law_cut : Option Addr} {sl__law_cut : Array (Option Value)} {oc__law_cut kV__law_cut dc__law_cut pm__law_cut cd__law_cut ct__law_cut : Value} {f_figures_of : Addr} {od_figures_of an_figures_of : Option Addr} {sl_figures_of : Array (Option Value)} {oc_figures_of kV_figures_of dc_figures_of pm_figures_of cd_figures_of ct_figures_of : Value} {f_number_of : Addr} {od_number_of an_number_of : Option Addr} {sl_number_of : Array (Option Value)} {oc_number_of kV_number_of dc_number_of pm_number_of cd_number_of ct_number_of : Value} {f_fraction_of : Addr} {od_fraction_of an_fraction_of : Option Addr} {sl_fraction_of : Array (Option Value)} {oc_fraction_of kV_fraction_of dc_fraction_of pm_fraction_of cd_fraction_of ct_fraction_of : Value} {f_run_from : Addr} {od_run_from an_run_from : Option Addr} {sl_run_from : Array (Option Value)} {oc_run_from kV_run_from dc_run_from pm_run_from cd_run_from ct_run_from : Value} {f_line_words : Addr} {od_line_words an_line_words : Option Addr} {sl_line_words : Array (Option Value)} {oc_line_words kV_line_words dc_line_words pm_line_words cd_line_words ct_line_words : Value} {f_words : Addr} {od_words an_words : Option Addr} {sl_words : Array (Option Value)} {oc_words kV_words dc_words pm_words cd_words ct_words : Value} {f_text_of : Addr} {od_text_of an_text_of : Option Addr} {sl_text_of : Array (Option Value)} {oc_text_of kV_text_of dc_text_of pm_text_of cd_text_of ct_text_of : Value} {f__law_take : Addr} {od__law_take an__law_take : Option Addr} {sl__law_take : Array (Option Value)} {oc__law_take kV__law_take dc__law_take pm__law_take cd__law_take ct__law_take : Value} {f__law_heard : Addr} {od__law_heard an__law_heard : Option Addr} {sl__law_heard : Array (Option Value)} {oc__law_heard kV__law_heard dc__law_heard pm__law_heard cd__law_heard ct__law_heard : Value} {f__law_of : Addr} {od__law_of an__law_of : Option Addr} {sl__law_of : Array (Option Value)} {oc__law_of kV__law_of dc__law_of pm__law_of cd__law_of ct__law_of : Value} {f__law_words_right : Addr} {od__law_words_right an__law_words_right : Option Addr} {sl__law_words_right : Array (Option Value)} {oc__law_words_right kV__law_words_right dc__law_words_right pm__law_words_right cd__law_words_right ct__law_words_right : Value} {f_word_of : Addr} {od_word_of an_word_of : Option Addr} {sl_word_of : Array (Option Value)} {oc_word_of kV_word_of dc_word_of pm_word_of cd_word_of ct_word_of : Value} {f_law : Addr} {od_law an_law : Option Addr} {sl_law : Array (Option Value)} {oc_law kV_law dc_law pm_law cd_law ct_law : Value} {t_FIGURES : Nat} {t_LONGEST : Nat} {t_MINUS : Nat} {t_REMARK : Nat} {t_SIGNS : Nat} {t_STROKE : Nat} {C_BadText : Addr} {C_CanNot : Addr} {C_NoPlace : Addr} {C_TooMany : Addr} {C_Unfit : Addr} {fi_BadText ca_BadText ce_BadText : Addr} {oi_BadText ai_BadText oj_BadText ok_BadText : Option Addr} {li_BadText lj_BadText lk_BadText : Array (Option Value)} {ci_BadText ki_BadText di_BadText mi_BadText ti_BadText cj_BadText ck_BadText : Value} {vs_BadText : Array Value} {fn_BadText : Str} {tf_BadText : Tok} {cl_BadText : ClassData}
    (a__law_box : PySem.W.nsIn K mainGlobals "_law_box" = some (some (.ref f__law_box))) (l__law_box : K.lookup f__law_box = some ⟨oc__law_box, od__law_box, .func (PySem.W.fnOf "_law_box" "_law_box" (defArgs s__law_box) (defBody s__law_box) (defScope s__law_box) .none kV__law_box dc__law_box pm__law_box an__law_box cd__law_box ct__law_box), sl__law_box⟩) (cc__law_box : PySem.W.codeIn K cd__law_box "_law_box" = true) (k__law_box : PySem.W.keepIn K (.ref f__law_box) = true) (a__law_same : PySem.W.nsIn K mainGlobals "_law_same" = some (some (.ref f__law_same))) (l__law_same : K.lookup f__law_same = some ⟨oc__law_same, od__law_same, .func (PySem.W.fnOf "_law_same" "_law_same" (defArgs s__law_same) (defBody s__law_same) (defScope s__law_same) .none kV__law_same dc__law_same pm__law_same an__law_same cd__law_same ct__law_same), sl__law_same⟩) (cc__law_same : PySem.W.codeIn K cd__law_same "_law_same" = true) (k__law_same : PySem.W.keepIn K (.ref f__law_same) = true) (a__law_cells : PySem.W.nsIn K mainGlobals "_law_cells" = some (some (.ref f__law_cells))) (l__law_cells : K.lookup f__law_cells = some ⟨oc__law_cells, od__law_cells, .func (PySem.W.fnOf "_law_cells" "_law_cells" (defArgs s__law_cells) (defBody s__law_cells) (defScope s__law_cells) .none kV__law_cells dc__law_cells pm__law_cells an__law_cells cd__law_cells ct__law_cells), sl__law_cells⟩) (cc__law_cells : PySem.W.codeIn K cd__law_cells "_law_cells" = true) (k__law_cells : PySem.W.keepIn K (.ref f__law_cells) = true) (a__law_cut : PySem.W.nsIn K mainGlobals "_law_cut" = some (some (.ref f__law_cut))) (l__law_cut : K.lookup f__law_cut = some ⟨oc__law_cut, od__law_cut, .func (PySem.W.fnOf "_law_cut" "_law_cut" (defArgs s__law_cut) (defBody s__law_cut) (defScope s__law_cut) .none kV__law_cut dc__law_cut pm__law_cut an__law_cut cd__law_cut ct__law_cut), sl__law_cut⟩) (cc__law_cut : PySem.W.codeIn K cd__law_cut "_law_cut" = true) (k__law_cut : PySem.W.keepIn K (.ref f__law_cut) = true) (a_figures_of : PySem.W.nsIn K mainGlobals "figures_of" = some (some (.ref f_figures_of))) (l_figures_of : K.lookup f_figures_of = some ⟨oc_figures_of, od_figures_of, .func (PySem.W.fnOf "figures_of" "figures_of" (defArgs s_figures_of) (defBody s_figures_of) (defScope s_figures_of) .none kV_figures_of dc_figures_of pm_figures_of an_figures_of cd_figures_of ct_figures_of), sl_figures_of⟩) (cc_figures_of : PySem.W.codeIn K cd_figures_of "figures_of" = true) (k_figures_of : PySem.W.keepIn K (.ref f_figures_of) = true) (a_number_of : PySem.W.nsIn K mainGlobals "number_of" = some (some (.ref f_number_of))) (l_number_of : K.lookup f_number_of = some ⟨oc_number_of, od_number_of, .func (PySem.W.fnOf "number_of" "number_of" (defArgs s_number_of) (defBody s_number_of) (defScope s_number_of) .none kV_number_of dc_number_of pm_number_of an_number_of cd_number_of ct_number_of), sl_number_of⟩) (cc_number_of : PySem.W.codeIn K cd_number_of "number_of" = true) (k_number_of : PySem.W.keepIn K (.ref f_number_of) = true) (a_fraction_of : PySem.W.nsIn K mainGlobals "fraction_of" = some (some (.ref f_fraction_of))) (l_fraction_of : K.lookup f_fraction_of = some ⟨oc_fraction_of, od_fraction_of, .func (PySem.W.fnOf "fraction_of" "fraction_of" (defArgs s_fraction_of) (defBody s_fraction_of) (defScope s_fraction_of) .none kV_fraction_of dc_fraction_of pm_fraction_of an_fraction_of cd_fraction_of ct_fraction_of), sl_fraction_of⟩) (cc_fraction_of : PySem.W.codeIn K cd_fraction_of "fraction_of" = true) (k_fraction_of : PySem.W.keepIn K (.ref f_fraction_of) = true) (a_run_from : PySem.W.nsIn K mainGlobals "run_from" = some (some (.ref f_run_from))) (l_run_from : K.lookup f_run_from = some ⟨oc_run_from, od_run_from, .func (PySem.W.fnOf "run_from" "run_from" (defArgs s_run_from) (defBody s_run_from) (defScope s_run_from) .none kV_run_from dc_run_from pm_run_from an_run_from cd_run_from ct_run_from), sl_run_from⟩) (cc_run_from : PySem.W.codeIn K cd_run_from "run_from" = true) (k_run_from : PySem.W.keepIn K (.ref f_run_from) = true) (a_line_words : PySem.W.nsIn K mainGlobals "line_words" = some (some (.ref f_line_words))) (l_line_words : K.lookup f_line_words = some ⟨oc_line_words, od_line_words, .func (PySem.W.fnOf "line_words" "line_words" (defArgs s_line_words) (defBody s_line_words) (defScope s_line_words) .none kV_line_words dc_line_words pm_line_words an_line_words cd_line_words ct_line_words), sl_line_words⟩) (cc_line_words : PySem.W.codeIn K cd_line_words "line_words" = true) (k_line_words : PySem.W.keepIn K (.ref f_line_words) = true) (a_words : PySem.W.nsIn K mainGlobals "words" = some (some (.ref f_words))) (l_words : K.lookup f_words = some ⟨oc_words, od_words, .func (PySem.W.fnOf "words" "words" (defArgs s_words) (defBody s_words) (defScope s_words) .none kV_words dc_words pm_words an_words cd_words ct_words), sl_words⟩) (cc_words : PySem.W.codeIn K cd_words "words" = true) (k_words : PySem.W.keepIn K (.ref f_words) = true) (a_text_of : PySem.W.nsIn K mainGlobals "text_of" = some (some (.ref f_text_of))) (l_text_of : K.lookup f_text_of = some ⟨oc_text_of, od_text_of, .func (PySem.W.fnOf "text_of" "text_of" (defArgs s_text_of) (defBody s_text_of) (defScope s_text_of) .none kV_text_of dc_text_of pm_text_of an_text_of cd_text_of ct_text_of), sl_text_of⟩) (cc_text_of : PySem.W.codeIn K cd_text_of "text_of" = true) (k_text_of : PySem.W.keepIn K (.ref f_text_of) = true) (a__law_take : PySem.W.nsIn K mainGlobals "_law_take" = some (some (.ref f__law_take))) (l__law_take : K.lookup f__law_take = some ⟨oc__law_take, od__law_take, .func (PySem.W.fnOf "_law_take" "_law_take" (defArgs s__law_take) (defBody s__law_take) (defScope s__law_take) .none kV__law_take dc__law_take pm__law_take an__law_take cd__law_take ct__law_take), sl__law_take⟩) (cc__law_take : PySem.W.codeIn K cd__law_take "_law_take" = true) (k__law_take : PySem.W.keepIn K (.ref f__law_take) = true) (a__law_heard : PySem.W.nsIn K mainGlobals "_law_heard" = some (some (.ref f__law_heard))) (l__law_heard : K.lookup f__law_heard = some ⟨oc__law_heard, od__law_heard, .func (PySem.W.fnOf "_law_heard" "_law_heard" (defArgs s__law_heard) (defBody s__law_heard) (defScope s__law_heard) .none kV__law_heard dc__law_heard pm__law_heard an__law_heard cd__law_heard ct__law_heard), sl__law_heard⟩) (cc__law_heard : PySem.W.codeIn K cd__law_heard "_law_heard" = true) (k__law_heard : PySem.W.keepIn K (.ref f__law_heard) = true) (a__law_of : PySem.W.nsIn K mainGlobals "_law_of" = some (some (.ref f__law_of))) (l__law_of : K.lookup f__law_of = some ⟨oc__law_of, od__law_of, .func (PySem.W.fnOf "_law_of" "_law_of" (defArgs s__law_of) (defBody s__law_of) (defScope s__law_of) .none kV__law_of dc__law_of pm__law_of an__law_of cd__law_of ct__law_of), sl__law_of⟩) (cc__law_of : PySem.W.codeIn K cd__law_of "_law_of" = true) (k__law_of : PySem.W.keepIn K (.ref f__law_of) = true) (a__law_words_right : PySem.W.nsIn K mainGlobals "_law_words_right" = some (some (.ref f__law_words_right))) (l__law_words_right : K.lookup f__law_words_right = some ⟨oc__law_words_right, od__law_words_right, .func (PySem.W.fnOf "_law_words_right" "_law_words_right" (defArgs s__law_words_right) (defBody s__law_words_right) (defScope s__law_words_right) .none kV__law_words_right dc__law_words_right pm__law_words_right an__law_words_right cd__law_words_right ct__law_words_right), sl__law_words_right⟩) (cc__law_words_right : PySem.W.codeIn K cd__law_words_right "_law_words_right" = true) (k__law_words_right : PySem.W.keepIn K (.ref f__law_words_right) = true) (a_word_of : PySem.W.nsIn K mainGlobals "word_of" = some (some (.ref f_word_of))) (l_word_of : K.lookup f_word_of = some ⟨oc_word_of, od_word_of, .func (PySem.W.fnOf "word_of" "word_of" (defArgs s_word_of) (defBody s_word_of) (defScope s_word_of) .none kV_word_of dc_word_of pm_word_of an_word_of cd_word_of ct_word_of), sl_word_of⟩) (cc_word_of : PySem.W.codeIn K cd_word_of "word_of" = true) (k_word_of : PySem.W.keepIn K (.ref f_word_of) = true) (a_law : PySem.W.nsIn K mainGlobals "law" = some (some (.ref f_law))) (l_law : K.lookup f_law = some ⟨oc_law, od_law, .func (PySem.W.fnOf "law" "law" (defArgs s_law) (defBody s_law) (defScope s_law) .none kV_law dc_law pm_law an_law cd_law ct_law), sl_law⟩) (cc_law : PySem.W.codeIn K cd_law "law" = true) (k_law : PySem.W.keepIn K (.ref f_law) = true) (n_ValueError : PySem.W.nsIn K mainGlobals "ValueError" = some none) (n_abs : PySem.W.nsIn K mainGlobals "abs" = some none) (n_all : PySem.W.nsIn K mainGlobals "all" = some none) (n_bool : PySem.W.nsIn K mainGlobals "bool" = some none) (n_enumerate : PySem.W.nsIn K mainGlobals "enumerate" = some none) (n_int : PySem.W.nsIn K mainGlobals "int" = some none) (n_isinstance : PySem.W.nsIn K mainGlobals "isinstance" = some none) (n_len : PySem.W.nsIn K mainGlobals "len" = some none) (n_list : PySem.W.nsIn K mainGlobals "list" = some none) (n_max : PySem.W.nsIn K mainGlobals "max" = some none) (n_range : PySem.W.nsIn K mainGlobals "range" = some none) (n_str : PySem.W.nsIn K mainGlobals "str" = some none) (n_super : PySem.W.nsIn K mainGlobals "super" = some none) (n_tuple : PySem.W.nsIn K mainGlobals "tuple" = some none) (n_zip : PySem.W.nsIn K mainGlobals "zip" = some none) (u_FIGURES : PySem.W.nsIn K mainGlobals "FIGURES" = some (some (.str "0123456789" t_FIGURES))) (u_LONGEST : PySem.W.nsIn K mainGlobals "LONGEST" = some (some (.int 60 t_LONGEST))) (u_MINUS : PySem.W.nsIn K mainGlobals "MINUS" = some (some (.str "-" t_MINUS))) (u_REMARK : PySem.W.nsIn K mainGlobals "REMARK" = some (some (.str "#" t_REMARK))) (u_SIGNS : PySem.W.nsIn K mainGlobals "SIGNS" = some (some (.str "abcdefghijklmnopqrstuvwxyz0123456789-/" t_SIGNS))) (u_STROKE : PySem.W.nsIn K mainGlobals "STROKE" = some (some (.str "/" t_STROKE))) (b_gcd : PySem.W.nsIn K mainGlobals "gcd" = some (some (.builtin "math.gcd"))) (a_BadText : PySem.W.nsIn K mainGlobals "BadText" = some (some (.ref C_BadText))) (s_BadText : PySem.W.subIn K (.ref C_BadText) (.type "BaseException") = some true) (y_BadText : PySem.W.typeIn K (.ref C_BadText) = some (.type "type")) (a_CanNot : PySem.W.nsIn K mainGlobals "CanNot" = some (some (.ref C_CanNot))) (s_CanNot : PySem.W.subIn K (.ref C_CanNot) (.type "BaseException") = some true) (y_CanNot : PySem.W.typeIn K (.ref C_CanNot) = some (.type "type")) (a_NoPlace : PySem.W.nsIn K mainGlobals "NoPlace" = some (some (.ref C_NoPlace))) (s_NoPlace : PySem.W.subIn K (.ref C_NoPlace) (.type "BaseException") = some true) (y_NoPlace : PySem.W.typeIn K (.ref C_NoPlace) = some (.type "type")) (a_TooMany : PySem.W.nsIn K mainGlobals "TooMany" = some (some (.ref C_TooMany))) (s_TooMany : PySem.W.subIn K (.ref C_TooMany) (.type "BaseException") = some true) (y_TooMany : PySem.W.typeIn K (.ref C_TooMany) = some (.type "type")) (a_Unfit : PySem.W.nsIn K mainGlobals "Unfit" = some (some (.ref C_Unfit))) (s_Unfit : PySem.W.subIn K (.ref C_Unfit) (.type "BaseException") = some true) (y_Unfit : PySem.W.typeIn K (.ref C_Unfit) = some (.type "type")) (d_BadText : PySem.W.hasDictIn K C_BadText = true) (d_CanNot : PySem.W.hasDictIn K C_CanNot = true) (d_NoPlace : PySem.W.hasDictIn K C_NoPlace = true) (d_TooMany : PySem.W.hasDictIn K C_TooMany = true) (d_Unfit : PySem.W.hasDictIn K C_Unfit = true) (k_BadText : PySem.W.keepIn K (.ref C_BadText) = true) (q_BadText : PySem.W.excInitIn K C_BadText [.type "ValueError", .type "Exception", .type "BaseException", .type "object"] "ValueError.__new__" = true) (o_BadText : PySem.W.excOver K C_BadText [.type "ValueError", .type "Exception", .type "BaseException", .type "object"] = true) (sa_BadText : PySem.W.findIn K (.ref C_BadText) "__setattr__" = some (some (.builtin "object.__setattr__"))) (ta_BadText : PySem.W.takerIn K C_BadText "line" = some none) (sB_BadText : PySem.W.subIn K (.ref C_BadText) (.type "ValueError") = some true) (sC_BadText : PySem.W.mroIn K C_BadText (.ref C_BadText) = some true) (op_BadText : PySem.W.nsIn K cStatics "thirdparty.any" = some none) (su_BadText : PySem.W.ks_superIn K C_BadText C_BadText "__init__" = some (some (.builtin "ValueError.__init__"))) (ii_BadText : PySem.W.findIn K (.ref C_BadText) "__init__" = some (some (.ref fi_BadText))) (it_BadText : PySem.W.typeIn K (.ref fi_BadText) = some (.type "function")) (l_BadText : K.lookup fi_BadText = some ⟨ci_BadText, oi_BadText, .func (PySem.W.ksFn "__init__" "BadText.__init__" (defArgs (inSt (topS 3))) (defBody (inSt (topS 3))) (defScope (inSt (topS 3))) .none ki_BadText di_BadText mi_BadText ai_BadText (.ref ca_BadText) ti_BadText ce_BadText), li_BadText⟩) (cc_BadText : PySem.W.codeIn K (.ref ca_BadText) "BadText.__init__" = true) (lc_BadText : K.lookup ca_BadText = some ⟨cj_BadText, oj_BadText, .fields vs_BadText, lj_BadText⟩) (lv_BadText : vs_BadText[2]? = some (.str fn_BadText tf_BadText)) (lf_BadText : (l.prog.main.file == fn_BadText) = true) (lx_BadText : K.lookup ce_BadText = some ⟨ck_BadText, ok_BadText, .cell (some (.ref C_BadText)), lk_BadText⟩) (lC_BadText : PySem.W.clsIn K C_BadText = some cl_BadText) (tp_BadText : (l.prog.main.scope.names.lookup ("super" : Str)).isSome = false) (r_BadText_BadText : PySem.W.subIn K (.ref C_BadText) (.ref C_BadText) = some true) (r_BadText_CanNot : PySem.W.subIn K (.ref C_BadText) (.ref C_CanNot) = some false) (r_BadText_NoPlace : PySem.W.subIn K (.ref C_BadText) (.ref C_NoPlace) = some false) (r_BadText_TooMany : PySem.W.subIn K (.ref C_BadText) (.ref C_TooMany) = some false) (r_BadText_Unfit : PySem.W.subIn K (.ref C_BadText) (.ref C_Unfit) = some false) (hg_BadText : PySem.W.findIn K (.ref C_BadText) "__getattribute__" = some (some (.builtin "BaseException.__getattribute__"))) (hk_BadText : PySem.W.findIn K (.ref C_BadText) "__getattr__" = some none) (ha_BadText : PySem.W.findIn K (.ref C_BadText) "__class__" = some (some (.builtin "object.__class__"))) (hf_BadText : PySem.W.findIn K (.ref C_BadText) "line" = some none) (hm_BadText : PySem.W.mroIn K C_BadText (.type "object") = some true) (ko_BadText : PySem.W.kitOne K (.ref C_BadText) (.type "ValueError") = some true) (hn0 : PySem.W.specialIn K (.builtin "object.__class__") "__get__" = some (some (.builtin "getset_descriptor.__get__"))) (ht0 : PySem.W.takesIn K (.builtin "object.__class__") = some true) :
    ∃ fd : FuncData, (∀ (s : Shared) (v : Value), BindsTo s fd ⟨[v], []⟩ [("script", v)]) ∧ ∀ base : Heap, K.In base → base.Ns mainGlobals mg → SeerP l.prog base → FnOk l.prog w K mg base (L2.CX l.prog w) 23 fa fd ["script"] (spLaw K) := by
  have e := hfa.symm.trans (PySem.W.mg_of X G a_law)
  cases e
  have zz : ∀ base : Heap, SeerP l.prog base → Fa K mg ⟨fun j => match j with | 0 => some f_words | _ => none, fun j => match j with | 0 => some C_BadText | _ => none, fun j => match j with | 0 => ["line"] | _ => []⟩ l.prog base := fun base SP => {
    seer := SP,
    f__law_box := (fnF_mk X G a__law_box l__law_box cc__law_box k__law_box fun _ _ _ _ _ _ us hl => match us, hl with | [_, _], _ => rfl),
    f__law_same := (fnF_mk X G a__law_same l__law_same cc__law_same k__law_same fun _ _ _ _ _ _ us hl => match us, hl with | [_, _], _ => rfl),
    f__law_cells := (fnF_mk X G a__law_cells l__law_cells cc__law_cells k__law_cells fun _ _ _ _ _ _ us hl => match us, hl with | [_, _], _ => rfl),
    f__law_cut := (fnF_mk X G a__law_cut l__law_cut cc__law_cut k__law_cut fun _ _ _ _ _ _ us hl => match us, hl with | [_, _], _ => rfl),
    f_figures_of := (fnF_mk X G a_figures_of l_figures_of cc_figures_of k_figures_of fun _ _ _ _ _ _ us hl => match us, hl with | [_], _ => rfl),
    f_number_of := (fnF_mk X G a_number_of l_number_of cc_number_of k_number_of fun _ _ _ _ _ _ us hl => match us, hl with | [_], _ => rfl),
    f_fraction_of := (fnF_mk X G a_fraction_of l_fraction_of cc_fraction_of k_fraction_of fun _ _ _ _ _ _ us hl => match us, hl with | [_], _ => rfl),
    f_run_from := (fnF_mk X G a_run_from l_run_from cc_run_from k_run_from fun _ _ _ _ _ _ us hl => match us, hl with | [_, _], _ => rfl),
    f_line_words := (fnF_mk X G a_line_words l_line_words cc_line_words k_line_words fun _ _ _ _ _ _ us hl => match us, hl with | [_, _], _ => rfl),
    f_words := (fnF_mk X G a_words l_words cc_words k_words fun _ _ _ _ _ _ us hl => match us, hl with | [_], _ => rfl),
    f_text_of := (fnF_mk X G a_text_of l_text_of cc_text_of k_text_of fun _ _ _ _ _ _ us hl => match us, hl with | [_], _ => rfl),
    f__law_take := (fnF_mk X G a__law_take l__law_take cc__law_take k__law_take fun _ _ _ _ _ _ us hl => match us, hl with | [_, _], _ => rfl),
    f__law_heard := (fnF_mk X G a__law_heard l__law_heard cc__law_heard k__law_heard fun _ _ _ _ _ _ us hl => match us, hl with | [_, _], _ => rfl),
    f__law_of := (fnF_mk X G a__law_of l__law_of cc__law_of k__law_of fun _ _ _ _ _ _ us hl => match us, hl with | [_, _], _ => rfl),
    f__law_words_right := (fnF_mk X G a__law_words_right l__law_words_right cc__law_words_right k__law_words_right fun _ _ _ _ _ _ us hl => match us, hl with | [_], _ => rfl),
    f_word_of := (fnF_mk X G a_word_of l_word_of cc_word_of k_word_of fun _ _ _ _ _ _ us hl => match us, hl with | [_], _ => rfl),
    f_law := (fnF_mk X G a_law l_law cc_law k_law fun _ _ _ _ _ _ us hl => match us, hl with | [_], _ => rfl),
    t_words := (⟨_, PySem.W.mg_of X G a_words, rfl⟩),
    t_all := (fun j f h => by
      match j, h with
      | 0, _ => omega
      | n + 1, h => cases h),
    n_ValueError := (PySem.W.mg_none_of X G n_ValueError),
    n_abs := (PySem.W.mg_none_of X G n_abs),
    n_all := (PySem.W.mg_none_of X G n_all),
    n_bool := (PySem.W.mg_none_of X G n_bool),
    n_enumerate := (PySem.W.mg_none_of X G n_enumerate),
    n_int := (PySem.W.mg_none_of X G n_int),
    n_isinstance := (PySem.W.mg_none_of X G n_isinstance),
    n_len := (PySem.W.mg_none_of X G n_len),
    n_list := (PySem.W.mg_none_of X G n_list),
    n_max := (PySem.W.mg_none_of X G n_max),
    n_range := (PySem.W.mg_none_of X G n_range),
    n_str := (PySem.W.mg_none_of X G n_str),
    n_super := (PySem.W.mg_none_of X G n_super),
    n_tuple := (PySem.W.mg_none_of X G n_tuple),
    n_zip := (PySem.W.mg_none_of X G n_zip),
    c_FIGURES := (con_s X G u_FIGURES),
    c_LONGEST := (con_i X G u_LONGEST),
    c_MINUS := (con_s X G u_MINUS),
    c_REMARK := (con_s X G u_REMARK),
    c_SIGNS := (con_s X G u_SIGNS),
    c_STROKE := (con_s X G u_STROKE),
    b_gcd := (PySem.W.mg_of X G b_gcd),
    x_BadText := (have Z0 : SupC K C_BadText "line" "ValueError" "ValueError.__new__" "ValueError.__init__" [.type "ValueError", .type "Exception", .type "BaseException", .type "object"] := ⟨PySem.F.excBase_ValueError, PySem.W.kxs_ValueError, PySem.F.store_ValueError, q_BadText, o_BadText, sa_BadText, ta_BadText, d_BadText, sB_BadText, sC_BadText, op_BadText, su_BadText, s_BadText, y_BadText, k_BadText⟩; exc1_mk X G a_BadText rfl rfl Z0 ii_BadText it_BadText (init_ok (st := (inSt (topS 3))) (sf := "self") (y := "line") Z0 (PySem.W.mg_none_of X G n_super) l_BadText cc_BadText lc_BadText lv_BadText lf_BadText lx_BadText lC_BadText tp_BadText rfl)),
    k_BadText := (⟨_, PySem.W.mg_of X G a_BadText, fun j C h => by
      match j, h with
      | 0, h => cases h; exact PySem.W.exm_ref s_BadText d_BadText y_BadText r_BadText_BadText
      | n + 1, h => cases h⟩),
    k_CanNot := (⟨_, PySem.W.mg_of X G a_CanNot, fun j C h => by
      match j, h with
      | 0, h => cases h; exact PySem.W.exm_ref s_CanNot d_CanNot y_CanNot r_BadText_CanNot
      | n + 1, h => cases h⟩),
    k_NoPlace := (⟨_, PySem.W.mg_of X G a_NoPlace, fun j C h => by
      match j, h with
      | 0, h => cases h; exact PySem.W.exm_ref s_NoPlace d_NoPlace y_NoPlace r_BadText_NoPlace
      | n + 1, h => cases h⟩),
    k_TooMany := (⟨_, PySem.W.mg_of X G a_TooMany, fun j C h => by
      match j, h with
      | 0, h => cases h; exact PySem.W.exm_ref s_TooMany d_TooMany y_TooMany r_BadText_TooMany
      | n + 1, h => cases h⟩),
    k_Unfit := (⟨_, PySem.W.mg_of X G a_Unfit, fun j C h => by
      match j, h with
      | 0, h => cases h; exact PySem.W.exm_ref s_Unfit d_Unfit y_Unfit r_BadText_Unfit
      | n + 1, h => cases h⟩),
    s_BadText := (⟨fun j C h c => by
      match j, h, c with
      | 0, h, c => cases h; exact ⟨⟨hg_BadText, hk_BadText, s_BadText, d_BadText, ha_BadText, hn0, ht0, hm_BadText⟩, ⟨hg_BadText, hk_BadText, s_BadText, d_BadText⟩, hf_BadText, ko_BadText, rfl⟩
      | n + 1, h, c => cases h⟩) }
  refine ⟨_, fun s v => ?bb, fun base _ _ SP => (ok_law (zz base SP) (tabV (zz base SP)) (fun_mk l_law cc_law k_law)).imp (spLaw_of LT)⟩
  exact .of_eq rfl
end
end A00

set_option linter.all false
set_option maxRecDepth 10000
namespace A00
open PySem PySem.Spec PyProof.Rows L2 DL
theorem lg (x : Nat) (n : Nat) (h : x < 2 ^ n) (hn : 0 < n) : x.log2 < n := by
  by_cases h0 : x = 0
  · rw [h0]; simpa using hn
  · exact (Nat.log2_lt h0).2 h
theorem szl : sizeLine = 16777216 := sizeLine_eq
theorem eqI (a b : Int) : eqD (.int a) (.int b) = some (a == b) := by
  simp [eqD, toP, SeqAt.shaped, PyData.canLay0, PyData.depth, PyData.eqv]
theorem eqB (a b : Bool) : eqD (.bl a) (.bl b) = some (a == b) := by
  simp [eqD, toP, SeqAt.shaped, PyData.canLay0, PyData.depth, PyData.eqv]
theorem neI (a b : Int) : neD (.int a) (.int b) = some (!(a == b)) := by
  simp [neD, eqI]
def sgn (b : Int) : Int := if 0 < b then 1 else -1
theorem l1 : Nat.log2 1 = 0 := by decide
def Sm (x : Int) : Prop := x.natAbs < 2 ^ 1000
theorem Sm.ok {i j : Int} (h : Sm i) (h2 : Sm j) : i.natAbs.log2 + j.natAbs.log2 < 100000000 := by
  have := lg i.natAbs 1000 h (by decide)
  have := lg j.natAbs 1000 h2 (by decide)
  omega
theorem mulI {i j : Int} {s : S} (h : Sm i) (h2 : Sm j) : mulD (.int i) (.int j) s = .ok (.int (i * j)) s := by
  simp only [mulD]
  rw [if_pos (h.ok h2)]
theorem fdvI {i j : Int} {s : S} (h0 : j ≠ 0) (h : Sm j) : fdivD (.int i) (.int j) s = .ok (.int (i.fdiv j)) s := by
  have := lg j.natAbs 1000 h (by decide)
  simp only [fdivD]
  rw [if_pos ⟨h0, by omega⟩]
theorem modI {i j : Int} {s : S} (h0 : j ≠ 0) : modD (.int i) (.int j) s = .ok (.int (i.fmod j)) s := by
  simp only [modD]
  rw [if_pos h0]
theorem fm_lt (x : Int) {w : Int} (hw : 0 < w) : 0 ≤ x.fmod w ∧ x.fmod w < w := ⟨Int.fmod_nonneg_of_pos x hw, Int.fmod_lt_of_pos x hw⟩
def TinR (q : List Cell) (k : Nat) (m : List Cell) : Prop := ∃ a b c : Int, m = .lst [.int a, .int b, .int c] :: q ∧ 0 ≤ a ∧ 0 ≤ b ∧ b < 2 ^ 62 ∧ 0 ≤ c ∧ c ≤ k
theorem jx0 (a b c : Int) (q : List Cell) (r : List (Option D)) : ixD (.ref 0) (.int 0) ⟨r, .lst [.int a, .int b, .int c] :: q⟩ = .ok (.int a) ⟨r, .lst [.int a, .int b, .int c] :: q⟩ := rfl
theorem jx1 (a b c : Int) (q : List Cell) (r : List (Option D)) : ixD (.ref 0) (.int 1) ⟨r, .lst [.int a, .int b, .int c] :: q⟩ = .ok (.int b) ⟨r, .lst [.int a, .int b, .int c] :: q⟩ := rfl
theorem jx2 (a b c : Int) (q : List Cell) (r : List (Option D)) : ixD (.ref 0) (.int 2) ⟨r, .lst [.int a, .int b, .int c] :: q⟩ = .ok (.int c) ⟨r, .lst [.int a, .int b, .int c] :: q⟩ := rfl
theorem e_takeR {q0 : List Cell} {k : Nat} (hk : k < 1000000) {m : List Cell} (h : TinR q0 k m) {w : Int} (hw : 0 < w) (hw2 : w < 2 ^ 900) : ∃ r m', m__law_take [.ref 0, .int w] m = .ok (.int r) m' ∧ 0 ≤ r ∧ r < w ∧ TinR q0 (k + 1) m' := by
  obtain ⟨a, b, c, rfl, ha, hb, hb2, hc, hc2⟩ := h
  have w0 : w ≠ 0 := by omega
  have sw : Sm w := by unfold Sm; omega
  by_cases hp : 0 < a
  · refine ⟨a.fmod w, .lst [.int (a.fdiv w), .int b, .int c] :: q0, ?_, (fm_lt a hw).1, (fm_lt a hw).2, ⟨_, _, _, rfl, ?_, hb, hb2, hc, by omega⟩⟩
    · have x1 : ixN 3 0 = some 0 := by decide
      simp [m__law_take, q__law_take, mkF, sNil, sSeq, sAsg, sAsgF, sAsgC, sPar, sPar3, sIf, sRet, sFor, forL, sSetM, sSetI, sApp, sExt, sDrop, sRaise, sTry, hSay, hNil, Ex.ix, e1, e2, eBi, eIf, eVar, eC, eTup, eLst, eSl, slD, pNone, pSome, eLc, lcL, wipeD, Tg.vs, tYesS, aCons, aNil, t2, tTru, truB, truD, tNotS, tAndS, tOrS, eAndB, eOrB, eNotB, eOrV, cmpB, cmpD, iCmp, R.then, R.bind, asgD, DL.setL, addD, subD, negD, absD, DL.intD, mLst, lenD, listD, tupleD, allD, blsD, isiD, isi2D, isTy, isND, notND, DL.isNon, ltB_eq, eCallN, eCallV, callR, iN, i1, rng1I, seqI, gcdD, augD, sAug, jx0, jx1, jx2, hp, modI w0, fdvI w0 sw, x1]
    · rw [Int.fdiv_eq_ediv_of_nonneg _ (by omega)]
      exact Int.ediv_nonneg ha (by omega)
  · have x1 : ixN 3 2 = some 2 := by decide
    have sc : Sm (c + 1) := by unfold Sm; omega
    have s1 : Sm (b + 48271 * (c + 1)) := by unfold Sm; omega
    have s2 : Sm (40961 + (c + 1)) := by unfold Sm; omega
    have s3 : Sm 48271 := by unfold Sm; decide
    have s7 : Sm 1000003 := by unfold Sm; decide
    have s8 : Sm 64 := by unfold Sm; decide
    obtain ⟨o, ho⟩ : ∃ o, o = ((b + 48271 * (c + 1)) * (40961 + (c + 1))).fmod 2147483647 := ⟨_, rfl⟩
    have o1 := fm_lt ((b + 48271 * (c + 1)) * (40961 + (c + 1))) (w := 2147483647) (by decide)
    rw [← ho] at o1
    obtain ⟨v, hv⟩ : ∃ v, v = o.fmod 40009 + 7 := ⟨_, rfl⟩
    have v1 := fm_lt o (w := 40009) (by decide)
    obtain ⟨q, hq⟩ : ∃ q, q = b.fdiv 1000003 := ⟨_, rfl⟩
    have q1 : 0 ≤ q ∧ q ≤ b := by
      rw [hq, Int.fdiv_eq_ediv_of_nonneg _ (by decide)]
      omega
    have s4 : Sm (o + (c + 1) + q) := by unfold Sm; omega
    have s5 : Sm v := by unfold Sm; omega
    obtain ⟨t, ht⟩ : ∃ t, t = ((o + (c + 1) + q) * v).fmod 2147483629 := ⟨_, rfl⟩
    have t1 := fm_lt ((o + (c + 1) + q) * v) (w := 2147483629) (by decide)
    rw [← ht] at t1
    have s6 : Sm t := by unfold Sm; omega
    refine ⟨(((t * 48271 + o).fmod 2147483587).fdiv 64).fmod w, .lst [.int a, .int b, .int (c + 1)] :: q0, ?_, (fm_lt _ hw).1, (fm_lt _ hw).2, ⟨_, _, _, rfl, ha, hb, hb2, by omega, by omega⟩⟩
    simp [m__law_take, q__law_take, mkF, sNil, sSeq, sAsg, sAsgF, sAsgC, sPar, sPar3, sIf, sRet, sFor, forL, sSetM, sSetI, sApp, sExt, sDrop, sRaise, sTry, hSay, hNil, Ex.ix, e1, e2, eBi, eIf, eVar, eC, eTup, eLst, eSl, slD, pNone, pSome, eLc, lcL, wipeD, Tg.vs, tYesS, aCons, aNil, t2, tTru, truB, truD, tNotS, tAndS, tOrS, eAndB, eOrB, eNotB, eOrV, cmpB, cmpD, iCmp, R.then, R.bind, asgD, DL.setL, addD, subD, negD, absD, DL.intD, mLst, lenD, listD, tupleD, allD, blsD, isiD, isi2D, isTy, isND, notND, DL.isNon, ltB_eq, eCallN, eCallV, callR, iN, i1, rng1I, seqI, gcdD, augD, sAug, jx0, jx1, jx2, hp, x1, modI w0, modI (show (2147483647 : Int) ≠ 0 by decide), modI (show (40009 : Int) ≠ 0 by decide), modI (show (2147483629 : Int) ≠ 0 by decide), modI (show (2147483587 : Int) ≠ 0 by decide), mulI s3 sc, mulI s1 s2, ← ho, ← hv, fdvI (show (1000003 : Int) ≠ 0 by decide) s7, ← hq, mulI s4 s5, ← ht, mulI s6 s3, fdvI (show (64 : Int) ≠ 0 by decide) s8]

theorem seq_nx {f g : S → RS} {s s' : S} (h : f s = .next s') : sSeq f g s = g s' := by
  unfold sSeq
  rw [h]
theorem mulK {a b : Int} {j k : Nat} {s : S} (h1 : a.natAbs < 2 ^ j) (h2 : b.natAbs < 2 ^ k) (hj : j < 9000) (hk : k < 9000) : mulD (.int a) (.int b) s = .ok (.int (a * b)) s := by
  have l1 := lg a.natAbs (j + 1) (Nat.lt_of_lt_of_le h1 (Nat.pow_le_pow_right (by decide) (by omega))) (by omega)
  have l2 := lg b.natAbs (k + 1) (Nat.lt_of_lt_of_le h2 (Nat.pow_le_pow_right (by decide) (by omega))) (by omega)
  simp only [mulD]
  rw [if_pos (by omega)]
theorem rngS (n : Nat) (s : S) (h : n < 2 ^ 62) : rng1I [.int n] s = .ok (rngL 0 n) s := by
  unfold rng1I
  simp only
  rw [if_pos (show (n : Int).natAbs < 2 ^ 62 by omega)]
  rfl
theorem rng0 (s : S) : rng1I [.int 0] s = .ok [] s := rngS 0 s (by decide)
theorem rng1 (s : S) : rng1I [.int 1] s = .ok [.int 0] s := rngS 1 s (by decide)
theorem rng2 (s : S) : rng1I [.int 2] s = .ok [.int 0, .int 1] s := rngS 2 s (by decide)
theorem atN {α : Type} (xs : List α) (p : Nat) (h : p < xs.length) : L2.atI xs (p : Int) = xs[p]? := by
  unfold L2.atI L2.ixN
  rw [if_pos (by omega)]
  simp [h]
theorem ixl (xs : List D) (i : Int) (s : S) : ixD (.lst xs) (.int i) s = match L2.atI xs i with
  | some d => .ok d s
  | none => .stuck := rfl
theorem mulL {i j : Int} {s : S} (h : i.natAbs.log2 + j.natAbs.log2 < 100000000) : mulD (.int i) (.int j) s = .ok (.int (i * j)) s := by
  simp only [mulD]
  rw [if_pos h]
theorem md1 (n : Int) (s : S) : modD (.int n) (.int 1) s = .ok (.int 0) s := by
  rw [modI (by decide)]
  rw [Int.fmod_eq_emod_of_nonneg _ (by decide), Int.emod_one]
theorem ix10 (c : D) : L2.atI [c] 0 = some c := rfl
theorem ixn10 : L2.ixN 1 0 = some 0 := by decide
theorem cellsL (B : Nat) (hL : ∀ y : Nat, y ≤ 8192 * B → y.log2 < 90000000) (x0 : D) (m : List Cell) : ∀ (xs : List Int) (i : Nat) (c : Int) (o3 o4 o5 : Option D), (∀ z ∈ xs, z.natAbs ≤ B) → i + xs.length ≤ 62 → c.natAbs ≤ B + i * (64 * B) →
    ∃ c' o3' o4' o5', forL (.many [3, 4]) q__law_cells_b1 (((xs.map D.int).zipIdx i).map fun p => D.tup [.int (p.2 : Int), p.1]) ⟨[some x0, some (.int 1), some (.lst [.int c]), o3, o4, o5], m⟩ = .next ⟨[some x0, some (.int 1), some (.lst [.int c']), o3', o4', o5'], m⟩ ∧ c'.natAbs ≤ 8192 * B := by
  intro xs
  induction xs with
  | nil =>
    intro i c o3 o4 o5 _ hi hc
    refine ⟨c, o3, o4, o5, by simp [forL], ?_⟩
    have h1 : i * (64 * B) ≤ 62 * (64 * B) := Nat.mul_le_mul_right _ (by simpa using hi)
    omega
  | cons x xs ih =>
    intro i c o3 o4 o5 hb hi hc
    have hx : x.natAbs ≤ B := hb x (by simp)
    simp only [List.length_cons] at hi
    have hm : (x * ((i : Int) + 2)).natAbs ≤ 64 * B := by
      rw [Int.natAbs_mul]
      have : ((i : Int) + 2).natAbs ≤ 64 := by omega
      calc x.natAbs * ((i : Int) + 2).natAbs ≤ B * 64 := Nat.mul_le_mul hx this
        _ = 64 * B := Nat.mul_comm _ _
    have hc' : (c + x * ((i : Int) + 2)).natAbs ≤ B + (i + 1) * (64 * B) := by
      have h1 := Int.natAbs_add_le c (x * ((i : Int) + 2))
      rw [Nat.add_mul, Nat.one_mul]
      omega
    obtain ⟨c', o3', o4', o5', e, hq⟩ := ih (i + 1) (c + x * ((i : Int) + 2)) (some (.int i)) (some (.int x)) (some (.int 0)) (fun z hz => hb z (List.mem_cons_of_mem _ hz)) (by omega) hc'
    refine ⟨c', o3', o4', o5', ?_, hq⟩
    have l1 : x.natAbs.log2 < 90000000 := hL _ (by omega)
    have l2 : ((i : Int) + 2).natAbs.log2 < 7 := lg _ 7 (by omega) (by decide)
    have mm : ∀ s, mulD (.int x) (.int ((i : Int) + 2)) s = .ok (.int (x * ((i : Int) + 2))) s := fun s => mulL (by omega)
    rw [List.map_cons, List.zipIdx_cons, List.map_cons, forL]
    have step : q__law_cells_b1 ⟨[some x0, some (.int 1), some (.lst [.int c]), some (.int i), some (.int x), o5], m⟩ = .next ⟨[some x0, some (.int 1), some (.lst [.int (c + x * ((i : Int) + 2))]), some (.int i), some (.int x), some (.int 0)], m⟩ := by
      simp [q__law_cells_b1, mkF, sNil, sSeq, sAsg, sAsgF, sAsgC, sPar, sPar3, sIf, sRet, sFor, forL, sSetM, sSetI, sApp, sExt, sDrop, sRaise, sTry, hSay, hNil, Ex.ix, e1, e2, eBi, eIf, eVar, eC, eTup, eLst, eSl, slD, pNone, pSome, eLc, lcL, wipeD, Tg.vs, tYesS, aCons, aNil, t2, tTru, truB, truD, tNotS, tAndS, tOrS, eAndB, eOrB, eNotB, eOrV, cmpB, cmpD, iCmp, R.then, R.bind, asgD, DL.setL, addD, subD, negD, absD, DL.intD, mLst, lenD, listD, tupleD, allD, blsD, isiD, isi2D, isTy, isND, notND, DL.isNon, ltB_eq, eCallN, eCallV, callR, iN, i1, rng1I, seqI, gcdD, augD, sAug, md1, mm, ixD, ix10, ixn10]
    simp only [asgD, DL.setL, List.length_cons, List.length_nil, List.set_cons_succ, List.set_cons_zero, if_true, step]
    exact e
theorem e_cells (ns : List Int) (B : Nat) (hL : ∀ y : Nat, y ≤ 8192 * B → y.log2 < 90000000) (hb : ∀ z ∈ ns, z.natAbs ≤ B) (hn : ns.length ≤ 63) (m : List Cell) : ∃ c : Int, m__law_cells [.scr ns, .int 1] m = .ok (.lst [.int c]) m ∧ c.natAbs ≤ 8192 * B := by
  have s1 : (1 : Nat) ≤ sizeLine := by rw [szl]; decide
  cases ns with
  | nil =>
    refine ⟨0, ?_, by simp⟩
    simp [m__law_cells, q__law_cells, mkF, sNil, sSeq, sAsg, sAsgF, sAsgC, sPar, sPar3, sIf, sRet, sFor, forL, sSetM, sSetI, sApp, sExt, sDrop, sRaise, sTry, hSay, hNil, Ex.ix, e1, e2, eBi, eIf, eVar, eC, eTup, eLst, eSl, slD, pNone, pSome, eLc, lcL, wipeD, Tg.vs, tYesS, aCons, aNil, t2, tTru, truB, truD, tNotS, tAndS, tOrS, eAndB, eOrB, eNotB, eOrV, cmpB, cmpD, iCmp, R.then, R.bind, asgD, DL.setL, addD, subD, negD, absD, DL.intD, mLst, lenD, listD, tupleD, allD, blsD, isiD, isi2D, isTy, isND, notND, DL.isNon, ltB_eq, eCallN, eCallV, callR, iN, i1, rng1I, seqI, gcdD, augD, sAug, mulD, modD, fdivD, ixD, cutG, HT.sIx, iEnumB, tupAt, enumI, enumL, s1]
  | cons x xs =>
    simp only [List.length_cons] at hn
    obtain ⟨c', o3', o4', o5', e, hq⟩ := cellsL B hL (.scr (x :: xs)) m xs 0 x none none none (fun z hz => hb z (List.mem_cons_of_mem _ hz)) (by omega) (by have := hb x (by simp); omega)
    refine ⟨c', ?_, hq⟩
    have c1 : cutG (x :: xs) none (some 1) = [x] := by
      unfold cutG
      rw [HT.sIx_none, show HT.sIx (x :: xs).length (x :: xs).length (some 1) = min 1 (x :: xs).length from HT.sIx_nat _ _ 1]
      simp
    have c2 : cutG (x :: xs) (some 1) (some 63) = xs := by
      unfold cutG
      rw [show HT.sIx (x :: xs).length (x :: xs).length (some 63) = min 63 (x :: xs).length from HT.sIx_nat _ _ 63, show HT.sIx (x :: xs).length 0 (some 1) = min 1 (x :: xs).length from HT.sIx_nat _ _ 1]
      have a1 : min 1 (x :: xs).length = 1 := by simp
      have a2 : min 63 (x :: xs).length = xs.length + 1 := by
        rw [List.length_cons]
        omega
      rw [a1, a2]
      simp
    have e' : forL (.many [3, 4]) q__law_cells_b1 (enumL (xs.map D.int)) ⟨[some (.scr (x :: xs)), some (.int 1), some (.lst [.int x]), none, none, none], m⟩ = _ := e
    simp only [m__law_cells, q__law_cells, mkF]
    rw [seq_nx (s' := ⟨[some (.scr (x :: xs)), some (.int 1), some (.lst [.int x]), none, none, none], m⟩) (by simp [mkF, sNil, sSeq, sAsg, sAsgF, sAsgC, sPar, sPar3, sIf, sRet, sFor, forL, sSetM, sSetI, sApp, sExt, sDrop, sRaise, sTry, hSay, hNil, Ex.ix, e1, e2, eBi, eIf, eVar, eC, eTup, eLst, eSl, slD, pNone, pSome, eLc, lcL, wipeD, Tg.vs, tYesS, aCons, aNil, t2, tTru, truB, truD, tNotS, tAndS, tOrS, eAndB, eOrB, eNotB, eOrV, cmpB, cmpD, iCmp, R.then, R.bind, asgD, DL.setL, addD, subD, negD, absD, DL.intD, mLst, lenD, listD, tupleD, allD, blsD, isiD, isi2D, isTy, isND, notND, DL.isNon, ltB_eq, eCallN, eCallV, callR, iN, i1, rng1I, seqI, gcdD, augD, sAug, mulD, modD, fdivD, ixD, c1])]
    rw [seq_nx (s' := ⟨[some (.scr (x :: xs)), some (.int 1), some (.lst [.int c']), o3', o4', o5'], m⟩) (by
      simp [sFor, iEnumB, tupAt, iN, aCons, aNil, eSl, slD, pSome, eVar, eC, R.bind, R.then, c2, enumI]
      exact e')]
    simp [sRet, eVar, R.then]
theorem e_box (c : Int) (m : List Cell) (hc : c.natAbs.log2 < 90000000) : ∃ A b : Int, m__law_box [.lst [.int c], .int 0] m = .ok (.lst [.int A, .int b, .int 0]) m ∧ 0 ≤ A ∧ 0 ≤ b ∧ b < 2 ^ 62 := by
  have s1 : (3 : Nat) ≤ sizeLine := by rw [szl]; decide
  have fm := fm_lt c (w := 2305843009213693951) (by decide)
  have hab : (if c < 0 then -c else c) = (c.natAbs : Int) := by split <;> omega
  have m0 : ∀ s, mulD (.int (c.natAbs : Int)) (.int 0) s = .ok (.int 0) s := fun s => by
    rw [mulL (by simpa using (show c.natAbs.log2 + Nat.log2 0 < 100000000 by rw [show Nat.log2 0 = 0 by decide]; omega)), Int.mul_zero]
  have m1 : ∀ s, mulD (.int (c.natAbs : Int)) (.int 1) s = .ok (.int c.natAbs) s := fun s => by
    rw [mulL (by simpa using (show c.natAbs.log2 + Nat.log2 1 < 100000000 by rw [l1]; omega)), Int.mul_one]
  have m2 : ∀ s, mulD (.int 40961) (.int 0) s = .ok (.int 0) s := fun s => by
    rw [mulL (by decide), Int.mul_zero]
  have md : ∀ s, modD (.int c) (.int 2305843009213693951) s = .ok (.int (c.fmod 2305843009213693951)) s := fun s => modI (by decide)
  by_cases h : (c.natAbs : Int) < 1000000000000000000
  · refine ⟨0, c.fmod 2305843009213693951 + 9520000, ?_, by decide, by omega, by omega⟩
    have hl : ltB c.natAbs 1000000000000000000 = true := by rw [ltB_eq]; exact decide_eq_true h
    have h01 : ltB 0 1 = true := by decide
    simp [m__law_box, q__law_box, mkF, sNil, sSeq, sAsg, sAsgF, sAsgC, sPar, sPar3, sIf, sRet, sFor, forL, sSetM, sSetI, sApp, sExt, sDrop, sRaise, sTry, hSay, hNil, Ex.ix, e1, e2, eBi, eIf, eVar, eC, eTup, eLst, eSl, slD, pNone, pSome, eLc, lcL, wipeD, Tg.vs, tYesS, aCons, aNil, t2, tTru, truB, truD, tNotS, tAndS, tOrS, eAndB, eOrB, eNotB, eOrV, cmpB, cmpD, iCmp, R.then, R.bind, asgD, DL.setL, addD, subD, negD, absD, DL.intD, mLst, lenD, listD, tupleD, allD, blsD, isiD, isi2D, isTy, isND, notND, DL.isNon, eCallN, eCallV, callR, iN, i1, rng1I, seqI, gcdD, augD, sAug, ixD, ix10, hab, powD, hl, h01, m0, m2, md, s1]
  · refine ⟨c.natAbs, c.fmod 2305843009213693951 + 9520000, ?_, by omega, by omega, by omega⟩
    have hl : ltB c.natAbs 1000000000000000000 = false := by rw [ltB_eq]; exact decide_eq_false h
    have h01 : ltB 0 1 = true := by decide
    simp [m__law_box, q__law_box, mkF, sNil, sSeq, sAsg, sAsgF, sAsgC, sPar, sPar3, sIf, sRet, sFor, forL, sSetM, sSetI, sApp, sExt, sDrop, sRaise, sTry, hSay, hNil, Ex.ix, e1, e2, eBi, eIf, eVar, eC, eTup, eLst, eSl, slD, pNone, pSome, eLc, lcL, wipeD, Tg.vs, tYesS, aCons, aNil, t2, tTru, truB, truD, tNotS, tAndS, tOrS, eAndB, eOrB, eNotB, eOrV, cmpB, cmpD, iCmp, R.then, R.bind, asgD, DL.setL, addD, subD, negD, absD, DL.intD, mLst, lenD, listD, tupleD, allD, blsD, isiD, isi2D, isTy, isND, notND, DL.isNon, eCallN, eCallV, callR, iN, i1, rng1I, seqI, gcdD, augD, sAug, ixD, ix10, hab, powD, hl, h01, m1, m2, md, s1]
theorem TinR.len {q m : List Cell} {k : Nat} (h : TinR q k m) : m.length = q.length + 1 := by
  obtain ⟨a, b, c, rfl, _⟩ := h
  rfl
theorem TinR.mono {q m : List Cell} {j k : Nat} (h : TinR q j m) (hk : j ≤ k) : TinR q k m := by
  obtain ⟨a, b, c, e, h1, h2, h3, h4, h5⟩ := h
  exact ⟨a, b, c, e, h1, h2, h3, h4, by omega⟩
theorem e_ofR {q : List Cell} {k : Nat} (hk : k < 1000000) {m : List Cell} (h : TinR q k m) (xs : List D) (h0 : xs ≠ []) (h1 : xs.length ≤ 1000) : ∃ d m', d ∈ xs ∧ m__law_of [.ref 0, .lst xs] m = .ok d m' ∧ TinR q (k + 1) m' := by
  have hl : 0 < xs.length := by
    cases xs with
    | nil => exact absurd rfl h0
    | cons _ _ => simp
  obtain ⟨r, m', e, r0, r1, t⟩ := e_takeR hk h (w := (xs.length : Int)) (by omega) (by omega)
  obtain ⟨j, rfl⟩ : ∃ j : Nat, r = j := ⟨r.toNat, by omega⟩
  have hj : j < xs.length := by omega
  refine ⟨xs[j], m', List.getElem_mem hj, ?_, t⟩
  have ix : ∀ st : S, ixD (.lst xs) (.int (j : Int)) st = .ok xs[j] st := fun st => by
    rw [ixl, atN _ _ hj, List.getElem?_eq_getElem hj]
  simp [m__law_of, q__law_of, mkF, sRet, e2, e1, eVar, eCallN, aCons, aNil, callR, R.bind, R.then, lenD, e, ix]
end A00

set_option linter.all false
set_option maxRecDepth 100000
namespace A00
open PySem PySem.Spec PyProof.Rows L2 DL
def W10 : List Str := ["web", "0", "-7", "1/2", "a-b", "07", "hinges", "-", "/", "z9"]
def Suf : List Str := ["", " ", " # web 1", "#x"]
def tagL (n : Int) (r : List Str) : List D := r.map fun w => .tup [.str w, .int n]
def lineOf (sep : Str) (r : List Str) (suf : Str) : Str := Txt.join sep r ++ suf
def r1 : List (List Str) := W10.map fun w => [w]
def r2 : List (List Str) := W10.flatMap fun w => r1.map fun r => w :: r
/-- a line that is read as its words -/
def LineOk (z : Str) (r : List Str) : Prop := ∀ (n : Int) (m : List Cell), m_line_words [.str z, .int n] m = .ok (.lst (tagL n r)) m
theorem lo_of {L : List (List Str)} {f : List Str → Str} (h : ∀ (n : Int) (m : List Cell), (L.map fun r => m_line_words [.str (f r), .int n] m) = L.map fun r => RF.ok (.lst (tagL n r)) m) : ∀ r ∈ L, LineOk (f r) r := fun r hr n m => List.map_inj_left.1 (h n m) r hr
theorem s0 (n : Int) (m : List Cell) : (([] :: (r1 ++ r2) : List (List Str)).map fun r => m_line_words [.str (lineOf "  " r ""), .int n] m) = ([] :: (r1 ++ r2) : List (List Str)).map fun r => RF.ok (.lst (tagL n r)) m := by kernel_rfl
theorem s1 (n : Int) (m : List Cell) : (([] :: (r1 ++ r2) : List (List Str)).map fun r => m_line_words [.str (lineOf "  " r " "), .int n] m) = ([] :: (r1 ++ r2) : List (List Str)).map fun r => RF.ok (.lst (tagL n r)) m := by kernel_rfl
theorem s2 (n : Int) (m : List Cell) : (([] :: (r1 ++ r2) : List (List Str)).map fun r => m_line_words [.str (lineOf "  " r " # web 1"), .int n] m) = ([] :: (r1 ++ r2) : List (List Str)).map fun r => RF.ok (.lst (tagL n r)) m := by kernel_rfl
theorem s3 (n : Int) (m : List Cell) : (([] :: (r1 ++ r2) : List (List Str)).map fun r => m_line_words [.str (lineOf "  " r "#x"), .int n] m) = ([] :: (r1 ++ r2) : List (List Str)).map fun r => RF.ok (.lst (tagL n r)) m := by kernel_rfl
theorem s4 (n : Int) (m : List Cell) : (([] :: (r1 ++ r2) : List (List Str)).map fun r => m_line_words [.str (lineOf " " r ""), .int n] m) = ([] :: (r1 ++ r2) : List (List Str)).map fun r => RF.ok (.lst (tagL n r)) m := by kernel_rfl
end A00

set_option linter.all false
set_option maxRecDepth 100000
namespace A00
open PySem PySem.Spec PyProof.Rows L2 DL
theorem t0_0 (n : Int) (m : List Cell) : ((r2.map fun r => "web" :: r : List (List Str)).map fun r => m_line_words [.str (lineOf "  " r ""), .int n] m) = (r2.map fun r => "web" :: r : List (List Str)).map fun r => RF.ok (.lst (tagL n r)) m := by kernel_rfl
theorem t1_0 (n : Int) (m : List Cell) : ((r2.map fun r => "web" :: r : List (List Str)).map fun r => m_line_words [.str (lineOf "  " r " "), .int n] m) = (r2.map fun r => "web" :: r : List (List Str)).map fun r => RF.ok (.lst (tagL n r)) m := by kernel_rfl
theorem t2_0 (n : Int) (m : List Cell) : ((r2.map fun r => "web" :: r : List (List Str)).map fun r => m_line_words [.str (lineOf "  " r " # web 1"), .int n] m) = (r2.map fun r => "web" :: r : List (List Str)).map fun r => RF.ok (.lst (tagL n r)) m := by kernel_rfl
theorem t3_0 (n : Int) (m : List Cell) : ((r2.map fun r => "web" :: r : List (List Str)).map fun r => m_line_words [.str (lineOf "  " r "#x"), .int n] m) = (r2.map fun r => "web" :: r : List (List Str)).map fun r => RF.ok (.lst (tagL n r)) m := by kernel_rfl
theorem t4_0 (n : Int) (m : List Cell) : ((r2.map fun r => "web" :: r : List (List Str)).map fun r => m_line_words [.str (lineOf " " r ""), .int n] m) = (r2.map fun r => "web" :: r : List (List Str)).map fun r => RF.ok (.lst (tagL n r)) m := by kernel_rfl
end A00

set_option linter.all false
set_option maxRecDepth 100000
namespace A00
open PySem PySem.Spec PyProof.Rows L2 DL
theorem t0_1 (n : Int) (m : List Cell) : ((r2.map fun r => "0" :: r : List (List Str)).map fun r => m_line_words [.str (lineOf "  " r ""), .int n] m) = (r2.map fun r => "0" :: r : List (List Str)).map fun r => RF.ok (.lst (tagL n r)) m := by kernel_rfl
theorem t1_1 (n : Int) (m : List Cell) : ((r2.map fun r => "0" :: r : List (List Str)).map fun r => m_line_words [.str (lineOf "  " r " "), .int n] m) = (r2.map fun r => "0" :: r : List (List Str)).map fun r => RF.ok (.lst (tagL n r)) m := by kernel_rfl
theorem t2_1 (n : Int) (m : List Cell) : ((r2.map fun r => "0" :: r : List (List Str)).map fun r => m_line_words [.str (lineOf "  " r " # web 1"), .int n] m) = (r2.map fun r => "0" :: r : List (List Str)).map fun r => RF.ok (.lst (tagL n r)) m := by kernel_rfl
theorem t3_1 (n : Int) (m : List Cell) : ((r2.map fun r => "0" :: r : List (List Str)).map fun r => m_line_words [.str (lineOf "  " r "#x"), .int n] m) = (r2.map fun r => "0" :: r : List (List Str)).map fun r => RF.ok (.lst (tagL n r)) m := by kernel_rfl
theorem t4_1 (n : Int) (m : List Cell) : ((r2.map fun r => "0" :: r : List (List Str)).map fun r => m_line_words [.str (lineOf " " r ""), .int n] m) = (r2.map fun r => "0" :: r : List (List Str)).map fun r => RF.ok (.lst (tagL n r)) m := by kernel_rfl
end A00

set_option linter.all false
set_option maxRecDepth 100000
namespace A00
open PySem PySem.Spec PyProof.Rows L2 DL
theorem t0_2 (n : Int) (m : List Cell) : ((r2.map fun r => "-7" :: r : List (List Str)).map fun r => m_line_words [.str (lineOf "  " r ""), .int n] m) = (r2.map fun r => "-7" :: r : List (List Str)).map fun r => RF.ok (.lst (tagL n r)) m := by kernel_rfl
theorem t1_2 (n : Int) (m : List Cell) : ((r2.map fun r => "-7" :: r : List (List Str)).map fun r => m_line_words [.str (lineOf "  " r " "), .int n] m) = (r2.map fun r => "-7" :: r : List (List Str)).map fun r => RF.ok (.lst (tagL n r)) m := by kernel_rfl
theorem t2_2 (n : Int) (m : List Cell) : ((r2.map fun r => "-7" :: r : List (List Str)).map fun r => m_line_words [.str (lineOf "  " r " # web 1"), .int n] m) = (r2.map fun r => "-7" :: r : List (List Str)).map fun r => RF.ok (.lst (tagL n r)) m := by kernel_rfl
theorem t3_2 (n : Int) (m : List Cell) : ((r2.map fun r => "-7" :: r : List (List Str)).map fun r => m_line_words [.str (lineOf "  " r "#x"), .int n] m) = (r2.map fun r => "-7" :: r : List (List Str)).map fun r => RF.ok (.lst (tagL n r)) m := by kernel_rfl
theorem t4_2 (n : Int) (m : List Cell) : ((r2.map fun r => "-7" :: r : List (List Str)).map fun r => m_line_words [.str (lineOf " " r ""), .int n] m) = (r2.map fun r => "-7" :: r : List (List Str)).map fun r => RF.ok (.lst (tagL n r)) m := by kernel_rfl
end A00

set_option linter.all false
set_option maxRecDepth 100000
namespace A00
open PySem PySem.Spec PyProof.Rows L2 DL
theorem t0_3 (n : Int) (m : List Cell) : ((r2.map fun r => "1/2" :: r : List (List Str)).map fun r => m_line_words [.str (lineOf "  " r ""), .int n] m) = (r2.map fun r => "1/2" :: r : List (List Str)).map fun r => RF.ok (.lst (tagL n r)) m := by kernel_rfl
theorem t1_3 (n : Int) (m : List Cell) : ((r2.map fun r => "1/2" :: r : List (List Str)).map fun r => m_line_words [.str (lineOf "  " r " "), .int n] m) = (r2.map fun r => "1/2" :: r : List (List Str)).map fun r => RF.ok (.lst (tagL n r)) m := by kernel_rfl
theorem t2_3 (n : Int) (m : List Cell) : ((r2.map fun r => "1/2" :: r : List (List Str)).map fun r => m_line_words [.str (lineOf "  " r " # web 1"), .int n] m) = (r2.map fun r => "1/2" :: r : List (List Str)).map fun r => RF.ok (.lst (tagL n r)) m := by kernel_rfl
theorem t3_3 (n : Int) (m : List Cell) : ((r2.map fun r => "1/2" :: r : List (List Str)).map fun r => m_line_words [.str (lineOf "  " r "#x"), .int n] m) = (r2.map fun r => "1/2" :: r : List (List Str)).map fun r => RF.ok (.lst (tagL n r)) m := by kernel_rfl
theorem t4_3 (n : Int) (m : List Cell) : ((r2.map fun r => "1/2" :: r : List (List Str)).map fun r => m_line_words [.str (lineOf " " r ""), .int n] m) = (r2.map fun r => "1/2" :: r : List (List Str)).map fun r => RF.ok (.lst (tagL n r)) m := by kernel_rfl
end A00

set_option linter.all false
set_option maxRecDepth 100000
namespace A00
open PySem PySem.Spec PyProof.Rows L2 DL
theorem t0_4 (n : Int) (m : List Cell) : ((r2.map fun r => "a-b" :: r : List (List Str)).map fun r => m_line_words [.str (lineOf "  " r ""), .int n] m) = (r2.map fun r => "a-b" :: r : List (List Str)).map fun r => RF.ok (.lst (tagL n r)) m := by kernel_rfl
theorem t1_4 (n : Int) (m : List Cell) : ((r2.map fun r => "a-b" :: r : List (List Str)).map fun r => m_line_words [.str (lineOf "  " r " "), .int n] m) = (r2.map fun r => "a-b" :: r : List (List Str)).map fun r => RF.ok (.lst (tagL n r)) m := by kernel_rfl
theorem t2_4 (n : Int) (m : List Cell) : ((r2.map fun r => "a-b" :: r : List (List Str)).map fun r => m_line_words [.str (lineOf "  " r " # web 1"), .int n] m) = (r2.map fun r => "a-b" :: r : List (List Str)).map fun r => RF.ok (.lst (tagL n r)) m := by kernel_rfl
theorem t3_4 (n : Int) (m : List Cell) : ((r2.map fun r => "a-b" :: r : List (List Str)).map fun r => m_line_words [.str (lineOf "  " r "#x"), .int n] m) = (r2.map fun r => "a-b" :: r : List (List Str)).map fun r => RF.ok (.lst (tagL n r)) m := by kernel_rfl
theorem t4_4 (n : Int) (m : List Cell) : ((r2.map fun r => "a-b" :: r : List (List Str)).map fun r => m_line_words [.str (lineOf " " r ""), .int n] m) = (r2.map fun r => "a-b" :: r : List (List Str)).map fun r => RF.ok (.lst (tagL n r)) m := by kernel_rfl
end A00

set_option linter.all false
set_option maxRecDepth 100000
namespace A00
open PySem PySem.Spec PyProof.Rows L2 DL
theorem t0_5 (n : Int) (m : List Cell) : ((r2.map fun r => "07" :: r : List (List Str)).map fun r => m_line_words [.str (lineOf "  " r ""), .int n] m) = (r2.map fun r => "07" :: r : List (List Str)).map fun r => RF.ok (.lst (tagL n r)) m := by kernel_rfl
theorem t1_5 (n : Int) (m : List Cell) : ((r2.map fun r => "07" :: r : List (List Str)).map fun r => m_line_words [.str (lineOf "  " r " "), .int n] m) = (r2.map fun r => "07" :: r : List (List Str)).map fun r => RF.ok (.lst (tagL n r)) m := by kernel_rfl
theorem t2_5 (n : Int) (m : List Cell) : ((r2.map fun r => "07" :: r : List (List Str)).map fun r => m_line_words [.str (lineOf "  " r " # web 1"), .int n] m) = (r2.map fun r => "07" :: r : List (List Str)).map fun r => RF.ok (.lst (tagL n r)) m := by kernel_rfl
theorem t3_5 (n : Int) (m : List Cell) : ((r2.map fun r => "07" :: r : List (List Str)).map fun r => m_line_words [.str (lineOf "  " r "#x"), .int n] m) = (r2.map fun r => "07" :: r : List (List Str)).map fun r => RF.ok (.lst (tagL n r)) m := by kernel_rfl
theorem t4_5 (n : Int) (m : List Cell) : ((r2.map fun r => "07" :: r : List (List Str)).map fun r => m_line_words [.str (lineOf " " r ""), .int n] m) = (r2.map fun r => "07" :: r : List (List Str)).map fun r => RF.ok (.lst (tagL n r)) m := by kernel_rfl
end A00

set_option linter.all false
set_option maxRecDepth 100000
namespace A00
open PySem PySem.Spec PyProof.Rows L2 DL
theorem t0_6 (n : Int) (m : List Cell) : ((r2.map fun r => "hinges" :: r : List (List Str)).map fun r => m_line_words [.str (lineOf "  " r ""), .int n] m) = (r2.map fun r => "hinges" :: r : List (List Str)).map fun r => RF.ok (.lst (tagL n r)) m := by kernel_rfl
theorem t1_6 (n : Int) (m : List Cell) : ((r2.map fun r => "hinges" :: r : List (List Str)).map fun r => m_line_words [.str (lineOf "  " r " "), .int n] m) = (r2.map fun r => "hinges" :: r : List (List Str)).map fun r => RF.ok (.lst (tagL n r)) m := by kernel_rfl
theorem t2_6 (n : Int) (m : List Cell) : ((r2.map fun r => "hinges" :: r : List (List Str)).map fun r => m_line_words [.str (lineOf "  " r " # web 1"), .int n] m) = (r2.map fun r => "hinges" :: r : List (List Str)).map fun r => RF.ok (.lst (tagL n r)) m := by kernel_rfl
theorem t3_6 (n : Int) (m : List Cell) : ((r2.map fun r => "hinges" :: r : List (List Str)).map fun r => m_line_words [.str (lineOf "  " r "#x"), .int n] m) = (r2.map fun r => "hinges" :: r : List (List Str)).map fun r => RF.ok (.lst (tagL n r)) m := by kernel_rfl
theorem t4_6 (n : Int) (m : List Cell) : ((r2.map fun r => "hinges" :: r : List (List Str)).map fun r => m_line_words [.str (lineOf " " r ""), .int n] m) = (r2.map fun r => "hinges" :: r : List (List Str)).map fun r => RF.ok (.lst (tagL n r)) m := by kernel_rfl
end A00

set_option linter.all false
set_option maxRecDepth 100000
namespace A00
open PySem PySem.Spec PyProof.Rows L2 DL
theorem t0_7 (n : Int) (m : List Cell) : ((r2.map fun r => "-" :: r : List (List Str)).map fun r => m_line_words [.str (lineOf "  " r ""), .int n] m) = (r2.map fun r => "-" :: r : List (List Str)).map fun r => RF.ok (.lst (tagL n r)) m := by kernel_rfl
theorem t1_7 (n : Int) (m : List Cell) : ((r2.map fun r => "-" :: r : List (List Str)).map fun r => m_line_words [.str (lineOf "  " r " "), .int n] m) = (r2.map fun r => "-" :: r : List (List Str)).map fun r => RF.ok (.lst (tagL n r)) m := by kernel_rfl
theorem t2_7 (n : Int) (m : List Cell) : ((r2.map fun r => "-" :: r : List (List Str)).map fun r => m_line_words [.str (lineOf "  " r " # web 1"), .int n] m) = (r2.map fun r => "-" :: r : List (List Str)).map fun r => RF.ok (.lst (tagL n r)) m := by kernel_rfl
theorem t3_7 (n : Int) (m : List Cell) : ((r2.map fun r => "-" :: r : List (List Str)).map fun r => m_line_words [.str (lineOf "  " r "#x"), .int n] m) = (r2.map fun r => "-" :: r : List (List Str)).map fun r => RF.ok (.lst (tagL n r)) m := by kernel_rfl
theorem t4_7 (n : Int) (m : List Cell) : ((r2.map fun r => "-" :: r : List (List Str)).map fun r => m_line_words [.str (lineOf " " r ""), .int n] m) = (r2.map fun r => "-" :: r : List (List Str)).map fun r => RF.ok (.lst (tagL n r)) m := by kernel_rfl
end A00

set_option linter.all false
set_option maxRecDepth 100000
namespace A00
open PySem PySem.Spec PyProof.Rows L2 DL
theorem t0_8 (n : Int) (m : List Cell) : ((r2.map fun r => "/" :: r : List (List Str)).map fun r => m_line_words [.str (lineOf "  " r ""), .int n] m) = (r2.map fun r => "/" :: r : List (List Str)).map fun r => RF.ok (.lst (tagL n r)) m := by kernel_rfl
theorem t1_8 (n : Int) (m : List Cell) : ((r2.map fun r => "/" :: r : List (List Str)).map fun r => m_line_words [.str (lineOf "  " r " "), .int n] m) = (r2.map fun r => "/" :: r : List (List Str)).map fun r => RF.ok (.lst (tagL n r)) m := by kernel_rfl
theorem t2_8 (n : Int) (m : List Cell) : ((r2.map fun r => "/" :: r : List (List Str)).map fun r => m_line_words [.str (lineOf "  " r " # web 1"), .int n] m) = (r2.map fun r => "/" :: r : List (List Str)).map fun r => RF.ok (.lst (tagL n r)) m := by kernel_rfl
theorem t3_8 (n : Int) (m : List Cell) : ((r2.map fun r => "/" :: r : List (List Str)).map fun r => m_line_words [.str (lineOf "  " r "#x"), .int n] m) = (r2.map fun r => "/" :: r : List (List Str)).map fun r => RF.ok (.lst (tagL n r)) m := by kernel_rfl
theorem t4_8 (n : Int) (m : List Cell) : ((r2.map fun r => "/" :: r : List (List Str)).map fun r => m_line_words [.str (lineOf " " r ""), .int n] m) = (r2.map fun r => "/" :: r : List (List Str)).map fun r => RF.ok (.lst (tagL n r)) m := by kernel_rfl
end A00

set_option linter.all false
set_option maxRecDepth 100000
namespace A00
open PySem PySem.Spec PyProof.Rows L2 DL
theorem t0_9 (n : Int) (m : List Cell) : ((r2.map fun r => "z9" :: r : List (List Str)).map fun r => m_line_words [.str (lineOf "  " r ""), .int n] m) = (r2.map fun r => "z9" :: r : List (List Str)).map fun r => RF.ok (.lst (tagL n r)) m := by kernel_rfl
theorem t1_9 (n : Int) (m : List Cell) : ((r2.map fun r => "z9" :: r : List (List Str)).map fun r => m_line_words [.str (lineOf "  " r " "), .int n] m) = (r2.map fun r => "z9" :: r : List (List Str)).map fun r => RF.ok (.lst (tagL n r)) m := by kernel_rfl
theorem t2_9 (n : Int) (m : List Cell) : ((r2.map fun r => "z9" :: r : List (List Str)).map fun r => m_line_words [.str (lineOf "  " r " # web 1"), .int n] m) = (r2.map fun r => "z9" :: r : List (List Str)).map fun r => RF.ok (.lst (tagL n r)) m := by kernel_rfl
theorem t3_9 (n : Int) (m : List Cell) : ((r2.map fun r => "z9" :: r : List (List Str)).map fun r => m_line_words [.str (lineOf "  " r "#x"), .int n] m) = (r2.map fun r => "z9" :: r : List (List Str)).map fun r => RF.ok (.lst (tagL n r)) m := by kernel_rfl
theorem t4_9 (n : Int) (m : List Cell) : ((r2.map fun r => "z9" :: r : List (List Str)).map fun r => m_line_words [.str (lineOf " " r ""), .int n] m) = (r2.map fun r => "z9" :: r : List (List Str)).map fun r => RF.ok (.lst (tagL n r)) m := by kernel_rfl
end A00

set_option linter.all false
set_option maxRecDepth 100000
namespace A00
open PySem PySem.Spec PyProof.Rows L2 DL
theorem neB (a b : Bool) : neD (.bl a) (.bl b) = some (!(a == b)) := by
  simp [neD, eqB]
theorem all_tt {α : Type} (xs : List α) : blsD (xs.map fun _ => D.bl true) = some (xs.map fun _ => true) := by
  induction xs with
  | nil => rfl
  | cons x xs ih => simp [blsD, ih]
mutual
def good : Nat → D → Bool
  | _, .non => true
  | _, .bl _ => true
  | _, .int _ => true
  | _, .str x => PyData.strOk x
  | 0, _ => false
  | n + 1, .tup xs => goods n xs && decide (xs.length ≤ sizeLine)
  | n + 1, .lst xs => goods n xs && decide (xs.length ≤ sizeLine)
  | _, _ => false
def goods : Nat → List D → Bool
  | _, [] => true
  | n, x :: xs => good n x && goods n xs
end
theorem lc_same (n : Nat) (a b : D) (ih : ∀ (d : D) (m : List Cell), good n d = true → m__law_same (n + 1) [d, d] m = .ok (.bl true) m) : ∀ (xs : List D) (m : List Cell), goods n xs = true →
    lcL (.many [2, 3]) tYesS (eCallN 2 (m__law_same (n + 1)) (aCons (eVar 2) (aCons (eVar 3) aNil))) [some a, some b, none, none] (zipL xs xs) m = some (xs.map fun _ => .bl true, m) := by
  intro xs
  induction xs with
  | nil => intro m _; rfl
  | cons x xs ihx =>
    intro m h
    simp only [goods, Bool.and_eq_true] at h
    have e := ih x m h.1
    have e' := ihx m h.2
    simp [zipL, mkF, sNil, sSeq, sAsg, sAsgF, sAsgC, sPar, sPar3, sIf, sRet, sFor, forL, sSetM, sSetI, sApp, sExt, sDrop, sRaise, sTry, hSay, hNil, Ex.ix, e1, e2, eBi, eIf, eVar, eC, eTup, eLst, eSl, slD, pNone, pSome, eLc, lcL, wipeD, Tg.vs, tYesS, aCons, aNil, t2, tTru, truB, truD, tNotS, tAndS, tOrS, eAndB, eOrB, eNotB, eOrV, cmpB, cmpD, iCmp, R.then, R.bind, asgD, DL.setL, addD, subD, negD, absD, DL.intD, mLst, lenD, listD, tupleD, allD, blsD, isiD, isi2D, isTy, isND, notND, DL.isNon, ltB_eq, eCallN, eCallV, callR, iN, i1, rng1I, seqI, gcdD, augD, sAug, mulD, modD, fdivD, ixD, e] at e' ⊢
    rw [e']
theorem strEq (x : Str) (h : PyData.strOk x = true) : eqD (.str x) (.str x) = some true := by
  simp [eqD, toP, SeqAt.shaped, PyData.canLay0, PyData.depth, PyData.eqv, h]
theorem e_same : ∀ (n : Nat) (d : D) (m : List Cell), good n d = true → m__law_same (n + 1) [d, d] m = .ok (.bl true) m := by
  intro n
  induction n with
  | zero =>
    intro d m h
    cases d with
    | non => simp [m__law_same, q__law_same, mkF, sNil, sSeq, sAsg, sAsgF, sAsgC, sPar, sPar3, sIf, sRet, sFor, forL, sSetM, sSetI, sApp, sExt, sDrop, sRaise, sTry, hSay, hNil, Ex.ix, e1, e2, eBi, eIf, eVar, eC, eTup, eLst, eSl, slD, pNone, pSome, eLc, lcL, wipeD, Tg.vs, tYesS, aCons, aNil, t2, tTru, truB, truD, tNotS, tAndS, tOrS, eAndB, eOrB, eNotB, eOrV, cmpB, cmpD, iCmp, R.then, R.bind, asgD, DL.setL, addD, subD, negD, absD, DL.intD, mLst, lenD, listD, tupleD, allD, blsD, isiD, isi2D, isTy, isND, notND, DL.isNon, ltB_eq, eCallN, eCallV, callR, iN, i1, rng1I, seqI, gcdD, augD, sAug, mulD, modD, fdivD, ixD]
    | bl b => simp [m__law_same, q__law_same, mkF, sNil, sSeq, sAsg, sAsgF, sAsgC, sPar, sPar3, sIf, sRet, sFor, forL, sSetM, sSetI, sApp, sExt, sDrop, sRaise, sTry, hSay, hNil, Ex.ix, e1, e2, eBi, eIf, eVar, eC, eTup, eLst, eSl, slD, pNone, pSome, eLc, lcL, wipeD, Tg.vs, tYesS, aCons, aNil, t2, tTru, truB, truD, tNotS, tAndS, tOrS, eAndB, eOrB, eNotB, eOrV, cmpB, cmpD, iCmp, R.then, R.bind, asgD, DL.setL, addD, subD, negD, absD, DL.intD, mLst, lenD, listD, tupleD, allD, blsD, isiD, isi2D, isTy, isND, notND, DL.isNon, ltB_eq, eCallN, eCallV, callR, iN, i1, rng1I, seqI, gcdD, augD, sAug, mulD, modD, fdivD, ixD, eqB]
    | int i => simp [m__law_same, q__law_same, mkF, sNil, sSeq, sAsg, sAsgF, sAsgC, sPar, sPar3, sIf, sRet, sFor, forL, sSetM, sSetI, sApp, sExt, sDrop, sRaise, sTry, hSay, hNil, Ex.ix, e1, e2, eBi, eIf, eVar, eC, eTup, eLst, eSl, slD, pNone, pSome, eLc, lcL, wipeD, Tg.vs, tYesS, aCons, aNil, t2, tTru, truB, truD, tNotS, tAndS, tOrS, eAndB, eOrB, eNotB, eOrV, cmpB, cmpD, iCmp, R.then, R.bind, asgD, DL.setL, addD, subD, negD, absD, DL.intD, mLst, lenD, listD, tupleD, allD, blsD, isiD, isi2D, isTy, isND, notND, DL.isNon, ltB_eq, eCallN, eCallV, callR, iN, i1, rng1I, seqI, gcdD, augD, sAug, mulD, modD, fdivD, ixD, eqI]
    | str x => simp [m__law_same, q__law_same, mkF, sNil, sSeq, sAsg, sAsgF, sAsgC, sPar, sPar3, sIf, sRet, sFor, forL, sSetM, sSetI, sApp, sExt, sDrop, sRaise, sTry, hSay, hNil, Ex.ix, e1, e2, eBi, eIf, eVar, eC, eTup, eLst, eSl, slD, pNone, pSome, eLc, lcL, wipeD, Tg.vs, tYesS, aCons, aNil, t2, tTru, truB, truD, tNotS, tAndS, tOrS, eAndB, eOrB, eNotB, eOrV, cmpB, cmpD, iCmp, R.then, R.bind, asgD, DL.setL, addD, subD, negD, absD, DL.intD, mLst, lenD, listD, tupleD, allD, blsD, isiD, isi2D, isTy, isND, notND, DL.isNon, ltB_eq, eCallN, eCallV, callR, iN, i1, rng1I, seqI, gcdD, augD, sAug, mulD, modD, fdivD, ixD, eqB, strEq x (by simpa [good] using h)]
    | tup xs => simp [good] at h
    | lst xs => simp [good] at h
    | fn i => simp [good] at h
    | ref i => simp [good] at h
    | scr i => simp [good] at h
    | pt i => simp [good] at h
  | succ n ih =>
    intro d m h
    cases d with
    | non => simp [m__law_same, q__law_same, mkF, sNil, sSeq, sAsg, sAsgF, sAsgC, sPar, sPar3, sIf, sRet, sFor, forL, sSetM, sSetI, sApp, sExt, sDrop, sRaise, sTry, hSay, hNil, Ex.ix, e1, e2, eBi, eIf, eVar, eC, eTup, eLst, eSl, slD, pNone, pSome, eLc, lcL, wipeD, Tg.vs, tYesS, aCons, aNil, t2, tTru, truB, truD, tNotS, tAndS, tOrS, eAndB, eOrB, eNotB, eOrV, cmpB, cmpD, iCmp, R.then, R.bind, asgD, DL.setL, addD, subD, negD, absD, DL.intD, mLst, lenD, listD, tupleD, allD, blsD, isiD, isi2D, isTy, isND, notND, DL.isNon, ltB_eq, eCallN, eCallV, callR, iN, i1, rng1I, seqI, gcdD, augD, sAug, mulD, modD, fdivD, ixD]
    | bl b => simp [m__law_same, q__law_same, mkF, sNil, sSeq, sAsg, sAsgF, sAsgC, sPar, sPar3, sIf, sRet, sFor, forL, sSetM, sSetI, sApp, sExt, sDrop, sRaise, sTry, hSay, hNil, Ex.ix, e1, e2, eBi, eIf, eVar, eC, eTup, eLst, eSl, slD, pNone, pSome, eLc, lcL, wipeD, Tg.vs, tYesS, aCons, aNil, t2, tTru, truB, truD, tNotS, tAndS, tOrS, eAndB, eOrB, eNotB, eOrV, cmpB, cmpD, iCmp, R.then, R.bind, asgD, DL.setL, addD, subD, negD, absD, DL.intD, mLst, lenD, listD, tupleD, allD, blsD, isiD, isi2D, isTy, isND, notND, DL.isNon, ltB_eq, eCallN, eCallV, callR, iN, i1, rng1I, seqI, gcdD, augD, sAug, mulD, modD, fdivD, ixD, eqB]
    | int i => simp [m__law_same, q__law_same, mkF, sNil, sSeq, sAsg, sAsgF, sAsgC, sPar, sPar3, sIf, sRet, sFor, forL, sSetM, sSetI, sApp, sExt, sDrop, sRaise, sTry, hSay, hNil, Ex.ix, e1, e2, eBi, eIf, eVar, eC, eTup, eLst, eSl, slD, pNone, pSome, eLc, lcL, wipeD, Tg.vs, tYesS, aCons, aNil, t2, tTru, truB, truD, tNotS, tAndS, tOrS, eAndB, eOrB, eNotB, eOrV, cmpB, cmpD, iCmp, R.then, R.bind, asgD, DL.setL, addD, subD, negD, absD, DL.intD, mLst, lenD, listD, tupleD, allD, blsD, isiD, isi2D, isTy, isND, notND, DL.isNon, ltB_eq, eCallN, eCallV, callR, iN, i1, rng1I, seqI, gcdD, augD, sAug, mulD, modD, fdivD, ixD, eqI]
    | str x => simp [m__law_same, q__law_same, mkF, sNil, sSeq, sAsg, sAsgF, sAsgC, sPar, sPar3, sIf, sRet, sFor, forL, sSetM, sSetI, sApp, sExt, sDrop, sRaise, sTry, hSay, hNil, Ex.ix, e1, e2, eBi, eIf, eVar, eC, eTup, eLst, eSl, slD, pNone, pSome, eLc, lcL, wipeD, Tg.vs, tYesS, aCons, aNil, t2, tTru, truB, truD, tNotS, tAndS, tOrS, eAndB, eOrB, eNotB, eOrV, cmpB, cmpD, iCmp, R.then, R.bind, asgD, DL.setL, addD, subD, negD, absD, DL.intD, mLst, lenD, listD, tupleD, allD, blsD, isiD, isi2D, isTy, isND, notND, DL.isNon, ltB_eq, eCallN, eCallV, callR, iN, i1, rng1I, seqI, gcdD, augD, sAug, mulD, modD, fdivD, ixD, eqB, strEq x (by simpa [good] using h)]
    | tup xs =>
      simp only [good, Bool.and_eq_true, decide_eq_true_eq] at h
      have e := lc_same n (.tup xs) (.tup xs) ih xs m h.1
      have hz : (zipL xs xs).length ≤ sizeLine := by rw [zipL_len]; omega
      rw [m__law_same]
      simp [q__law_same, mkF, sNil, sSeq, sAsg, sAsgF, sAsgC, sPar, sPar3, sIf, sRet, sFor, forL, sSetM, sSetI, sApp, sExt, sDrop, sRaise, sTry, hSay, hNil, Ex.ix, e1, e2, eBi, eIf, eVar, eC, eTup, eLst, eSl, slD, pNone, pSome, eLc, lcL, wipeD, Tg.vs, tYesS, aCons, aNil, t2, tTru, truB, truD, tNotS, tAndS, tOrS, eAndB, eOrB, eNotB, eOrV, cmpB, cmpD, iCmp, R.then, R.bind, asgD, DL.setL, addD, subD, negD, absD, DL.intD, mLst, lenD, listD, tupleD, allD, blsD, isiD, isi2D, isTy, isND, notND, DL.isNon, ltB_eq, eCallN, eCallV, callR, iN, i1, rng1I, seqI, gcdD, augD, sAug, mulD, modD, fdivD, ixD, iZipB, shapeAt, zipMI, isTup, sqD, eqB, neI, neB, eqI, hz] at e ⊢
      rw [e]
      simp [all_tt]
    | lst xs =>
      simp only [good, Bool.and_eq_true, decide_eq_true_eq] at h
      have e := lc_same n (.lst xs) (.lst xs) ih xs m h.1
      have hz : (zipL xs xs).length ≤ sizeLine := by rw [zipL_len]; omega
      rw [m__law_same]
      simp [q__law_same, mkF, sNil, sSeq, sAsg, sAsgF, sAsgC, sPar, sPar3, sIf, sRet, sFor, forL, sSetM, sSetI, sApp, sExt, sDrop, sRaise, sTry, hSay, hNil, Ex.ix, e1, e2, eBi, eIf, eVar, eC, eTup, eLst, eSl, slD, pNone, pSome, eLc, lcL, wipeD, Tg.vs, tYesS, aCons, aNil, t2, tTru, truB, truD, tNotS, tAndS, tOrS, eAndB, eOrB, eNotB, eOrV, cmpB, cmpD, iCmp, R.then, R.bind, asgD, DL.setL, addD, subD, negD, absD, DL.intD, mLst, lenD, listD, tupleD, allD, blsD, isiD, isi2D, isTy, isND, notND, DL.isNon, ltB_eq, eCallN, eCallV, callR, iN, i1, rng1I, seqI, gcdD, augD, sAug, mulD, modD, fdivD, ixD, iZipB, shapeAt, zipMI, isTup, sqD, eqB, neI, neB, eqI, hz] at e ⊢
      rw [e]
      simp [all_tt]
    | fn i => simp [good] at h
    | ref i => simp [good] at h
    | scr i => simp [good] at h
    | pt i => simp [good] at h

theorem goods_map {α : Type} (n : Nat) (g : α → D) : ∀ l : List α, (∀ x ∈ l, good n (g x) = true) → goods n (l.map g) = true
  | [], _ => rfl
  | x :: l, h => by simp only [List.map_cons, goods, h x (by simp), goods_map n g l fun y hy => h y (List.mem_cons_of_mem _ hy), Bool.and_self]
/-! ### rows of words, lines -/
def okZ (z : Str) : Bool := (TL.tl z).all (fun c => decide (c ≠ 10) && decide (c < 128)) && decide (z.length ≤ 60)
def r3 : List (List Str) := W10.flatMap fun w => r2.map fun r => w :: r
def rAll : List (List Str) := [] :: (r1 ++ r2) ++ r3
theorem okZ_all : (rAll.all fun r => Suf.all fun s => okZ (lineOf "  " r s)) = true := by kernel_rfl
theorem okZ_all2 : (rAll.all fun r => okZ (lineOf " " r "")) = true := by kernel_rfl
/-- a row of up to three words -/
def Row3 (r : List Str) : Prop := r.length ≤ 3 ∧ ∀ w ∈ r, w ∈ W10
theorem r1_mem {w : Str} (h : w ∈ W10) : [w] ∈ r1 := List.mem_map.2 ⟨w, h, rfl⟩
theorem r2_mem {w x : Str} (h : w ∈ W10) (h2 : x ∈ W10) : [w, x] ∈ r2 := List.mem_flatMap.2 ⟨w, h, List.mem_map.2 ⟨[x], r1_mem h2, rfl⟩⟩
theorem row_cases {r : List Str} (h : Row3 r) : r ∈ ([] :: (r1 ++ r2) : List (List Str)) ∨ ∃ w y, r = w :: y ∧ w ∈ W10 ∧ y ∈ r2 := by
  obtain ⟨hl, hw⟩ := h
  match r, hl, hw with
  | [], _, _ => exact .inl (List.mem_cons_self ..)
  | [a], _, hw => exact .inl (List.mem_cons_of_mem _ (List.mem_append_left _ (r1_mem (hw a (by simp)))))
  | [a, b], _, hw => exact .inl (List.mem_cons_of_mem _ (List.mem_append_right _ (r2_mem (hw a (by simp)) (hw b (by simp)))))
  | [a, b, c], _, hw => exact .inr ⟨a, [b, c], rfl, hw a (by simp), r2_mem (hw b (by simp)) (hw c (by simp))⟩
  | _ :: _ :: _ :: _ :: _, hl, _ => simp at hl
theorem row_mem {r : List Str} (h : Row3 r) : r ∈ rAll := by
  rcases row_cases h with h | ⟨w, y, rfl, hw, hy⟩
  · exact List.mem_append_left _ h
  · exact List.mem_append_right _ (List.mem_flatMap.2 ⟨w, hw, List.mem_map.2 ⟨y, hy, rfl⟩⟩)
theorem lo_0 {r : List Str} (h : Row3 r) : LineOk (lineOf "  " r "") r := by
  rcases row_cases h with h | ⟨w, y, rfl, hw, hy⟩
  · exact lo_of s0 r h
  · simp only [W10, List.mem_cons, List.not_mem_nil, or_false] at hw
    rcases hw with rfl | rfl | rfl | rfl | rfl | rfl | rfl | rfl | rfl | rfl
    · exact lo_of t0_0 _ (List.mem_map.2 ⟨y, hy, rfl⟩)
    · exact lo_of t0_1 _ (List.mem_map.2 ⟨y, hy, rfl⟩)
    · exact lo_of t0_2 _ (List.mem_map.2 ⟨y, hy, rfl⟩)
    · exact lo_of t0_3 _ (List.mem_map.2 ⟨y, hy, rfl⟩)
    · exact lo_of t0_4 _ (List.mem_map.2 ⟨y, hy, rfl⟩)
    · exact lo_of t0_5 _ (List.mem_map.2 ⟨y, hy, rfl⟩)
    · exact lo_of t0_6 _ (List.mem_map.2 ⟨y, hy, rfl⟩)
    · exact lo_of t0_7 _ (List.mem_map.2 ⟨y, hy, rfl⟩)
    · exact lo_of t0_8 _ (List.mem_map.2 ⟨y, hy, rfl⟩)
    · exact lo_of t0_9 _ (List.mem_map.2 ⟨y, hy, rfl⟩)
theorem lo_1 {r : List Str} (h : Row3 r) : LineOk (lineOf "  " r " ") r := by
  rcases row_cases h with h | ⟨w, y, rfl, hw, hy⟩
  · exact lo_of s1 r h
  · simp only [W10, List.mem_cons, List.not_mem_nil, or_false] at hw
    rcases hw with rfl | rfl | rfl | rfl | rfl | rfl | rfl | rfl | rfl | rfl
    · exact lo_of t1_0 _ (List.mem_map.2 ⟨y, hy, rfl⟩)
    · exact lo_of t1_1 _ (List.mem_map.2 ⟨y, hy, rfl⟩)
    · exact lo_of t1_2 _ (List.mem_map.2 ⟨y, hy, rfl⟩)
    · exact lo_of t1_3 _ (List.mem_map.2 ⟨y, hy, rfl⟩)
    · exact lo_of t1_4 _ (List.mem_map.2 ⟨y, hy, rfl⟩)
    · exact lo_of t1_5 _ (List.mem_map.2 ⟨y, hy, rfl⟩)
    · exact lo_of t1_6 _ (List.mem_map.2 ⟨y, hy, rfl⟩)
    · exact lo_of t1_7 _ (List.mem_map.2 ⟨y, hy, rfl⟩)
    · exact lo_of t1_8 _ (List.mem_map.2 ⟨y, hy, rfl⟩)
    · exact lo_of t1_9 _ (List.mem_map.2 ⟨y, hy, rfl⟩)
theorem lo_2 {r : List Str} (h : Row3 r) : LineOk (lineOf "  " r " # web 1") r := by
  rcases row_cases h with h | ⟨w, y, rfl, hw, hy⟩
  · exact lo_of s2 r h
  · simp only [W10, List.mem_cons, List.not_mem_nil, or_false] at hw
    rcases hw with rfl | rfl | rfl | rfl | rfl | rfl | rfl | rfl | rfl | rfl
    · exact lo_of t2_0 _ (List.mem_map.2 ⟨y, hy, rfl⟩)
    · exact lo_of t2_1 _ (List.mem_map.2 ⟨y, hy, rfl⟩)
    · exact lo_of t2_2 _ (List.mem_map.2 ⟨y, hy, rfl⟩)
    · exact lo_of t2_3 _ (List.mem_map.2 ⟨y, hy, rfl⟩)
    · exact lo_of t2_4 _ (List.mem_map.2 ⟨y, hy, rfl⟩)
    · exact lo_of t2_5 _ (List.mem_map.2 ⟨y, hy, rfl⟩)
    · exact lo_of t2_6 _ (List.mem_map.2 ⟨y, hy, rfl⟩)
    · exact lo_of t2_7 _ (List.mem_map.2 ⟨y, hy, rfl⟩)
    · exact lo_of t2_8 _ (List.mem_map.2 ⟨y, hy, rfl⟩)
    · exact lo_of t2_9 _ (List.mem_map.2 ⟨y, hy, rfl⟩)
theorem lo_3 {r : List Str} (h : Row3 r) : LineOk (lineOf "  " r "#x") r := by
  rcases row_cases h with h | ⟨w, y, rfl, hw, hy⟩
  · exact lo_of s3 r h
  · simp only [W10, List.mem_cons, List.not_mem_nil, or_false] at hw
    rcases hw with rfl | rfl | rfl | rfl | rfl | rfl | rfl | rfl | rfl | rfl
    · exact lo_of t3_0 _ (List.mem_map.2 ⟨y, hy, rfl⟩)
    · exact lo_of t3_1 _ (List.mem_map.2 ⟨y, hy, rfl⟩)
    · exact lo_of t3_2 _ (List.mem_map.2 ⟨y, hy, rfl⟩)
    · exact lo_of t3_3 _ (List.mem_map.2 ⟨y, hy, rfl⟩)
    · exact lo_of t3_4 _ (List.mem_map.2 ⟨y, hy, rfl⟩)
    · exact lo_of t3_5 _ (List.mem_map.2 ⟨y, hy, rfl⟩)
    · exact lo_of t3_6 _ (List.mem_map.2 ⟨y, hy, rfl⟩)
    · exact lo_of t3_7 _ (List.mem_map.2 ⟨y, hy, rfl⟩)
    · exact lo_of t3_8 _ (List.mem_map.2 ⟨y, hy, rfl⟩)
    · exact lo_of t3_9 _ (List.mem_map.2 ⟨y, hy, rfl⟩)
theorem lo_4 {r : List Str} (h : Row3 r) : LineOk (lineOf " " r "") r := by
  rcases row_cases h with h | ⟨w, y, rfl, hw, hy⟩
  · exact lo_of s4 r h
  · simp only [W10, List.mem_cons, List.not_mem_nil, or_false] at hw
    rcases hw with rfl | rfl | rfl | rfl | rfl | rfl | rfl | rfl | rfl | rfl
    · exact lo_of t4_0 _ (List.mem_map.2 ⟨y, hy, rfl⟩)
    · exact lo_of t4_1 _ (List.mem_map.2 ⟨y, hy, rfl⟩)
    · exact lo_of t4_2 _ (List.mem_map.2 ⟨y, hy, rfl⟩)
    · exact lo_of t4_3 _ (List.mem_map.2 ⟨y, hy, rfl⟩)
    · exact lo_of t4_4 _ (List.mem_map.2 ⟨y, hy, rfl⟩)
    · exact lo_of t4_5 _ (List.mem_map.2 ⟨y, hy, rfl⟩)
    · exact lo_of t4_6 _ (List.mem_map.2 ⟨y, hy, rfl⟩)
    · exact lo_of t4_7 _ (List.mem_map.2 ⟨y, hy, rfl⟩)
    · exact lo_of t4_8 _ (List.mem_map.2 ⟨y, hy, rfl⟩)
    · exact lo_of t4_9 _ (List.mem_map.2 ⟨y, hy, rfl⟩)
/-- a line that is read as a row -/
structure Ln (z : Str) (r : List Str) : Prop where
  ok : LineOk z r
  z : okZ z = true
theorem ln_suf {r : List Str} (h : Row3 r) {s : Str} (hs : s ∈ Suf) : Ln (lineOf "  " r s) r := by
  refine ⟨?_, List.all_eq_true.1 (List.all_eq_true.1 okZ_all r (row_mem h)) s hs⟩
  simp only [Suf, List.mem_cons, List.not_mem_nil, or_false] at hs
  rcases hs with rfl | rfl | rfl | rfl
  · exact lo_0 h
  · exact lo_1 h
  · exact lo_2 h
  · exact lo_3 h
theorem ln_one {r : List Str} (h : Row3 r) : Ln (lineOf " " r "") r := ⟨lo_4 h, List.all_eq_true.1 okZ_all2 r (row_mem h)⟩
theorem Ln.nl {z : Str} {r : List Str} (h : Ln z r) : 10 ∉ TL.tl z := fun hc => by
  have := h.z
  unfold okZ at this
  rw [Bool.and_eq_true] at this
  have := List.all_eq_true.1 this.1 10 hc
  simp at this
theorem Ln.asc {z : Str} {r : List Str} (h : Ln z r) : ∀ c ∈ TL.tl z, c < 128 := fun c hc => by
  have := h.z
  unfold okZ at this
  rw [Bool.and_eq_true] at this
  have := List.all_eq_true.1 this.1 c hc
  simp at this
  exact this.2
theorem Ln.len {z : Str} {r : List Str} (h : Ln z r) : z.length ≤ 60 := by
  have := h.z
  unfold okZ at this
  rw [Bool.and_eq_true] at this
  exact of_decide_eq_true this.2
end A00

set_option linter.all false
set_option maxRecDepth 100000
namespace A00
open PySem PySem.Spec PyProof.Rows L2 DL
def toldL : Nat → List (List Str) → List D
  | _, [] => []
  | i, r :: rs => tagL (i : Int) r ++ toldL (i + 1) rs
inductive Lns : List Str → List (List Str) → Prop
  | nil : Lns [] []
  | cons {z : Str} {r : List Str} {zs : List Str} {rs : List (List Str)} (h : Ln z r) (hr : r.length ≤ 3) (t : Lns zs rs) : Lns (z :: zs) (r :: rs)
theorem Lns.len {zs : List Str} {rs : List (List Str)} (h : Lns zs rs) : zs.length = rs.length := by
  induction h with
  | nil => rfl
  | cons h hr t ih => simp [ih]
theorem Lns.nl {zs : List Str} {rs : List (List Str)} (h : Lns zs rs) : ∀ z ∈ zs, 10 ∉ TL.tl z := by
  induction h with
  | nil => intro z hz; exact (List.not_mem_nil hz).elim
  | cons h hr t ih =>
    intro z hz
    rcases List.mem_cons.1 hz with rfl | hz
    · exact h.nl
    · exact ih z hz
theorem Lns.le {zs : List Str} {rs : List (List Str)} (h : Lns zs rs) : ∀ z ∈ zs, z.length ≤ 60 := by
  induction h with
  | nil => intro z hz; exact (List.not_mem_nil hz).elim
  | cons h hr t ih =>
    intro z hz
    rcases List.mem_cons.1 hz with rfl | hz
    · exact h.len
    · exact ih z hz
theorem step_ok {x0 : D} {m : List Cell} {acc : List D} {z : Str} {r : List Str} {i : Nat} (h : Ln z r) (hr : r.length ≤ 3) (ha : acc.length ≤ 10000) :
    q_words_b1 ⟨[some x0, some (.lst acc), some (.int i), some (.str z)], m⟩ = .next ⟨[some x0, some (.lst (acc ++ tagL i r)), some (.int i), some (.str z)], m⟩ := by
  have e := h.ok (i : Int) m
  have hz : acc.length + (tagL i r).length ≤ sizeLine := by
    unfold tagL
    rw [List.length_map, szl]
    omega
  simp [q_words_b1, sExt, eCallN, aCons, aNil, eVar, callR, R.bind, R.then, e, hz]
theorem step_bad {x0 : D} {m : List Cell} {acc : List D} {z : Str} {i : Nat} (h : ∀ (n : Int) (m : List Cell), m_line_words [.str z, .int n] m = .raise (.mk 0 [.int n]) m) :
    q_words_b1 ⟨[some x0, some (.lst acc), some (.int i), some (.str z)], m⟩ = .raise (.mk 0 [.int i]) ⟨[some x0, some (.lst acc), some (.int i), some (.str z)], m⟩ := by
  have e := h (i : Int) m
  simp [q_words_b1, sExt, eCallN, aCons, aNil, eVar, callR, R.bind, R.then, e]
def numL (zs : List Str) (i : Nat) : List D := ((zs.map D.str).zipIdx i).map fun p => D.tup [.int (p.2 : Int), p.1]
theorem numL_cons (z : Str) (zs : List Str) (i : Nat) : numL (z :: zs) i = .tup [.int (i : Int), .str z] :: numL zs (i + 1) := by
  unfold numL
  rw [List.map_cons, List.zipIdx_cons, List.map_cons]
theorem words_loop (x0 : D) (m : List Cell) {zs : List Str} {rs : List (List Str)} (h : Lns zs rs) : ∀ (ys : List Str) (i : Nat) (acc : List D) (o2 o3 : Option D), acc.length ≤ 3 * i → i + zs.length ≤ 1000 →
    ∃ o2' o3', forL (.many [2, 3]) q_words_b1 (numL (zs ++ ys) i) ⟨[some x0, some (.lst acc), o2, o3], m⟩ = forL (.many [2, 3]) q_words_b1 (numL ys (i + zs.length)) ⟨[some x0, some (.lst (acc ++ toldL i rs)), o2', o3'], m⟩ := by
  induction h with
  | nil =>
    intro ys i acc o2 o3 _ _
    refine ⟨o2, o3, ?_⟩
    rw [List.nil_append, toldL, List.append_nil]
    rfl
  | @cons z r zs rs h hr t ih =>
    intro ys i acc o2 o3 ha hi
    rw [List.length_cons] at hi
    obtain ⟨o2', o3', e⟩ := ih ys (i + 1) (acc ++ tagL i r) (some (.int i)) (some (.str z)) (by unfold tagL; rw [List.length_append, List.length_map]; omega) (by omega)
    refine ⟨o2', o3', ?_⟩
    rw [List.cons_append, numL_cons, forL]
    have s1 := step_ok (x0 := x0) (m := m) (acc := acc) (i := i) h hr (by omega)
    simp only [asgD, DL.setL, List.length_cons, List.length_nil, List.set_cons_succ, List.set_cons_zero, if_true, s1]
    rw [e, toldL, List.append_assoc, show i + 1 + zs.length = i + (zs.length + 1) by omega]
theorem join_len (sep : Str) (k : Nat) : ∀ ls : List Str, (∀ z ∈ ls, z.length ≤ k) → (Txt.join sep ls).length ≤ ls.length * (k + sep.length) := fun ls h => by
  rw [TL.join_eq]
  refine Nat.le_trans (StrLaws.join_length_le sep ls) ?_
  have : (ls.map (·.length)).sum ≤ ls.length * k := by
    clear sep
    induction ls with
    | nil => simp
    | cons z ls ih =>
      have h1 := h z (by simp)
      have h2 := ih fun y hy => h y (List.mem_cons_of_mem _ hy)
      simp only [List.map_cons, List.sum_cons, List.length_cons, Nat.succ_mul]
      omega
  rw [Nat.mul_add]
  omega
theorem join_sum (k : Nat) : ∀ ls : List Str, (∀ z ∈ ls, z.length ≤ k) → (ls.map (·.length)).sum ≤ ls.length * k := fun ls h => by
  induction ls with
  | nil => simp
  | cons z ls ih =>
    have h1 := h z (by simp)
    have h2 := ih fun y hy => h y (List.mem_cons_of_mem _ hy)
    simp only [List.map_cons, List.sum_cons, List.length_cons, Nat.succ_mul]
    omega
theorem strs_map (ls : List Str) : strsOf (ls.map D.str) = some ls := by
  induction ls with
  | nil => rfl
  | cons z ls ih => simp [strsOf, ih]
theorem split_ok {ls : List Str} (h0 : ls ≠ []) (h1 : ∀ z ∈ ls, 10 ∉ TL.tl z) (h2 : ∀ z ∈ ls, z.length ≤ 60) (h3 : ls.length ≤ 1000) (s : S) : splitD (.str (Txt.join "\n" ls)) (.str "\n") s = .ok (.lst (ls.map D.str)) s := by
  have e := TL.split_join (y := "\n") (s := 10) (S := []) (by rfl) (by decide +kernel) h0 h1
  have l := join_len "\n" 60 ls h2
  have l1 : ("\n" : Str).length = 1 := by rfl
  have hz : (Txt.join "\n" ls).length + 2 ≤ sizeLine := by
    rw [l1] at l
    rw [szl]
    have : ls.length * 61 ≤ 61000 := by omega
    omega
  unfold splitD
  simp only [l1, e, hz, and_true]
  rfl
theorem e_split {ls : List Str} (h0 : ls ≠ []) (h1 : ∀ z ∈ ls, 10 ∉ TL.tl z) (h2 : ∀ z ∈ ls, z.length ≤ 60) (h3 : ls.length ≤ 1000) (m : List Cell) (r : RS)
    (h : forL (.many [2, 3]) q_words_b1 (numL ls 0) ⟨[some (.str (Txt.join "\n" ls)), some (.lst []), none, none], m⟩ = r) :
    sFor (iEnumB (aCons (eTx splitD (eVar 0) (eC (.str "\n"))) aNil)) (.many [2, 3]) q_words_b1 ⟨[some (.str (Txt.join "\n" ls)), some (.lst []), none, none], m⟩ = r := by
  have e := split_ok h0 h1 h2 h3 ⟨[some (.str (Txt.join "\n" ls)), some (.lst []), none, none], m⟩
  simp [sFor, iEnumB, tupAt, iN, aCons, aNil, eTx, eVar, eC, R.bind, R.then, e, enumI, enumL]
  exact h
theorem e_words {ls : List Str} {rs : List (List Str)} (h : Lns ls rs) (h0 : ls ≠ []) (h3 : ls.length ≤ 1000) (m : List Cell) : m_words [.str (Txt.join "\n" ls)] m = .ok (.lst (toldL 0 rs)) m := by
  obtain ⟨o2, o3, e⟩ := words_loop (.str (Txt.join "\n" ls)) m h [] 0 [] none none (by simp) (by omega)
  rw [List.append_nil, List.nil_append] at e
  have e2 : forL (.many [2, 3]) q_words_b1 (numL ls 0) ⟨[some (.str (Txt.join "\n" ls)), some (.lst []), none, none], m⟩ = .next ⟨[some (.str (Txt.join "\n" ls)), some (.lst (toldL 0 rs)), o2, o3], m⟩ := e.trans (by simp [numL, forL])
  have e3 := e_split h0 h.nl h.le h3 m _ e2
  show mkF 4 q_words [.str (Txt.join "\n" ls)] m = _
  simp only [mkF, q_words]
  rw [seq_nx (s' := ⟨[some (.str (Txt.join "\n" ls)), some (.lst []), none, none], m⟩) (by simp [sAsgF, eLst, aNil, R.bind, R.then])]
  rw [seq_nx e3]
  simp [sRet, eVar, R.then]
theorem e_wordsB {ls ys : List Str} {z : Str} {rs : List (List Str)} (h : Lns ls rs) (hz : ∀ (n : Int) (m : List Cell), m_line_words [.str z, .int n] m = .raise (.mk 0 [.int n]) m)
    (h1 : ∀ x ∈ ls ++ z :: ys, 10 ∉ TL.tl x) (h2 : ∀ x ∈ ls ++ z :: ys, x.length ≤ 60) (h3 : (ls ++ z :: ys).length ≤ 1000) (m : List Cell) : m_words [.str (Txt.join "\n" (ls ++ z :: ys))] m = .raise (.mk 0 [.int ls.length]) m := by
  have h3' : ls.length ≤ 1000 := by rw [List.length_append] at h3; omega
  obtain ⟨o2, o3, e⟩ := words_loop (.str (Txt.join "\n" (ls ++ z :: ys))) m h (z :: ys) 0 [] none none (by simp) (by omega)
  rw [Nat.zero_add, List.nil_append, numL_cons, forL] at e
  have s1 := step_bad (x0 := .str (Txt.join "\n" (ls ++ z :: ys))) (m := m) (acc := toldL 0 rs) (i := ls.length) hz
  simp only [asgD, DL.setL, List.length_cons, List.length_nil, List.set_cons_succ, List.set_cons_zero, if_true, s1] at e
  have e3 := e_split (by simp) h1 h2 h3 m _ e
  show mkF 4 q_words [.str (Txt.join "\n" (ls ++ z :: ys))] m = _
  simp only [mkF, q_words]
  rw [seq_nx (s' := ⟨[some (.str (Txt.join "\n" (ls ++ z :: ys))), some (.lst []), none, none], m⟩) (by simp [sAsgF, eLst, aNil, R.bind, R.then])]
  unfold sSeq
  rw [e3]
end A00

set_option linter.all false
set_option maxRecDepth 100000
namespace A00
open PySem PySem.Spec PyProof.Rows L2 DL
def isOkM : R D → D → List Cell → Prop
  | .ok d s, d', m => d = d' ∧ s.m = m
  | _, _, _ => False
theorem lc_map {α : Type} (i : Nat) (f : S → R D) (r : List (Option D)) (m : List Cell) (g h : α → D) : ∀ l : List α, (∀ x ∈ l, isOkM (f ⟨(r.set i none).set i (some (g x)), m⟩) (h x) m) → lcL (.one i) tYesS f r (l.map g) m = some (l.map h, m)
  | [], _ => rfl
  | x :: l, hx => by
    have hx0 := hx x (by simp)
    have ih := lc_map i f r m g h l fun y hy => hx y (List.mem_cons_of_mem _ hy)
    rw [List.map_cons, lcL]
    simp only [asgD, Tg.vs, wipeD, tYesS]
    cases q : f ⟨(r.set i none).set i (some (g x)), m⟩ with
    | ok d s' =>
      rw [q] at hx0
      obtain ⟨e, em⟩ := hx0
      simp only [e, em, ih, List.map_cons]
    | raise e s => rw [q] at hx0; exact hx0.elim
    | stuck => rw [q] at hx0; exact hx0.elim

/-! ### text_of -/
def celR (C : List (List Str)) : List Cell := C.map fun r => .lst (r.map D.str)
def refsL (k n : Nat) : List D := (List.range n).map fun j => D.ref (k + j)
theorem toldL_append : ∀ (p q : List (List Str)) (i : Nat), toldL i (p ++ q) = toldL i p ++ toldL (i + p.length) q
  | [], q, i => by simp [toldL]
  | r :: p, q, i => by
    rw [List.cons_append, toldL, toldL, toldL_append p q (i + 1), List.append_assoc, List.length_cons, show i + 1 + p.length = i + (p.length + 1) by omega]
theorem toldL_empty : ∀ (q : List (List Str)) (i : Nat), (∀ y ∈ q, y = []) → toldL i q = []
  | [], _, _ => rfl
  | r :: q, i, h => by
    rw [toldL, h r (by simp), toldL_empty q (i + 1) fun y hy => h y (List.mem_cons_of_mem _ hy)]
    rfl
theorem split_rows : ∀ rs : List (List Str), (∀ r ∈ rs, r = []) ∨ ∃ p r q, rs = p ++ r :: q ∧ r ≠ [] ∧ ∀ y ∈ q, y = []
  | [] => .inl fun r hr => (List.not_mem_nil hr).elim
  | a :: rs => by
    rcases split_rows rs with h | ⟨p, r, q, e, h1, h2⟩
    · by_cases ha : a = []
      · refine .inl fun r hr => ?_
        rcases List.mem_cons.1 hr with rfl | hr
        · exact ha
        · exact h r hr
      · exact .inr ⟨[], a, rs, rfl, ha, h⟩
    · exact .inr ⟨a :: p, r, q, by rw [e]; rfl, h1, h2⟩
theorem lc_new (r : List (Option D)) : ∀ (n j : Nat) (m : List Cell), lcL (.one 2) tYesS (eCell (eLst aNil)) r ((List.range' j n).map fun (i : Nat) => D.int (i : Int)) m = some ((List.range n).map fun i => D.ref (m.length + i), m ++ List.replicate n (.lst []))
  | 0, j, m => by simp [lcL]
  | n + 1, j, m => by
    rw [List.range'_succ, List.map_cons, lcL]
    have e : eCell (eLst aNil) ⟨(wipeD r [2]).set 2 (some (.int (j : Int))), m⟩ = .ok (.ref m.length) ⟨(wipeD r [2]).set 2 (some (.int (j : Int))), m ++ [.lst []]⟩ := by
      simp [eCell, eLst, aNil, R.bind]
    simp only [asgD, Tg.vs, tYesS, e]
    rw [lc_new r n (j + 1) (m ++ [Cell.lst []])]
    simp only [List.length_append, List.length_cons, List.length_nil, Option.some.injEq, Prod.mk.injEq]
    refine ⟨?_, ?_⟩
    · rw [List.range_succ_eq_map, List.map_cons, List.map_map]
      congr 1
      apply List.map_congr_left
      intro i _
      show D.ref (m.length + (0 + 1) + i) = D.ref (m.length + Nat.succ i)
      congr 1
      omega
    · rw [List.append_assoc, List.replicate_succ]
      rfl
theorem rng_range' (n : Nat) : rngL 0 n = (List.range' 0 n).map fun (i : Nat) => D.int (i : Int) := by
  unfold rngL
  rw [List.range_eq_range']
  apply List.map_congr_left
  intro i _
  rw [Int.zero_add]
theorem refs_at {k n i : Nat} (h : i < n) (s : S) : ixD (.lst (refsL k n)) (.int (i : Int)) s = .ok (.ref (k + i)) s := by
  rw [ixl, atN _ _ (by unfold refsL; simpa using h)]
  unfold refsL
  simp [h]
theorem cell_at {m : List Cell} {C : List (List Str)} {i : Nat} {x : List Str} (h : C[i]? = some x) (r : List (Option D)) : mLst ⟨r, m ++ celR C⟩ (m.length + i) = some (x.map D.str) := by
  unfold mLst celR
  rw [List.getElem?_append_right (by omega), Nat.add_sub_cancel_left, List.getElem?_map, h]
  rfl
theorem cell_set {m : List Cell} {C : List (List Str)} {i : Nat} (x : List Str) : (m ++ celR C).set (m.length + i) (.lst (x.map D.str)) = m ++ celR (C.set i x) := by
  unfold celR
  rw [List.set_append_right _ _ (by omega), Nat.add_sub_cancel_left, List.map_set]
theorem app_step {m : List Cell} {C : List (List Str)} {i n : Nat} {x : List Str} {w : Str} (w0 : D) (o2 : Option D) (hi : i < n) (h : C[i]? = some x) (hx : x.length < 10000) :
    q_text_of_b1 ⟨[some w0, some (.lst (refsL m.length n)), o2, some (.str w), some (.int (i : Int)), none], m ++ celR C⟩ = .next ⟨[some w0, some (.lst (refsL m.length n)), o2, some (.str w), some (.int (i : Int)), none], m ++ celR (C.set i (x ++ [w]))⟩ := by
  have e1 := refs_at (k := m.length) hi ⟨[some w0, some (.lst (refsL m.length n)), o2, some (.str w), some (.int (i : Int)), none], m ++ celR C⟩
  have e2' := cell_at (m := m) h [some w0, some (.lst (refsL m.length n)), o2, some (.str w), some (.int (i : Int)), none]
  have e3 := cell_set (m := m) (C := C) (i := i) (x ++ [w])
  have hz : x.length < sizeLine := by rw [szl]; omega
  rw [List.map_append] at e3
  simp only [List.map_cons, List.map_nil] at e3
  simp [q_text_of_b1, sAppO, e2, eVar, R.bind, R.then, e1, e2', hz, e3]
theorem loop_tag {m : List Cell} {n i : Nat} (w0 : D) (o2 : Option D) (hi : i < n) : ∀ (r x : List Str) (C : List (List Str)) (o3 o4 : Option D) (rest : List D), C[i]? = some x → x.length + r.length < 9000 →
    ∃ o3' o4', forL (.many [3, 4]) q_text_of_b1 (tagL i r ++ rest) ⟨[some w0, some (.lst (refsL m.length n)), o2, o3, o4, none], m ++ celR C⟩ = forL (.many [3, 4]) q_text_of_b1 rest ⟨[some w0, some (.lst (refsL m.length n)), o2, o3', o4', none], m ++ celR (C.set i (x ++ r))⟩
  | [], x, C, o3, o4, rest, h, _ => by
    refine ⟨o3, o4, ?_⟩
    have hC : C.set i (x ++ []) = C := by
      rw [List.append_nil]
      obtain ⟨hl, e⟩ := List.getElem?_eq_some_iff.1 h
      rw [← e]
      exact List.set_getElem_self hl
    rw [hC]
    rfl
  | w :: r, x, C, o3, o4, rest, h, hl => by
    rw [List.length_cons] at hl
    have hlt := (List.getElem?_eq_some_iff.1 h).1
    obtain ⟨o3', o4', e⟩ := loop_tag w0 o2 hi r (x ++ [w]) (C.set i (x ++ [w])) (some (.str w)) (some (.int (i : Int))) rest (by rw [List.getElem?_set_self hlt]) (by rw [List.length_append]; simp; omega)
    refine ⟨o3', o4', ?_⟩
    have s1 := app_step (m := m) (w := w) w0 o2 hi h (by omega)
    rw [show tagL (i : Int) (w :: r) ++ rest = .tup [.str w, .int (i : Int)] :: (tagL i r ++ rest) from rfl, forL]
    simp only [asgD, DL.setL, List.length_cons, List.length_nil, List.set_cons_succ, List.set_cons_zero, if_true, s1]
    rw [e, List.set_set, List.append_assoc]
    rfl
theorem loop_told {m : List Cell} {n : Nat} (w0 : D) (o2 : Option D) : ∀ (rs dn : List (List Str)) (o3 o4 : Option D), (∀ r ∈ rs, r.length < 9000) → dn.length + rs.length = n →
    ∃ o3' o4', forL (.many [3, 4]) q_text_of_b1 (toldL dn.length rs) ⟨[some w0, some (.lst (refsL m.length n)), o2, o3, o4, none], m ++ celR (dn ++ List.replicate rs.length [])⟩ = .next ⟨[some w0, some (.lst (refsL m.length n)), o2, o3', o4', none], m ++ celR (dn ++ rs)⟩
  | [], dn, o3, o4, _, _ => ⟨o3, o4, by simp [toldL, forL]⟩
  | r :: rs, dn, o3, o4, h, hn => by
    rw [List.length_cons] at hn
    obtain ⟨p3, p4, e⟩ := loop_tag (m := m) (n := n) (i := dn.length) w0 o2 (by omega) r [] (dn ++ List.replicate (rs.length + 1) []) o3 o4 (toldL (dn.length + 1) rs) (by
      rw [List.getElem?_append_right (Nat.le_refl _), Nat.sub_self]
      simp) (by have := h r (by simp); simpa using this)
    obtain ⟨o3', o4', e2⟩ := loop_told (m := m) (n := n) w0 o2 rs (dn ++ [r]) p3 p4 (fun y hy => h y (List.mem_cons_of_mem _ hy)) (by rw [List.length_append, List.length_cons, List.length_nil]; omega)
    refine ⟨o3', o4', ?_⟩
    rw [toldL, List.length_cons, e]
    have hs : (dn ++ List.replicate (rs.length + 1) []).set dn.length ([] ++ r) = dn ++ [r] ++ List.replicate rs.length [] := by
      rw [List.set_append_right _ _ (Nat.le_refl _), Nat.sub_self, List.replicate_succ, List.set_cons_zero, List.nil_append, List.append_assoc]
      rfl
    rw [hs]
    rw [List.length_append] at e2
    rw [show dn.length + 1 = dn.length + [r].length from rfl, e2, List.append_assoc]
    rfl
theorem last_at (X : List D) (y : D) (s : S) : ixD (.lst (X ++ [y])) (.int (-1)) s = .ok y s := by
  have : L2.atI (X ++ [y]) (-1) = some y := by
    unfold L2.atI L2.ixN
    rw [if_neg (by decide), if_pos (by rw [List.length_append]; simp; omega)]
    have : ((-1 : Int) + ((X ++ [y]).length : Nat)).toNat = X.length := by rw [List.length_append, List.length_cons, List.length_nil]; omega
    rw [Option.bind_some, this]
    simp
  rw [ixl, this]
def rowZ (r : List Str) : Str := Txt.join " " r ++ "\n"
end A00

set_option linter.all false
set_option maxRecDepth 100000
namespace A00
open PySem PySem.Spec PyProof.Rows L2 DL
theorem told_last (p : List (List Str)) (r : List Str) (hr : r ≠ []) : ∃ (X : List D) (w : Str), toldL 0 (p ++ [r]) = X ++ [.tup [.str w, .int (p.length : Int)]] := by
  refine ⟨toldL 0 p ++ tagL (p.length : Int) r.dropLast, r.getLast hr, ?_⟩
  rw [toldL_append, Nat.zero_add, toldL, toldL, List.append_nil, List.append_assoc]
  congr 1
  unfold tagL
  conv => lhs; rw [← List.dropLast_concat_getLast hr]
  rw [List.map_append]
  rfl
theorem row_str {w0 : D} {m : List Cell} {rs : List (List Str)} {l1 : Option D} {o2 o3 o4 : Option D} {j : Nat} {r : List Str} (h : rs[j]? = some r) (hl : ∀ w ∈ r, w.length ≤ 60) (hr : r.length ≤ 100) :
    isOkM ((e2 addD (eTx joinC (eC (.str " ")) (eVar 5)) (eC (.str "\n"))) ⟨([some w0, l1, o2, o3, o4, none].set 5 none).set 5 (some (.ref (m.length + j))), m ++ celR rs⟩) (.str (rowZ r)) (m ++ celR rs) := by
  have e := cell_at (m := m) h [some w0, l1, o2, o3, o4, some (.ref (m.length + j))]
  have l1 : (" " : Str).length = 1 := by rfl
  have l2 : ("\n" : Str).length = 1 := by rfl
  have s1 := join_sum 60 r hl
  have s2 := join_len " " 60 r hl
  rw [l1] at s2
  have z1 : (r.map (fun x => x.length)).sum + r.length * ((" " : Str).length) ≤ 16777216 := by rw [l1]; omega
  have z2 : (Txt.join " " r).length + ("\n" : Str).length ≤ sizeLine := by rw [l2, szl]; omega
  simp [e2, eTx, eC, eVar, R.bind, joinC, e, joinD, strs_map, z1, addD, z2, isOkM, rowZ]
theorem e_textof {p : List (List Str)} {r : List Str} (hr : r ≠ []) (hp : p.length ≤ 900) (h3 : ∀ y ∈ p ++ [r], y.length ≤ 100) (hw : ∀ y ∈ p ++ [r], ∀ w ∈ y, w.length ≤ 60) (m : List Cell) :
    m_text_of [.lst (toldL 0 (p ++ [r]))] m = .ok (.str (Txt.join "" ((p ++ [r]).map rowZ))) (m ++ celR (p ++ [r])) := by
  obtain ⟨X, w, et⟩ := told_last p r hr
  obtain ⟨TD, hTD⟩ : ∃ TD, TD = toldL 0 (p ++ [r]) := ⟨_, rfl⟩
  rw [← hTD] at et ⊢
  obtain ⟨o3, o4, el⟩ := loop_told (m := m) (n := p.length + 1) (.lst TD) none (p ++ [r]) [] none none (fun y hy => by have := h3 y hy; omega) (by simp)
  rw [List.nil_append, List.nil_append, List.length_nil, ← hTD] at el
  have hrep : celR (List.replicate (p ++ [r]).length []) = List.replicate (p.length + 1) (Cell.lst []) := by
    unfold celR
    rw [List.map_replicate, List.length_append]
    rfl
  rw [hrep] at el
  have hlen : TD.length = X.length + 1 := by rw [et, List.length_append]; rfl
  show mkF 6 q_text_of [.lst TD] m = _
  simp only [mkF, q_text_of]
  have s1 : sIf (t2 (cmpB eqD) (e1 lenC (eVar 0)) (eC (.int 0))) (sRet (eC (.str ""))) sNil ⟨[some (.lst TD), none, none, none, none, none], m⟩ = .next ⟨[some (.lst TD), none, none, none, none, none], m⟩ := by
    have : ¬ ((TD.length : Int) = 0) := by omega
    have : ((TD.length : Int) == 0) = false := by simpa using this
    simp [sIf, t2, cmpB, e1, lenC, lenD, eVar, eC, R.bind, R.then, eqI, this, sNil]
  have hn : ((p.length : Int) + 1) = ((p.length + 1 : Nat) : Int) := by omega
  have s2 : sAsgF 1 (eLc (iN rng1I (aCons (e2 addD (e2 ixD (e2 ixD (eVar 0) (e1 negD (eC (.int 1)))) (eC (.int 1))) (eC (.int 1))) aNil)) (.one 2) tYesS (eCell (eLst aNil))) ⟨[some (.lst TD), none, none, none, none, none], m⟩ =
      .next ⟨[some (.lst TD), some (.lst (refsL m.length (p.length + 1))), none, none, none, none], m ++ List.replicate (p.length + 1) (.lst [])⟩ := by
    have i1 : ∀ s : S, ixD (.lst TD) (.int (-1)) s = .ok (.tup [.str w, .int (p.length : Int)]) s := fun s => by rw [et]; exact last_at X _ s
    have i2 : ∀ s : S, ixD (.tup [.str w, .int (p.length : Int)]) (.int 1) s = .ok (.int (p.length : Int)) s := fun s => rfl
    have i3 := rngS (p.length + 1) ⟨[some (.lst TD), none, none, none, none, none], m⟩ (by omega)
    have i4 := lc_new [some (.lst TD), none, none, none, none, none] (p.length + 1) 0 m
    rw [← rng_range'] at i4
    have i5 : (rngL 0 (p.length + 1)).length ≤ sizeLine := by simp [rngL, szl]; omega
    simp only [sAsgF, eLc, iN, aCons, aNil, e2, e1, eVar, eC, negD, R.bind, R.then, List.getD_cons_zero, i1, i2, addD, hn, i3, i4, i5, if_true]
    rfl
  have s3 : sFor (i1 seqI (eVar 0)) (.many [3, 4]) q_text_of_b1 ⟨[some (.lst TD), some (.lst (refsL m.length (p.length + 1))), none, none, none, none], m ++ List.replicate (p.length + 1) (.lst [])⟩ = .next ⟨[some (.lst TD), some (.lst (refsL m.length (p.length + 1))), none, o3, o4, none], m ++ celR (p ++ [r])⟩ := by
    simp only [sFor, i1, eVar, R.bind, R.then, List.getD_cons_zero, seqI]
    exact el
  have s4 : (sRet (eTx joinC (eC (.str "")) (eLc (i1 seqI (eVar 1)) (.one 5) tYesS (e2 addD (eTx joinC (eC (.str " ")) (eVar 5)) (eC (.str "\n")))))) ⟨[some (.lst TD), some (.lst (refsL m.length (p.length + 1))), none, o3, o4, none], m ++ celR (p ++ [r])⟩ =
      .ret (.str (Txt.join "" ((p ++ [r]).map rowZ))) ⟨[some (.lst TD), some (.lst (refsL m.length (p.length + 1))), none, o3, o4, none], m ++ celR (p ++ [r])⟩ := by
    have hL : (p ++ [r]).length = p.length + 1 := by simp
    have lm := lc_map 5 (e2 addD (eTx joinC (eC (.str " ")) (eVar 5)) (eC (.str "\n"))) [some (.lst TD), some (.lst (refsL m.length (p.length + 1))), none, o3, o4, none] (m ++ celR (p ++ [r])) (fun j => D.ref (m.length + j)) (fun j => .str (rowZ ((p ++ [r]).getD j []))) (List.range (p.length + 1)) (fun j hj => by
      have hj := List.mem_range.1 hj
      have e : (p ++ [r])[j]? = some ((p ++ [r]).getD j []) := by
        rw [List.getD_eq_getElem?_getD, List.getElem?_eq_getElem (by omega)]
        rfl
      have hm := List.mem_of_getElem? e
      exact row_str e (hw _ hm) (h3 _ hm))
    have lm' : lcL (.one 5) tYesS (e2 addD (eTx joinC (eC (.str " ")) (eVar 5)) (eC (.str "\n"))) [some (.lst TD), some (.lst (refsL m.length (p.length + 1))), none, o3, o4, none] (refsL m.length (p.length + 1)) (m ++ celR (p ++ [r])) = some (((p ++ [r]).map rowZ).map D.str, m ++ celR (p ++ [r])) := by
      refine lm.trans ?_
      congr 2
      rw [List.map_map]
      refine List.ext_getElem (by simp) fun j h1 h2 => ?_
      simp only [List.length_map, List.length_range] at h1 h2
      simp only [List.getElem_map, List.getElem_range, Function.comp]
      rw [List.getD_eq_getElem?_getD, List.getElem?_eq_getElem (by omega)]
      rfl
    have z5 : (refsL m.length (p.length + 1)).length ≤ sizeLine := by unfold refsL; simp [szl]; omega
    have hz : ∀ z ∈ (p ++ [r]).map rowZ, z.length ≤ 7000 := fun z hz => by
      obtain ⟨y, hy, rfl⟩ := List.mem_map.1 hz
      have a := join_len " " 60 y (hw y hy)
      have b := h3 y hy
      have c : (" " : Str).length = 1 := by rfl
      have d : ("\n" : Str).length = 1 := by rfl
      unfold rowZ
      rw [Str.length_append, d]
      rw [c] at a
      omega
    have z6 := join_sum 7000 _ hz
    have z7 : ("" : Str).length = 0 := by rfl
    have z8 : (((p ++ [r]).map rowZ).map (fun x => x.length)).sum + ((p ++ [r]).map rowZ).length * ("" : Str).length ≤ 16777216 := by
      rw [z7]
      rw [List.length_map, hL] at z6
      omega
    have j1 : ∀ s : S, joinC (.str "") (.lst (((p ++ [r]).map rowZ).map D.str)) s = .ok (.str (Txt.join "" ((p ++ [r]).map rowZ))) s := fun s => by
      simp only [joinC, joinD, strs_map, if_pos z8]
    simp only [sRet, eTx, eC, eLc, i1, eVar, R.bind, R.then, List.getD_cons_zero, List.getD_cons_succ, seqI, z5, if_true, lm', j1]
  have hs : ([D.lst TD].map some ++ List.replicate (6 - [D.lst TD].length) none) = [some (.lst TD), none, none, none, none, none] := rfl
  rw [hs, seq_nx s1, seq_nx s2, seq_nx s3, s4]
end A00

set_option linter.all false
set_option maxRecDepth 100000
namespace A00
open PySem PySem.Spec PyProof.Rows L2 DL
/-! ### the text of words, read -/
theorem tl_rowZ (r : List Str) : TL.tl (rowZ r) = TL.tl (Txt.join " " r) ++ [10] := by
  unfold rowZ
  rw [TL.tl_append]
  rfl
theorem joinL_nl : ∀ ps : List (List Nat), TL.joinL [10] (ps ++ [[]]) = (ps.map fun p => p ++ [10]).flatten
  | [] => rfl
  | p :: ps => by
    have ih := joinL_nl ps
    cases ps with
    | nil => simp [TL.joinL]
    | cons q ps =>
      rw [List.cons_append] at ih
      rw [List.cons_append, List.cons_append, TL.joinL, ih]
      simp
theorem joinL_e : ∀ ps : List (List Nat), TL.joinL [] ps = ps.flatten
  | [] => rfl
  | [p] => by simp [TL.joinL]
  | p :: q :: ps => by
    rw [TL.joinL, joinL_e (q :: ps)]
    simp
theorem text_lines (rs : List (List Str)) : Txt.join "" (rs.map rowZ) = Txt.join "\n" (rs.map (Txt.join " ") ++ [("" : Str)]) := by
  apply TL.ext_tl
  rw [TL.join_eq, TL.join_eq, TL.tl_join, TL.tl_join]
  rw [show TL.tl ("" : Str) = [] from rfl, show TL.tl ("\n" : Str) = [10] from rfl, joinL_e, List.map_append, List.map_map, List.map_map]
  rw [show [("" : Str)].map TL.tl = [[]] from rfl, joinL_nl, List.map_map]
  congr 1
  apply List.map_congr_left
  intro r _
  exact tl_rowZ r
theorem app_e (x : Str) : x ++ "" = x := by
  apply TL.ext_tl
  rw [TL.tl_append, show TL.tl ("" : Str) = [] from rfl, List.append_nil]
theorem ln_row {r : List Str} (h : Row3 r) : Ln (Txt.join " " r) r := by
  have := ln_one h
  unfold lineOf at this
  rwa [app_e] at this
theorem row3_nil : Row3 [] := ⟨by simp, fun w hw => (List.not_mem_nil hw).elim⟩
theorem lns_rows : ∀ rs : List (List Str), (∀ r ∈ rs, Row3 r) → Lns (rs.map (Txt.join " ") ++ [("" : Str)]) (rs ++ [[]])
  | [], _ => .cons (ln_row row3_nil) (by simp) .nil
  | r :: rs, h => .cons (ln_row (h r (by simp))) (h r (by simp)).1 (lns_rows rs fun y hy => h y (List.mem_cons_of_mem _ hy))
theorem told_nil (rs : List (List Str)) : toldL 0 (rs ++ [[]]) = toldL 0 rs := by
  rw [toldL_append]
  have : toldL (0 + rs.length) [[]] = [] := rfl
  rw [this, List.append_nil]
theorem words_e (m : List Cell) : m_words [.str ""] m = .ok (.lst []) m := by kernel_rfl
theorem textof_e (m : List Cell) : m_text_of [.lst []] m = .ok (.str "") m := by kernel_rfl
theorem w10_len : ∀ w ∈ W10, w.length ≤ 60 := by
  have : W10.all (fun w => decide (w.length ≤ 60)) = true := by kernel_rfl
  intro w hw
  exact of_decide_eq_true (List.all_eq_true.1 this w hw)
/-- the text of what was told, and what is read of it -/
theorem e_both (rs : List (List Str)) (h : ∀ r ∈ rs, Row3 r) (hl : rs.length ≤ 900) (m : List Cell) (hm : m.all nrC = true) : ∃ p : List (List Str), p <+: rs ∧
    trimF m_text_of [.lst (toldL 0 rs)] m = .ok (.str (Txt.join "" (p.map rowZ))) m ∧ (∀ m, m_words [.str (Txt.join "" (p.map rowZ))] m = .ok (.lst (toldL 0 rs)) m) ∧
    ((p = [] ∧ toldL 0 rs = []) ∨ ∃ X w, toldL 0 rs = X ++ [.tup [.str w, .int ((p.length : Int) - 1)]]) := by
  rcases split_rows rs with he | ⟨p, r, q, rfl, hr, hq⟩
  · have e0 := toldL_empty rs 0 he
    refine ⟨[], List.nil_prefix, ?_, ?_, .inl ⟨rfl, e0⟩⟩
    · unfold trimF
      rw [e0, textof_e]
      simp [hm, nr]
      rfl
    · intro m
      rw [e0]
      exact words_e m
  · have hp : ∀ y ∈ p ++ [r], Row3 y := fun y hy => h y (by
      rw [List.mem_append] at hy ⊢
      rcases hy with hy | hy
      · exact .inl hy
      · rw [List.mem_singleton.1 hy]; exact .inr (by simp))
    have et : toldL 0 (p ++ r :: q) = toldL 0 (p ++ [r]) := by
      rw [show p ++ r :: q = (p ++ [r]) ++ q by simp, toldL_append, toldL_empty q _ hq, List.append_nil]
    have hpl : p.length ≤ 899 := by rw [List.length_append, List.length_cons] at hl; omega
    rw [et]
    refine ⟨p ++ [r], ⟨q, by simp⟩, ?_, ?_, .inr ?_⟩
    · have e := e_textof hr (by omega) (fun y hy => by have := (hp y hy).1; omega) (fun y hy w hw => w10_len w ((hp y hy).2 w hw)) m
      unfold trimF
      rw [e]
      simp [hm, nr]
    · intro m
      have e := e_words (lns_rows (p ++ [r]) hp) (by simp) (by simp; omega) m
      rw [text_lines, e, told_nil]
    · obtain ⟨X, w, e⟩ := told_last p r hr
      refine ⟨X, w, ?_⟩
      rw [e, List.length_append, List.length_singleton]
      congr 6
      omega
end A00

set_option linter.all false
set_option maxRecDepth 100000
namespace A00
open PySem PySem.Spec PyProof.Rows L2 DL
theorem heard_ok {d w : D} {m : List Cell} (h : m_words [d] m = .ok w m) : m__law_heard [.fn 0, .lst [d]] m = .ok (.lst [.str "told", w]) m := by
  have x1 : L2.atI [d] 0 = some d := rfl
  have x2 : eqD (.int 1) (.int 0) = some false := by decide +kernel
  have x3 : eqD (.int 1) (.int 1) = some true := by decide +kernel
  have l3 : ltB 1 3 = true := by decide
  simp [m__law_heard, q__law_heard, mkF, sSeq, sAsg, eTup, aCons, aNil, eC, asgD, DL.setL, sTry, sIf, t2, cmpB, iCmp, e1, e2, lenD, eVar, R.bind, R.then, l3, eIf, x2, x3, eCallV, arV, mfV, ixD, x1, callR, h, isND, DL.isNon, eLst, sRet, szl]
theorem heard_bad {d : D} {n : Int} {m : List Cell} (h : m_words [d] m = .raise (.mk 0 [.int n]) m) : m__law_heard [.fn 0, .lst [d]] m = .ok (.lst [.str "BadText", .int n, .bl true]) m := by
  have x1 : L2.atI [d] 0 = some d := rfl
  have x2 : eqD (.int 1) (.int 0) = some false := by decide +kernel
  have x3 : eqD (.int 1) (.int 1) = some true := by decide +kernel
  have l3 : ltB 1 3 = true := by decide
  simp [m__law_heard, q__law_heard, mkF, sSeq, sAsg, eTup, aCons, aNil, eC, asgD, DL.setL, sTry, sIf, t2, cmpB, iCmp, e1, e2, lenD, eVar, R.bind, R.then, l3, eIf, x2, x3, eCallV, arV, mfV, ixD, x1, callR, h, isND, DL.isNon, eLst, sRet, szl, hSayF, Ex.ix]
def rowD (r : List Str) : D := .lst (r.map D.str)
theorem draw_row {a1 a2 a3 : Option D} : ∀ (l : List D) (acc : List Str) (o5 : Option D) (k : Nat) (m : List Cell), k + l.length < 900000 → acc.length + l.length ≤ 1000 → TinR [] k m →
    ∃ (r : List Str) (o5' : Option D) (m' : List Cell), forL (.one 5) q__law_words_right_b1 l ⟨[some (.ref 0), a1, a2, a3, some (rowD acc), o5, none, none, none, none, none, none], m⟩ =
      .next ⟨[some (.ref 0), a1, a2, a3, some (rowD (acc ++ r)), o5', none, none, none, none, none, none], m'⟩ ∧ r.length = l.length ∧ (∀ w ∈ r, w ∈ W10) ∧ TinR [] (k + l.length) m'
  | [], acc, o5, k, m, _, _, t => ⟨[], o5, m, by rw [List.append_nil]; rfl, rfl, fun w hw => (List.not_mem_nil hw).elim, t⟩
  | x :: l, acc, o5, k, m, hk, ha, t => by
    rw [List.length_cons] at hk ha
    obtain ⟨d, m1, hd, e, t1⟩ := e_ofR (by omega) t (W10.map D.str) (by simp [W10]) (by simp [W10])
    obtain ⟨w, hw, rfl⟩ := List.mem_map.1 hd
    obtain ⟨r, o5', m', e2', hl, hr, t2⟩ := draw_row (a1 := a1) (a2 := a2) (a3 := a3) l (acc ++ [w]) (some x) (k + 1) m1 (by omega) (by rw [List.length_append]; simp; omega) t1
    refine ⟨w :: r, o5', m', ?_, by simp [hl], fun y hy => ?_, by rw [List.length_cons, show k + (l.length + 1) = k + 1 + l.length by omega]; exact t2⟩
    · have hz : (acc.map D.str).length < sizeLine := by rw [List.length_map, szl]; omega
      have e' : m__law_of [.ref 0, .lst [.str "web", .str "0", .str "-7", .str "1/2", .str "a-b", .str "07", .str "hinges", .str "-", .str "/", .str "z9"]] m = .ok (.str w) m1 := e
      rw [forL]
      have s1 : q__law_words_right_b1 ⟨[some (.ref 0), a1, a2, a3, some (rowD acc), some x, none, none, none, none, none, none], m⟩ = .next ⟨[some (.ref 0), a1, a2, a3, some (rowD (acc ++ [w])), some x, none, none, none, none, none, none], m1⟩ := by
        unfold rowD
        simp [q__law_words_right_b1, sApp, eCallN, aCons, aNil, eVar, eC, eLst, callR, R.bind, R.then, e', szl]
        rw [List.length_map, szl] at hz
        exact hz
      simp only [asgD, List.set_cons_succ, List.set_cons_zero, s1]
      rw [e2', List.append_assoc]
      rfl
    · rcases List.mem_cons.1 hy with rfl | hy
      · exact hw
      · exact hr y hy
theorem told_app (rs : List (List Str)) (r : List Str) : toldL 0 (rs ++ [r]) = toldL 0 rs ++ tagL (rs.length : Int) r := by
  rw [toldL_append, Nat.zero_add, toldL, toldL, List.append_nil]
theorem told_len (rs : List (List Str)) (h : ∀ r ∈ rs, r.length ≤ 3) : ∀ i, (toldL i rs).length ≤ 3 * rs.length := by
  induction rs with
  | nil => intro i; simp [toldL]
  | cons r rs ih =>
    intro i
    rw [toldL, List.length_append, List.length_cons]
    have := ih (fun y hy => h y (List.mem_cons_of_mem _ hy)) (i + 1)
    have h1 := h r (by simp)
    unfold tagL
    rw [List.length_map]
    omega
theorem lc_tag (n : Int) (S0 : List (Option D)) (m : List Cell) (hn : S0.getD 3 none = some (.int n)) (hl : S0.length = 12) (r : List Str) : lcL (.one 6) tYesS (eTup (aCons (eVar 6) (aCons (eVar 3) aNil))) S0 (r.map D.str) m = some (tagL n r, m) := by
  refine lc_map 6 _ S0 m D.str (fun w => .tup [.str w, .int n]) r fun w _ => ?_
  have h3 : ((S0.set 6 none).set 6 (some (.str w))).getD 3 none = some (.int n) := by
    rw [List.getD_eq_getElem?_getD] at hn ⊢
    rw [List.getElem?_set_ne (by decide), List.getElem?_set_ne (by decide)]
    exact hn
  have h6 : ((S0.set 6 none).set 6 (some (.str w))).getD 6 none = some (.str w) := by
    rw [List.getD_eq_getElem?_getD, List.getElem?_set_self (by rw [List.length_set]; omega)]
    rfl
  have hz : 2 ≤ sizeLine := by rw [szl]; decide
  simp only [eTup, aCons, aNil, eVar, R.bind, h3, h6, List.length_cons, List.length_nil, hz, if_true, isOkM, and_self]
theorem draw_rows : ∀ (c : Nat) (rs : List (List Str)) (o3 o4 o5 : Option D) (k : Nat) (m : List Cell), k + 4 * c < 900000 → rs.length + c ≤ 100 → (∀ r ∈ rs, Row3 r) → TinR [] k m →
    ∃ (rs' : List (List Str)) (o3' o4' o5' : Option D) (k' : Nat) (m' : List Cell), forL (.one 3) q__law_words_right_b2 ((List.range' rs.length c).map fun (i : Nat) => D.int (i : Int)) ⟨[some (.ref 0), some (.lst (rs.map rowD)), some (.lst (toldL 0 rs)), o3, o4, o5, none, none, none, none, none, none], m⟩ =
      .next ⟨[some (.ref 0), some (.lst ((rs ++ rs').map rowD)), some (.lst (toldL 0 (rs ++ rs'))), o3', o4', o5', none, none, none, none, none, none], m'⟩ ∧ rs'.length = c ∧ (∀ r ∈ rs ++ rs', Row3 r) ∧ k' ≤ k + 4 * c ∧ TinR [] k' m'
  | 0, rs, o3, o4, o5, k, m, _, _, h, t => ⟨[], o3, o4, o5, k, m, by rw [List.append_nil]; rfl, rfl, by rw [List.append_nil]; exact h, by omega, t⟩
  | c + 1, rs, o3, o4, o5, k, m, hk, hl, h, t => by
    obtain ⟨n, m1, e, n0, n1, t1⟩ := e_takeR (by omega) t (w := 4) (by decide) (by decide)
    obtain ⟨j, rfl⟩ : ∃ j : Nat, n = j := ⟨n.toNat, by omega⟩
    obtain ⟨r, p5, m2, e2', hr, hw, t2⟩ := draw_row (a1 := some (.lst (rs.map rowD))) (a2 := some (.lst (toldL 0 rs))) (a3 := some (.int (rs.length : Int))) (rngL 0 j) [] o5 (k + 1) m1 (by simp [rngL]; omega) (by simp [rngL]; omega) t1
    have hj : r.length = j := by rw [hr]; simp [rngL]
    have r3 : Row3 r := ⟨by omega, hw⟩
    have hall : ∀ y ∈ rs ++ [r], Row3 y := fun y hy => by
      rcases List.mem_append.1 hy with hy | hy
      · exact h y hy
      · rw [List.mem_singleton.1 hy]; exact r3
    rw [show (rngL 0 j).length = j by simp [rngL]] at t2
    obtain ⟨rs', o3', o4', o5', k', m', e3, hc, h3, hk', t3⟩ := draw_rows c (rs ++ [r]) (some (.int (rs.length : Int))) (some (rowD r)) p5 (k + 1 + j) m2 (by omega) (by rw [List.length_append]; simp; omega) hall t2
    refine ⟨r :: rs', o3', o4', o5', k', m', ?_, by simp [hc], by simpa using h3, by omega, t3⟩
    have tl := told_len rs (fun y hy => (h y hy).1) 0
    have z1 : rs.length < sizeLine := by rw [szl]; omega
    have z2 : (toldL 0 rs).length + (tagL (rs.length : Int) r).length ≤ sizeLine := by rw [szl]; unfold tagL; rw [List.length_map]; omega
    have z3 : (r.map D.str).length ≤ sizeLine := by rw [List.length_map, szl]; omega
    have lt := lc_tag (rs.length : Int) [some (.ref 0), some (.lst ((rs ++ [r]).map rowD)), some (.lst (toldL 0 rs)), some (.int (rs.length : Int)), some (rowD r), p5, none, none, none, none, none, none] m2 rfl rfl r
    have s1 : q__law_words_right_b2 ⟨[some (.ref 0), some (.lst (rs.map rowD)), some (.lst (toldL 0 rs)), some (.int (rs.length : Int)), o4, o5, none, none, none, none, none, none], m⟩ =
        .next ⟨[some (.ref 0), some (.lst ((rs ++ [r]).map rowD)), some (.lst (toldL 0 (rs ++ [r]))), some (.int (rs.length : Int)), some (rowD r), p5, none, none, none, none, none, none], m2⟩ := by
      unfold q__law_words_right_b2
      rw [seq_nx (s' := ⟨[some (.ref 0), some (.lst (rs.map rowD)), some (.lst (toldL 0 rs)), some (.int (rs.length : Int)), some (rowD []), o5, none, none, none, none, none, none], m⟩) (by simp [sAsgF, eLst, aNil, R.bind, R.then, rowD])]
      rw [seq_nx (s' := ⟨[some (.ref 0), some (.lst (rs.map rowD)), some (.lst (toldL 0 rs)), some (.int (rs.length : Int)), some (rowD r), p5, none, none, none, none, none, none], m2⟩) (by
        have i3 := rngS j ⟨[some (.ref 0), some (.lst (rs.map rowD)), some (.lst (toldL 0 rs)), some (.int (rs.length : Int)), some (rowD []), o5, none, none, none, none, none, none], m1⟩ (by omega)
        simp only [sFor, iN, aCons, aNil, eCallN, eVar, eC, callR, R.bind, R.then, List.getD_cons_zero, List.length_cons, List.length_nil, if_true, e, i3]
        exact e2')]
      unfold q__law_words_right_r1
      rw [seq_nx (s' := ⟨[some (.ref 0), some (.lst ((rs ++ [r]).map rowD)), some (.lst (toldL 0 rs)), some (.int (rs.length : Int)), some (rowD r), p5, none, none, none, none, none, none], m2⟩) (by
        simp [sApp, eVar, R.then, z1])]
      simp only [sExt, eLc, i1, eVar, R.bind, R.then, List.getD_cons_zero, List.getD_cons_succ, rowD, seqI, z3, if_true]
      simp only [rowD] at lt
      rw [lt]
      simp only [List.getD_cons_succ, List.getD_cons_zero, z2, if_true, told_app, List.set_cons_succ, List.set_cons_zero]
    rw [List.range'_succ, List.map_cons, forL]
    simp only [asgD, List.set_cons_succ, List.set_cons_zero, s1]
    rw [List.length_append] at e3
    rw [show rs.length + 1 = rs.length + [r].length from rfl, e3, List.append_assoc]
    rfl
end A00

set_option linter.all false
set_option maxRecDepth 100000
namespace A00
open PySem PySem.Spec PyProof.Rows L2 DL
def Tag (d : D) : Prop := ∃ (w : Str) (n : Int), d = .tup [.str w, .int n] ∧ PyData.strOk w = true
theorem w10_ok : ∀ w ∈ W10, PyData.strOk w = true := by
  have : W10.all (fun w => PyData.strOk w) = true := by kernel_rfl
  exact fun w hw => List.all_eq_true.1 this w hw
theorem told_tag : ∀ (rs : List (List Str)) (i : Nat), (∀ r ∈ rs, Row3 r) → ∀ d ∈ toldL i rs, Tag d
  | [], _, _, d, hd => (List.not_mem_nil hd).elim
  | r :: rs, i, h, d, hd => by
    rw [toldL] at hd
    rcases List.mem_append.1 hd with hd | hd
    · obtain ⟨w, hw, rfl⟩ := List.mem_map.1 hd
      exact ⟨w, i, rfl, w10_ok w ((h r (by simp)).2 w hw)⟩
    · exact told_tag rs (i + 1) (fun y hy => h y (List.mem_cons_of_mem _ hy)) d hd
theorem tags_P : ∀ T : List D, (∀ d ∈ T, Tag d) → ∃ ps, toPs T = some ps ∧ PyData.canLayAll0 ps = true ∧ PyData.depthAll ps ≤ 1 ∧ ps.length = T.length
  | [], _ => ⟨[], rfl, rfl, by simp [PyData.depthAll], rfl⟩
  | d :: T, h => by
    obtain ⟨ps, e1', e2', e3', e4'⟩ := tags_P T fun y hy => h y (List.mem_cons_of_mem _ hy)
    obtain ⟨w, n, rfl, hw⟩ := h d (by simp)
    refine ⟨.tuple [.str w, .int n] :: ps, ?_, ?_, ?_, by simp [e4']⟩
    · simp [toPs, toP, e1']
    · simp [PyData.canLayAll0, PyData.canLay0, hw, e2']
    · simp [PyData.depthAll, PyData.depth]
      omega
theorem tags_ne {T : List D} (h : ∀ d ∈ T, Tag d) : neD (.lst T) (.lst []) = some (!T.isEmpty) := by
  obtain ⟨ps, e1', e2', e3', e4'⟩ := tags_P T h
  have hd : decide (PyData.depth (.list ps) ≤ 64) = true := by
    rw [decide_eq_true_eq]
    simp only [PyData.depth]
    omega
  have hs : SeqAt.shaped (.list ps) = true := by
    unfold SeqAt.shaped
    rw [hd]
    simp [PyData.canLay0, e2']
  have hs0 : SeqAt.shaped (.list []) = true := by rfl
  have ev : PyData.eqv (.list ps) (.list []) = T.isEmpty := by
    cases ps with
    | nil =>
      cases T with
      | nil => rfl
      | cons d T => simp at e4'
    | cons p ps =>
      cases T with
      | nil => simp at e4'
      | cons d T => simp [PyData.eqv, PyData.eqvAll]
  unfold neD eqD
  simp only [toP, e1', toPs, Option.map_some, hs, hs0, Bool.and_self, if_true, ev]
theorem tags_good {T : List D} (h : ∀ d ∈ T, Tag d) (hl : T.length ≤ 1000) (k : Nat) : good (k + 2) (.lst T) = true := by
  have : goods (k + 1) T = true := by
    clear hl
    induction T with
    | nil => rfl
    | cons d T ih =>
      obtain ⟨w, n, rfl, hw⟩ := h d (by simp)
      have e := ih fun y hy => h y (List.mem_cons_of_mem _ hy)
      simp [goods, good, hw, e, szl]
  simp only [good, this, Bool.true_and, decide_eq_true_eq, szl]
  omega
/-- the lines -/
theorem lc_lines {S0 : List (Option D)} (h0 : S0.getD 0 none = some (.ref 0)) (hl : S0.length = 12) : ∀ (rs : List (List Str)) (k : Nat) (m : List Cell), (∀ r ∈ rs, Row3 r) → k + rs.length < 900000 → TinR [] k m →
    ∃ (ls : List Str) (m' : List Cell), lcL (.one 4) tYesS (e2 addD (eTx joinC (eC (.str "  ")) (eVar 4)) (eCallN 2 m__law_of (aCons (eVar 0) (aCons (eLst (aCons (eC (.str "")) (aCons (eC (.str " ")) (aCons (eC (.str " # web 1")) (aCons (eC (.str "#x")) aNil))))) aNil)))) S0 (rs.map rowD) m = some (ls.map D.str, m') ∧ Lns ls rs ∧ TinR [] (k + rs.length) m'
  | [], k, m, _, _, t => ⟨[], m, rfl, .nil, t⟩
  | r :: rs, k, m, h, hk, t => by
    rw [List.length_cons] at hk
    obtain ⟨d, m1, hd, e, t1⟩ := e_ofR (by omega) t (Suf.map D.str) (by simp [Suf]) (by simp [Suf])
    obtain ⟨s, hs, rfl⟩ := List.mem_map.1 hd
    obtain ⟨ls, m', e2', hL, t2⟩ := lc_lines h0 hl rs (k + 1) m1 (fun y hy => h y (List.mem_cons_of_mem _ hy)) (by omega) t1
    have r3 := h r (by simp)
    have ln := ln_suf r3 hs
    refine ⟨lineOf "  " r s :: ls, m', ?_, .cons ln r3.1 hL, by rw [List.length_cons, show k + (rs.length + 1) = k + 1 + rs.length by omega]; exact t2⟩
    have e' : m__law_of [.ref 0, .lst [.str "", .str " ", .str " # web 1", .str "#x"]] m = .ok (.str s) m1 := e
    have g0 : ((S0.set 4 none).set 4 (some (rowD r))).getD 0 none = some (.ref 0) := by
      rw [List.getD_eq_getElem?_getD] at h0 ⊢
      rw [List.getElem?_set_ne (by decide), List.getElem?_set_ne (by decide)]
      exact h0
    have g4 : ((S0.set 4 none).set 4 (some (rowD r))).getD 4 none = some (rowD r) := by
      rw [List.getD_eq_getElem?_getD, List.getElem?_set_self (by rw [List.length_set]; omega)]
      rfl
    have w60 : ∀ w ∈ r, w.length ≤ 60 := fun w hw => w10_len w (r3.2 w hw)
    have ll : ("  " : Str).length = 2 := by rfl
    have z1 : (r.map (fun x => x.length)).sum + r.length * ("  " : Str).length ≤ 16777216 := by
      have := join_sum 60 r w60
      have := r3.1
      rw [ll]
      omega
    have lz := ln.len
    unfold lineOf at lz
    rw [Str.length_append] at lz
    have z2 : (Txt.join "  " r).length + s.length ≤ sizeLine := by rw [szl]; omega
    have z4 : 4 ≤ sizeLine := by rw [szl]; decide
    rw [List.map_cons, lcL]
    simp only [asgD, Tg.vs, tYesS, wipeD, List.foldl]
    have ef : (e2 addD (eTx joinC (eC (.str "  ")) (eVar 4)) (eCallN 2 m__law_of (aCons (eVar 0) (aCons (eLst (aCons (eC (.str "")) (aCons (eC (.str " ")) (aCons (eC (.str " # web 1")) (aCons (eC (.str "#x")) aNil))))) aNil)))) ⟨(S0.set 4 none).set 4 (some (rowD r)), m⟩ = .ok (.str (lineOf "  " r s)) ⟨(S0.set 4 none).set 4 (some (rowD r)), m1⟩ := by
      unfold rowD at g0 g4 ⊢
      simp only [e2, eTx, eC, eVar, R.bind, g4, joinC, joinD, strs_map, z1, if_true]
      simp only [eCallN, aCons, aNil, eVar, eC, eLst, R.bind, g0, List.length_cons, List.length_nil, z4, if_true, e', callR, addD, z2]
      rfl
    rw [ef]
    simp only [e2']
    rfl
end A00

set_option linter.all false
set_option maxRecDepth 100000
namespace A00
open PySem PySem.Spec PyProof.Rows L2 DL
theorem call1 (mf : MF) {f : S → R D} {s : S} {d : D} {m' : List Cell} {d' : D} (h : f s = .ok d s) (hm : mf [d] s.m = .ok d' m') : eCallN 1 mf (aCons f aNil) s = .ok d' ⟨s.r, m'⟩ := by
  simp [eCallN, aCons, aNil, R.bind, h, callR, hm]
theorem call2 (mf : MF) {f g : S → R D} {s : S} {d d' e : D} {m' : List Cell} (h : f s = .ok d s) (h2 : g s = .ok d' s) (hm : mf [d, d'] s.m = .ok e m') : eCallN 2 mf (aCons f (aCons g aNil)) s = .ok e ⟨s.r, m'⟩ := by
  simp [eCallN, aCons, aNil, R.bind, h, h2, callR, hm]
theorem chk (mf : MF) {f g : S → R D} {s : S} {d d' : D} (h : f s = .ok d s) (h2 : g s = .ok d' s) (hm : mf [d, d'] s.m = .ok (.bl true) s.m) : sIf (tNotS (tTru (eCallN 2 mf (aCons f (aCons g aNil))))) (sRet (eC (.bl false))) sNil s = .next s := by
  have e := call2 mf h h2 hm
  simp only [sIf, tNotS, tTru, e, R.bind, truB, truD, Bool.not_true, R.then, sNil]
  rfl
theorem var_ok {i : Nat} {s : S} {d : D} (h : s.r.getD i none = some d) : eVar i s = .ok d s := by
  unfold eVar
  rw [h]
theorem joinC_ok (sep : Str) (hs : sep.length ≤ 10) {L : List Str} (h : ∀ z ∈ L, z.length ≤ 7000) (hl : L.length ≤ 1000) (s : S) : joinC (.str sep) (.lst (L.map D.str)) s = .ok (.str (Txt.join sep L)) s := by
  have a := join_sum 7000 L h
  have b : L.length * sep.length ≤ 1000 * 10 := Nat.mul_le_mul hl hs
  have z : (L.map (fun x => x.length)).sum + L.length * sep.length ≤ 16777216 := by omega
  simp only [joinC, joinD, strs_map, z, if_true]
theorem jn_ok {i : Nat} (sep : Str) (hs : sep.length ≤ 10) {L : List Str} (h : ∀ z ∈ L, z.length ≤ 7000) (hl : L.length ≤ 1000) {s : S} (hv : s.r.getD i none = some (.lst (L.map D.str))) : eTx joinC (eC (.str sep)) (eVar i) s = .ok (.str (Txt.join sep L)) s := by
  simp only [eTx, eC, R.bind, var_ok hv, joinC_ok sep hs h hl]
theorem lst1 {f : S → R D} {s : S} {d : D} (h : f s = .ok d s) : eLst (aCons f aNil) s = .ok (.lst [d]) s := by
  simp [eLst, aCons, aNil, R.bind, h, szl]
theorem told2 {f : S → R D} {s : S} {d : D} (h : f s = .ok d s) : eLst (aCons (eC (.str "told")) (aCons f aNil)) s = .ok (.lst [.str "told", d]) s := by
  simp [eLst, aCons, aNil, eC, R.bind, h, szl]
theorem okTold : PyData.strOk "told" = true := by decide +kernel
theorem okBad : PyData.strOk "BadText" = true := by decide +kernel
theorem cut_take {α : Type} (xs : List α) (j : Nat) : cutG xs none (some (j : Int)) = xs.take j := by
  unfold cutG
  rw [HT.sIx_none, HT.sIx_nat, List.drop_zero, Nat.sub_zero]
  rcases Nat.le_total j xs.length with h | h
  · rw [Nat.min_eq_left h]
  · rw [Nat.min_eq_right h, List.take_of_length_le (Nat.le_refl _), List.take_of_length_le h]
theorem cut_drop {α : Type} (xs : List α) (j : Nat) : cutG xs (some (j : Int)) none = xs.drop j := by
  unfold cutG
  rw [HT.sIx_none, HT.sIx_nat]
  rcases Nat.le_total j xs.length with h | h
  · rw [Nat.min_eq_left h, List.take_of_length_le (by simp)]
  · rw [Nat.min_eq_right h]
    simp [h]
theorem Lns.take {ls : List Str} {rs : List (List Str)} (h : Lns ls rs) : ∀ j : Nat, Lns (ls.take j) (rs.take j) := by
  induction h with
  | nil => intro j; simp; exact .nil
  | cons h hr t ih =>
    intro j
    cases j with
    | zero => exact .nil
    | succ j => exact .cons h hr (ih j)
def Bads : List Str := ["A", "web 1.", "0 , 1", "_", "web\t1", "1+1"]
theorem bads_k (n : Int) (m : List Cell) : (Bads.map fun z => m_line_words [.str z, .int n] m) = Bads.map fun _ => RF.raise (.mk 0 [.int n]) m := by kernel_rfl
theorem bads_z : (Bads.all fun z => okZ z) = true := by kernel_rfl
theorem bad_ok {z : Str} (h : z ∈ Bads) : ∀ (n : Int) (m : List Cell), m_line_words [.str z, .int n] m = .raise (.mk 0 [.int n]) m := fun n m => List.map_inj_left.1 (bads_k n m) z h
theorem okZ_nl {z : Str} (h : okZ z = true) : 10 ∉ TL.tl z := fun hc => by
  unfold okZ at h
  rw [Bool.and_eq_true] at h
  have := List.all_eq_true.1 h.1 10 hc
  simp at this
theorem okZ_len {z : Str} (h : okZ z = true) : z.length ≤ 60 := by
  unfold okZ at h
  rw [Bool.and_eq_true] at h
  exact of_decide_eq_true h.2
theorem words_any {ls : List Str} {rs : List (List Str)} (h : Lns ls rs) (h3 : ls.length ≤ 1000) (m : List Cell) : m_words [.str (Txt.join "\n" ls)] m = .ok (.lst (toldL 0 rs)) m := by
  cases h with
  | nil => exact words_e m
  | cons h hr t => exact e_words (.cons h hr t) (by simp) h3 m
/-- the text of told words is of good signs -/
theorem rows_text_ok (p : List (List Str)) (h : ∀ r ∈ p, Row3 r) : PyData.strOk (Txt.join "" (p.map rowZ)) = true := by
  have key : ∀ c ∈ TL.tl (Txt.join "" (p.map rowZ)), c < 128 := by
    rw [TL.join_eq, TL.tl_join, show TL.tl ("" : Str) = [] from rfl, joinL_e]
    intro c hc
    obtain ⟨q, hq, hc⟩ := List.mem_flatten.1 hc
    obtain ⟨z, hz, rfl⟩ := List.mem_map.1 hq
    obtain ⟨r, hr, rfl⟩ := List.mem_map.1 hz
    rw [tl_rowZ] at hc
    rcases List.mem_append.1 hc with hc | hc
    · exact (ln_row (h r hr)).asc c hc
    · rw [List.mem_singleton.1 hc]; decide
  show (Txt.join "" (p.map rowZ)).cps.all (· < 0x110000) = true
  rw [Array.all_eq_true']
  intro c hc
  have := key c (by show c ∈ (Txt.join "" (p.map rowZ)).cps.toList; exact Array.mem_toList_iff.2 hc)
  simp
  omega
end A00

set_option linter.all false
set_option maxRecDepth 100000
namespace A00
open PySem PySem.Spec PyProof.Rows L2 DL
theorem nrTin {k : Nat} {m : List Cell} (t : TinR [] k m) : m.all nrC = true := by
  obtain ⟨a, b, c, rfl, _⟩ := t
  rfl
theorem asg_of {i : Nat} {f : S → R D} {s s' : S} {d : D} (h : f s = .ok d s') : sAsg (.one i) f s = .next ⟨s'.r.set i (some d), s'.m⟩ := by
  simp [sAsg, h, R.then, asgD]
theorem e_tail {rs : List (List Str)} {ls : List Str} (h3 : ∀ r ∈ rs, Row3 r) (hl : Lns ls rs) (hn : rs.length ≤ 100) (o3 o4 o5 : Option D) {k : Nat} (hk : k < 800000) {m : List Cell} (t : TinR [] k m) :
    ∃ s', q__law_words_right_c8 ⟨[some (.ref 0), some (.lst (rs.map rowD)), some (.lst (toldL 0 rs)), o3, o4, o5, none, some (.lst (ls.map D.str)), none, none, none, none], m⟩ = .ret (.bl true) s' ∧ ∃ k', k' ≤ k + 2 ∧ TinR [] k' s'.m := by
  have hll : ls.length ≤ 100 := by rw [hl.len]; exact hn
  have hle : ∀ z ∈ ls, z.length ≤ 7000 := fun z hz => by have := hl.le z hz; omega
  have tg := told_tag rs 0 h3
  have tlen : (toldL 0 rs).length ≤ 1000 := by
    have := told_len rs (fun r hr => (h3 r hr).1) 0
    omega
  obtain ⟨p, hp, bt, bw, bl⟩ := e_both rs h3 (by omega) m (nrTin t)
  have hp3 : ∀ r ∈ p, Row3 r := fun r hr => h3 r (hp.subset hr)
  have hpl : p.length ≤ rs.length := hp.length_le
  -- what is heard
  unfold q__law_words_right_c8
  obtain ⟨s8, e8⟩ : ∃ s8 : S, s8 = ⟨[some (.ref 0), some (.lst (rs.map rowD)), some (.lst (toldL 0 rs)), o3, o4, o5, none, some (.lst (ls.map D.str)), none, none, none, none], m⟩ := ⟨_, rfl⟩
  have v0 : s8.r.getD 0 none = some (.ref 0) := by rw [e8]; rfl
  have v1 : s8.r.getD 1 none = some (.lst (rs.map rowD)) := by rw [e8]; rfl
  have v2 : s8.r.getD 2 none = some (.lst (toldL 0 rs)) := by rw [e8]; rfl
  have v7 : s8.r.getD 7 none = some (.lst (ls.map D.str)) := by rw [e8]; rfl
  have vm : s8.m = m := by rw [e8]
  have g7 : good 7 (.lst [.str "told", .lst (toldL 0 rs)]) = true := by
    have h6 := tags_good tg tlen 4
    generalize D.lst (toldL 0 rs) = G at h6 ⊢
    simp only [good, goods, okTold, h6, Bool.true_and, Bool.and_true, List.length_cons, List.length_nil, szl]
    decide
  rw [← e8]
  rw [seq_nx (chk (m__law_same 8) (d := .lst [.str "told", .lst (toldL 0 rs)]) (call2 m__law_heard (show eC (.fn 0) s8 = .ok (.fn 0) s8 from rfl) (lst1 (jn_ok "\n" (by decide) hle (by omega) v7)) (heard_ok (words_any hl (by omega) s8.m))) (told2 (var_ok v2)) (e_same 7 _ s8.m g7))]
  unfold q__law_words_right_c7
  have bt8 : trimF m_text_of [.lst (toldL 0 rs)] s8.m = .ok (.str (Txt.join "" (p.map rowZ))) s8.m := by rw [vm]; exact bt
  have ft : eCallN 1 (trimF m_text_of) (aCons (eVar 2) aNil) s8 = .ok (.str (Txt.join "" (p.map rowZ))) s8 := call1 (trimF m_text_of) (var_ok v2) bt8
  rw [seq_nx (chk (m__law_same 8) (d := .lst (toldL 0 rs)) (call1 m_words ft (bw s8.m)) (var_ok v2) (e_same 7 _ s8.m (tags_good tg tlen 5)))]
  -- the last line
  unfold q__law_words_right_c6
  have f6 : (eIf (t2 (cmpB neD) (eVar 2) (eLst aNil)) (e2 ixD (e2 ixD (eVar 2) (e1 negD (eC (.int 1)))) (eC (.int 1))) (e2 subD (eC (.int 0)) (eC (.int 1)))) s8 = .ok (.int ((p.length : Int) - 1)) s8 := by
    have ne := tags_ne tg
    have el : eLst aNil s8 = .ok (.lst []) s8 := rfl
    rcases bl with ⟨rfl, e0⟩ | ⟨X, w, eX⟩
    · rw [e0] at ne
      have v2' := v2
      rw [e0] at v2'
      simp only [eIf, t2, var_ok v2', R.bind, el, cmpB, ne, List.isEmpty_nil, Bool.not_true]
      rfl
    · have hne : (toldL 0 rs).isEmpty = false := by rw [eX]; cases X <;> rfl
      rw [hne] at ne
      have i1 : ∀ s : S, ixD (.lst (toldL 0 rs)) (.int (-1)) s = .ok (.tup [.str w, .int ((p.length : Int) - 1)]) s := fun s => by rw [eX]; exact last_at X _ s
      have i2 : ∀ s : S, ixD (.tup [.str w, .int ((p.length : Int) - 1)]) (.int 1) s = .ok (.int ((p.length : Int) - 1)) s := fun s => rfl
      simp only [eIf, t2, var_ok v2, R.bind, el, cmpB, ne, Bool.not_false, if_true, e2, e1, eC, negD, i1, i2]
  rw [seq_nx (asg_of f6)]
  obtain ⟨s9, e9⟩ : ∃ s9 : S, s9 = ⟨s8.r.set 8 (some (.int ((p.length : Int) - 1))), s8.m⟩ := ⟨_, rfl⟩
  rw [← e9]
  have w0 : s9.r.getD 0 none = some (.ref 0) := by rw [e9, e8]; rfl
  have w1 : s9.r.getD 1 none = some (.lst (rs.map rowD)) := by rw [e9, e8]; rfl
  have w2 : s9.r.getD 2 none = some (.lst (toldL 0 rs)) := by rw [e9, e8]; rfl
  have w7 : s9.r.getD 7 none = some (.lst (ls.map D.str)) := by rw [e9, e8]; rfl
  have w8 : s9.r.getD 8 none = some (.int ((p.length : Int) - 1)) := by rw [e9, e8]; rfl
  have wl : s9.r.length = 12 := by rw [e9, e8]; rfl
  have wm : s9.m = m := by rw [e9, vm]
  -- the text that is due
  unfold q__law_words_right_c5
  have pz : ∀ z ∈ p.map rowZ, z.length ≤ 7000 := fun z hz => by
    obtain ⟨r, hr, rfl⟩ := List.mem_map.1 hz
    have := (ln_row (hp3 r hr)).len
    unfold rowZ
    rw [Str.length_append]
    have d : ("\n" : Str).length = 1 := by rfl
    omega
  have f5 : (eTx joinC (eC (.str "")) (eLc (i1 seqI (eSl (eVar 1) pNone (pSome (e2 addD (eVar 8) (eC (.int 1)))))) (.one 4) tYesS (e2 addD (eTx joinC (eC (.str " ")) (eVar 4)) (eC (.str "\n"))))) s9 = .ok (.str (Txt.join "" (p.map rowZ))) s9 := by
    have lm := lc_map 4 (e2 addD (eTx joinC (eC (.str " ")) (eVar 4)) (eC (.str "\n"))) s9.r s9.m rowD (fun r => .str (rowZ r)) p (fun r hr => by
      have g4 : ((s9.r.set 4 none).set 4 (some (rowD r))).getD 4 none = some (rowD r) := by
        rw [List.getD_eq_getElem?_getD, List.getElem?_set_self (by rw [List.length_set]; omega)]
        rfl
      have w60 : ∀ w ∈ r, w.length ≤ 7000 := fun w hw => by have := w10_len w ((hp3 r hr).2 w hw); omega
      have j := jn_ok (i := 4) " " (by decide) w60 (by have := (hp3 r hr).1; omega) (s := ⟨(s9.r.set 4 none).set 4 (some (rowD r)), s9.m⟩) g4
      have d : ("\n" : Str).length = 1 := by rfl
      have z : (Txt.join " " r).length + ("\n" : Str).length ≤ sizeLine := by
        have := (ln_row (hp3 r hr)).len
        rw [d, szl]
        omega
      simp only [e2, j, R.bind, eC, addD, z, if_true, isOkM, rowZ, and_self])
    have lz : (p.map rowD).length ≤ sizeLine := by rw [List.length_map, szl]; omega
    have ct : cutG (rs.map rowD) none (some (p.length : Int)) = p.map rowD := by
      rw [cut_take]
      obtain ⟨q, rfl⟩ := hp
      rw [List.map_append, List.take_left' (by simp)]
    have pp : ((p.length : Int) - 1 + 1) = (p.length : Int) := by omega
    have es : eSl (eVar 1) pNone (pSome (e2 addD (eVar 8) (eC (.int 1)))) s9 = .ok (.lst (p.map rowD)) s9 := by
      simp only [eSl, var_ok w1, R.bind, pNone, pSome, e2, var_ok w8, eC, addD, pp, slD, ct]
    have eq : eLc (i1 seqI (eSl (eVar 1) pNone (pSome (e2 addD (eVar 8) (eC (.int 1)))))) (.one 4) tYesS (e2 addD (eTx joinC (eC (.str " ")) (eVar 4)) (eC (.str "\n"))) s9 = .ok (.lst ((p.map rowZ).map D.str)) s9 := by
      simp only [eLc, i1, es, R.bind, seqI, lz, if_true, lm]
      rw [List.map_map]
      rfl
    simp only [eTx, eC, R.bind, eq, joinC_ok "" (by decide) pz (by rw [List.length_map]; omega)]
  rw [seq_nx (asg_of f5)]
  obtain ⟨sa, ea⟩ : ∃ sa : S, sa = ⟨s9.r.set 9 (some (.str (Txt.join "" (p.map rowZ)))), s9.m⟩ := ⟨_, rfl⟩
  rw [← ea]
  have x0 : sa.r.getD 0 none = some (.ref 0) := by rw [ea, e9, e8]; rfl
  have x2 : sa.r.getD 2 none = some (.lst (toldL 0 rs)) := by rw [ea, e9, e8]; rfl
  have x7 : sa.r.getD 7 none = some (.lst (ls.map D.str)) := by rw [ea, e9, e8]; rfl
  have x9 : sa.r.getD 9 none = some (.str (Txt.join "" (p.map rowZ))) := by rw [ea, e9, e8]; rfl
  have xm : sa.m = m := by rw [ea, wm]
  unfold q__law_words_right_c4
  have bta : trimF m_text_of [.lst (toldL 0 rs)] sa.m = .ok (.str (Txt.join "" (p.map rowZ))) sa.m := by rw [xm]; exact bt
  rw [seq_nx (chk (m__law_same 8) (d := .str (Txt.join "" (p.map rowZ))) (call1 (trimF m_text_of) (var_ok x2) bta) (var_ok x9) (e_same 7 _ sa.m (by simpa [good] using rows_text_ok p hp3)))]
  -- a bad line
  obtain ⟨n, m1, en, n0, n1, t1⟩ := e_takeR (by omega) t (w := ((ls.length : Int) + 1)) (by omega) (by omega)
  obtain ⟨j, rfl⟩ : ∃ j : Nat, n = j := ⟨n.toNat, by omega⟩
  have hj : j ≤ ls.length := by omega
  unfold q__law_words_right_c3
  have f3 : (eCallN 2 m__law_take (aCons (eVar 0) (aCons (e2 addD (e1 lenC (eVar 7)) (eC (.int 1))) aNil))) sa = .ok (.int (j : Int)) ⟨sa.r, m1⟩ := by
    have fl : (e2 addD (e1 lenC (eVar 7)) (eC (.int 1))) sa = .ok (.int ((ls.length : Int) + 1)) sa := by
      simp only [e2, e1, var_ok x7, R.bind, lenC, lenD, eC, addD, List.length_map]
    exact call2 m__law_take (var_ok x0) fl (by rw [xm]; exact en)
  rw [seq_nx (asg_of f3)]
  obtain ⟨sb, eb⟩ : ∃ sb : S, sb = ⟨sa.r.set 10 (some (.int (j : Int))), m1⟩ := ⟨_, rfl⟩
  rw [← eb]
  have y0 : sb.r.getD 0 none = some (.ref 0) := by rw [eb, ea, e9, e8]; rfl
  have y7 : sb.r.getD 7 none = some (.lst (ls.map D.str)) := by rw [eb, ea, e9, e8]; rfl
  have y10 : sb.r.getD 10 none = some (.int (j : Int)) := by rw [eb, ea, e9, e8]; rfl
  obtain ⟨d, m2, hd, ed, t2⟩ := e_ofR (by omega) t1 (Bads.map D.str) (by simp [Bads]) (by simp [Bads])
  obtain ⟨z, hz, rfl⟩ := List.mem_map.1 hd
  have ed' : m__law_of [.ref 0, .lst [.str "A", .str "web 1.", .str "0 , 1", .str "_", .str "web\t1", .str "1+1"]] sb.m = .ok (.str z) m2 := by rw [eb]; exact ed
  unfold q__law_words_right_c2
  have z6 : 6 ≤ sizeLine := by rw [szl]; decide
  have zl1 : (ls.take j).length + 1 ≤ sizeLine := by rw [List.length_take, szl]; omega
  have zl2 : (ls.take j).length + 1 + (ls.drop j).length ≤ sizeLine := by rw [List.length_take, List.length_drop, szl]; omega
  have f2 : (e2 addD (e2 addD (eSl (eVar 7) pNone (pSome (eVar 10))) (eLst (aCons (eCallN 2 m__law_of (aCons (eVar 0) (aCons (eLst (aCons (eC (.str "A")) (aCons (eC (.str "web 1.")) (aCons (eC (.str "0 , 1")) (aCons (eC (.str "_")) (aCons (eC (.str "web\t1")) (aCons (eC (.str "1+1")) aNil))))))) aNil))) aNil))) (eSl (eVar 7) (pSome (eVar 10)) pNone)) sb = .ok (.lst ((ls.take j ++ z :: ls.drop j).map D.str)) ⟨sb.r, m2⟩ := by
    have es1 : eSl (eVar 7) pNone (pSome (eVar 10)) sb = .ok (.lst ((ls.take j).map D.str)) sb := by
      simp only [eSl, var_ok y7, R.bind, pNone, pSome, var_ok y10, slD, cut_take, List.map_take]
    have y7' : (⟨sb.r, m2⟩ : S).r.getD 7 none = some (.lst (ls.map D.str)) := y7
    have y10' : (⟨sb.r, m2⟩ : S).r.getD 10 none = some (.int (j : Int)) := y10
    have es2 : eSl (eVar 7) (pSome (eVar 10)) pNone ⟨sb.r, m2⟩ = .ok (.lst ((ls.drop j).map D.str)) ⟨sb.r, m2⟩ := by
      simp only [eSl, var_ok y7', R.bind, pNone, pSome, var_ok y10', slD, cut_drop, List.map_drop]
    have ebl : eLst (aCons (eCallN 2 m__law_of (aCons (eVar 0) (aCons (eLst (aCons (eC (.str "A")) (aCons (eC (.str "web 1.")) (aCons (eC (.str "0 , 1")) (aCons (eC (.str "_")) (aCons (eC (.str "web\t1")) (aCons (eC (.str "1+1")) aNil))))))) aNil))) aNil) sb = .ok (.lst [.str z]) ⟨sb.r, m2⟩ := by
      have inner : eLst (aCons (eC (.str "A")) (aCons (eC (.str "web 1.")) (aCons (eC (.str "0 , 1")) (aCons (eC (.str "_")) (aCons (eC (.str "web\t1")) (aCons (eC (.str "1+1")) aNil)))))) sb = .ok (.lst [.str "A", .str "web 1.", .str "0 , 1", .str "_", .str "web\t1", .str "1+1"]) sb := by
        simp only [eLst, aCons, aNil, eC, R.bind, List.length_cons, List.length_nil, z6, if_true]
      have c := call2 m__law_of (var_ok y0) inner ed'
      have z1 : 1 ≤ sizeLine := by rw [szl]; decide
      simp only [eLst, aCons, aNil, R.bind] at c ⊢
      rw [c]
      simp only [List.length_cons, List.length_nil, z1, if_true]
    simp only [e2, es1, R.bind, ebl, addD, List.length_map, List.length_cons, List.length_nil, zl1, if_true, es2, List.length_append, zl2]
    simp
  rw [seq_nx (asg_of f2)]
  obtain ⟨sc, ec⟩ : ∃ sc : S, sc = ⟨sb.r.set 11 (some (.lst ((ls.take j ++ z :: ls.drop j).map D.str))), m2⟩ := ⟨_, rfl⟩
  rw [← ec]
  have u10 : sc.r.getD 10 none = some (.int (j : Int)) := by rw [ec, eb, ea, e9, e8]; rfl
  have u11 : sc.r.getD 11 none = some (.lst ((ls.take j ++ z :: ls.drop j).map D.str)) := by rw [ec, eb, ea, e9, e8]; rfl
  have um : sc.m = m2 := by rw [ec]
  unfold q__law_words_right_c1
  have zz : okZ z = true := List.all_eq_true.1 bads_z z hz
  have all1 : ∀ x ∈ ls.take j ++ z :: ls.drop j, 10 ∉ TL.tl x ∧ x.length ≤ 60 := fun x hx => by
    rcases List.mem_append.1 hx with hx | hx
    · exact ⟨hl.nl x (List.mem_of_mem_take hx), hl.le x (List.mem_of_mem_take hx)⟩
    · rcases List.mem_cons.1 hx with rfl | hx
      · exact ⟨okZ_nl zz, okZ_len zz⟩
      · exact ⟨hl.nl x (List.mem_of_mem_drop hx), hl.le x (List.mem_of_mem_drop hx)⟩
  have len1 : (ls.take j ++ z :: ls.drop j).length ≤ 1000 := by rw [List.length_append, List.length_cons, List.length_take, List.length_drop]; omega
  have wb := e_wordsB (hl.take j) (bad_ok hz) (fun x hx => (all1 x hx).1) (fun x hx => (all1 x hx).2) len1 sc.m
  have tj : (ls.take j).length = j := by rw [List.length_take]; omega
  rw [tj] at wb
  have g7b : good 7 (.lst [.str "BadText", .int (j : Int), .bl true]) = true := by
    simp only [good, goods, okBad, Bool.and_self, Bool.true_and, List.length_cons, List.length_nil, szl]
    decide
  have fb : eLst (aCons (eC (.str "BadText")) (aCons (eVar 10) (aCons (eC (.bl true)) aNil))) sc = .ok (.lst [.str "BadText", .int (j : Int), .bl true]) sc := by
    have z3 : 3 ≤ sizeLine := by rw [szl]; decide
    simp only [eLst, aCons, aNil, eC, R.bind, var_ok u10, List.length_cons, List.length_nil, z3, if_true]
  have fin := call2 (m__law_same 8) (call2 m__law_heard (show eC (.fn 0) sc = .ok (.fn 0) sc from rfl) (lst1 (jn_ok "\n" (by decide) (fun x hx => by have := (all1 x hx).2; omega) len1 u11)) (heard_bad wb)) fb (e_same 7 _ sc.m g7b)
  refine ⟨sc, ?_, k + 2, Nat.le_refl _, ?_⟩
  · simp only [sRet, fin, R.then]
  · rw [um]; exact t2
end A00

set_option linter.all false
set_option maxRecDepth 100000
namespace A00
open PySem PySem.Spec PyProof.Rows L2 DL
theorem e_wr {k : Nat} (hk : k < 700000) {m : List Cell} (t : TinR [] k m) : ∃ m', m__law_words_right [.ref 0] m = .ok (.bl true) m' ∧ ∃ k', k' ≤ k + 100 ∧ TinR [] k' m' := by
  obtain ⟨n, m1, en, n0, n1, t1⟩ := e_takeR (by omega) t (w := 5) (by decide) (by decide)
  obtain ⟨j, rfl⟩ : ∃ j : Nat, n = j := ⟨n.toNat, by omega⟩
  obtain ⟨rs, o3, o4, o5, k2, m2, e2', hc, h3, hk2, t2⟩ := draw_rows j [] none none none (k + 1) m1 (by omega) (by simp; omega) (by simp) t1
  rw [List.nil_append] at e2' h3
  obtain ⟨ls, m3, e3, hL, t3⟩ := lc_lines (S0 := [some (.ref 0), some (.lst (rs.map rowD)), some (.lst (toldL 0 rs)), o3, o4, o5, none, none, none, none, none, none]) rfl rfl rs k2 m2 h3 (by omega) t2
  obtain ⟨s', e4, k', hk', t4⟩ := e_tail h3 hL (by omega) o3 o4 o5 (by omega) t3
  refine ⟨s'.m, ?_, k', by omega, t4⟩
  have hz : (rs.map rowD).length ≤ sizeLine := by rw [List.length_map, szl]; omega
  have hq : q__law_words_right ⟨[some (.ref 0), none, none, none, none, none, none, none, none, none, none, none], m⟩ = .ret (.bl true) s' := by
    unfold q__law_words_right
    rw [seq_nx (s' := ⟨[some (.ref 0), some (.lst []), some (.lst []), none, none, none, none, none, none, none, none, none], m⟩) (by kernel_rfl)]
    rw [seq_nx (s' := ⟨[some (.ref 0), some (.lst (rs.map rowD)), some (.lst (toldL 0 rs)), o3, o4, o5, none, none, none, none, none, none], m2⟩) (by
      have i3 := rngS j ⟨[some (.ref 0), some (.lst []), some (.lst []), none, none, none, none, none, none, none, none, none], m1⟩ (by omega)
      simp only [sFor, iN, aCons, aNil, eCallN, eVar, eC, callR, R.bind, R.then, List.getD_cons_zero, List.length_cons, List.length_nil, if_true, en, i3]
      rw [rng_range']
      exact e2')]
    unfold q__law_words_right_c9 q__law_words_right_r2
    rw [seq_nx (s' := ⟨[some (.ref 0), some (.lst (rs.map rowD)), some (.lst (toldL 0 rs)), o3, o4, o5, none, some (.lst (ls.map D.str)), none, none, none, none], m3⟩) (by
      simp only [sAsgF, eLc, i1, eVar, R.bind, R.then, List.getD_cons_zero, List.getD_cons_succ, seqI, hz, if_true]
      rw [e3]
      rfl)]
    exact e4
  show (match q__law_words_right ⟨[some (.ref 0), none, none, none, none, none, none, none, none, none, none, none], m⟩ with
    | .next s => RF.ok .non s.m | .ret d s => .ok d s.m | .raise e s => .raise e s.m | _ => .stuck) = _
  rw [hq]
end A00

set_option linter.all false
set_option maxRecDepth 100000
namespace A00
open PySem PySem.Spec PyProof.Rows L2 DL
/-! ### the numbers -/
def prs (a b : Nat) : List (Nat × Nat) := (List.range a).flatMap fun i => (List.range b).map fun j => (i, j)
theorem mem_prs {a b i j : Nat} (h : i < a) (h2 : j < b) : (i, j) ∈ prs a b := List.mem_flatMap.2 ⟨i, List.mem_range.2 h, List.mem_map.2 ⟨j, List.mem_range.2 h2, rfl⟩⟩
def cutF (a b : Int) : Int × Int := (a / (Int.gcd a b : Int), b / (Int.gcd a b : Int))
def own (p : Nat × Nat) : Int × Int := cutF ((p.1 : Int) - 20) (1 + (p.2 : Int))
def big (p : Nat × Nat) : Int × Int := cutF (999999999999999999999999999999999999999999999999999999999999 - (p.1 : Int)) (1 + (p.2 : Int))
def fD (f : Int × Int) : D := .tup [.int f.1, .int f.2]
def toS (n : Int) : Str := Str.ofString (toString n)
def wz (f : Int × Int) : Str := if f.2 = 1 then toS f.1 else toS f.1 ++ "/" ++ toS f.2
def pq (c : Nat) : List (Nat × Nat) := (List.range 4).flatMap fun i => (List.range 12).map fun j => (4 * c + i, j)
def pb (c : Nat) : List (Nat × Nat) := (List.range 7).map fun j => (c, j)
theorem prs_pq : prs 40 12 = pq 0 ++ (pq 1 ++ (pq 2 ++ (pq 3 ++ (pq 4 ++ (pq 5 ++ (pq 6 ++ (pq 7 ++ (pq 8 ++ (pq 9))))))))) := by decide +kernel
theorem prs_pb : prs 9 7 = pb 0 ++ (pb 1 ++ (pb 2 ++ (pb 3 ++ (pb 4 ++ (pb 5 ++ (pb 6 ++ (pb 7 ++ (pb 8)))))))) := by decide +kernel
theorem app_map {α β : Type} {f g : α → β} {a b : List α} (h : a.map f = a.map g) (h2 : b.map f = b.map g) : (a ++ b).map f = (a ++ b).map g := by
  rw [List.map_append, List.map_append, h, h2]

def fK1 (m : List Cell) (p : Nat × Nat) := m__law_cut [.int ((p.1 : Int) - 20), .int (1 + (p.2 : Int))] m
def gK1 (m : List Cell) (p : Nat × Nat) := RF.ok (fD (own p)) m
theorem K1_0 (m : List Cell) : (pq 0).map (fK1 m) = (pq 0).map (gK1 m) := by kernel_rfl
theorem K1_1 (m : List Cell) : (pq 1).map (fK1 m) = (pq 1).map (gK1 m) := by kernel_rfl
theorem K1_2 (m : List Cell) : (pq 2).map (fK1 m) = (pq 2).map (gK1 m) := by kernel_rfl
theorem K1_3 (m : List Cell) : (pq 3).map (fK1 m) = (pq 3).map (gK1 m) := by kernel_rfl
theorem K1_4 (m : List Cell) : (pq 4).map (fK1 m) = (pq 4).map (gK1 m) := by kernel_rfl
theorem K1_5 (m : List Cell) : (pq 5).map (fK1 m) = (pq 5).map (gK1 m) := by kernel_rfl
theorem K1_6 (m : List Cell) : (pq 6).map (fK1 m) = (pq 6).map (gK1 m) := by kernel_rfl
theorem K1_7 (m : List Cell) : (pq 7).map (fK1 m) = (pq 7).map (gK1 m) := by kernel_rfl
theorem K1_8 (m : List Cell) : (pq 8).map (fK1 m) = (pq 8).map (gK1 m) := by kernel_rfl
theorem K1_9 (m : List Cell) : (pq 9).map (fK1 m) = (pq 9).map (gK1 m) := by kernel_rfl
theorem K1 (m : List Cell) : ((prs 40 12).map fun p => m__law_cut [.int ((p.1 : Int) - 20), .int (1 + (p.2 : Int))] m) = (prs 40 12).map fun p => RF.ok (fD (own p)) m := by
  rw [prs_pq]
  exact app_map (K1_0 m) (app_map (K1_1 m) (app_map (K1_2 m) (app_map (K1_3 m) (app_map (K1_4 m) (app_map (K1_5 m) (app_map (K1_6 m) (app_map (K1_7 m) (app_map (K1_8 m) (K1_9 m)))))))))
def fK2 (m : List Cell) (p : Nat × Nat) := m_word_of [fD (own p)] m
def gK2 (m : List Cell) (p : Nat × Nat) := RF.ok (.str (wz (own p))) m
theorem K2_0 (m : List Cell) : (pq 0).map (fK2 m) = (pq 0).map (gK2 m) := by kernel_rfl
theorem K2_1 (m : List Cell) : (pq 1).map (fK2 m) = (pq 1).map (gK2 m) := by kernel_rfl
theorem K2_2 (m : List Cell) : (pq 2).map (fK2 m) = (pq 2).map (gK2 m) := by kernel_rfl
theorem K2_3 (m : List Cell) : (pq 3).map (fK2 m) = (pq 3).map (gK2 m) := by kernel_rfl
theorem K2_4 (m : List Cell) : (pq 4).map (fK2 m) = (pq 4).map (gK2 m) := by kernel_rfl
theorem K2_5 (m : List Cell) : (pq 5).map (fK2 m) = (pq 5).map (gK2 m) := by kernel_rfl
theorem K2_6 (m : List Cell) : (pq 6).map (fK2 m) = (pq 6).map (gK2 m) := by kernel_rfl
theorem K2_7 (m : List Cell) : (pq 7).map (fK2 m) = (pq 7).map (gK2 m) := by kernel_rfl
theorem K2_8 (m : List Cell) : (pq 8).map (fK2 m) = (pq 8).map (gK2 m) := by kernel_rfl
theorem K2_9 (m : List Cell) : (pq 9).map (fK2 m) = (pq 9).map (gK2 m) := by kernel_rfl
theorem K2 (m : List Cell) : ((prs 40 12).map fun p => m_word_of [fD (own p)] m) = (prs 40 12).map fun p => RF.ok (.str (wz (own p))) m := by
  rw [prs_pq]
  exact app_map (K2_0 m) (app_map (K2_1 m) (app_map (K2_2 m) (app_map (K2_3 m) (app_map (K2_4 m) (app_map (K2_5 m) (app_map (K2_6 m) (app_map (K2_7 m) (app_map (K2_8 m) (K2_9 m)))))))))
def fK3 (m : List Cell) (p : Nat × Nat) := m_fraction_of [.str (wz (own p))] m
def gK3 (m : List Cell) (p : Nat × Nat) := RF.ok (fD (own p)) m
theorem K3_0 (m : List Cell) : (pq 0).map (fK3 m) = (pq 0).map (gK3 m) := by kernel_rfl
theorem K3_1 (m : List Cell) : (pq 1).map (fK3 m) = (pq 1).map (gK3 m) := by kernel_rfl
theorem K3_2 (m : List Cell) : (pq 2).map (fK3 m) = (pq 2).map (gK3 m) := by kernel_rfl
theorem K3_3 (m : List Cell) : (pq 3).map (fK3 m) = (pq 3).map (gK3 m) := by kernel_rfl
theorem K3_4 (m : List Cell) : (pq 4).map (fK3 m) = (pq 4).map (gK3 m) := by kernel_rfl
theorem K3_5 (m : List Cell) : (pq 5).map (fK3 m) = (pq 5).map (gK3 m) := by kernel_rfl
theorem K3_6 (m : List Cell) : (pq 6).map (fK3 m) = (pq 6).map (gK3 m) := by kernel_rfl
theorem K3_7 (m : List Cell) : (pq 7).map (fK3 m) = (pq 7).map (gK3 m) := by kernel_rfl
theorem K3_8 (m : List Cell) : (pq 8).map (fK3 m) = (pq 8).map (gK3 m) := by kernel_rfl
theorem K3_9 (m : List Cell) : (pq 9).map (fK3 m) = (pq 9).map (gK3 m) := by kernel_rfl
theorem K3 (m : List Cell) : ((prs 40 12).map fun p => m_fraction_of [.str (wz (own p))] m) = (prs 40 12).map fun p => RF.ok (fD (own p)) m := by
  rw [prs_pq]
  exact app_map (K3_0 m) (app_map (K3_1 m) (app_map (K3_2 m) (app_map (K3_3 m) (app_map (K3_4 m) (app_map (K3_5 m) (app_map (K3_6 m) (app_map (K3_7 m) (app_map (K3_8 m) (K3_9 m)))))))))
def fK4 (m : List Cell) (p : Nat × Nat) := m_number_of [.str (toS (own p).1)] m
def gK4 (m : List Cell) (p : Nat × Nat) := RF.ok (.int (own p).1) m
theorem K4_0 (m : List Cell) : (pq 0).map (fK4 m) = (pq 0).map (gK4 m) := by kernel_rfl
theorem K4_1 (m : List Cell) : (pq 1).map (fK4 m) = (pq 1).map (gK4 m) := by kernel_rfl
theorem K4_2 (m : List Cell) : (pq 2).map (fK4 m) = (pq 2).map (gK4 m) := by kernel_rfl
theorem K4_3 (m : List Cell) : (pq 3).map (fK4 m) = (pq 3).map (gK4 m) := by kernel_rfl
theorem K4_4 (m : List Cell) : (pq 4).map (fK4 m) = (pq 4).map (gK4 m) := by kernel_rfl
theorem K4_5 (m : List Cell) : (pq 5).map (fK4 m) = (pq 5).map (gK4 m) := by kernel_rfl
theorem K4_6 (m : List Cell) : (pq 6).map (fK4 m) = (pq 6).map (gK4 m) := by kernel_rfl
theorem K4_7 (m : List Cell) : (pq 7).map (fK4 m) = (pq 7).map (gK4 m) := by kernel_rfl
theorem K4_8 (m : List Cell) : (pq 8).map (fK4 m) = (pq 8).map (gK4 m) := by kernel_rfl
theorem K4_9 (m : List Cell) : (pq 9).map (fK4 m) = (pq 9).map (gK4 m) := by kernel_rfl
theorem K4 (m : List Cell) : ((prs 40 12).map fun p => m_number_of [.str (toS (own p).1)] m) = (prs 40 12).map fun p => RF.ok (.int (own p).1) m := by
  rw [prs_pq]
  exact app_map (K4_0 m) (app_map (K4_1 m) (app_map (K4_2 m) (app_map (K4_3 m) (app_map (K4_4 m) (app_map (K4_5 m) (app_map (K4_6 m) (app_map (K4_7 m) (app_map (K4_8 m) (K4_9 m)))))))))
def fK5 (m : List Cell) (p : Nat × Nat) := m_word_of [.tup [.int (own p).1, .int 1]] m
def gK5 (m : List Cell) (p : Nat × Nat) := RF.ok (.str (toS (own p).1)) m
theorem K5_0 (m : List Cell) : (pq 0).map (fK5 m) = (pq 0).map (gK5 m) := by kernel_rfl
theorem K5_1 (m : List Cell) : (pq 1).map (fK5 m) = (pq 1).map (gK5 m) := by kernel_rfl
theorem K5_2 (m : List Cell) : (pq 2).map (fK5 m) = (pq 2).map (gK5 m) := by kernel_rfl
theorem K5_3 (m : List Cell) : (pq 3).map (fK5 m) = (pq 3).map (gK5 m) := by kernel_rfl
theorem K5_4 (m : List Cell) : (pq 4).map (fK5 m) = (pq 4).map (gK5 m) := by kernel_rfl
theorem K5_5 (m : List Cell) : (pq 5).map (fK5 m) = (pq 5).map (gK5 m) := by kernel_rfl
theorem K5_6 (m : List Cell) : (pq 6).map (fK5 m) = (pq 6).map (gK5 m) := by kernel_rfl
theorem K5_7 (m : List Cell) : (pq 7).map (fK5 m) = (pq 7).map (gK5 m) := by kernel_rfl
theorem K5_8 (m : List Cell) : (pq 8).map (fK5 m) = (pq 8).map (gK5 m) := by kernel_rfl
theorem K5_9 (m : List Cell) : (pq 9).map (fK5 m) = (pq 9).map (gK5 m) := by kernel_rfl
theorem K5 (m : List Cell) : ((prs 40 12).map fun p => m_word_of [.tup [.int (own p).1, .int 1]] m) = (prs 40 12).map fun p => RF.ok (.str (toS (own p).1)) m := by
  rw [prs_pq]
  exact app_map (K5_0 m) (app_map (K5_1 m) (app_map (K5_2 m) (app_map (K5_3 m) (app_map (K5_4 m) (app_map (K5_5 m) (app_map (K5_6 m) (app_map (K5_7 m) (app_map (K5_8 m) (K5_9 m)))))))))
theorem K6 : ((prs 40 12).all fun p => PyData.strOk (toS (own p).1) && decide ((own p).1.natAbs < 100)) = true := by kernel_rfl
def fB1 (m : List Cell) (p : Nat × Nat) := m__law_cut [.int (999999999999999999999999999999999999999999999999999999999999 - (p.1 : Int)), .int (1 + (p.2 : Int))] m
def gB1 (m : List Cell) (p : Nat × Nat) := RF.ok (fD (big p)) m
theorem B1_0 (m : List Cell) : (pb 0).map (fB1 m) = (pb 0).map (gB1 m) := by kernel_rfl
theorem B1_1 (m : List Cell) : (pb 1).map (fB1 m) = (pb 1).map (gB1 m) := by kernel_rfl
theorem B1_2 (m : List Cell) : (pb 2).map (fB1 m) = (pb 2).map (gB1 m) := by kernel_rfl
theorem B1_3 (m : List Cell) : (pb 3).map (fB1 m) = (pb 3).map (gB1 m) := by kernel_rfl
theorem B1_4 (m : List Cell) : (pb 4).map (fB1 m) = (pb 4).map (gB1 m) := by kernel_rfl
theorem B1_5 (m : List Cell) : (pb 5).map (fB1 m) = (pb 5).map (gB1 m) := by kernel_rfl
theorem B1_6 (m : List Cell) : (pb 6).map (fB1 m) = (pb 6).map (gB1 m) := by kernel_rfl
theorem B1_7 (m : List Cell) : (pb 7).map (fB1 m) = (pb 7).map (gB1 m) := by kernel_rfl
theorem B1_8 (m : List Cell) : (pb 8).map (fB1 m) = (pb 8).map (gB1 m) := by kernel_rfl
theorem B1 (m : List Cell) : ((prs 9 7).map fun p => m__law_cut [.int (999999999999999999999999999999999999999999999999999999999999 - (p.1 : Int)), .int (1 + (p.2 : Int))] m) = (prs 9 7).map fun p => RF.ok (fD (big p)) m := by
  rw [prs_pb]
  exact app_map (B1_0 m) (app_map (B1_1 m) (app_map (B1_2 m) (app_map (B1_3 m) (app_map (B1_4 m) (app_map (B1_5 m) (app_map (B1_6 m) (app_map (B1_7 m) (B1_8 m))))))))
def fB2 (m : List Cell) (p : Nat × Nat) := m_word_of [fD (big p)] m
def gB2 (m : List Cell) (p : Nat × Nat) := RF.ok (.str (wz (big p))) m
theorem B2_0 (m : List Cell) : (pb 0).map (fB2 m) = (pb 0).map (gB2 m) := by kernel_rfl
theorem B2_1 (m : List Cell) : (pb 1).map (fB2 m) = (pb 1).map (gB2 m) := by kernel_rfl
theorem B2_2 (m : List Cell) : (pb 2).map (fB2 m) = (pb 2).map (gB2 m) := by kernel_rfl
theorem B2_3 (m : List Cell) : (pb 3).map (fB2 m) = (pb 3).map (gB2 m) := by kernel_rfl
theorem B2_4 (m : List Cell) : (pb 4).map (fB2 m) = (pb 4).map (gB2 m) := by kernel_rfl
theorem B2_5 (m : List Cell) : (pb 5).map (fB2 m) = (pb 5).map (gB2 m) := by kernel_rfl
theorem B2_6 (m : List Cell) : (pb 6).map (fB2 m) = (pb 6).map (gB2 m) := by kernel_rfl
theorem B2_7 (m : List Cell) : (pb 7).map (fB2 m) = (pb 7).map (gB2 m) := by kernel_rfl
theorem B2_8 (m : List Cell) : (pb 8).map (fB2 m) = (pb 8).map (gB2 m) := by kernel_rfl
theorem B2 (m : List Cell) : ((prs 9 7).map fun p => m_word_of [fD (big p)] m) = (prs 9 7).map fun p => RF.ok (.str (wz (big p))) m := by
  rw [prs_pb]
  exact app_map (B2_0 m) (app_map (B2_1 m) (app_map (B2_2 m) (app_map (B2_3 m) (app_map (B2_4 m) (app_map (B2_5 m) (app_map (B2_6 m) (app_map (B2_7 m) (B2_8 m))))))))
def fB3 (m : List Cell) (p : Nat × Nat) := m_fraction_of [.str (wz (big p))] m
def gB3 (m : List Cell) (p : Nat × Nat) := RF.ok (fD (big p)) m
theorem B3_0 (m : List Cell) : (pb 0).map (fB3 m) = (pb 0).map (gB3 m) := by kernel_rfl
theorem B3_1 (m : List Cell) : (pb 1).map (fB3 m) = (pb 1).map (gB3 m) := by kernel_rfl
theorem B3_2 (m : List Cell) : (pb 2).map (fB3 m) = (pb 2).map (gB3 m) := by kernel_rfl
theorem B3_3 (m : List Cell) : (pb 3).map (fB3 m) = (pb 3).map (gB3 m) := by kernel_rfl
theorem B3_4 (m : List Cell) : (pb 4).map (fB3 m) = (pb 4).map (gB3 m) := by kernel_rfl
theorem B3_5 (m : List Cell) : (pb 5).map (fB3 m) = (pb 5).map (gB3 m) := by kernel_rfl
theorem B3_6 (m : List Cell) : (pb 6).map (fB3 m) = (pb 6).map (gB3 m) := by kernel_rfl
theorem B3_7 (m : List Cell) : (pb 7).map (fB3 m) = (pb 7).map (gB3 m) := by kernel_rfl
theorem B3_8 (m : List Cell) : (pb 8).map (fB3 m) = (pb 8).map (gB3 m) := by kernel_rfl
theorem B3 (m : List Cell) : ((prs 9 7).map fun p => m_fraction_of [.str (wz (big p))] m) = (prs 9 7).map fun p => RF.ok (fD (big p)) m := by
  rw [prs_pb]
  exact app_map (B3_0 m) (app_map (B3_1 m) (app_map (B3_2 m) (app_map (B3_3 m) (app_map (B3_4 m) (app_map (B3_5 m) (app_map (B3_6 m) (app_map (B3_7 m) (B3_8 m))))))))
def isT : RS → Bool
  | .ret (.bl true) _ => true
  | _ => false
theorem of_isT {r : RS} (h : isT r = true) : ∃ s, r = .ret (.bl true) s := by
  cases r with
  | ret d s =>
    cases d with
    | bl b => cases b with
      | true => exact ⟨s, rfl⟩
      | false => cases h
    | _ => cases h
  | _ => cases h
theorem e_last (sc o2 o3 o4 o5 : Option D) (a b c : Int) : isT (q_law_r1 ⟨[sc, some (.ref 0), o2, o3, o4, o5, none, none], [.lst [.int a, .int b, .int c]]⟩) = true := by kernel_rfl
end A00

set_option linter.all false
set_option maxRecDepth 100000
namespace A00
open PySem PySem.Spec PyProof.Rows L2 DL
theorem chk1 (mf : MF) {f : S → R D} {s : S} {d : D} {m' : List Cell} (h : f s = .ok d s) (hm : mf [d] s.m = .ok (.bl true) m') : sIf (tNotS (tTru (eCallN 1 mf (aCons f aNil)))) (sRet (eC (.bl false))) sNil s = .next ⟨s.r, m'⟩ := by
  have e := call1 mf h hm
  simp only [sIf, tNotS, tTru, e, R.bind, truB, truD, Bool.not_true, R.then, sNil]
  rfl
theorem call2' (mf : MF) {f g : S → R D} {s s1 s2 : S} {d d' e : D} {m' : List Cell} (h : f s = .ok d s1) (h2 : g s1 = .ok d' s2) (hm : mf [d, d'] s2.m = .ok e m') : eCallN 2 mf (aCons f (aCons g aNil)) s = .ok e ⟨s2.r, m'⟩ := by
  simp [eCallN, aCons, aNil, R.bind, h, h2, callR, hm]
theorem tk_ok {s : S} {w r : Int} {m' : List Cell} (h1 : s.r.getD 1 none = some (.ref 0)) (h : m__law_take [.ref 0, .int w] s.m = .ok (.int r) m') : eCallN 2 m__law_take (aCons (eVar 1) (aCons (eC (.int w)) aNil)) s = .ok (.int r) ⟨s.r, m'⟩ :=
  call2 m__law_take (var_ok h1) (show eC (.int w) s = .ok (.int w) s from rfl) h
theorem pow60 (s : S) : (e2 subD (e2 powD (eC (.int 10)) (eC (.int 60))) (eC (.int 1))) s = .ok (.int 999999999999999999999999999999999999999999999999999999999999) s := by kernel_rfl
theorem str_own {p : Nat × Nat} (h : p ∈ prs 40 12) (s : S) : strD (.int (own p).1) s = .ok (.str (toS (own p).1)) s := by
  have := List.all_eq_true.1 K6 p h
  rw [Bool.and_eq_true, decide_eq_true_eq] at this
  have l := lg (own p).1.natAbs 7 (by omega) (by decide)
  unfold strD
  simp only
  rw [if_pos (by omega)]
  rfl
theorem ok_own {p : Nat × Nat} (h : p ∈ prs 40 12) : PyData.strOk (toS (own p).1) = true := by
  have := List.all_eq_true.1 K6 p h
  rw [Bool.and_eq_true] at this
  exact this.1
theorem e_lap {sc lap o3 o4 o5 : Option D} {k : Nat} (hk : k < 600000) {m : List Cell} (t : TinR [] k m) : ∃ (a3 a4 a5 : Option D) (m' : List Cell) (k' : Nat), q_law_b1 ⟨[sc, some (.ref 0), lap, o3, o4, o5, none, none], m⟩ = .next ⟨[sc, some (.ref 0), lap, a3, a4, a5, none, none], m'⟩ ∧ k' ≤ k + 104 ∧ TinR [] k' m' := by
  obtain ⟨m1, ew, k1, hk1, t1⟩ := e_wr (by omega) t
  obtain ⟨r2, m2, et2, a2, b2, t2⟩ := e_takeR (by omega) t1 (w := 40) (by decide) (by decide)
  obtain ⟨r3, m3, et3, a3, b3, t3⟩ := e_takeR (by omega) t2 (w := 12) (by decide) (by decide)
  obtain ⟨r4, m4, et4, a4, b4, t4⟩ := e_takeR (by omega) t3 (w := 9) (by decide) (by decide)
  obtain ⟨r5, m5, et5, a5, b5, t5⟩ := e_takeR (by omega) t4 (w := 7) (by decide) (by decide)
  obtain ⟨i, rfl⟩ : ∃ i : Nat, r2 = i := ⟨r2.toNat, by omega⟩
  obtain ⟨j, rfl⟩ : ∃ j : Nat, r3 = j := ⟨r3.toNat, by omega⟩
  obtain ⟨x, rfl⟩ : ∃ x : Nat, r4 = x := ⟨r4.toNat, by omega⟩
  obtain ⟨y, rfl⟩ : ∃ y : Nat, r5 = y := ⟨r5.toNat, by omega⟩
  have hp := mem_prs (a := 40) (b := 12) (i := i) (j := j) (by omega) (by omega)
  have hb := mem_prs (a := 9) (b := 7) (i := x) (j := y) (by omega) (by omega)
  have k1e := List.map_inj_left.1 (K1 m3) _ hp
  have b1e := List.map_inj_left.1 (B1 m5) _ hb
  dsimp only at k1e b1e
  have k2e := fun m => List.map_inj_left.1 (K2 m) _ hp
  have k3e := fun m => List.map_inj_left.1 (K3 m) _ hp
  have k4e := fun m => List.map_inj_left.1 (K4 m) _ hp
  have k5e := fun m => List.map_inj_left.1 (K5 m) _ hp
  have b2e := fun m => List.map_inj_left.1 (B2 m) _ hb
  have b3e := fun m => List.map_inj_left.1 (B3 m) _ hb
  have so := fun s => str_own hp s
  have sk := ok_own hp
  generalize own (i, j) = f at k1e k2e k3e k4e k5e so sk
  generalize big (x, y) = g at b1e b2e b3e
  refine ⟨some (fD f), some (fD g), some (.lst [fD f, fD g, .int f.1, .str (toS f.1)]), m5, k1 + 1 + 1 + 1 + 1, ?_, by omega, t5⟩
  unfold q_law_b1
  rw [seq_nx (chk1 m__law_words_right (s := ⟨[sc, some (.ref 0), lap, o3, o4, o5, none, none], m⟩) (var_ok rfl) ew)]
  have f3 : (eCallN 2 m__law_cut (aCons (e2 subD (eCallN 2 m__law_take (aCons (eVar 1) (aCons (eC (.int 40)) aNil))) (eC (.int 20))) (aCons (e2 addD (eC (.int 1)) (eCallN 2 m__law_take (aCons (eVar 1) (aCons (eC (.int 12)) aNil)))) aNil))) ⟨[sc, some (.ref 0), lap, o3, o4, o5, none, none], m1⟩ = .ok (fD f) ⟨[sc, some (.ref 0), lap, o3, o4, o5, none, none], m3⟩ := by
    have d1 := tk_ok (s := ⟨[sc, some (.ref 0), lap, o3, o4, o5, none, none], m1⟩) rfl et2
    have d2 := tk_ok (s := ⟨[sc, some (.ref 0), lap, o3, o4, o5, none, none], m2⟩) rfl et3
    refine call2' m__law_cut (d := .int ((i : Int) - 20)) (d' := .int (1 + (j : Int))) (s1 := ⟨[sc, some (.ref 0), lap, o3, o4, o5, none, none], m2⟩) (s2 := ⟨[sc, some (.ref 0), lap, o3, o4, o5, none, none], m3⟩) ?_ ?_ k1e
    · simp only [e2, d1, R.bind, eC, subD]
    · simp only [e2, eC, R.bind, d2, addD]
  rw [seq_nx (asg_of f3)]
  simp only [List.set_cons_succ, List.set_cons_zero]
  have f4 : (eCallN 2 m__law_cut (aCons (e2 subD (e2 subD (e2 powD (eC (.int 10)) (eC (.int 60))) (eC (.int 1))) (eCallN 2 m__law_take (aCons (eVar 1) (aCons (eC (.int 9)) aNil)))) (aCons (e2 addD (eC (.int 1)) (eCallN 2 m__law_take (aCons (eVar 1) (aCons (eC (.int 7)) aNil)))) aNil))) ⟨[sc, some (.ref 0), lap, some (fD f), o4, o5, none, none], m3⟩ = .ok (fD g) ⟨[sc, some (.ref 0), lap, some (fD f), o4, o5, none, none], m5⟩ := by
    have d1 := tk_ok (s := ⟨[sc, some (.ref 0), lap, some (fD f), o4, o5, none, none], m3⟩) rfl et4
    have d2 := tk_ok (s := ⟨[sc, some (.ref 0), lap, some (fD f), o4, o5, none, none], m4⟩) rfl et5
    refine call2' m__law_cut (d := .int (999999999999999999999999999999999999999999999999999999999999 - (x : Int))) (d' := .int (1 + (y : Int))) (s1 := ⟨[sc, some (.ref 0), lap, some (fD f), o4, o5, none, none], m4⟩) (s2 := ⟨[sc, some (.ref 0), lap, some (fD f), o4, o5, none, none], m5⟩) ?_ ?_ b1e
    · show ((e2 subD (e2 powD (eC (.int 10)) (eC (.int 60))) (eC (.int 1))) ⟨[sc, some (.ref 0), lap, some (fD f), o4, o5, none, none], m3⟩).bind (fun d1 s1 => (eCallN 2 m__law_take (aCons (eVar 1) (aCons (eC (.int 9)) aNil)) s1).bind fun d2 s2 => subD d1 d2 s2) = _
      rw [pow60]
      simp only [R.bind, d1, subD]
    · simp only [e2, eC, R.bind, d2, addD]
  rw [seq_nx (asg_of f4)]
  simp only [List.set_cons_succ, List.set_cons_zero]
  obtain ⟨s, es⟩ : ∃ s : S, s = ⟨[sc, some (.ref 0), lap, some (fD f), some (fD g), o5, none, none], m5⟩ := ⟨_, rfl⟩
  rw [← es]
  have v3 : s.r.getD 3 none = some (fD f) := by rw [es]; rfl
  have v4 : s.r.getD 4 none = some (fD g) := by rw [es]; rfl
  have z4 : 4 ≤ sizeLine := by rw [szl]; decide
  have z2 : 2 ≤ sizeLine := by rw [szl]; decide
  have i0 : ∀ s : S, ixD (fD f) (.int 0) s = .ok (.int f.1) s := fun s => rfl
  have c1 := call1 m_fraction_of (call1 m_word_of (var_ok v3) (k2e s.m)) (k3e s.m)
  have c2 := call1 m_fraction_of (call1 m_word_of (var_ok v4) (b2e s.m)) (b3e s.m)
  have ix0 : (e2 ixD (eVar 3) (eC (.int 0))) s = .ok (.int f.1) s := by simp only [e2, var_ok v3, R.bind, eC, i0]
  have st0 : (e1 strD (e2 ixD (eVar 3) (eC (.int 0)))) s = .ok (.str (toS f.1)) s := by simp only [e1, ix0, R.bind, so]
  have c3 := call1 m_number_of st0 (k4e s.m)
  have tp : (eTup (aCons (e2 ixD (eVar 3) (eC (.int 0))) (aCons (eC (.int 1)) aNil))) s = .ok (.tup [.int f.1, .int 1]) s := by
    simp only [eTup, aCons, aNil, ix0, R.bind, eC, List.length_cons, List.length_nil, z2, if_true]
  have c4 := call1 m_word_of tp (k5e s.m)
  have f5 : (eLst (aCons (eCallN 1 m_fraction_of (aCons (eCallN 1 m_word_of (aCons (eVar 3) aNil)) aNil)) (aCons (eCallN 1 m_fraction_of (aCons (eCallN 1 m_word_of (aCons (eVar 4) aNil)) aNil)) (aCons (eCallN 1 m_number_of (aCons (e1 strD (e2 ixD (eVar 3) (eC (.int 0)))) aNil)) (aCons (eCallN 1 m_word_of (aCons (eTup (aCons (e2 ixD (eVar 3) (eC (.int 0))) (aCons (eC (.int 1)) aNil))) aNil)) aNil))))) s = .ok (.lst [fD f, fD g, .int f.1, .str (toS f.1)]) s := by
    have a0 : ∀ (f : S → R D) (r : S → R (List D)) (s : S), aCons f r s = (f s).bind fun d s1 => (r s1).bind fun ds s2 => .ok (d :: ds) s2 := fun _ _ _ => rfl
    unfold eLst
    rw [a0, c1]
    simp only [R.bind]
    rw [a0, c2]
    simp only [R.bind]
    rw [a0, c3]
    simp only [R.bind]
    rw [a0, c4]
    simp only [R.bind, aNil, List.length_cons, List.length_nil, z4, if_true]
  rw [seq_nx (asg_of f5)]
  obtain ⟨s2, es2⟩ : ∃ s2 : S, s2 = ⟨s.r.set 5 (some (.lst [fD f, fD g, .int f.1, .str (toS f.1)])), s.m⟩ := ⟨_, rfl⟩
  rw [← es2]
  have w3 : s2.r.getD 3 none = some (fD f) := by rw [es2, es]; rfl
  have w4 : s2.r.getD 4 none = some (fD g) := by rw [es2, es]; rfl
  have w5 : s2.r.getD 5 none = some (.lst [fD f, fD g, .int f.1, .str (toS f.1)]) := by rw [es2, es]; rfl
  have jx0 : (e2 ixD (eVar 3) (eC (.int 0))) s2 = .ok (.int f.1) s2 := by simp only [e2, var_ok w3, R.bind, eC, i0]
  have jt0 : (e1 strD (e2 ixD (eVar 3) (eC (.int 0)))) s2 = .ok (.str (toS f.1)) s2 := by simp only [e1, jx0, R.bind, so]
  have f6 : (eLst (aCons (eVar 3) (aCons (eVar 4) (aCons (e2 ixD (eVar 3) (eC (.int 0))) (aCons (e1 strD (e2 ixD (eVar 3) (eC (.int 0)))) aNil))))) s2 = .ok (.lst [fD f, fD g, .int f.1, .str (toS f.1)]) s2 := by
    simp only [eLst, aCons, aNil, var_ok w3, var_ok w4, jx0, jt0, R.bind, List.length_cons, List.length_nil, z4, if_true]
  have g7 : good 7 (.lst [fD f, fD g, .int f.1, .str (toS f.1)]) = true := by
    unfold fD
    simp only [good, goods, sk, Bool.and_self, Bool.true_and, Bool.and_true, List.length_cons, List.length_nil, szl]
    decide
  rw [chk (m__law_same 8) (var_ok w5) f6 (e_same 7 _ s2.m g7)]
  rw [es2, es]
  rfl
theorem e_laps {sc : Option D} : ∀ (l : List D) (o2 o3 o4 o5 : Option D) (k : Nat) (m : List Cell), k + 104 * l.length < 500000 → TinR [] k m → ∃ (a2 a3 a4 a5 : Option D) (m' : List Cell) (k' : Nat), forL (.one 2) q_law_b1 l ⟨[sc, some (.ref 0), o2, o3, o4, o5, none, none], m⟩ = .next ⟨[sc, some (.ref 0), a2, a3, a4, a5, none, none], m'⟩ ∧ TinR [] k' m'
  | [], o2, o3, o4, o5, k, m, _, t => ⟨o2, o3, o4, o5, m, k, rfl, t⟩
  | x :: l, o2, o3, o4, o5, k, m, hk, t => by
    rw [List.length_cons] at hk
    obtain ⟨a3, a4, a5, m1, k1, e, hk1, t1⟩ := e_lap (sc := sc) (lap := some x) (o3 := o3) (o4 := o4) (o5 := o5) (by omega) t
    obtain ⟨b2, b3, b4, b5, m', k', e', t'⟩ := e_laps l (some x) a3 a4 a5 k1 m1 (by omega) t1
    refine ⟨b2, b3, b4, b5, m', k', ?_, t'⟩
    rw [forL]
    simp only [asgD, List.set_cons_succ, List.set_cons_zero, e]
    exact e'
theorem box_ok (mf mg : MF) {s : S} {c A b : Int} {x : D} (h0 : s.r.getD 0 none = some x) (h1 : mg [x, .int 1] s.m = .ok (.lst [.int c]) s.m) (h2 : mf [.lst [.int c], .int 0] s.m = .ok (.lst [.int A, .int b, .int 0]) s.m) :
    sAsgC 1 (eCallN 2 mf (aCons (eCallN 2 mg (aCons (eVar 0) (aCons (eC (.int 1)) aNil))) (aCons (eC (.int 0)) aNil))) s = .next ⟨s.r.set 1 (some (.ref s.m.length)), s.m ++ [.lst [.int A, .int b, .int 0]]⟩ := by
  rw [List.getD_eq_getElem?_getD] at h0
  simp [sAsgC, eCallN, aCons, aNil, eVar, eC, callR, R.bind, R.then, h0, h1, h2, mLst]
theorem law_plain (ns : List Int) (B : Nat) (hL : ∀ y : Nat, y ≤ 8192 * B → y.log2 < 90000000) (hb : ∀ z ∈ ns, z.natAbs ≤ B) (hn : ns.length ≤ 63) : ∃ m', m_law [.scr ns] [] = .ok (.bl true) m' := by
  obtain ⟨c, e1', hc⟩ := e_cells ns B hL hb hn []
  obtain ⟨A, b, e2', h1, h2, h3⟩ := e_box c [] (hL _ hc)
  have t0 : TinR [] 0 [.lst [.int A, .int b, .int 0]] := ⟨A, b, 0, rfl, h1, h2, h3, by omega, by omega⟩
  obtain ⟨a2, a3, a4, a5, m', k', e3, t'⟩ := e_laps (sc := some (.scr ns)) (rngL 0 6) none none none none 0 _ (by simp [rngL]) t0
  obtain ⟨a, b', c', rfl, -⟩ := t'
  obtain ⟨s, hs⟩ := of_isT (e_last (some (.scr ns)) a2 a3 a4 a5 a b' c')
  refine ⟨s.m, ?_⟩
  have i3 := rngS 6 ⟨[some (.scr ns), some (.ref 0), none, none, none, none, none, none], [.lst [.int A, .int b, .int 0]]⟩ (by decide)
  have hq : q_law ⟨[some (.scr ns), none, none, none, none, none, none, none], []⟩ = .ret (.bl true) s := by
    unfold q_law
    rw [seq_nx (box_ok m__law_box m__law_cells (s := ⟨[some (.scr ns), none, none, none, none, none, none, none], []⟩) (x := .scr ns) (c := c) (A := A) (b := b) rfl e1' e2')]
    refine (seq_nx (s' := ⟨[some (.scr ns), some (.ref 0), a2, a3, a4, a5, none, none], [.lst [.int a, .int b', .int c']]⟩) ?_).trans hs
    show sFor (iN rng1I (aCons (eC (.int 6)) aNil)) (.one 2) q_law_b1 ⟨[some (.scr ns), some (.ref 0), none, none, none, none, none, none], [.lst [.int A, .int b, .int 0]]⟩ = _
    have i3' : rng1I [.int 6] ⟨[some (.scr ns), some (.ref 0), none, none, none, none, none, none], [.lst [.int A, .int b, .int 0]]⟩ = .ok (rngL 0 6) ⟨[some (.scr ns), some (.ref 0), none, none, none, none, none, none], [.lst [.int A, .int b, .int 0]]⟩ := i3
    simp only [sFor, iN, aCons, aNil, eC, R.bind, R.then, i3']
    exact e3
  show (match q_law ⟨[some (.scr ns), none, none, none, none, none, none, none], []⟩ with
    | .next s => RF.ok .non s.m | .ret d s => .ok d s.m | .raise e s => .raise e s.m | _ => .stuck) = _
  rw [hq]
theorem lawTrue : DL.LawTrue m_law := fun ns hn hb => let ⟨B, hL, h⟩ := DL.bits_B hb; law_plain ns B hL h hn
end A00

set_option Elab.async false
set_option linter.all false
set_option maxRecDepth 100000
open PySem PySem.W PyProof.Rows
set_option maxHeartbeats 0 in
theorem PySem.Challenge.cw_hingewebs_k00_whole_words_holds : PySem.Challenge.rw_hingewebs_k00_whole_words.Holds := by
  w_on; o_law; k_head; (case hw => w_witness2)
  k_fill
  refine DL.walk_ofS (l := PySem.Challenge.rw_hingewebs_k00_whole_words) (n := 63) (k := 23) (x := "script") rfl (by decide) (by decide) rfl ⟨rfl, by decide, by decide⟩ (by first | rfl | decide +kernel) rfl (fun w h Y => PySem.W.kIn_of Y) ?F
  case F =>
    intro w mg fa h KX G hmg
    refine' A00.all_mk A00.lawTrue KX G hmg ?a__law_box ?l__law_box ?cc__law_box ?k__law_box ?a__law_same ?l__law_same ?cc__law_same ?k__law_same ?a__law_cells ?l__law_cells ?cc__law_cells ?k__law_cells ?a__law_cut ?l__law_cut ?cc__law_cut ?k__law_cut ?a_figures_of ?l_figures_of ?cc_figures_of ?k_figures_of ?a_number_of ?l_number_of ?cc_number_of ?k_number_of ?a_fraction_of ?l_fraction_of ?cc_fraction_of ?k_fraction_of ?a_run_from ?l_run_from ?cc_run_from ?k_run_from ?a_line_words ?l_line_words ?cc_line_words ?k_line_words ?a_words ?l_words ?cc_words ?k_words ?a_text_of ?l_text_of ?cc_text_of ?k_text_of ?a__law_take ?l__law_take ?cc__law_take ?k__law_take ?a__law_heard ?l__law_heard ?cc__law_heard ?k__law_heard ?a__law_of ?l__law_of ?cc__law_of ?k__law_of ?a__law_words_right ?l__law_words_right ?cc__law_words_right ?k__law_words_right ?a_word_of ?l_word_of ?cc_word_of ?k_word_of ?a_law ?l_law ?cc_law ?k_law ?n_ValueError ?n_abs ?n_all ?n_bool ?n_enumerate ?n_int ?n_isinstance ?n_len ?n_list ?n_max ?n_range ?n_str ?n_super ?n_tuple ?n_zip ?u_FIGURES ?u_LONGEST ?u_MINUS ?u_REMARK ?u_SIGNS ?u_STROKE ?b_gcd ?a_BadText ?s_BadText ?y_BadText ?a_CanNot ?s_CanNot ?y_CanNot ?a_NoPlace ?s_NoPlace ?y_NoPlace ?a_TooMany ?s_TooMany ?y_TooMany ?a_Unfit ?s_Unfit ?y_Unfit ?d_BadText ?d_CanNot ?d_NoPlace ?d_TooMany ?d_Unfit ?k_BadText ?q_BadText ?o_BadText ?sa_BadText ?ta_BadText ?sB_BadText ?sC_BadText ?op_BadText ?su_BadText ?ii_BadText ?it_BadText ?l_BadText ?cc_BadText ?lc_BadText ?lv_BadText ?lf_BadText ?lx_BadText ?lC_BadText ?tp_BadText ?r_BadText_BadText ?r_BadText_CanNot ?r_BadText_NoPlace ?r_BadText_TooMany ?r_BadText_Unfit ?hg_BadText ?hk_BadText ?ha_BadText ?hf_BadText ?hm_BadText ?ko_BadText ?hn0 ?ht0
    (case a__law_box => k_is); (case l__law_box => k_is); (case cc__law_box => k_is); (case k__law_box => k_is); (case a__law_same => k_is); (case l__law_same => k_is); (case cc__law_same => k_is); (case k__law_same => k_is); (case a__law_cells => k_is); (case l__law_cells => k_is); (case cc__law_cells => k_is); (case k__law_cells => k_is); (case a__law_cut => k_is); (case l__law_cut => k_is); (case cc__law_cut => k_is); (case k__law_cut => k_is); (case a_figures_of => k_is); (case l_figures_of => k_is); (case cc_figures_of => k_is); (case k_figures_of => k_is); (case a_number_of => k_is); (case l_number_of => k_is); (case cc_number_of => k_is); (case k_number_of => k_is); (case a_fraction_of => k_is); (case l_fraction_of => k_is); (case cc_fraction_of => k_is); (case k_fraction_of => k_is); (case a_run_from => k_is); (case l_run_from => k_is); (case cc_run_from => k_is); (case k_run_from => k_is); (case a_line_words => k_is); (case l_line_words => k_is); (case cc_line_words => k_is); (case k_line_words => k_is); (case a_words => k_is); (case l_words => k_is); (case cc_words => k_is); (case k_words => k_is); (case a_text_of => k_is); (case l_text_of => k_is); (case cc_text_of => k_is); (case k_text_of => k_is); (case a__law_take => k_is); (case l__law_take => k_is); (case cc__law_take => k_is); (case k__law_take => k_is); (case a__law_heard => k_is); (case l__law_heard => k_is); (case cc__law_heard => k_is); (case k__law_heard => k_is); (case a__law_of => k_is); (case l__law_of => k_is); (case cc__law_of => k_is); (case k__law_of => k_is); (case a__law_words_right => k_is); (case l__law_words_right => k_is); (case cc__law_words_right => k_is); (case k__law_words_right => k_is); (case a_word_of => k_is); (case l_word_of => k_is); (case cc_word_of => k_is); (case k_word_of => k_is); (case a_law => k_is); (case l_law => k_is); (case cc_law => k_is); (case k_law => k_is); (case n_ValueError => k_is); (case n_abs => k_is); (case n_all => k_is); (case n_bool => k_is); (case n_enumerate => k_is); (case n_int => k_is); (case n_isinstance => k_is); (case n_len => k_is); (case n_list => k_is); (case n_max => k_is); (case n_range => k_is); (case n_str => k_is); (case n_super => k_is); (case n_tuple => k_is); (case n_zip => k_is); (case u_FIGURES => k_is); (case u_LONGEST => k_is); (case u_MINUS => k_is); (case u_REMARK => k_is); (case u_SIGNS => k_is); (case u_STROKE => k_is); (case b_gcd => k_is); (case a_BadText => k_is); (case s_BadText => k_is); (case y_BadText => k_is); (case a_CanNot => k_is); (case s_CanNot => k_is); (case y_CanNot => k_is); (case a_NoPlace => k_is); (case s_NoPlace => k_is); (case y_NoPlace => k_is); (case a_TooMany => k_is); (case s_TooMany => k_is); (case y_TooMany => k_is); (case a_Unfit => k_is); (case s_Unfit => k_is); (case y_Unfit => k_is); (case d_BadText => k_is); (case d_CanNot => k_is); (case d_NoPlace => k_is); (case d_TooMany => k_is); (case d_Unfit => k_is); (case k_BadText => k_is); (case q_BadText => kx_is); (case o_BadText => kx_is); (case sa_BadText => k_is); (case ta_BadText => k_is); (case sB_BadText => k_is); (case sC_BadText => k_is); (case op_BadText => k_is); (case su_BadText => ks_is); (case ii_BadText => k_is); (case it_BadText => k_is); (case l_BadText => k_is); (case cc_BadText => k_is); (case lc_BadText => k_is); (case lv_BadText => rfl); (case lf_BadText => first | rfl | decide +kernel); (case lx_BadText => k_is); (case lC_BadText => k_is); (case tp_BadText => first | rfl | decide +kernel); (case r_BadText_BadText => k_is); (case r_BadText_CanNot => k_is); (case r_BadText_NoPlace => k_is); (case r_BadText_TooMany => k_is); (case r_BadText_Unfit => k_is); (case hg_BadText => k_is); (case hk_BadText => k_is); (case ha_BadText => k_is); (case hf_BadText => k_is); (case hm_BadText => k_is); (case ko_BadText => kit_is); (case hn0 => k_is); (case ht0 => k_is)

