import PyProof.Rows.All
import PySem.Challenge.RW_hingewebs_k12_values_and_letters_refused
import HandS.ForExc
import HandS.Comp
import HandS.IsInst
import HandS.Wide
import HandS.Gcd
import HandS.TryMany
import HandS.CallSlots
import HandS.Flow
import HandS.Zip
import HandS.Iter
import HandS.NoneIn
import KE.KDictKeyed
import HandS.TupAny
import HandS.TupMul
import HandS.ExcIs
import HandS.Style
import HandS.EndBits
import HandS.ForMost
import HandS.Dict
import HandS.Deep
import HandS.More
import HandS.Walk
import KE.GoesEnum
import KE.GoesZip
import KE.DataMinMax
import HandS.Conv
import HandS.SortInts
import HandS.Strs
import HandS.Replace
import HandS.FStr
import HandS.StrSplit
import KE.KExcSuper
import HandS.ExcInit
import HandS.ExcField
import KE.KExcLine
import HandS.SetFor
import HandS.TupSets
import KE.SortData
import KE.KDictSum
import KE.DataCmp
import HandS.Defaults
import KE.KDictDisplayH
import HandS.TupLen
set_option linter.all false
set_option Elab.async false
set_option maxRecDepth 100000
/-! The D layer: values as trees. -/
namespace DL
open PySem PySem.Spec PyProof.Rows L2
inductive D where
  | non | bl (b : Bool) | int (i : Int) | str (x : Str)
  | tup (xs : List D) | lst (xs : List D)
  | fn (i : Nat) | ref (n : Nat) | scr (xs : List Int)
  /-- a tuple that is known to have no dict of its own -/
  | pt (xs : List D)
inductive Cell where
  | lst (xs : List D)
  | dic (locked : Bool) (kvs : List (Key × D))
  /-- a dict whose keys are tuples (of tuples) of whole numbers -/
  | dit (kvs : List (D × D))
  /-- an instance of the class c, its attributes -/
  | obj (c : Nat) (fs : List (Str × D))
mutual
def nkD : D → Option NestedKey
  | .int i => some (.num i)
  | .tup ds => (match nkDs ds with
    | some ks => some (.tup ks)
    | none => none)
  | .pt ds => (match nkDs ds with
    | some ks => some (.tup ks)
    | none => none)
  | _ => none
def nkDs : List D → Option (List NestedKey)
  | [] => some []
  | d :: ds => (match nkD d, nkDs ds with
    | some k, some ks => some (k :: ks)
    | _, _ => none)
end
/-- at a stands the dict of these keys (each with its tuple), these values -/
def RawN (a : Addr) (xs : List (NestedKey × Addr × Value)) (h : Heap) : Prop :=
  ∃ o es ep, h.get? a = some o ∧ o.ExactDict ∧ o.data = .dict es ep ∧ ∀ w, es.toList = xs.map fun x => ⟨x.1.hash w, .ref x.2.1, x.2.2⟩
structure S where
  r : List (Option D)
  m : List Cell
inductive Ex where
  | mk (i : Nat) (fs : List D)
inductive R (α : Type) where
  | ok (a : α) (s : S)
  | raise (e : Ex) (s : S)
  | stuck
structure Gh where
  A : Addr → Prop
  fp : Nat → List Addr
  mu : List Addr
def Gh.Own (g : Gh) (b : Addr) : Prop := (∃ i, b ∈ g.fp i) ∨ b ∈ g.mu
structure Tb where
  fn : Nat → Option Addr
  exc : Nat → Option Addr
  fld : Nat → List Str
def imm : HO → Bool
  | .tup _ => true
  | .frz _ _ => true
  | _ => false
/-- what no cell is -/
def imo : HO → Bool
  | .tup _ => true
  | .frz _ (.tup _) => true
  | .frz _ (.lst _) => true
  | _ => false
theorem imo_imm {o : HO} (h : imo o = true) : imm o = true := by
  cases o <;> simp [imo, imm] at h ⊢
structure Step (g : Gh) (H : Hp) (g' : Gh) (H' : Hp) : Prop where
  aa : ∀ b, g.A b → g'.A b
  an : ∀ b, g'.A b → g.A b ∨ g.Own b ∨ H b = none
  on : ∀ b, g'.Own b → g.Own b ∨ H b = none
  fr : ∀ b o, H b = some o → ¬ g.Own b → H' b = some o
  im : ∀ b o, H b = some o → imm o = true → H' b = some o
  tr : ∀ b, H' b = none → H b = none
  mu : g.mu <+: g'.mu
theorem Step.refl (g : Gh) (H : Hp) : Step g H g H :=
  ⟨fun _ h => h, fun _ h => .inl h, fun _ h => .inl h, fun _ _ h _ => h, fun _ _ h _ => h, fun _ h => h, List.prefix_refl _⟩
theorem Step.trans {g g1 g2 : Gh} {H H1 H2 : Hp} (a : Step g H g1 H1) (b : Step g1 H1 g2 H2) : Step g H g2 H2 where
  aa := fun x h => b.aa x (a.aa x h)
  an := fun x h => by
    rcases b.an x h with h | h | h
    · exact a.an x h
    · exact .inr (a.on x h)
    · exact .inr (.inr (a.tr x h))
  on := fun x h => by
    rcases b.on x h with h | h
    · exact a.on x h
    · exact .inr (a.tr x h)
  fr := fun x o h n => b.fr x o (a.fr x o h n) fun q => by
    rcases a.on x q with q | q
    · exact n q
    · rw [h] at q; cases q
  im := fun x o h i => b.im x o (a.im x o h i) i
  tr := fun x h => a.tr x (b.tr x h)
  mu := a.mu.trans b.mu
structure WF (g : Gh) (H : Hp) : Prop where
  ta : ∀ b, g.A b → ∃ o, H b = some o
  ot : ∀ b, g.Own b → ∃ o, H b = some o ∧ imo o = false
  ao : ∀ b, g.A b → ¬ g.Own b
  nf : ∀ i, (g.fp i).Nodup
  df : ∀ i j b, b ∈ g.fp i → b ∈ g.fp j → i = j
  fm : ∀ i b, b ∈ g.fp i → b ∉ g.mu
  nm : g.mu.Nodup
/-! ### what a value stands for -/
section
variable (K : PySem.W.Frag) (T : Tb) (g : Gh) (H : Hp)
def ScrOk (a : Addr) (xs : List V) : Prop :=
  (g.A a ∧ H a = some (.lst xs)) ∨ (∃ o, H a = some (.frz o (.lst xs))) ∨
    ∃ (o : Obj) (its : Array Value) (n : Nat), K.lookup a = some o ∧ o.cls = .type "list" ∧ o.dict = none ∧ o.data = .seq its n ∧ its.size ≤ sizeLine ∧ Vals xs its.toList
mutual
def Rp : D → V → Prop
  | .non, v => v = .non
  | .bl b, v => v = .bl b
  | .int i, v => v = .int i
  | .str x, v => v = .str x
  | .tup ds, v => ∃ a vs, v = .ref a ∧ SqT K H a vs ∧ Rps ds vs
  | .lst ds, v => ∃ a vs, v = .ref a ∧ g.A a ∧ H a = some (.lst vs) ∧ Rps ds vs
  | .fn i, v => ∃ a, v = .ref a ∧ T.fn i = some a
  | .ref n, v => ∃ a, v = .ref a ∧ g.mu[n]? = some a
  | .scr xs, v => ∃ a, v = .ref a ∧ ScrOk K g H a (xs.map V.int)
  | .pt ds, v => ∃ a vs o, v = .ref a ∧ H a = some (.frz o (.tup vs)) ∧ o.dict = none ∧ Rps ds vs
def Rps : List D → List V → Prop
  | [], vs => vs = []
  | d :: ds, vs => ∃ v r, vs = v :: r ∧ Rp d v ∧ Rps ds r
end
end
section
variable {K : PySem.W.Frag} {T : Tb} {g g' : Gh} {H H' : Hp}
/-- what a value leans on stays -/
structure Sub (g : Gh) (H : Hp) (g' : Gh) (H' : Hp) : Prop where
  aa : ∀ b, g.A b → g'.A b
  fa : ∀ b o, g.A b → H b = some o → H' b = some o
  im : ∀ b o, H b = some o → imo o = true → H' b = some o
  mu : g.mu <+: g'.mu
theorem Step.sub (wf : WF g H) (s : Step g H g' H') : Sub g H g' H' := ⟨s.aa, fun b o a h => s.fr b o h (wf.ao b a), fun b o h i => s.im b o h (imo_imm i), s.mu⟩
theorem SqT.sub (s : Sub g H g' H') {a : Addr} {vs : List V} (h : SqT K H a vs) : SqT K H' a vs := by
  rcases h with (h | ⟨o, h⟩) | h
  · exact .inl (.inl (s.im _ _ h rfl))
  · exact .inl (.inr ⟨o, s.im _ _ h rfl⟩)
  · exact .inr h
theorem ScrOk.sub (s : Sub g H g' H') {a : Addr} {vs : List V} (h : ScrOk K g H a vs) : ScrOk K g' H' a vs := by
  rcases h with ⟨h1, h2⟩ | ⟨o, h⟩ | h
  · exact .inl ⟨s.aa _ h1, s.fa _ _ h1 h2⟩
  · exact .inr (.inl ⟨o, s.im _ _ h rfl⟩)
  · exact .inr (.inr h)
mutual
theorem Rp.sub (s : Sub g H g' H') : ∀ {d : D} {v : V}, Rp K T g H d v → Rp K T g' H' d v
  | .non, v, h => by simpa [Rp] using h
  | .bl b, v, h => by simpa [Rp] using h
  | .int i, v, h => by simpa [Rp] using h
  | .str x, v, h => by simpa [Rp] using h
  | .tup ds, v, h => by
    simp only [Rp] at h ⊢
    obtain ⟨a, vs, e, q, r⟩ := h
    exact ⟨a, vs, e, SqT.sub s q, Rps.sub s r⟩
  | .lst ds, v, h => by
    simp only [Rp] at h ⊢
    obtain ⟨a, vs, e, q1, q2, r⟩ := h
    exact ⟨a, vs, e, s.aa _ q1, s.fa _ _ q1 q2, Rps.sub s r⟩
  | .fn i, v, h => by simpa [Rp] using h
  | .ref n, v, h => by
    simp only [Rp] at h ⊢
    obtain ⟨a, e, q⟩ := h
    refine ⟨a, e, ?_⟩
    obtain ⟨t, ht⟩ := s.mu
    rw [← ht]
    rw [List.getElem?_append_left]
    · exact q
    · exact (List.getElem?_eq_some_iff.mp q).1
  | .scr xs, v, h => by
    simp only [Rp] at h ⊢
    obtain ⟨a, e, q⟩ := h
    exact ⟨a, e, ScrOk.sub s q⟩
  | .pt ds, v, h => by
    simp only [Rp] at h ⊢
    obtain ⟨a, vs, o, e, q, z, r⟩ := h
    exact ⟨a, vs, o, e, s.im _ _ q rfl, z, Rps.sub s r⟩
theorem Rps.sub (s : Sub g H g' H') : ∀ {ds : List D} {vs : List V}, Rps K T g H ds vs → Rps K T g' H' ds vs
  | [], vs, h => by simpa [Rps] using h
  | d :: ds, vs, h => by
    simp only [Rps] at h ⊢
    obtain ⟨v, r, e, h1, h2⟩ := h
    exact ⟨v, r, e, Rp.sub s h1, Rps.sub s h2⟩
end
theorem SqT.step (wf : WF g H) (s : Step g H g' H') {a : Addr} {vs : List V} (h : SqT K H a vs) : SqT K H' a vs := SqT.sub (s.sub wf) h
theorem ScrOk.step (wf : WF g H) (s : Step g H g' H') {a : Addr} {vs : List V} (h : ScrOk K g H a vs) : ScrOk K g' H' a vs := ScrOk.sub (s.sub wf) h
theorem Rp.step (wf : WF g H) (s : Step g H g' H') {d : D} {v : V} (h : Rp K T g H d v) : Rp K T g' H' d v := Rp.sub (s.sub wf) h
theorem Rps.step (wf : WF g H) (s : Step g H g' H') {ds : List D} {vs : List V} (h : Rps K T g H ds vs) : Rps K T g' H' ds vs := Rps.sub (s.sub wf) h
theorem Rps.length : ∀ {ds : List D} {vs : List V}, Rps K T g H ds vs → vs.length = ds.length
  | [], vs, h => by
    simp only [Rps] at h
    rw [h]
    rfl
  | d :: ds, vs, h => by
    simp only [Rps] at h
    obtain ⟨v, r, e, _, h2⟩ := h
    rw [e, List.length_cons, List.length_cons, h2.length]
theorem Rps.get : ∀ {ds : List D} {vs : List V} {i : Nat} {d : D}, Rps K T g H ds vs → ds[i]? = some d → ∃ v, vs[i]? = some v ∧ Rp K T g H d v
  | [], _, _, _, _, e => by simp at e
  | d :: ds, vs, 0, d', h, e => by
    simp only [Rps] at h
    obtain ⟨v, r, e1, h1, _⟩ := h
    simp at e
    subst e e1
    exact ⟨v, rfl, h1⟩
  | d :: ds, vs, i + 1, d', h, e => by
    simp only [Rps] at h
    obtain ⟨v, r, e1, _, h2⟩ := h
    subst e1
    obtain ⟨v', q1, q2⟩ := Rps.get h2 (i := i) (by simpa using e)
    exact ⟨v', by simpa using q1, q2⟩
theorem Rps.append : ∀ {ds es : List D} {vs ws : List V}, Rps K T g H ds vs → Rps K T g H es ws → Rps K T g H (ds ++ es) (vs ++ ws)
  | [], es, vs, ws, h, h' => by
    simp only [Rps] at h
    subst h
    exact h'
  | d :: ds, es, vs, ws, h, h' => by
    simp only [Rps] at h
    obtain ⟨v, r, e1, h1, h2⟩ := h
    subst e1
    show Rps K T g H (d :: (ds ++ es)) (v :: (r ++ ws))
    simp only [Rps]
    exact ⟨v, _, rfl, h1, h2.append h'⟩
theorem Rps.one {d : D} {v : V} (h : Rp K T g H d v) : Rps K T g H [d] [v] := by
  simp only [Rps]
  exact ⟨v, [], rfl, h, rfl⟩
theorem Rps.cons {d : D} {v : V} {ds : List D} {vs : List V} (h : Rp K T g H d v) (h2 : Rps K T g H ds vs) : Rps K T g H (d :: ds) (v :: vs) := by
  simp only [Rps]
  exact ⟨v, vs, rfl, h, h2⟩
theorem Rps.nil : Rps K T g H [] [] := by simp only [Rps]
theorem Rps.set : ∀ {ds : List D} {vs : List V} {d : D} {v : V} (i : Nat), Rps K T g H ds vs → Rp K T g H d v → Rps K T g H (ds.set i d) (vs.set i v)
  | [], vs, d, v, i, h, _ => by
    simp only [Rps] at h
    subst h
    exact Rps.nil
  | d :: ds, vs, d', v', 0, h, h' => by
    simp only [Rps] at h
    obtain ⟨v, r, e1, h1, h2⟩ := h
    subst e1
    exact Rps.cons h' h2
  | d :: ds, vs, d', v', i + 1, h, h' => by
    simp only [Rps] at h
    obtain ⟨v, r, e1, h1, h2⟩ := h
    subst e1
    exact Rps.cons h1 (h2.set i h')
theorem Rps.take : ∀ {ds : List D} {vs : List V} (n : Nat), Rps K T g H ds vs → Rps K T g H (ds.take n) (vs.take n)
  | _, _, 0, _ => by simpa using Rps.nil
  | [], vs, n + 1, h => by
    simp only [Rps] at h
    subst h
    exact Rps.nil
  | d :: ds, vs, n + 1, h => by
    simp only [Rps] at h
    obtain ⟨v, r, e1, h1, h2⟩ := h
    subst e1
    exact Rps.cons h1 (h2.take n)
theorem Rps.drop : ∀ {ds : List D} {vs : List V} (n : Nat), Rps K T g H ds vs → Rps K T g H (ds.drop n) (vs.drop n)
  | _, _, 0, h => by simpa using h
  | [], vs, n + 1, h => by
    simp only [Rps] at h
    subst h
    simpa using Rps.nil
  | d :: ds, vs, n + 1, h => by
    simp only [Rps] at h
    obtain ⟨v, r, e1, h1, h2⟩ := h
    subst e1
    exact h2.drop n
theorem Rps.reverse : ∀ {ds : List D} {vs : List V}, Rps K T g H ds vs → Rps K T g H ds.reverse vs.reverse
  | [], vs, h => by
    simp only [Rps] at h
    subst h
    exact Rps.nil
  | d :: ds, vs, h => by
    simp only [Rps] at h
    obtain ⟨v, r, e1, h1, h2⟩ := h
    subst e1
    rw [List.reverse_cons, List.reverse_cons]
    exact h2.reverse.append (.one h1)
/-! ### the state -/
inductive Fl where
  | sh | o1 | o2
abbrev Fls := List Fl
def fl (Γ : Fls) (i : Nat) : Fl := Γ.getD i .sh
def L2R (K : PySem.W.Frag) (T : Tb) (g : Gh) (H : Hp) : List Addr → List (List D) → Prop
  | [], dss => dss = []
  | b :: bs, dss => ∃ ds r ws, dss = ds :: r ∧ H b = some (.lst ws) ∧ Rps K T g H ds ws ∧ L2R K T g H bs r
def SlR (K : PySem.W.Frag) (T : Tb) (g : Gh) (H : Hp) (i : Nat) : Fl → Option V → Option D → Prop
  | .sh, some v, some d => Rp K T g H d v
  | .sh, none, none => True
  | .o1, some v, some d => ∃ a vs ds, v = .ref a ∧ d = .lst ds ∧ g.fp i = [a] ∧ H a = some (.lst vs) ∧ Rps K T g H ds vs
  | .o2, some v, some d => ∃ a bs dss, v = .ref a ∧ d = .lst (dss.map D.lst) ∧ g.fp i = a :: bs ∧ H a = some (.lst (bs.map V.ref)) ∧ L2R K T g H bs dss
  | _, _, _ => False
def CellR (K : PySem.W.Frag) (T : Tb) (g : Gh) (H : Hp) (a : Addr) : Cell → Prop
  | .lst ds => ∃ vs, H a = some (.lst vs) ∧ Rps K T g H ds vs
  | .dic false kvs => ∃ vs, H a = some (.dK ((kvs.map (·.1)).zip vs)) ∧ Rps K T g H (kvs.map (·.2)) vs
  | .dic true kvs => ∃ vs od, H a = some (.frz od (.dK ((kvs.map (·.1)).zip vs))) ∧ Rps K T g H (kvs.map (·.2)) vs
  | .dit kvs => ∃ xs vs, H a = some (.ext (RawN a xs)) ∧ (a == sysModules) = false ∧ kvs.map (fun kv => nkD kv.1) = xs.map (fun x => some x.1) ∧ (xs.map (·.1)).Nodup ∧ (∀ x ∈ xs, x.1.depth ≤ 8) ∧
      Vals vs (xs.map (·.2.2)) ∧ Rps K T g H (kvs.map (·.1)) (xs.map fun x => V.ref x.2.1) ∧ Rps K T g H (kvs.map (·.2)) vs
  | .obj c fs => ∃ C dx vs, H a = some (.ins C dx ((fs.map (·.1)).zip vs)) ∧ T.exc c = some C ∧ Rps K T g H (fs.map (·.2)) vs
structure MR (K : PySem.W.Frag) (T : Tb) (g : Gh) (H : Hp) (m : List Cell) : Prop where
  len : g.mu.length = m.length
  at_ : ∀ (n : Nat) (c : Cell) (a : Addr), m[n]? = some c → g.mu[n]? = some a → CellR K T g H a c
structure SR (K : PySem.W.Frag) (T : Tb) (Γ : Fls) (g : Gh) (σ : L2.St) (H : Hp) (st : S) : Prop where
  wf : WF g H
  len : σ.length = st.r.length
  sl : ∀ i, i < σ.length → SlR K T g H i (fl Γ i) (σ.getD i none) (st.r.getD i none)
  me : MR K T g H st.m
theorem L2R.sub (s : Sub g H g' H') : ∀ {bs : List Addr} {dss : List (List D)}, (∀ b ∈ bs, H' b = H b) → L2R K T g H bs dss → L2R K T g' H' bs dss
  | [], _, _, h => h
  | b :: bs, dss, k, h => by
    obtain ⟨ds, r, ws, e, h1, h2, h3⟩ := h
    exact ⟨ds, r, ws, e, (k b List.mem_cons_self).trans h1, h2.sub s, h3.sub s fun b hb => k b (List.mem_cons_of_mem _ hb)⟩
theorem L2R.step (wf : WF g H) (s : Step g H g' H') {bs : List Addr} {dss : List (List D)} (k : ∀ b ∈ bs, H' b = H b) (h : L2R K T g H bs dss) : L2R K T g' H' bs dss := h.sub (s.sub wf) k
theorem SlR.sub (s : Sub g H g' H') {i : Nat} (hf : g'.fp i = g.fp i) (k : ∀ b ∈ g.fp i, H' b = H b) :
    ∀ {f : Fl} {v : Option V} {d : Option D}, SlR K T g H i f v d → SlR K T g' H' i f v d
  | .sh, some v, some d, h => Rp.sub s h
  | .sh, none, none, _ => True.intro
  | .sh, none, some _, h => h.elim
  | .sh, some _, none, h => h.elim
  | .o1, some v, some d, h => by
    obtain ⟨a, vs, ds, e1, e2, e3, h1, h2⟩ := h
    exact ⟨a, vs, ds, e1, e2, hf.trans e3, (k a (by rw [e3]; exact List.mem_cons_self)).trans h1, h2.sub s⟩
  | .o1, none, _, h => by cases ‹Option D› <;> exact h.elim
  | .o1, some _, none, h => h.elim
  | .o2, some v, some d, h => by
    obtain ⟨a, bs, dss, e1, e2, e3, h1, h2⟩ := h
    exact ⟨a, bs, dss, e1, e2, hf.trans e3, (k a (by rw [e3]; exact List.mem_cons_self)).trans h1, h2.sub s fun b hb => k b (by rw [e3]; exact List.mem_cons_of_mem _ hb)⟩
  | .o2, none, _, h => by cases ‹Option D› <;> exact h.elim
  | .o2, some _, none, h => h.elim
theorem SlR.step (wf : WF g H) (s : Step g H g' H') {i : Nat} (hf : g'.fp i = g.fp i) (k : ∀ b ∈ g.fp i, H' b = H b) {f : Fl} {v : Option V} {d : Option D} (h : SlR K T g H i f v d) : SlR K T g' H' i f v d := h.sub (s.sub wf) hf k
theorem CellR.sub (s : Sub g H g' H') {a : Addr} (k : H' a = H a) {c : Cell} (q : CellR K T g H a c) : CellR K T g' H' a c := by
  cases c with
  | lst ds =>
    obtain ⟨vs, q1, q2⟩ := q
    exact ⟨vs, k.trans q1, q2.sub s⟩
  | dic lk kvs =>
    cases lk with
    | false =>
      obtain ⟨vs, q1, q2⟩ := q
      exact ⟨vs, k.trans q1, q2.sub s⟩
    | true =>
      obtain ⟨vs, od, q1, q2⟩ := q
      exact ⟨vs, od, k.trans q1, q2.sub s⟩
  | dit kvs =>
    obtain ⟨xs, vs, q1, q2, q3, q4, q5, q6, q7, q8⟩ := q
    exact ⟨xs, vs, k.trans q1, q2, q3, q4, q5, q6, q7.sub s, q8.sub s⟩
  | obj c fs =>
    obtain ⟨C, dx, vs, q1, q2, q3⟩ := q
    exact ⟨C, dx, vs, k.trans q1, q2, q3.sub s⟩
theorem MR.sub (s : Sub g H g' H') (hm : g'.mu = g.mu) (k : ∀ b ∈ g.mu, H' b = H b) {m : List Cell} (h : MR K T g H m) : MR K T g' H' m where
  len := by rw [hm]; exact h.len
  at_ := fun n c a h1 h2 => by
    rw [hm] at h2
    exact CellR.sub s (k a (List.mem_of_getElem? h2)) (h.at_ n c a h1 h2)
theorem MR.step (wf : WF g H) (s : Step g H g' H') (hm : g'.mu = g.mu) (k : ∀ b ∈ g.mu, H' b = H b) {m : List Cell} (h : MR K T g H m) : MR K T g' H' m := h.sub (s.sub wf) hm k
/-- own cells kept -/
theorem SR.sub {Γ : Fls} {σ : L2.St} {st : S} (h : SR K T Γ g σ H st) (s : Sub g H g' H') (wf' : WF g' H') (hf : g'.fp = g.fp) (hm : g'.mu = g.mu) (k : ∀ b, g.Own b → H' b = H b) : SR K T Γ g' σ H' st where
  wf := wf'
  len := h.len
  sl := fun i hi => (h.sl i hi).sub s (by rw [hf]) fun b hb => k b (.inl ⟨i, hb⟩)
  me := h.me.sub s hm fun b hb => k b (.inr hb)
theorem SR.step {Γ : Fls} {σ : L2.St} {st : S} (h : SR K T Γ g σ H st) (s : Step g H g' H') (wf' : WF g' H') (hf : g'.fp = g.fp) (hm : g'.mu = g.mu) (k : ∀ b, g.Own b → H' b = H b) : SR K T Γ g' σ H' st := h.sub (s.sub h.wf) wf' hf hm k
/-- the slots' own cells kept, the store another -/
theorem SR.re {Γ : Fls} {σ : L2.St} {st : S} {m : List Cell} (h : SR K T Γ g σ H st) (s : Sub g H g' H') (wf' : WF g' H') (hf : g'.fp = g.fp) (k : ∀ i b, b ∈ g.fp i → H' b = H b) (me : MR K T g' H' m) : SR K T Γ g' σ H' { st with m := m } where
  wf := wf'
  len := h.len
  sl := fun i hi => (h.sl i hi).sub s (by rw [hf]) fun b hb => k i b hb
  me := me
/-- a new object, not listed -/
theorem Step.new {p : Addr} {o : HO} (hp : H p = none) : Step g H g (upd H p o) :=
  ⟨fun _ h => h, fun _ h => .inl h, fun _ h => .inl h, fun b o' h _ => by rw [upd_ne (ne_of_none h hp)]; exact h, fun b o' h _ => by rw [upd_ne (ne_of_none h hp)]; exact h,
    fun b h => by
      by_cases e : b = p
      · rw [e]; exact hp
      · rw [upd_ne e] at h; exact h, List.prefix_refl _⟩
theorem WF.new {p : Addr} {o : HO} (h : WF g H) (hp : H p = none) : WF g (upd H p o) where
  ta := fun b hb => by
    obtain ⟨o', e⟩ := h.ta b hb
    exact ⟨o', by rw [upd_ne (ne_of_none e hp)]; exact e⟩
  ot := fun b hb => by
    obtain ⟨o', e, i⟩ := h.ot b hb
    exact ⟨o', by rw [upd_ne (ne_of_none e hp)]; exact e, i⟩
  ao := h.ao
  nf := h.nf
  df := h.df
  fm := h.fm
  nm := h.nm
theorem WF.nota {p : Addr} (h : WF g H) (hp : H p = none) : ¬ g.A p := fun q => by
  obtain ⟨o, e⟩ := h.ta p q
  rw [hp] at e; cases e
theorem WF.noto {p : Addr} (h : WF g H) (hp : H p = none) : ¬ g.Own p := fun q => by
  obtain ⟨o, e, _⟩ := h.ot p q
  rw [hp] at e; cases e
theorem SR.new {Γ : Fls} {σ : L2.St} {st : S} {p : Addr} {o : HO} (h : SR K T Γ g σ H st) (hp : H p = none) : SR K T Γ g σ (upd H p o) st :=
  h.step (.new hp) (h.wf.new hp) rfl rfl fun b hb => by
    obtain ⟨o', e, _⟩ := h.wf.ot b hb
    rw [upd_ne (ne_of_none e hp)]
/-- a tracked object becomes listed -/
def Gh.add (g : Gh) (p : Addr) : Gh := { g with A := fun b => g.A b ∨ b = p }
theorem Step.add {p : Addr} {Hs : Hp} {gs : Gh} (s : Step gs Hs g H) (hp : Hs p = none) : Step gs Hs (g.add p) H where
  aa := fun b h => .inl (s.aa b h)
  an := fun b h => by
    rcases h with h | h
    · exact s.an b h
    · rw [h]; exact .inr (.inr hp)
  on := s.on
  fr := s.fr
  im := s.im
  tr := s.tr
  mu := s.mu
theorem WF.add {p : Addr} {o : HO} (h : WF g H) (ho : H p = some o) (no : ¬ g.Own p) : WF (g.add p) H where
  ta := fun b hb => by
    rcases hb with hb | hb
    · exact h.ta b hb
    · rw [hb]; exact ⟨o, ho⟩
  ot := h.ot
  ao := fun b hb => by
    rcases hb with hb | hb
    · exact h.ao b hb
    · rw [hb]; exact no
  nf := h.nf
  df := h.df
  fm := h.fm
  nm := h.nm
mutual
theorem Rp.add {p : Addr} : ∀ {d : D} {v : V}, Rp K T g H d v → Rp K T (g.add p) H d v
  | .non, v, h => by simpa [Rp] using h
  | .bl b, v, h => by simpa [Rp] using h
  | .int i, v, h => by simpa [Rp] using h
  | .str x, v, h => by simpa [Rp] using h
  | .tup ds, v, h => by
    simp only [Rp] at h ⊢
    obtain ⟨a, vs, e, q, r⟩ := h
    exact ⟨a, vs, e, q, Rps.add r⟩
  | .lst ds, v, h => by
    simp only [Rp] at h ⊢
    obtain ⟨a, vs, e, q1, q2, r⟩ := h
    exact ⟨a, vs, e, .inl q1, q2, Rps.add r⟩
  | .fn i, v, h => by simpa [Rp] using h
  | .ref n, v, h => by
    simp only [Rp] at h ⊢
    exact h
  | .scr xs, v, h => by
    simp only [Rp] at h ⊢
    obtain ⟨a, e, q⟩ := h
    refine ⟨a, e, ?_⟩
    rcases q with ⟨q1, q2⟩ | q | q
    · exact .inl ⟨.inl q1, q2⟩
    · exact .inr (.inl q)
    · exact .inr (.inr q)
  | .pt ds, v, h => by
    simp only [Rp] at h ⊢
    obtain ⟨a, vs, o, e, q, z, r⟩ := h
    exact ⟨a, vs, o, e, q, z, Rps.add r⟩
theorem Rps.add {p : Addr} : ∀ {ds : List D} {vs : List V}, Rps K T g H ds vs → Rps K T (g.add p) H ds vs
  | [], vs, h => by simpa [Rps] using h
  | d :: ds, vs, h => by
    simp only [Rps] at h ⊢
    obtain ⟨v, r, e, h1, h2⟩ := h
    exact ⟨v, r, e, Rp.add h1, Rps.add h2⟩
end
theorem L2R.add {p : Addr} : ∀ {bs : List Addr} {dss : List (List D)}, L2R K T g H bs dss → L2R K T (g.add p) H bs dss
  | [], _, h => h
  | b :: bs, dss, h => by
    obtain ⟨ds, r, ws, e, h1, h2, h3⟩ := h
    exact ⟨ds, r, ws, e, h1, h2.add, h3.add⟩
theorem SR.add {Γ : Fls} {σ : L2.St} {st : S} {p : Addr} {o : HO} (h : SR K T Γ g σ H st) (ho : H p = some o) (no : ¬ g.Own p) : SR K T Γ (g.add p) σ H st where
  wf := h.wf.add ho no
  len := h.len
  sl := fun i hi => by
    have q := h.sl i hi
    generalize σ.getD i none = v at q
    generalize st.r.getD i none = d at q
    generalize fl Γ i = f at q
    cases f <;> cases v <;> cases d <;> first
      | exact q
      | exact Rp.add q
      | (obtain ⟨a, vs, ds, e1, e2, e3, h1, h2⟩ := q; exact ⟨a, vs, ds, e1, e2, e3, h1, h2.add⟩)
      | (obtain ⟨a, vs, ds, e1, e2, e3, h1, h2⟩ := q; exact ⟨a, vs, ds, e1, e2, e3, h1, L2R.add h2⟩)
  me := ⟨h.me.len, fun n c a h1 h2 => by
    have q := h.me.at_ n c a h1 h2
    cases c with
    | lst ds =>
      obtain ⟨vs, q1, q2⟩ := q
      exact ⟨vs, q1, q2.add⟩
    | dic lk kvs =>
      cases lk with
      | false =>
        obtain ⟨vs, q1, q2⟩ := q
        exact ⟨vs, q1, q2.add⟩
      | true =>
        obtain ⟨vs, od, q1, q2⟩ := q
        exact ⟨vs, od, q1, q2.add⟩
    | dit kvs =>
      obtain ⟨xs, vs, q1, q2, q3, q4, q5, q6, q7, q8⟩ := q
      exact ⟨xs, vs, q1, q2, q3, q4, q5, q6, q7.add, q8.add⟩
    | obj c fs =>
      obtain ⟨C, dx, vs, q1, q2, q3⟩ := q
      exact ⟨C, dx, vs, q1, q2, q3.add⟩⟩
end
end DL
set_option linter.all false
set_option Elab.async false
set_option maxRecDepth 100000
namespace DL
open PySem PySem.Spec PyProof.Rows L2
/-- a step of an expression: the slots' own cells stay -/
structure QStep (g : Gh) (H : Hp) (g' : Gh) (H' : Hp) : Prop extends Step g H g' H' where
  qf : g'.fp = g.fp
  qo : ∀ i b, b ∈ g.fp i → H' b = H b
theorem QStep.refl (g : Gh) (H : Hp) : QStep g H g H := ⟨.refl g H, rfl, fun _ _ _ => rfl⟩
theorem QStep.trans {g g1 g2 : Gh} {H H1 H2 : Hp} (a : QStep g H g1 H1) (b : QStep g1 H1 g2 H2) : QStep g H g2 H2 :=
  ⟨a.toStep.trans b.toStep, b.qf.trans a.qf, fun i x h => (b.qo i x (by rw [a.qf]; exact h)).trans (a.qo i x h)⟩
inductive Mo where
  | sh | f1 | f2 | b1 | b2
/-- a fresh address -/
def Fresh (g : Gh) (H0 : Hp) (a : Addr) : Prop := ¬ g.A a ∧ ¬ g.Own a ∧ H0 a = none
def RpM (K : PySem.W.Frag) (T : Tb) (g : Gh) (H0 H : Hp) : Mo → D → V → Prop
  | .sh, d, v => Rp K T g H d v
  | .f1, d, v => match d with
    | .lst ds => ∃ a vs, v = .ref a ∧ H a = some (.lst vs) ∧ Fresh g H0 a ∧ Rps K T g H ds vs
    | d => Rp K T g H d v
  | .b1, d, v => match d with
    | .lst ds => ∃ a vs, v = .ref a ∧ H a = some (.lst vs) ∧ a ∉ g.mu ∧ Rps K T g H ds vs
    | d => Rp K T g H d v
  | .f2, d, v => match d with
    | .lst es => ∃ a bs dss, v = .ref a ∧ es = dss.map D.lst ∧ H a = some (.lst (bs.map V.ref)) ∧ (a :: bs).Nodup ∧ (∀ b ∈ a :: bs, Fresh g H0 b) ∧ L2R K T g H bs dss
    | d => Rp K T g H d v
  | .b2, d, v => match d with
    | .lst es => ∃ a bs dss, v = .ref a ∧ es = dss.map D.lst ∧ H a = some (.lst (bs.map V.ref)) ∧ (∀ b ∈ a :: bs, b ∉ g.mu) ∧ L2R K T g H bs dss
    | d => Rp K T g H d v
section
variable {K : PySem.W.Frag} {T : Tb} {g g' : Gh} {H H' H0 H1 : Hp} {d : D} {v : V}
theorem Fresh.step {a : Addr} {o : HO} (s : Step g H g' H') (e : H a = some o) (f : Fresh g H0 a) : Fresh g' H0 a := by
  refine ⟨fun q => ?_, fun q => ?_, f.2.2⟩
  · rcases s.an a q with q | q | q
    · exact f.1 q
    · exact f.2.1 q
    · rw [e] at q; cases q
  · rcases s.on a q with q | q
    · exact f.2.1 q
    · rw [e] at q; cases q
theorem L2R.tracked : ∀ {bs : List Addr} {dss : List (List D)}, L2R K T g H bs dss → ∀ b ∈ bs, ∃ ws, H b = some (.lst ws)
  | [], _, _, b, hb => by simp at hb
  | b :: bs, dss, h, c, hc => by
    obtain ⟨ds, r, ws, e, h1, h2, h3⟩ := h
    rcases List.mem_cons.mp hc with rfl | hc
    · exact ⟨ws, h1⟩
    · exact h3.tracked c hc
theorem stay_fresh {a : Addr} {o : HO} (s : Step g H g' H') (f : Fresh g H0 a) (e : H a = some o) : H' a = some o := s.fr a o e f.2.1
theorem stay_b {a : Addr} {o : HO} (s : QStep g H g' H') (f : a ∉ g.mu) (e : H a = some o) : H' a = some o := by
  by_cases q : ∃ i, a ∈ g.fp i
  · obtain ⟨i, q⟩ := q
    exact (s.qo i a q).trans e
  · exact s.fr a o e fun z => by
      rcases z with z | z
      · exact q z
      · exact f z
theorem mu_b {a : Addr} {o : HO} (wf' : WF g' H') (s : QStep g H g' H') (f : a ∉ g.mu) (e : H a = some o) : a ∉ g'.mu := fun z => by
  rcases s.on a (.inr z) with (⟨i, q⟩ | q) | q
  · exact wf'.fm i a (by rw [s.qf]; exact q) z
  · exact f q
  · rw [e] at q; cases q
theorem RpM.step (wf : WF g H) (wf' : WF g' H') (s : QStep g H g' H') {m : Mo} (h : RpM K T g H0 H m d v) : RpM K T g' H0 H' m d v := by
  cases m with
  | sh => exact Rp.step wf s.toStep h
  | f1 =>
    cases d with
    | lst ds =>
      obtain ⟨a, vs, e, h1, h2, h3⟩ := h
      exact ⟨a, vs, e, stay_fresh s.toStep h2 h1, h2.step s.toStep h1, h3.step wf s.toStep⟩
    | _ => exact Rp.step wf s.toStep h
  | b1 =>
    cases d with
    | lst ds =>
      obtain ⟨a, vs, e, h1, h2, h3⟩ := h
      exact ⟨a, vs, e, stay_b s h2 h1, mu_b wf' s h2 h1, h3.step wf s.toStep⟩
    | _ => exact Rp.step wf s.toStep h
  | f2 =>
    cases d with
    | lst ds =>
      obtain ⟨a, bs, dss, e, e2, h1, nd, h2, h3⟩ := h
      refine ⟨a, bs, dss, e, e2, stay_fresh s.toStep (h2 a List.mem_cons_self) h1, nd, fun b hb => ?_, h3.step wf s.toStep fun b hb => ?_⟩
      · rcases List.mem_cons.mp hb with rfl | hb'
        · exact (h2 _ hb).step s.toStep h1
        · obtain ⟨ws, z⟩ := h3.tracked b hb'
          exact (h2 b hb).step s.toStep z
      · obtain ⟨ws, z⟩ := h3.tracked b hb
        rw [stay_fresh s.toStep (h2 b (List.mem_cons_of_mem _ hb)) z, z]
    | _ => exact Rp.step wf s.toStep h
  | b2 =>
    cases d with
    | lst ds =>
      obtain ⟨a, bs, dss, e, e2, h1, h2, h3⟩ := h
      refine ⟨a, bs, dss, e, e2, stay_b s (h2 a List.mem_cons_self) h1, fun b hb => ?_, h3.step wf s.toStep fun b hb => ?_⟩
      · rcases List.mem_cons.mp hb with rfl | hb'
        · exact mu_b wf' s (h2 _ hb) h1
        · obtain ⟨ws, z⟩ := h3.tracked b hb'
          exact mu_b wf' s (h2 b hb) z
      · obtain ⟨ws, z⟩ := h3.tracked b hb
        rw [stay_b s (h2 b (List.mem_cons_of_mem _ hb)) z, z]
    | _ => exact Rp.step wf s.toStep h
theorem RpM.base {m : Mo} (tr : ∀ b, H1 b = none → H0 b = none) (h : RpM K T g H1 H m d v) : RpM K T g H0 H m d v := by
  cases m with
  | sh => exact h
  | b1 => exact h
  | b2 => exact h
  | f1 =>
    cases d with
    | lst ds =>
      obtain ⟨a, vs, e, h1, h2, h3⟩ := h
      exact ⟨a, vs, e, h1, ⟨h2.1, h2.2.1, tr _ h2.2.2⟩, h3⟩
    | _ => exact h
  | f2 =>
    cases d with
    | lst ds =>
      obtain ⟨a, bs, dss, e, e2, h1, nd, h2, h3⟩ := h
      exact ⟨a, bs, dss, e, e2, h1, nd, fun b hb => ⟨(h2 b hb).1, (h2 b hb).2.1, tr _ (h2 b hb).2.2⟩, h3⟩
    | _ => exact h
end
/-! ### exceptions -/
def ExR (K : PySem.W.Frag) (T : Tb) (g : Gh) (H : Hp) : Ex → Value → Option Addr → Prop
  | .mk i fs, cls, dd => ∃ C, T.exc i = some C ∧ cls = .ref C ∧ (fs = [] ∧ dd = none ∨ fs ≠ [] ∧ ∃ dx vs, dd = some dx ∧ H dx = some (.xd ((T.fld i).zip vs)) ∧ Rps K T g H fs vs ∧ (T.fld i).length = fs.length)
/-! ### what is wanted behind an expression -/
section
variable (K : PySem.W.Frag) (T : Tb) (Γ : Fls) (σ : L2.St) (g : Gh) (H : Hp)
def PostX (W : WX) (e : Ex) (st : S) : Prop := ∀ cls dd H' g', Step g H g' H' → SR K T [] g' σ H' st → ExR K T g' H' e cls dd → W cls dd σ H'
def PostE (m : Mo) (W : WX) (Q : VK) : R D → Prop
  | .ok d st => ∀ v H' g', QStep g H g' H' → SR K T Γ g' σ H' st → RpM K T g' H H' m d v → Q v H'
  | .raise e st => PostX K T σ g H W e st
  | .stuck => False
def PostA (W : WX) (Q : List V → Hp → Prop) : R (List D) → Prop
  | .ok ds st => ∀ vs H' g', QStep g H g' H' → SR K T Γ g' σ H' st → Rps K T g' H' ds vs → Q vs H'
  | .raise e st => PostX K T σ g H W e st
  | .stuck => False
def PostT (W : WX) (Q : Bool → Hp → Prop) : R Bool → Prop
  | .ok b st => ∀ H' g', QStep g H g' H' → SR K T Γ g' σ H' st → Q b H'
  | .raise e st => PostX K T σ g H W e st
  | .stuck => False
end
def te (K : PySem.W.Frag) (T : Tb) (Γ : Fls) (m : Mo) (W : WX) (f : S → R D) : TE := fun σ H Q => ∃ g st, SR K T Γ g σ H st ∧ PostE K T Γ σ g H m W Q (f st)
def ta (K : PySem.W.Frag) (T : Tb) (Γ : Fls) (W : WX) (f : S → R (List D)) : TA := fun σ H Q => ∃ g st, SR K T Γ g σ H st ∧ PostA K T Γ σ g H W Q (f st)
def tt (K : PySem.W.Frag) (T : Tb) (Γ : Fls) (W : WX) (f : S → R Bool) : TT := fun σ H Q => ∃ g st, SR K T Γ g σ H st ∧ PostT K T Γ σ g H W Q (f st)
structure JE (T : Tb) (X : Cx) (Γ : Fls) (e : Expr) (m : Mo) (f : S → R D) : Prop where
  run : ∀ W, Takes X W → PE X e (te X.K T Γ m W f)
structure JA (T : Tb) (X : Cx) (Γ : Fls) (es : List Expr) (f : S → R (List D)) : Prop where
  run : ∀ W, Takes X W → PA X es (ta X.K T Γ W f)
structure JT (T : Tb) (X : Cx) (Γ : Fls) (e : Expr) (f : S → R Bool) : Prop where
  run : ∀ W, Takes X W → PT X e (tt X.K T Γ W f)
structure JW (T : Tb) (X : Cx) (Γ : Fls) (e : Expr) (f : S → R Bool) : Prop where
  run : ∀ W, Takes X W → PW X e (tt X.K T Γ W f)
section
variable {K : PySem.W.Frag} {T : Tb} {Γ : Fls} {σ : L2.St} {g g' : Gh} {H H' : Hp} {m : Mo} {W : WX}
theorem PostX.shift {e : Ex} {st : S} (s : Step g H g' H') (h : PostX K T σ g H W e st) : PostX K T σ g' H' W e st := fun cls dd H2 g2 s2 => h cls dd H2 g2 (s.trans s2)
theorem PostE.shift {Q : VK} {r : R D} (s : QStep g H g' H') (h : PostE K T Γ σ g H m W Q r) : PostE K T Γ σ g' H' m W Q r := by
  cases r with
  | ok d st => exact fun v H2 g2 s2 r2 p => h v H2 g2 (s.trans s2) r2 (p.base s.tr)
  | raise e st => exact PostX.shift s.toStep h
  | stuck => exact h
theorem PostA.shift {Q : List V → Hp → Prop} {r : R (List D)} (s : QStep g H g' H') (h : PostA K T Γ σ g H W Q r) : PostA K T Γ σ g' H' W Q r := by
  cases r with
  | ok d st => exact fun v H2 g2 s2 r2 p => h v H2 g2 (s.trans s2) r2 p
  | raise e st => exact PostX.shift s.toStep h
  | stuck => exact h
theorem PostT.shift {Q : Bool → Hp → Prop} {r : R Bool} (s : QStep g H g' H') (h : PostT K T Γ σ g H W Q r) : PostT K T Γ σ g' H' W Q r := by
  cases r with
  | ok d st => exact fun H2 g2 s2 r2 => h H2 g2 (s.trans s2) r2
  | raise e st => exact PostX.shift s.toStep h
  | stuck => exact h
end
/-! ### the monad -/
def R.bind {α β : Type} (r : R α) (k : α → S → R β) : R β := match r with
  | .ok a s => k a s
  | .raise e s => .raise e s
  | .stuck => .stuck
theorem PE.imp {X : Cx} {e : Expr} {t t' : TE} (h : PE X e t) (i : ∀ σ H Q, t' σ H Q → t σ H Q) : PE X e t' := ⟨fun pins s σ H Q I q => h.run pins s σ H Q I (i σ H Q q)⟩
theorem PA.imp {X : Cx} {e : List Expr} {t t' : TA} (h : PA X e t) (i : ∀ σ H Q, t' σ H Q → t σ H Q) : PA X e t' := ⟨fun pos pins s σ H Q I q => h.run pos pins s σ H Q I (i σ H Q q)⟩
theorem PT.imp {X : Cx} {e : Expr} {t t' : TT} (h : PT X e t) (i : ∀ σ H Q, t' σ H Q → t σ H Q) : PT X e t' := ⟨fun pins s σ H Q I q => h.run pins s σ H Q I (i σ H Q q)⟩
theorem PW.imp {X : Cx} {e : Expr} {t t' : TT} (h : PW X e t) (i : ∀ σ H Q, t' σ H Q → t σ H Q) : PW X e t' := ⟨fun wh pins s σ H Q I q => h.run wh pins s σ H Q I (i σ H Q q)⟩
/-- what any post bears -/
structure IsPost (K : PySem.W.Frag) (T : Tb) (σ : L2.St) (W : WX) {α : Type} (P : Gh → Hp → R α → Prop) : Prop where
  px : ∀ g H e s, P g H (.raise e s) → PostX K T σ g H W e s
  xp : ∀ g H e s, PostX K T σ g H W e s → P g H (.raise e s)
  ps : ∀ g H, ¬ P g H .stuck
  sh : ∀ g H g' H' r, QStep g H g' H' → P g H r → P g' H' r
section
variable {K : PySem.W.Frag} {T : Tb} {Γ : Fls} {σ : L2.St} {g : Gh} {H : Hp} {st : S} {m m' : Mo} {W : WX} {α : Type} {P : Gh → Hp → R α → Prop}
theorem ipE {Q : VK} : IsPost K T σ W (fun g H => PostE K T Γ σ g H m W Q) := ⟨fun _ _ _ _ h => h, fun _ _ _ _ h => h, fun _ _ h => h, fun _ _ _ _ _ s h => h.shift s⟩
theorem ipA {Q : List V → Hp → Prop} : IsPost K T σ W (fun g H => PostA K T Γ σ g H W Q) := ⟨fun _ _ _ _ h => h, fun _ _ _ _ h => h, fun _ _ h => h, fun _ _ _ _ _ s h => h.shift s⟩
theorem ipT {Q : Bool → Hp → Prop} : IsPost K T σ W (fun g H => PostT K T Γ σ g H W Q) := ⟨fun _ _ _ _ h => h, fun _ _ _ _ h => h, fun _ _ h => h, fun _ _ _ _ _ s h => h.shift s⟩
/-- from the post of a bind: the first part's reading, with the second part's post behind it -/
theorem te_bind {f : S → R D} {k : D → S → R α} {Q : VK} (ip : IsPost K T σ W P) (I : SR K T Γ g σ H st) (h : P g H ((f st).bind k))
    (hk : ∀ d st' v H' g', QStep g H g' H' → SR K T Γ g' σ H' st' → RpM K T g' H H' m d v → P g' H' (k d st') → Q v H') : te K T Γ m W f σ H Q := by
  refine ⟨g, st, I, ?_⟩
  cases e : f st with
  | ok d st' =>
    rw [e] at h
    exact fun v H' g' s r p => hk d st' v H' g' s r p (ip.sh _ _ _ _ _ s h)
  | raise ex st' =>
    rw [e] at h
    exact ip.px _ _ _ _ h
  | stuck =>
    rw [e] at h
    exact ip.ps g H h
theorem ta_bind {f : S → R (List D)} {k : List D → S → R α} {Q : List V → Hp → Prop} (ip : IsPost K T σ W P) (I : SR K T Γ g σ H st) (h : P g H ((f st).bind k))
    (hk : ∀ ds st' vs H' g', QStep g H g' H' → SR K T Γ g' σ H' st' → Rps K T g' H' ds vs → P g' H' (k ds st') → Q vs H') : ta K T Γ W f σ H Q := by
  refine ⟨g, st, I, ?_⟩
  cases e : f st with
  | ok d st' =>
    rw [e] at h
    exact fun v H' g' s r p => hk d st' v H' g' s r p (ip.sh _ _ _ _ _ s h)
  | raise ex st' =>
    rw [e] at h
    exact ip.px _ _ _ _ h
  | stuck =>
    rw [e] at h
    exact ip.ps g H h
theorem tt_bind {f : S → R Bool} {k : Bool → S → R α} {Q : Bool → Hp → Prop} (ip : IsPost K T σ W P) (I : SR K T Γ g σ H st) (h : P g H ((f st).bind k))
    (hk : ∀ b st' H' g', QStep g H g' H' → SR K T Γ g' σ H' st' → P g' H' (k b st') → Q b H') : tt K T Γ W f σ H Q := by
  refine ⟨g, st, I, ?_⟩
  cases e : f st with
  | ok d st' =>
    rw [e] at h
    exact fun H' g' s r => hk d st' H' g' s r (ip.sh _ _ _ _ _ s h)
  | raise ex st' =>
    rw [e] at h
    exact ip.px _ _ _ _ h
  | stuck =>
    rw [e] at h
    exact ip.ps g H h
end
/-! ### the semantics of expressions -/
def eVar (i : Nat) : S → R D := fun st => match st.r.getD i none with
  | some d => .ok d st
  | none => .stuck
def eC (d : D) : S → R D := fun st => .ok d st
/-- two parts, then an operation by values -/
def e2 (op : D → D → S → R D) (f1 f2 : S → R D) : S → R D := fun st => (f1 st).bind fun d1 s1 => (f2 s1).bind fun d2 s2 => op d1 d2 s2
def e1 (op : D → S → R D) (f : S → R D) : S → R D := fun st => (f st).bind op
def aNil : S → R (List D) := fun st => .ok [] st
def aCons (f : S → R D) (r : S → R (List D)) : S → R (List D) := fun st => (f st).bind fun d s1 => (r s1).bind fun ds s2 => .ok (d :: ds) s2
def eIf (c : S → R Bool) (a b : S → R D) : S → R D := fun st => (c st).bind fun k s => if k then a s else b s
def tNotS (c : S → R Bool) : S → R Bool := fun st => (c st).bind fun k s => .ok (!k) s
def tAndS (c d : S → R Bool) : S → R Bool := fun st => (c st).bind fun k s => if k then d s else .ok false s
def tOrS (c d : S → R Bool) : S → R Bool := fun st => (c st).bind fun k s => if k then .ok true s else d s
def toB (f : S → R D) : S → R Bool := fun st => (f st).bind fun d s => match d with
  | .bl b => .ok b s
  | _ => .stuck
section
variable {T : Tb} {X : Cx} {Γ : Fls} {e a b c : Expr} {m m1 m2 : Mo} {f f1 f2 : S → R D} {pos : Pos}
theorem SR.slot {K : PySem.W.Frag} {g : Gh} {σ : L2.St} {H : Hp} {st : S} {i : Nat} {d : D} (I : SR K T Γ g σ H st) (e : st.r.getD i none = some d) :
    ∃ v, σ[i]? = some (some v) ∧ SlR K T g H i (fl Γ i) (some v) (some d) := by
  have hi : i < st.r.length := by
    by_cases h : i < st.r.length
    · exact h
    · rw [List.getD_eq_getElem?_getD, List.getElem?_eq_none (by omega)] at e
      cases e
  have hs : i < σ.length := by rw [I.len]; exact hi
  have q := I.sl i hs
  rw [e] at q
  cases v : σ.getD i none with
  | none =>
    rw [v] at q
    cases h : fl Γ i <;> rw [h] at q <;> exact q.elim
  | some x =>
    rw [v] at q
    refine ⟨x, ?_, q⟩
    rw [List.getD_eq_getElem?_getD, List.getElem?_eq_getElem hs] at v
    rw [List.getElem?_eq_getElem hs]
    exact congrArg some v
theorem je_var (i : Nat) {x : Str} (hN : X.N[i]? = some x := by rfl) (hv : Vis X.env.scope x := by first | exact Or.inl rfl | exact Or.inr (Or.inl rfl) | exact Or.inr (Or.inr rfl)) (hd : (x == ("__debug__" : Str)) = false := by decide)
    (hcd : (x == ("__classdict__" : Str)) = false := by decide) (hf : fl Γ i = .sh := by rfl) : JE T X Γ (.Name x pos) .sh (eVar i) := by
  refine ⟨fun W tk => PE.imp (pe_var hN hv hd hcd) fun σ H Q h => ?_⟩
  obtain ⟨g, st, I, p⟩ := h
  unfold eVar at p
  cases e : st.r.getD i none with
  | none =>
    rw [e] at p
    exact p.elim
  | some d =>
    rw [e] at p
    obtain ⟨v, h1, h2⟩ := I.slot e
    rw [hf] at h2
    exact ⟨v, h1, p v H g (.refl g H) I h2⟩
/-- a slot's own list, read -/
theorem je_varB (i : Nat) {x : Str} (hN : X.N[i]? = some x := by rfl) (hv : Vis X.env.scope x := by first | exact Or.inl rfl | exact Or.inr (Or.inl rfl) | exact Or.inr (Or.inr rfl)) (hd : (x == ("__debug__" : Str)) = false := by decide)
    (hcd : (x == ("__classdict__" : Str)) = false := by decide) (hf : fl Γ i = .o1 := by rfl) : JE T X Γ (.Name x pos) .b1 (eVar i) := by
  refine ⟨fun W tk => PE.imp (pe_var hN hv hd hcd) fun σ H Q h => ?_⟩
  obtain ⟨g, st, I, p⟩ := h
  unfold eVar at p
  cases e : st.r.getD i none with
  | none =>
    rw [e] at p
    exact p.elim
  | some d =>
    rw [e] at p
    obtain ⟨v, h1, h2⟩ := I.slot e
    rw [hf] at h2
    obtain ⟨ad, vs, ds, e1, e2, e3, h3, h4⟩ := h2
    subst e1 e2
    exact ⟨_, h1, p _ H g (.refl g H) I ⟨ad, vs, rfl, h3, I.wf.fm i ad (by rw [e3]; exact List.mem_cons_self), h4⟩⟩
theorem je_int {i j} : JE T X Γ (.Constant (.int i) j pos) .sh (eC (.int i)) := ⟨fun W tk => PE.imp pe_int fun σ H Q ⟨g, st, I, p⟩ => p _ H g (.refl g H) I rfl⟩
theorem je_bl {i j} : JE T X Γ (.Constant (.bool i) j pos) .sh (eC (.bl i)) := ⟨fun W tk => PE.imp pe_bl fun σ H Q ⟨g, st, I, p⟩ => p _ H g (.refl g H) I rfl⟩
theorem je_non {j} : JE T X Γ (.Constant .none j pos) .sh (eC .non) := ⟨fun W tk => PE.imp pe_non fun σ H Q ⟨g, st, I, p⟩ => p _ H g (.refl g H) I rfl⟩
theorem je_str {i j} : JE T X Γ (.Constant (.str i) j pos) .sh (eC (.str i)) := ⟨fun W tk => PE.imp pe_str fun σ H Q ⟨g, st, I, p⟩ => p _ H g (.refl g H) I rfl⟩
/-! ### modes -/
theorem je_sub (h : JE T X Γ e m1 f) (k : ∀ (K : PySem.W.Frag) g0 σ H0 H st d v, SR K T Γ g0 σ H st → RpM K T g0 H0 H m1 d v → (∀ g', QStep g0 H g' H → SR K T Γ g' σ H st → RpM K T g' H0 H m d v → False) → False) : JE T X Γ e m f := by
  refine ⟨fun W tk => PE.imp (h.run W tk) fun σ H Q ⟨g, st, I, p⟩ => ⟨g, st, I, ?_⟩⟩
  cases e : f st with
  | ok d st' =>
    rw [e] at p
    intro v H' g' s r q
    refine Classical.byContradiction fun nq => k X.K g' σ H H' st' d v r q fun g2 s2 r2 q2 => nq (p v H' g2 (s.trans s2) r2 q2)
  | raise ex st' => rw [e] at p; exact p
  | stuck => rw [e] at p; exact p
/-- shared to borrowed -/
theorem je_b (h : JE T X Γ e .sh f) : JE T X Γ e .b1 f := by
  refine je_sub h fun K g σ H0 H st d v I q k => k g (.refl g H) I ?_
  cases d with
  | lst ds =>
    simp only [RpM, Rp] at q
    obtain ⟨a, vs, e, h1, h2, h3⟩ := q
    exact ⟨a, vs, e, h2, fun z => I.wf.ao a h1 (.inr z), h3⟩
  | _ => exact q
theorem je_fb (h : JE T X Γ e .f1 f) : JE T X Γ e .b1 f := by
  refine je_sub h fun K g σ H0 H st d v I q k => k g (.refl g H) I ?_
  cases d with
  | lst ds =>
    obtain ⟨a, vs, e, h1, h2, h3⟩ := q
    exact ⟨a, vs, e, h1, fun z => h2.2.1 (.inr z), h3⟩
  | _ => exact q
/-- a fresh list becomes shared -/
theorem je_f (h : JE T X Γ e .f1 f) : JE T X Γ e .sh f := by
  refine ⟨fun W tk => PE.imp (h.run W tk) fun σ H Q ⟨g, st, I, p⟩ => ⟨g, st, I, ?_⟩⟩
  cases e : f st with
  | ok d st' =>
    rw [e] at p
    intro v H' g' s r q
    cases d with
    | lst ds =>
      obtain ⟨a, vs, e, h1, h2, h3⟩ := q
      subst e
      refine p _ H' (g'.add a) ⟨s.toStep.add h2.2.2, s.qf, s.qo⟩ (r.add h1 h2.2.1) ?_
      simp only [RpM, Rp]
      exact ⟨a, vs, rfl, .inr rfl, h1, h3.add⟩
    | _ => exact p v H' g' s r q
  | raise ex st' => rw [e] at p; exact p
  | stuck => rw [e] at p; exact p
end
end DL
set_option linter.all false
set_option Elab.async false
set_option maxRecDepth 100000
namespace DL
open PySem PySem.Spec PyProof.Rows L2
/-! ### operators -/
structure BinR (X : Cx) (T : Tb) (op : Operator) (m1 m2 m : Mo) (o : D → D → S → R D) : Prop where
  ex : ∃ r : R2, OpR X (binaryOp op) r ∧ ∀ (Γ : Fls) g σ H st W (Q : VK) x y d1 d2 H0 H1, SR X.K T Γ g σ H st → RpM X.K T g H0 H m1 d1 x → RpM X.K T g H1 H m2 d2 y → PostE X.K T Γ σ g H m W Q (o d1 d2 st) → r x y H Q
section
variable {T : Tb} {X : Cx} {Γ : Fls} {e a b c : Expr} {m m1 m2 m3 : Mo} {f f1 f2 f3 : S → R D} {pos : Pos}
theorem je_op {op : Operator} {o : D → D → S → R D} (h : BinR X T op m1 m2 m o) (ha : JE T X Γ a m1 f1) (hb : JE T X Γ b m2 f2) : JE T X Γ (.BinOp a op b pos) m (e2 o f1 f2) := by
  obtain ⟨r, ho, key⟩ := h.ex
  refine ⟨fun W tk => PE.imp (pe_op ho (ha.run W tk) (hb.run W tk)) fun σ H Q ⟨g, st, I, p⟩ => ?_⟩
  refine te_bind ipE I p fun d1 s1 x H1 g1 q1 I1 r1 p1 => te_bind ipE I1 p1 fun d2 s2 y H2 g2 q2 I2 r2 p2 => ?_
  exact key Γ g2 σ H2 s2 W Q x y d1 d2 H H1 I2 (r1.step I1.wf I2.wf q2) r2 p2
def addD : D → D → S → R D
  | .int i, .int j, s => .ok (.int (i + j)) s
  | .int i, .bl k, s => .ok (.int (i + b2i k)) s
  | .str x, .str y, s => if x.length + y.length ≤ sizeLine then .ok (.str (x ++ y)) s else .stuck
  | .tup xs, .tup ys, s => if xs.length + ys.length ≤ sizeLine then .ok (.tup (xs ++ ys)) s else .stuck
  | .lst xs, .lst ys, s => if xs.length + ys.length ≤ sizeLine then .ok (.lst (xs ++ ys)) s else .stuck
  | _, _, _ => .stuck
def subD : D → D → S → R D
  | .int i, .int j, s => .ok (.int (i - j)) s
  | .bl i, .bl j, s => .ok (.int (b2i i - b2i j)) s
  | _, _, _ => .stuck
def mulD : D → D → S → R D
  | .int i, .int j, s => if i.natAbs.log2 + j.natAbs.log2 < 100000000 then .ok (.int (i * j)) s else .stuck
  | .lst xs, .int k, s => if k.natAbs < 2 ^ 63 ∧ xs.length * k.toNat ≤ sizeLine then .ok (.lst (List.replicate k.toNat xs).flatten) s else .stuck
  | .tup xs, .int k, s => if xs ≠ [] ∧ 2 ≤ k.toNat ∧ k.toNat ≤ 1000 ∧ xs.length ≤ 1000 then .ok (.tup (List.replicate k.toNat xs).flatten) s else .stuck
  | _, _, _ => .stuck
def fdivD : D → D → S → R D
  | .int i, .int j, s => if j ≠ 0 ∧ j.natAbs.log2 < 9000 then .ok (.int (i.fdiv j)) s else .stuck
  | _, _, _ => .stuck
def modD : D → D → S → R D
  | .int i, .int j, s => if j ≠ 0 then .ok (.int (i.fmod j)) s else .stuck
  | _, _, _ => .stuck
def powD : D → D → S → R D
  | .int i, .int j, s => if 0 ≤ j ∧ j.toNat ≤ 1000000 ∧ i.natAbs < 2 ^ 64 then .ok (.int (i ^ j.toNat)) s else .stuck
  | _, _, _ => .stuck
theorem Rps.repl {K : PySem.W.Frag} {g : Gh} {H : Hp} {ds : List D} {vs : List V} (h : Rps K T g H ds vs) : ∀ n : Nat, Rps K T g H (List.replicate n ds).flatten (List.replicate n vs).flatten
  | 0 => by simpa using Rps.nil
  | n + 1 => by
    rw [List.replicate_succ, List.replicate_succ, List.flatten_cons, List.flatten_cons]
    exact h.append (Rps.repl h n)
/-- a new tuple -/
theorem post_tup {K : PySem.W.Frag} {σ : L2.St} {g : Gh} {H : Hp} {st : S} {W : WX} {Q : VK} {ds : List D} {vs : List V} {p : Addr} (I : SR K T Γ g σ H st) (r : Rps K T g H ds vs) (hp : H p = none)
    (q : PostE K T Γ σ g H .sh W Q (.ok (.tup ds) st)) : Q (.ref p) (upd H p (.tup vs)) := by
  refine q _ _ g ⟨.new hp, rfl, fun i b hb => ?_⟩ (I.new hp) ?_
  · obtain ⟨o, e, _⟩ := I.wf.ot b (.inl ⟨i, hb⟩)
    rw [upd_ne (ne_of_none e hp)]
  · simp only [RpM, Rp]
    exact ⟨p, vs, rfl, .of upd_same, r.step I.wf (.new hp)⟩
theorem post_tup1 {K : PySem.W.Frag} {σ : L2.St} {g : Gh} {H : Hp} {st : S} {W : WX} {Q : VK} {ds : List D} {vs : List V} {p : Addr} (I : SR K T Γ g σ H st) (r : Rps K T g H ds vs) (hp : H p = none)
    (q : PostE K T Γ σ g H .f1 W Q (.ok (.tup ds) st)) : Q (.ref p) (upd H p (.tup vs)) := by
  refine q _ _ g ⟨.new hp, rfl, fun i b hb => ?_⟩ (I.new hp) ?_
  · obtain ⟨o, e, _⟩ := I.wf.ot b (.inl ⟨i, hb⟩)
    rw [upd_ne (ne_of_none e hp)]
  · simp only [RpM, Rp]
    exact ⟨p, vs, rfl, .of upd_same, r.step I.wf (.new hp)⟩
/-- a new list -/
theorem post_lst {K : PySem.W.Frag} {σ : L2.St} {g : Gh} {H : Hp} {st : S} {W : WX} {Q : VK} {ds : List D} {vs : List V} {p : Addr} (I : SR K T Γ g σ H st) (r : Rps K T g H ds vs) (hp : H p = none)
    (q : PostE K T Γ σ g H .f1 W Q (.ok (.lst ds) st)) : Q (.ref p) (upd H p (.lst vs)) := by
  refine q _ _ g ⟨.new hp, rfl, fun i b hb => ?_⟩ (I.new hp) ?_
  · obtain ⟨o, e, _⟩ := I.wf.ot b (.inl ⟨i, hb⟩)
    rw [upd_ne (ne_of_none e hp)]
  · exact ⟨p, vs, rfl, upd_same, ⟨I.wf.nota hp, I.wf.noto hp, hp⟩, r.step I.wf (.new hp)⟩
/-- a value that is no list, whatever the mode -/
theorem post_v {K : PySem.W.Frag} {σ : L2.St} {g : Gh} {H : Hp} {st : S} {W : WX} {Q : VK} {d : D} {v : V} {m : Mo} (I : SR K T Γ g σ H st) (q : PostE K T Γ σ g H m W Q (.ok d st)) (r : RpM K T g H H m d v) : Q v H := q v H g (.refl g H) I r
theorem b_lst {K : PySem.W.Frag} {g : Gh} {H0 H : Hp} {ds : List D} {v : V} (h : RpM K T g H0 H .b1 (.lst ds) v) : ∃ a vs, v = .ref a ∧ H a = some (.lst vs) ∧ a ∉ g.mu ∧ Rps K T g H ds vs := h
theorem b_int {K : PySem.W.Frag} {g : Gh} {H0 H : Hp} {i : Int} {v : V} (h : RpM K T g H0 H .b1 (.int i) v) : v = .int i := by simpa [RpM, Rp] using h
theorem b_bl {K : PySem.W.Frag} {g : Gh} {H0 H : Hp} {i : Bool} {v : V} (h : RpM K T g H0 H .b1 (.bl i) v) : v = .bl i := by simpa [RpM, Rp] using h
theorem b_str {K : PySem.W.Frag} {g : Gh} {H0 H : Hp} {i : Str} {v : V} (h : RpM K T g H0 H .b1 (.str i) v) : v = .str i := by simpa [RpM, Rp] using h
theorem b_non {K : PySem.W.Frag} {g : Gh} {H0 H : Hp} {v : V} (h : RpM K T g H0 H .b1 .non v) : v = .non := by simpa [RpM, Rp] using h
theorem b_tup {K : PySem.W.Frag} {g : Gh} {H0 H : Hp} {ds : List D} {v : V} (h : RpM K T g H0 H .b1 (.tup ds) v) : ∃ a vs, v = .ref a ∧ SqT K H a vs ∧ Rps K T g H ds vs := by simpa [RpM, Rp] using h
theorem rm_int {K : PySem.W.Frag} {g : Gh} {H0 H : Hp} {i : Int} {m : Mo} : RpM K T g H0 H m (.int i) (.int i) := by cases m <;> simp only [RpM, Rp]
theorem rm_bl {K : PySem.W.Frag} {g : Gh} {H0 H : Hp} {i : Bool} {m : Mo} : RpM K T g H0 H m (.bl i) (.bl i) := by cases m <;> simp only [RpM, Rp]
theorem rm_str {K : PySem.W.Frag} {g : Gh} {H0 H : Hp} {i : Str} {m : Mo} : RpM K T g H0 H m (.str i) (.str i) := by cases m <;> simp only [RpM, Rp]
theorem rm_non {K : PySem.W.Frag} {g : Gh} {H0 H : Hp} {m : Mo} : RpM K T g H0 H m .non .non := by cases m <;> simp only [RpM, Rp]
theorem rp_int {K : PySem.W.Frag} {g : Gh} {H : Hp} {i : Int} : Rp K T g H (.int i) (.int i) := by simp only [Rp]
theorem rp_bl {K : PySem.W.Frag} {g : Gh} {H : Hp} {i : Bool} : Rp K T g H (.bl i) (.bl i) := by simp only [Rp]
theorem rp_str {K : PySem.W.Frag} {g : Gh} {H : Hp} {i : Str} : Rp K T g H (.str i) (.str i) := by simp only [Rp]
theorem bin_add : BinR X T .Add .b1 .b1 .f1 addD := by
  refine ⟨_, (op_add (X := X)).or (op_add_ib.or (op_add_str.or (op_catA.or op_cat))), fun Γ g σ H st W Q x y d1 d2 H0 H1 I r1 r2 p => ?_⟩
  unfold addD at p
  split at p
  · rename_i i j
    exact .inl ⟨i, j, b_int r1, b_int r2, post_v I p rm_int⟩
  · rename_i i j
    exact .inr (.inl ⟨i, j, b_int r1, b_bl r2, post_v I p rm_int⟩)
  · rename_i i j
    split at p
    · exact .inr (.inr (.inl ⟨i, j, b_str r1, b_str r2, by assumption, post_v I p rm_str⟩))
    · exact p.elim
  · rename_i xs ys
    split at p
    · rename_i hz
      obtain ⟨a, vs, e1, s1, q1⟩ := b_tup r1
      obtain ⟨b, ws, e2, s2, q2⟩ := b_tup r2
      subst e1 e2
      refine .inr (.inr (.inr (.inl ⟨a, b, vs, ws, rfl, rfl, s1, s2, by rw [q1.length, q2.length]; exact hz, fun e => ?_, fun _ e => ?_, fun _ _ p' hp => post_tup1 I (q1.append q2) hp p⟩)))
      · have e0 : xs = [] := by
          have := q1.length
          rw [e] at this
          exact List.eq_nil_of_length_eq_zero this.symm
        subst e0
        refine post_v I p ?_
        simp only [RpM, Rp, List.nil_append]
        exact ⟨b, ws, rfl, s2, q2⟩
      · have e0 : ys = [] := by
          have := q2.length
          rw [e] at this
          exact List.eq_nil_of_length_eq_zero this.symm
        subst e0
        refine post_v I p ?_
        simp only [RpM, Rp, List.append_nil]
        exact ⟨a, vs, rfl, s1, q1⟩
    · exact p.elim
  · rename_i xs ys
    split at p
    · rename_i hz
      obtain ⟨a, vs, e1, s1, _, q1⟩ := b_lst r1
      obtain ⟨b, ws, e2, s2, _, q2⟩ := b_lst r2
      subst e1 e2
      exact .inr (.inr (.inr (.inr ⟨a, b, vs, ws, rfl, rfl, s1, s2, by rw [q1.length, q2.length]; exact hz, fun p' hp => post_lst I (q1.append q2) hp p⟩)))
    · exact p.elim
  · exact p.elim
theorem op_subB : OpR X (binaryOp .Sub) (fun x y H Q => ∃ i k, x = .bl i ∧ y = .bl k ∧ Q (.int (b2i i - b2i k)) H) := by
  intro pins s σ H x y v u Q I rx ry h
  obtain ⟨i, k, rfl, rfl, q⟩ := h
  cases rx
  cases ry
  exact sub_bool ⟨.int (b2i i - b2i k), H, I.tok _, ⟨_, rfl⟩, q⟩
theorem bin_sub : BinR X T .Sub .b1 .b1 .sh subD := by
  refine ⟨_, (op_sub (X := X)).or op_subB, fun Γ g σ H st W Q x y d1 d2 H0 H1 I r1 r2 p => ?_⟩
  unfold subD at p
  split at p
  · rename_i i j
    exact .inl ⟨i, j, b_int r1, b_int r2, post_v I p rm_int⟩
  · rename_i i j
    exact .inr ⟨i, j, b_bl r1, b_bl r2, post_v I p rm_int⟩
  · exact p.elim
theorem mulOkX {i j : Int} (h : i.natAbs.log2 + j.natAbs.log2 < 100000000) : IntMulOk i j := by
  have b : ∀ x : Int, Builtin.Int.intBits x ≤ x.natAbs.log2 + 1 := by
    intro x
    unfold Builtin.Int.intBits
    split <;> omega
  exact mulOk_of_bits (b i) (b j) (by omega)
theorem op_mulX : OpR X (binaryOp .Mult) (rI (fun i j => i.natAbs.log2 + j.natAbs.log2 < 100000000) fun i j => .int (i * j)) := opI fun _ _ _ _ _ _ _ hc q => mul_int q (mulOkX hc)
theorem bin_mul : BinR X T .Mult .b1 .b1 .f1 mulD := by
  refine ⟨_, (op_mulX (X := X)).or (op_rep.or op_repT), fun Γ g σ H st W Q x y d1 d2 H0 H1 I r1 r2 p => ?_⟩
  unfold mulD at p
  split at p
  · rename_i i j
    split at p
    · exact .inl ⟨i, j, b_int r1, b_int r2, by assumption, post_v I p rm_int⟩
    · exact p.elim
  · rename_i xs k
    split at p
    · rename_i hz
      obtain ⟨a, vs, e1, s1, _, q1⟩ := b_lst r1
      subst e1
      exact .inr (.inl ⟨a, k, vs, rfl, b_int r2, s1, by have := hz.1; omega, by have := hz.1; omega, by rw [q1.length]; exact hz.2, fun p' hp => post_lst I (q1.repl _) hp p⟩)
    · exact p.elim
  · rename_i xs k
    split at p
    · rename_i hz
      obtain ⟨a, vs, e1, s1, q1⟩ := b_tup r1
      subst e1
      exact .inr (.inr ⟨a, k, vs, rfl, b_int r2, s1, fun e => hz.1 (by
        have := q1.length
        rw [e] at this
        exact List.eq_nil_of_length_eq_zero this.symm), by have := hz.2.1; omega, by have := hz.2.2.1; omega, by rw [q1.length]; exact hz.2.2.2, fun p' hp => post_tup1 I (q1.repl _) hp p⟩)
    · exact p.elim
  · exact p.elim
theorem op_fdivG : OpR X (binaryOp .FloorDiv) (rI (fun _ j => j ≠ 0 ∧ j.natAbs.log2 < 9000) fun i j => .int (i.fdiv j)) := opI fun _ _ _ _ _ _ _ hc q => floordiv_int hc.1 q (.inl (PyProof.noPylong_of_log2 hc.2))
theorem bin_fdiv : BinR X T .FloorDiv .b1 .b1 .sh fdivD := by
  refine ⟨_, op_fdivG (X := X), fun Γ g σ H st W Q x y d1 d2 H0 H1 I r1 r2 p => ?_⟩
  unfold fdivD at p
  split at p
  · rename_i i j
    split at p
    · exact ⟨i, j, b_int r1, b_int r2, by assumption, post_v I p rm_int⟩
    · exact p.elim
  · exact p.elim
theorem bin_mod : BinR X T .Mod .b1 .b1 .sh modD := by
  refine ⟨_, op_modN (X := X), fun Γ g σ H st W Q x y d1 d2 H0 H1 I r1 r2 p => ?_⟩
  unfold modD at p
  split at p
  · rename_i i j
    split at p
    · exact ⟨i, j, b_int r1, b_int r2, by assumption, post_v I p rm_int⟩
    · exact p.elim
  · exact p.elim
theorem bin_pow : BinR X T .Pow .b1 .b1 .sh powD := by
  refine ⟨_, op_pow (X := X), fun Γ g σ H st W Q x y d1 d2 H0 H1 I r1 r2 p => ?_⟩
  unfold powD at p
  split at p
  · rename_i i j
    split at p
    · rename_i hz
      exact ⟨i, j, b_int r1, b_int r2, ⟨hz.1, by have := hz.2.1; omega, hz.2.2⟩, post_v I p rm_int⟩
    · exact p.elim
  · exact p.elim
/-! one place -/
structure UniR (X : Cx) (T : Tb) (op : UnaryOp) (m1 m : Mo) (o : D → S → R D) : Prop where
  ex : ∃ r : V → Hp → VK → Prop, UnR X (unaryOp op) r ∧ ∀ (Γ : Fls) g σ H st W (Q : VK) x d H0, SR X.K T Γ g σ H st → RpM X.K T g H0 H m1 d x → PostE X.K T Γ σ g H m W Q (o d st) → r x H Q
theorem je_un {op : UnaryOp} {o : D → S → R D} (h : UniR X T op m1 m o) (ha : JE T X Γ a m1 f1) : JE T X Γ (.UnaryOp op a pos) m (e1 o f1) := by
  obtain ⟨r, ho, key⟩ := h.ex
  refine ⟨fun W tk => PE.imp (pe_un ho (ha.run W tk)) fun σ H Q ⟨g, st, I, p⟩ => ?_⟩
  exact te_bind ipE I p fun d1 s1 x H1 g1 q1 I1 r1 p1 => key Γ g1 σ H1 s1 W Q x d1 H I1 r1 p1
def negD : D → S → R D
  | .int i, s => .ok (.int (-i)) s
  | _, _ => .stuck
theorem uni_neg : UniR X T .USub .b1 .sh negD := by
  refine ⟨_, un_neg (X := X), fun Γ g σ H st W Q x d H0 I r1 p => ?_⟩
  unfold negD at p
  split at p
  · exact ⟨_, b_int r1, post_v I p rm_int⟩
  · exact p.elim
/-! comparisons -/
structure CmpR (X : Cx) (T : Tb) (op : CmpOp) (m1 m2 : Mo) (o : D → D → Option Bool) : Prop where
  ex : ∃ r : R2, OpR X (compareOp op) r ∧ ∀ (Γ : Fls) g σ H st (Q : VK) x y d1 d2 H0 H1 k, SR X.K T Γ g σ H st → RpM X.K T g H0 H m1 d1 x → RpM X.K T g H1 H m2 d2 y → o d1 d2 = some k → Q (.bl k) H → r x y H Q
def cmpD (o : D → D → Option Bool) : D → D → S → R D := fun d1 d2 s => match o d1 d2 with
  | some k => .ok (.bl k) s
  | none => .stuck
def cmpB (o : D → D → Option Bool) : D → D → S → R Bool := fun d1 d2 s => match o d1 d2 with
  | some k => .ok k s
  | none => .stuck
def t2 (op : D → D → S → R Bool) (f1 f2 : S → R D) : S → R Bool := fun st => (f1 st).bind fun d1 s1 => (f2 s1).bind fun d2 s2 => op d1 d2 s2
theorem je_cmp {op : CmpOp} {o : D → D → Option Bool} (h : CmpR X T op m1 m2 o) (ha : JE T X Γ a m1 f1) (hb : JE T X Γ b m2 f2) (hm : behindInMarks op b = false := by first | exact nomark _ (by decide) (by decide) | rfl) :
    JE T X Γ (.Compare a [op] [b] pos) .sh (e2 (cmpD o) f1 f2) := by
  obtain ⟨r, ho, key⟩ := h.ex
  refine ⟨fun W tk => PE.imp (pe_cmpR ho (ha.run W tk) (hb.run W tk) hm) fun σ H Q ⟨g, st, I, p⟩ => ?_⟩
  refine te_bind ipE I p fun d1 s1 x H1 g1 q1 I1 r1 p1 => te_bind ipE I1 p1 fun d2 s2 y H2 g2 q2 I2 r2 p2 => ?_
  unfold cmpD at p2
  split at p2
  · rename_i k e
    exact key Γ g2 σ H2 s2 Q x y d1 d2 H H1 k I2 (r1.step I1.wf I2.wf q2) r2 e (post_v I2 p2 rm_bl)
  · exact p2.elim
theorem jt_cmp {op : CmpOp} {o : D → D → Option Bool} (h : CmpR X T op m1 m2 o) (ha : JE T X Γ a m1 f1) (hb : JE T X Γ b m2 f2) (hm : behindInMarks op b = false := by first | exact nomark _ (by decide) (by decide) | rfl) :
    JT T X Γ (.Compare a [op] [b] pos) (t2 (cmpB o) f1 f2) := by
  obtain ⟨r, ho, key⟩ := h.ex
  refine ⟨fun W tk => PT.imp (pt_cmpR ho (ha.run W tk) (hb.run W tk) hm) fun σ H Q ⟨g, st, I, p⟩ => ?_⟩
  refine te_bind ipT I p fun d1 s1 x H1 g1 q1 I1 r1 p1 => te_bind ipT I1 p1 fun d2 s2 y H2 g2 q2 I2 r2 p2 => ?_
  unfold cmpB at p2
  split at p2
  · rename_i k e
    exact key Γ g2 σ H2 s2 _ x y d1 d2 H H1 k I2 (r1.step I1.wf I2.wf q2) r2 e ⟨k, rfl, p2 H2 g2 (.refl g2 H2) I2⟩
  · exact p2.elim
/-- < of whole numbers, by cases: it stands still where one of them is not known -/
def ltB : Int → Int → Bool
  | .ofNat a, .ofNat b => Nat.blt a b
  | .ofNat _, .negSucc _ => false
  | .negSucc _, .ofNat _ => true
  | .negSucc a, .negSucc b => Nat.blt b a
theorem ltB_eq (i j : Int) : ltB i j = decide (i < j) := by
  cases i with
  | ofNat a =>
    cases j with
    | ofNat b =>
      rw [Bool.eq_iff_iff]
      simp only [ltB, Nat.blt_eq, decide_eq_true_eq, Int.ofNat_eq_natCast]
      omega
    | negSucc b =>
      have h : ¬ (Int.ofNat a < Int.negSucc b) := by
        rw [Int.negSucc_eq, Int.ofNat_eq_natCast]
        omega
      rw [decide_eq_false h]
      rfl
  | negSucc a =>
    cases j with
    | ofNat b =>
      have h : Int.negSucc a < Int.ofNat b := by
        rw [Int.negSucc_eq, Int.ofNat_eq_natCast]
        omega
      rw [decide_eq_true h]
      rfl
    | negSucc b =>
      rw [Bool.eq_iff_iff]
      simp only [ltB, Nat.blt_eq, decide_eq_true_eq, Int.negSucc_eq]
      omega
theorem leB_eq (i j : Int) : (!ltB j i) = decide (i ≤ j) := by
  rw [ltB_eq, Bool.eq_iff_iff]
  simp
def iCmp (p : Int → Int → Bool) : D → D → Option Bool
  | .int i, .int j => some (p i j)
  | _, _ => none
theorem cmp_lt : CmpR X T .Lt .b1 .b1 (iCmp ltB) := by
  refine ⟨_, op_lt (X := X), fun Γ g σ H st Q x y d1 d2 H0 H1 k I r1 r2 e p => ?_⟩
  unfold iCmp at e
  split at e
  · cases e
    have p' : Q (.bl (ltB _ _)) H := p
    rw [ltB_eq] at p'
    exact ⟨_, _, b_int r1, b_int r2, p'⟩
  · cases e
theorem cmp_le : CmpR X T .LtE .b1 .b1 (iCmp fun i j => !ltB j i) := by
  refine ⟨_, op_le (X := X), fun Γ g σ H st Q x y d1 d2 H0 H1 k I r1 r2 e p => ?_⟩
  unfold iCmp at e
  split at e
  · cases e
    have p' : Q (.bl (!ltB _ _)) H := p
    rw [leB_eq] at p'
    exact ⟨_, _, b_int r1, b_int r2, p'⟩
  · cases e
theorem cmp_gt : CmpR X T .Gt .b1 .b1 (iCmp fun i j => ltB j i) := by
  refine ⟨_, op_gt (X := X), fun Γ g σ H st Q x y d1 d2 H0 H1 k I r1 r2 e p => ?_⟩
  unfold iCmp at e
  split at e
  · cases e
    have p' : Q (.bl (ltB _ _)) H := p
    rw [ltB_eq] at p'
    exact ⟨_, _, b_int r1, b_int r2, p'⟩
  · cases e
theorem cmp_ge : CmpR X T .GtE .b1 .b1 (iCmp fun i j => !ltB i j) := by
  refine ⟨_, op_ge (X := X), fun Γ g σ H st Q x y d1 d2 H0 H1 k I r1 r2 e p => ?_⟩
  unfold iCmp at e
  split at e
  · cases e
    have p' : Q (.bl (!ltB _ _)) H := p
    rw [leB_eq] at p'
    exact ⟨_, _, b_int r1, b_int r2, p'⟩
  · cases e
/-! equality, of data of any depth -/
mutual
def toP : D → Option PyData
  | .non => some .none
  | .bl b => some (.bool b)
  | .int i => some (.int i)
  | .str x => some (.str x)
  | .tup xs => (toPs xs).map .tuple
  | .lst xs => (toPs xs).map .list
  | .fn _ => none
  | .ref _ => none
  | .scr _ => none
  | .pt _ => none
def toPs : List D → Option (List PyData)
  | [] => some []
  | d :: ds => match toP d, toPs ds with
    | some p, some ps => some (p :: ps)
    | _, _ => none
end
mutual
theorem dp_of {K : PySem.W.Frag} {g : Gh} {H : Hp} : ∀ {d : D} {v : V} {p : PyData}, Rp K T g H d v → toP d = some p → Dp K H v p
  | .non, v, p, h, e => by
    simp only [Rp] at h
    simp only [toP] at e
    cases e
    subst h
    constructor
  | .bl b, v, p, h, e => by
    simp only [Rp] at h
    simp only [toP] at e
    cases e
    subst h
    constructor
  | .int b, v, p, h, e => by
    simp only [Rp] at h
    simp only [toP] at e
    cases e
    subst h
    constructor
  | .str b, v, p, h, e => by
    simp only [Rp] at h
    simp only [toP] at e
    cases e
    subst h
    constructor
  | .tup ds, v, p, h, e => by
    simp only [Rp] at h
    simp only [toP] at e
    obtain ⟨a, vs, rfl, h1, h2⟩ := h
    cases q : toPs ds with
    | none => rw [q] at e; cases e
    | some ps =>
      rw [q] at e
      cases e
      exact .tup h1 (dps_of h2 q)
  | .lst ds, v, p, h, e => by
    simp only [Rp] at h
    simp only [toP] at e
    obtain ⟨a, vs, rfl, h0, h1, h2⟩ := h
    cases q : toPs ds with
    | none => rw [q] at e; cases e
    | some ps =>
      rw [q] at e
      cases e
      exact .lst (.inl (.inl h1)) (dps_of h2 q)
  | .fn _, _, _, _, e => by simp only [toP] at e; cases e
  | .ref _, _, _, _, e => by simp only [toP] at e; cases e
  | .scr _, _, _, _, e => by simp only [toP] at e; cases e
  | .pt _, _, _, _, e => by simp only [toP] at e; cases e
theorem dps_of {K : PySem.W.Frag} {g : Gh} {H : Hp} : ∀ {ds : List D} {vs : List V} {ps : List PyData}, Rps K T g H ds vs → toPs ds = some ps → DpAll K H vs ps
  | [], vs, ps, h, e => by
    simp only [Rps] at h
    simp only [toPs] at e
    cases e
    subst h
    constructor
  | d :: ds, vs, ps, h, e => by
    simp only [Rps] at h
    simp only [toPs] at e
    obtain ⟨v, r, rfl, h1, h2⟩ := h
    cases q1 : toP d with
    | none => rw [q1] at e; cases e
    | some p =>
      cases q2 : toPs ds with
      | none => rw [q1, q2] at e; cases e
      | some ps' =>
        rw [q1, q2] at e
        cases e
        exact .cons (dp_of h1 q1) (dps_of h2 q2)
end
theorem dp_b {K : PySem.W.Frag} {g : Gh} {H0 H : Hp} {d : D} {v : V} {p : PyData} (h : RpM K T g H0 H .b1 d v) (e : toP d = some p) : Dp K H v p := by
  cases d with
  | lst ds =>
    obtain ⟨a, vs, rfl, h1, _, h2⟩ := h
    simp only [toP] at e
    cases q : toPs ds with
    | none => rw [q] at e; cases e
    | some ps =>
      rw [q] at e
      cases e
      exact .lst (.inl (.inl h1)) (dps_of h2 q)
  | _ => exact dp_of h e
def eqD (d e : D) : Option Bool := match toP d, toP e with
  | some p, some q => if SeqAt.shaped p && SeqAt.shaped q then some (PyData.eqv p q) else none
  | _, _ => none
def neD (d e : D) : Option Bool := (eqD d e).map (!·)
theorem cmp_eq (hu : X.A.units + 64 < cLine) : CmpR X T .Eq .b1 .b1 eqD := by
  refine ⟨_, op_eqD (X := X) hu, fun Γ g σ H st Q x y d1 d2 H0 H1 k I r1 r2 e p => ?_⟩
  unfold eqD at e
  split at e
  · rename_i p1 p2 h1 h2
    split at e
    · rename_i hs
      rw [Bool.and_eq_true] at hs
      cases e
      exact ⟨p1, p2, dp_b r1 h1, dp_b r2 h2, hs.1, hs.2, p⟩
    · cases e
  · cases e
theorem cmp_ne (hu : X.A.units + 64 < cLine) : CmpR X T .NotEq .b1 .b1 neD := by
  refine ⟨_, op_neD (X := X) hu, fun Γ g σ H st Q x y d1 d2 H0 H1 k I r1 r2 e p => ?_⟩
  unfold neD eqD at e
  split at e
  · rename_i p1 p2 h1 h2
    split at e
    · rename_i hs
      rw [Bool.and_eq_true] at hs
      cases e
      exact ⟨p1, p2, dp_b r1 h1, dp_b r2 h2, hs.1, hs.2, p⟩
    · cases e
  · cases e
/-- is None -/
def isNon : D → Bool
  | .non => true
  | _ => false
def isND (d e : D) : Option Bool := if isNon e then some (isNon d) else none
def notND (d e : D) : Option Bool := if isNon e then some (!isNon d) else none
theorem non_dec {K : PySem.W.Frag} {g : Gh} {H0 H : Hp} {d : D} {v : V} (h : RpM K T g H0 H .b1 d v) : decide (v = V.non) = isNon d := by
  cases d with
  | non => have e := b_non h; subst e; rfl
  | bl _ => have e := b_bl h; subst e; rfl
  | int _ => have e := b_int h; subst e; rfl
  | str _ => have e := b_str h; subst e; rfl
  | tup _ => obtain ⟨a, vs, e, _⟩ := b_tup h; subst e; rfl
  | lst _ => obtain ⟨a, vs, e, _⟩ := b_lst h; subst e; rfl
  | fn _ => simp only [RpM, Rp] at h; obtain ⟨a, e, _⟩ := h; subst e; rfl
  | ref _ => simp only [RpM, Rp] at h; obtain ⟨a, e, _⟩ := h; subst e; rfl
  | scr _ => simp only [RpM, Rp] at h; obtain ⟨a, e, _⟩ := h; subst e; rfl
  | pt _ => simp only [RpM, Rp] at h; obtain ⟨a, vs, o, e, _⟩ := h; subst e; rfl
theorem isNon_eq {d : D} (h : isNon d = true) : d = .non := by
  cases d <;> first | rfl | cases h
theorem cmp_isN : CmpR X T .Is .b1 .b1 isND := by
  refine ⟨_, op_isN (X := X), fun Γ g σ H st Q x y d1 d2 H0 H1 k I r1 r2 e p => ?_⟩
  unfold isND at e
  split at e
  · rename_i hn
    have e2 := isNon_eq hn
    subst e2
    have e' := Option.some.inj e
    refine ⟨b_non r2, ?_⟩
    rw [non_dec r1, e']
    exact p
  · cases e
theorem cmp_notN : CmpR X T .IsNot .b1 .b1 notND := by
  refine ⟨_, op_notN (X := X), fun Γ g σ H st Q x y d1 d2 H0 H1 k I r1 r2 e p => ?_⟩
  unfold notND at e
  split at e
  · rename_i hn
    have e2 := isNon_eq hn
    subst e2
    have e' := Option.some.inj e
    refine ⟨b_non r2, ?_⟩
    rw [non_dec r1, e']
    exact p
  · cases e
end
end DL
set_option linter.all false
set_option Elab.async false
set_option maxRecDepth 100000
namespace DL
open PySem PySem.Spec PyProof.Rows L2
section
variable {T : Tb} {X : Cx} {Γ : Fls} {e a b c : Expr} {m m1 m2 m3 : Mo} {f f1 f2 f3 : S → R D} {pos : Pos} {es rest : List Expr} {k1 k2 : S → R Bool} {fs : S → R (List D)}
/-! ### tests -/
theorem toB_spec {K : PySem.W.Frag} {σ : L2.St} {g : Gh} {H : Hp} {st : S} {W : WX} {Q : Bool → Hp → Prop} {d : D} (h : PostT K T Γ σ g H W Q (match d with | .bl b => .ok b st | _ => .stuck)) : ∃ b, d = .bl b ∧ PostT K T Γ σ g H W Q (.ok b st) := by
  split at h
  · exact ⟨_, rfl, h⟩
  · exact h.elim
/-- a value's truth -/
def truD : D → Option Bool
  | .non => some false
  | .bl b => some b
  | .int i => some (i != 0)
  | .str x => if x.length ≤ sizeLine then some ((x.length : Int) != 0) else none
  | .tup xs => some (!xs.isEmpty)
  | .lst xs => some (!xs.isEmpty)
  | _ => none
def truB : D → S → R Bool := fun d s => match truD d with
  | some k => .ok k s
  | none => .stuck
def tTru (f : S → R D) : S → R Bool := fun st => (f st).bind truB
theorem Rps.isEmpty {K : PySem.W.Frag} {g : Gh} {H : Hp} {ds : List D} {vs : List V} (h : Rps K T g H ds vs) : vs.isEmpty = ds.isEmpty := by
  have := h.length
  cases ds <;> cases vs <;> simp_all
theorem tru_of {K : PySem.W.Frag} {g : Gh} {H0 H : Hp} {d : D} {v : V} {k : Bool} (r : RpM K T g H0 H .b1 d v) (e : truD d = some k) : TruV K v H k := by
  unfold truD at e
  split at e
  · have z := b_non r; subst z; cases e; exact rfl
  · have z := b_bl r; subst z; cases e; exact rfl
  · have z := b_int r; subst z; cases e; exact rfl
  · have z := b_str r; subst z
    split at e
    · cases e; exact ⟨by assumption, rfl⟩
    · cases e
  · obtain ⟨p, vs, z, h1, h2⟩ := b_tup r
    subst z
    cases e
    exact .inr (.inl ⟨vs, h1, by rw [h2.isEmpty]⟩)
  · obtain ⟨p, vs, z, h1, _, h2⟩ := b_lst r
    subst z
    cases e
    exact .inl ⟨vs, .inl (.inl h1), by rw [h2.isEmpty]⟩
  · cases e
theorem jt_tru (ha : JE T X Γ a .b1 f) (he : ∀ whole, isTrue a X.env whole = (do let v ← whole; standAt a.pos; holding [v] (truthy v)) := by intro _; rfl) : JT T X Γ a (tTru f) := by
  refine ⟨fun W tk => PT.imp (pt_truth (ha.run W tk) he) fun σ H Q ⟨g, st, I, p⟩ => ?_⟩
  refine te_bind ipT I p fun d1 s1 x H1 g1 q1 I1 r1 p1 => ?_
  unfold truB at p1
  split at p1
  · rename_i k e
    exact ⟨k, tru_of r1 e, p1 H1 g1 (.refl g1 H1) I1⟩
  · exact p1.elim
theorem jw_pt (h : JW T X Γ e k1) : JT T X Γ e k1 := ⟨fun W tk => (h.run W tk).pt⟩
theorem jw_or1 (ha : JT T X Γ a k1) : JW T X Γ (.BoolOp .Or [a] pos) k1 := ⟨fun W tk => pw_or1 (ha.run W tk)⟩
theorem jw_or (ha : JT T X Γ a k1) (hb : JW T X Γ (.BoolOp .Or (b :: rest) pos) k2) : JW T X Γ (.BoolOp .Or (a :: b :: rest) pos) (tOrS k1 k2) := by
  refine ⟨fun W tk => PW.imp (pw_or (ha.run W tk) (hb.run W tk)) fun σ H Q ⟨g, st, I, p⟩ => ?_⟩
  refine tt_bind ipT I p fun k s1 H1 g1 q1 I1 p1 => ?_
  cases k with
  | true => exact p1 H1 g1 (.refl g1 H1) I1
  | false => exact ⟨g1, s1, I1, p1⟩
theorem jt_not (ha : JT T X Γ a k1) : JT T X Γ (.UnaryOp .Not a pos) (tNotS k1) := by
  refine ⟨fun W tk => PT.imp (pt_not (ha.run W tk)) fun σ H Q ⟨g, st, I, p⟩ => ?_⟩
  exact tt_bind ipT I p fun k s1 H1 g1 q1 I1 p1 => p1 H1 g1 (.refl g1 H1) I1
/-! ### and, or, not, if as values -/
theorem je_if (hc : JT T X Γ c k1) (ha : JE T X Γ a m f1) (hb : JE T X Γ b m f2) : JE T X Γ (.IfExp c a b pos) m (eIf k1 f1 f2) := by
  refine ⟨fun W tk => PE.imp (pe_ifExp (hc.run W tk) (ha.run W tk) (hb.run W tk)) fun σ H Q ⟨g, st, I, p⟩ => ?_⟩
  refine tt_bind ipE I p fun k s1 H1 g1 q1 I1 p1 => ?_
  cases k with
  | true => exact ⟨g1, s1, I1, p1⟩
  | false => exact ⟨g1, s1, I1, p1⟩
def eAndB (f r : S → R D) : S → R D := fun st => (f st).bind fun d s => match d with
  | .bl true => r s
  | .bl false => .ok (.bl false) s
  | _ => .stuck
def eOrB (f r : S → R D) : S → R D := fun st => (f st).bind fun d s => match d with
  | .bl true => .ok (.bl true) s
  | .bl false => r s
  | _ => .stuck
theorem je_and (ha : JE T X Γ a .b1 f1) (hb : JE T X Γ (.BoolOp .And (b :: rest) pos) .sh f2) : JE T X Γ (.BoolOp .And (a :: b :: rest) pos) .sh (eAndB f1 f2) := by
  refine ⟨fun W tk => PE.imp (pe_and (ha.run W tk) (hb.run W tk)) fun σ H Q ⟨g, st, I, p⟩ => ?_⟩
  refine te_bind ipE I p fun d s1 x H1 g1 q1 I1 r1 p1 => ?_
  split at p1
  · exact ⟨true, b_bl r1, by rw [if_pos rfl]; exact ⟨g1, s1, I1, p1⟩⟩
  · exact ⟨false, b_bl r1, by rw [if_neg Bool.false_ne_true]; exact post_v I1 p1 rm_bl⟩
  · exact p1.elim
theorem je_one {op} (h : JE T X Γ a m f) : JE T X Γ (.BoolOp op [a] pos) m f := ⟨fun W tk => pe_one (h.run W tk)⟩
def eNotB (f : S → R D) : S → R D := fun st => (f st).bind fun d s => match d with
  | .bl k => .ok (.bl (!k)) s
  | _ => .stuck
theorem je_not (ha : JE T X Γ a .b1 f1) : JE T X Γ (.UnaryOp .Not a pos) .sh (eNotB f1) := by
  refine ⟨fun W tk => PE.imp (pe_not (ha.run W tk)) fun σ H Q ⟨g, st, I, p⟩ => ?_⟩
  refine te_bind ipE I p fun d s1 x H1 g1 q1 I1 r1 p1 => ?_
  split at p1
  · exact ⟨_, b_bl r1, post_v I1 p1 rm_bl⟩
  · exact p1.elim
/-- x or y, by truth -/
def eOrV (f r : S → R D) : S → R D := fun st => (f st).bind fun d s => match truD d with
  | some true => .ok d s
  | some false => r s
  | none => .stuck
theorem m_b {K : PySem.W.Frag} {g : Gh} {H0 H : Hp} {d : D} {v : V} (wf : WF g H) (hm : m = .sh ∨ m = .f1 ∨ m = .b1) (r : RpM K T g H0 H m d v) : RpM K T g H0 H .b1 d v := by
  rcases hm with rfl | rfl | rfl
  · cases d with
    | lst ds =>
      simp only [RpM, Rp] at r
      obtain ⟨a, vs, e, h1, h2, h3⟩ := r
      exact ⟨a, vs, e, h2, fun z => wf.ao a h1 (.inr z), h3⟩
    | _ => exact r
  · cases d with
    | lst ds =>
      obtain ⟨a, vs, e, h1, h2, h3⟩ := r
      exact ⟨a, vs, e, h1, fun z => h2.2.1 (.inr z), h3⟩
    | _ => exact r
  · exact r
theorem je_orV (hm : m = .sh ∨ m = .f1 ∨ m = .b1) (ha : JE T X Γ a m f1) (hb : JE T X Γ (.BoolOp .Or (b :: rest) pos) m f2) : JE T X Γ (.BoolOp .Or (a :: b :: rest) pos) m (eOrV f1 f2) := by
  refine ⟨fun W tk => PE.imp (pe_orT (ha.run W tk) (hb.run W tk)) fun σ H Q ⟨g, st, I, p⟩ => ?_⟩
  refine ⟨g, st, I, ?_⟩
  unfold eOrV at p
  cases e : f1 st with
  | ok d s1 =>
    rw [e] at p
    intro x H1 g1 q1 I1 r1
    have p' : PostE X.K T Γ σ g H m W Q (match truD d with
      | some true => .ok d s1
      | some false => f2 s1
      | none => .stuck) := p
    split at p'
    · rename_i e'
      exact ⟨true, tru_of (m_b I1.wf hm r1) e', by rw [if_pos rfl]; exact p' x H1 g1 q1 I1 r1⟩
    · rename_i e'
      exact ⟨false, tru_of (m_b I1.wf hm r1) e', by rw [if_neg Bool.false_ne_true]; exact ⟨g1, s1, I1, p'.shift q1⟩⟩
    · exact p'.elim
  | raise x s => rw [e] at p; exact p
  | stuck => rw [e] at p; exact p
/-! ### argument lists, displays -/
theorem ja_nil : JA T X Γ [] aNil := ⟨fun W tk => PA.imp pa_nil fun σ H Q ⟨g, st, I, p⟩ => p [] H g (.refl g H) I .nil⟩
theorem ja_cons (ha : JE T X Γ e .sh f) (hr : JA T X Γ es fs) (hs : starEach (e :: es) X.env = (false, eval e X.env) :: starEach es X.env := by rfl) : JA T X Γ (e :: es) (aCons f fs) := by
  refine ⟨fun W tk => PA.imp (pa_cons (ha.run W tk) (hr.run W tk) hs) fun σ H Q ⟨g, st, I, p⟩ => ?_⟩
  refine te_bind ipA I p fun d1 s1 x H1 g1 q1 I1 r1 p1 => ta_bind ipA I1 p1 fun ds s2 xs H2 g2 q2 I2 r2 p2 => ?_
  exact p2 _ H2 g2 (.refl g2 H2) I2 (.cons (Rp.step I1.wf q2.toStep r1) r2)
def eTup (fs : S → R (List D)) : S → R D := fun st => (fs st).bind fun ds s => if ds.length ≤ sizeLine then .ok (.tup ds) s else .stuck
def eLst (fs : S → R (List D)) : S → R D := fun st => (fs st).bind fun ds s => if ds.length ≤ sizeLine then .ok (.lst ds) s else .stuck
theorem je_tup {x1} (h : JA T X Γ es fs) : JE T X Γ (.Tuple es x1 pos) .sh (eTup fs) := by
  refine ⟨fun W tk => PE.imp (pe_tup (h.run W tk)) fun σ H Q ⟨g, st, I, p⟩ => ?_⟩
  refine ta_bind ipE I p fun ds s1 vs H1 g1 q1 I1 r1 p1 => ?_
  split at p1
  · exact ⟨by rw [r1.length]; assumption, fun p' hp => post_tup I1 r1 hp p1⟩
  · exact p1.elim
theorem je_lst (h : JA T X Γ es fs) : JE T X Γ (.List es pos) .f1 (eLst fs) := by
  refine ⟨fun W tk => PE.imp (pe_lst (h.run W tk)) fun σ H Q ⟨g, st, I, p⟩ => ?_⟩
  refine ta_bind ipE I p fun ds s1 vs H1 g1 q1 I1 r1 p1 => ?_
  split at p1
  · exact ⟨by rw [r1.length]; assumption, fun p' hp => post_lst I1 r1 hp p1⟩
  · exact p1.elim
/-! ### subscripts -/
def mLst (s : S) (n : Nat) : Option (List D) := match s.m[n]? with
  | some (.lst ds) => some ds
  | _ => none
def ixD : D → D → S → R D
  | .lst xs, .int i, s => match atI xs i with
    | some d => .ok d s
    | none => .stuck
  | .tup xs, .int i, s => match atI xs i with
    | some d => .ok d s
    | none => .stuck
  | .scr xs, .int i, s => match atI xs i with
    | some d => .ok (.int d) s
    | none => .stuck
  | .str x, .int i, s => if x.length ≤ sizeLine then match atI x.cps.toList i with
      | some c => .ok (.str ⟨#[c]⟩) s
      | none => .stuck
    else .stuck
  | .ref n, .int i, s => match mLst s n with
    | some xs => (match atI xs i with
      | some d => .ok d s
      | none => .stuck)
    | none => .stuck
  | _, _, _ => .stuck
theorem Rps.atI {K : PySem.W.Frag} {g : Gh} {H : Hp} {ds : List D} {vs : List V} {i : Int} {d : D} (h : Rps K T g H ds vs) (e : L2.atI ds i = some d) : ∃ v, L2.atI vs i = some v ∧ Rp K T g H d v := by
  unfold L2.atI at e ⊢
  rw [h.length]
  cases q : ixN ds.length i with
  | none => rw [q] at e; cases e
  | some j =>
    rw [q] at e
    exact h.get e
theorem atI_map {α β : Type} (F : α → β) (xs : List α) (i : Int) : L2.atI (xs.map F) i = (L2.atI xs i).map F := by
  unfold L2.atI
  rw [List.length_map]
  cases ixN xs.length i with
  | none => rfl
  | some j => simp
theorem ScrOk.sq {K : PySem.W.Frag} {g : Gh} {H : Hp} {a : Addr} {vs : List V} (h : ScrOk K g H a vs) : SqL K H a vs := by
  rcases h with ⟨_, h⟩ | ⟨o, h⟩ | h
  · exact .inl (.inl h)
  · exact .inl (.inr ⟨o, h⟩)
  · exact .inr h
theorem mcell {K : PySem.W.Frag} {g : Gh} {σ : L2.St} {H : Hp} {st : S} {n : Nat} {ds : List D} {a : Addr} (I : SR K T Γ g σ H st) (h : mLst st n = some ds) (ha : g.mu[n]? = some a) : ∃ vs, H a = some (.lst vs) ∧ Rps K T g H ds vs := by
  unfold mLst at h
  split at h
  · rename_i ds' e
    cases h
    exact I.me.at_ n _ a e ha
  · cases h
theorem je_ix (ha : JE T X Γ a .b1 f1) (hb : JE T X Γ b .b1 f2) (hs : PlainIx b := by exact fun _ _ => rfl) : JE T X Γ (.Subscript a b pos) .sh (e2 ixD f1 f2) := by
  refine ⟨fun W tk => PE.imp (pe_ix ix_seq (ha.run W tk) (hb.run W tk) hs) fun σ H Q ⟨g, st, I, p⟩ => ?_⟩
  refine te_bind ipE I p fun d1 s1 x H1 g1 q1 I1 r1 p1 => te_bind ipE I1 p1 fun d2 s2 y H2 g2 q2 I2 r2 p2 => ?_
  have r1' := r1.step I1.wf I2.wf q2
  unfold ixD at p2
  split at p2
  · obtain ⟨p', vs, e1, s1, _, h1⟩ := b_lst r1'
    split at p2
    · rename_i d e
      obtain ⟨v, e2, h2⟩ := h1.atI e
      exact .inl ⟨p', vs, _, v, e1, b_int r2, .inl (.inl s1), e2, p2 v H2 g2 (.refl g2 H2) I2 h2⟩
    · exact p2.elim
  · obtain ⟨p', vs, e1, s1, h1⟩ := b_tup r1'
    split at p2
    · rename_i d e
      obtain ⟨v, e2, h2⟩ := h1.atI e
      exact .inr (.inl ⟨p', vs, _, v, e1, b_int r2, s1, e2, p2 v H2 g2 (.refl g2 H2) I2 h2⟩)
    · exact p2.elim
  · simp only [RpM, Rp] at r1'
    obtain ⟨p', e1, s1⟩ := r1'
    split at p2
    · rename_i d e
      exact .inl ⟨p', _, _, .int d, e1, b_int r2, s1.sq, by rw [atI_map, e]; rfl, p2 _ H2 g2 (.refl g2 H2) I2 rm_int⟩
    · exact p2.elim
  · split at p2
    · rename_i hl
      split at p2
      · rename_i cc e
        exact .inr (.inr ⟨_, _, cc, b_str r1', b_int r2, hl, e, p2 _ H2 g2 (.refl g2 H2) I2 rm_str⟩)
      · exact p2.elim
    · exact p2.elim
  · simp only [RpM, Rp] at r1'
    obtain ⟨p', e1, s1⟩ := r1'
    split at p2
    · rename_i xs hm
      obtain ⟨vs, h0, h1⟩ := mcell I2 hm s1
      split at p2
      · rename_i d e
        obtain ⟨v, e2, h2⟩ := h1.atI e
        exact .inl ⟨p', vs, _, v, e1, b_int r2, .inl (.inl h0), e2, p2 v H2 g2 (.refl g2 H2) I2 h2⟩
      · exact p2.elim
    · exact p2.elim
  · exact p2.elim
end
end DL
set_option linter.all false
set_option Elab.async false
set_option maxRecDepth 100000
namespace DL
open PySem PySem.Spec PyProof.Rows L2
section
variable {T : Tb} {X : Cx} {Γ : Fls} {e a b c lo hi : Expr} {m m1 m2 m3 : Mo} {f f1 f2 f3 : S → R D} {pos p2 : Pos} {es rest : List Expr} {k1 k2 : S → R Bool} {fs : S → R (List D)}
/-! ### slices -/
def cutG {α : Type} (xs : List α) (lo hi : Option Int) : List α := (xs.drop (HT.sIx xs.length 0 lo)).take (HT.sIx xs.length xs.length hi - HT.sIx xs.length 0 lo)
theorem cutG_V (xs : List V) (lo hi : Option Int) : cutV xs lo hi = cutG xs lo hi := rfl
theorem cutG_map {α β : Type} (F : α → β) (xs : List α) (lo hi : Option Int) : cutG (xs.map F) lo hi = (cutG xs lo hi).map F := by
  unfold cutG
  rw [List.length_map, List.map_take, List.map_drop]
theorem Rps.cut {K : PySem.W.Frag} {g : Gh} {H : Hp} {ds : List D} {vs : List V} (h : Rps K T g H ds vs) (lo hi : Option Int) : Rps K T g H (cutG ds lo hi) (cutV vs lo hi) := by
  rw [cutG_V]
  unfold cutG
  rw [h.length]
  exact (h.drop _).take _
theorem Rps.ints {K : PySem.W.Frag} {g : Gh} {H : Hp} : ∀ ns : List Int, Rps K T g H (ns.map D.int) (ns.map V.int)
  | [] => Rps.nil
  | n :: ns => Rps.cons (by simp only [Rp]) (Rps.ints ns)
def slD : D → Option Int → Option Int → S → R D
  | .lst xs, lo, hi, s => .ok (.lst (cutG xs lo hi)) s
  | .scr xs, lo, hi, s => .ok (.lst ((cutG xs lo hi).map D.int)) s
  | .tup xs, lo, hi, s => .ok (.tup (cutG xs lo hi)) s
  | _, _, _, _ => .stuck
/-- a slice's part -/
def pNone : S → R (Option Int) := fun st => .ok none st
def pSome (f : S → R D) : S → R (Option Int) := fun st => (f st).bind fun d s => match d with
  | .int i => .ok (some i) s
  | _ => .stuck
def PostO (K : PySem.W.Frag) (T : Tb) (Γ : Fls) (σ : L2.St) (g : Gh) (H : Hp) (W : WX) (Q : Option Int → Hp → Prop) : R (Option Int) → Prop
  | .ok b st => ∀ H' g', QStep g H g' H' → SR K T Γ g' σ H' st → Q b H'
  | .raise e st => PostX K T σ g H W e st
  | .stuck => False
def to_ (K : PySem.W.Frag) (T : Tb) (Γ : Fls) (W : WX) (f : S → R (Option Int)) : TO := fun σ H Q => ∃ g st, SR K T Γ g σ H st ∧ PostO K T Γ σ g H W Q (f st)
theorem PostO.shift {K : PySem.W.Frag} {σ : L2.St} {g g' : Gh} {H H' : Hp} {W : WX} {Q : Option Int → Hp → Prop} {r : R (Option Int)} (s : QStep g H g' H') (h : PostO K T Γ σ g H W Q r) : PostO K T Γ σ g' H' W Q r := by
  cases r with
  | ok d st => exact fun H2 g2 s2 r2 => h H2 g2 (s.trans s2) r2
  | raise e st => exact PostX.shift s.toStep h
  | stuck => exact h
theorem ipO {K : PySem.W.Frag} {σ : L2.St} {W : WX} {Q : Option Int → Hp → Prop} : IsPost K T σ W (fun g H => PostO K T Γ σ g H W Q) := ⟨fun _ _ _ _ h => h, fun _ _ _ _ h => h, fun _ _ h => h, fun _ _ _ _ _ s h => h.shift s⟩
structure JO (T : Tb) (X : Cx) (Γ : Fls) (e : Option Expr) (f : S → R (Option Int)) : Prop where
  run : ∀ W, Takes X W → PO X e (to_ X.K T Γ W f)
theorem PO.imp {X : Cx} {e : Option Expr} {t t' : TO} (h : PO X e t) (i : ∀ σ H Q, t' σ H Q → t σ H Q) : PO X e t' := ⟨fun pins s σ H Q I q => h.run pins s σ H Q I (i σ H Q q)⟩
theorem jo_none : JO T X Γ none pNone := ⟨fun W tk => PO.imp po_none fun σ H Q ⟨g, st, I, p⟩ => p H g (.refl g H) I⟩
theorem jo_some (h : JE T X Γ e .b1 f) : JO T X Γ (some e) (pSome f) := by
  refine ⟨fun W tk => PO.imp (po_some (h.run W tk)) fun σ H Q ⟨g, st, I, p⟩ => ?_⟩
  refine te_bind ipO I p fun d s1 x H1 g1 q1 I1 r1 p1 => ?_
  split at p1
  · exact ⟨_, b_int r1, p1 H1 g1 (.refl g1 H1) I1⟩
  · exact p1.elim
def eSl (f : S → R D) (l h : S → R (Option Int)) : S → R D := fun st => (f st).bind fun d s => (l s).bind fun i s1 => (h s1).bind fun j s2 => slD d i j s2
theorem to_bind {K : PySem.W.Frag} {σ : L2.St} {g : Gh} {H : Hp} {st : S} {W : WX} {α : Type} {P : Gh → Hp → R α → Prop} {f : S → R (Option Int)} {k : Option Int → S → R α} {Q : Option Int → Hp → Prop} (ip : IsPost K T σ W P) (I : SR K T Γ g σ H st) (h : P g H ((f st).bind k))
    (hk : ∀ b st' H' g', QStep g H g' H' → SR K T Γ g' σ H' st' → P g' H' (k b st') → Q b H') : to_ K T Γ W f σ H Q := by
  refine ⟨g, st, I, ?_⟩
  cases e : f st with
  | ok d st' =>
    rw [e] at h
    exact fun H' g' s r => hk d st' H' g' s r (ip.sh _ _ _ _ _ s h)
  | raise ex st' =>
    rw [e] at h
    exact ip.px _ _ _ _ h
  | stuck =>
    rw [e] at h
    exact ip.ps g H h
theorem je_sl {lo hi : Option Expr} {fl fh : S → R (Option Int)} (ha : JE T X Γ a .b1 f) (hl : JO T X Γ lo fl) (hh : JO T X Γ hi fh) : JE T X Γ (.Subscript a (.Slice lo hi none p2) pos) .f1 (eSl f fl fh) := by
  refine ⟨fun W tk => PE.imp (pe_slice ((sl_list (X := X)).or sl_tupA) (ha.run W tk) (hl.run W tk) (hh.run W tk)) fun σ H Q ⟨g, st, I, p⟩ => ?_⟩
  refine te_bind ipE I p fun d s1 x H1 g1 q1 I1 r1 p1 => to_bind ipE I1 p1 fun i s2 H2 g2 q2 I2 p2 => to_bind ipE I2 p2 fun j s3 H3 g3 q3 I3 p3 => ?_
  have r3 := (r1.step I1.wf I2.wf q2).step I2.wf I3.wf q3
  unfold slD at p3
  split at p3
  · obtain ⟨ad, vs, e1, h1, _, h2⟩ := b_lst r3
    exact .inl ⟨ad, vs, e1, .inl (.inl h1), fun p' hp => post_lst I3 (h2.cut i j) hp p3⟩
  · simp only [RpM, Rp] at r3
    obtain ⟨ad, e1, h1⟩ := r3
    refine .inl ⟨ad, _, e1, h1.sq, fun p' hp => ?_⟩
    rw [cutG_V, cutG_map]
    exact post_lst I3 (Rps.ints _) hp p3
  · obtain ⟨ad, vs, e1, h1, h2⟩ := b_tup r3
    refine .inr ⟨ad, vs, e1, h1, fun hw => ?_, fun _ p' hp => post_tup1 I3 (h2.cut i j) hp p3⟩
    subst e1
    refine post_v I3 p3 ?_
    simp only [RpM, Rp]
    refine ⟨ad, vs, rfl, h1, ?_⟩
    have z := h2.cut i j
    have e0 : cutV vs i j = vs := by
      rw [cutG_V]
      unfold cutG
      rw [hw.1, hw.2]
      simp
    rw [e0] at z
    exact z
  · exact p3.elim
/-! ### built-ins of one place -/
structure Bi1 (X : Cx) (T : Tb) (u : Value) (m1 m : Mo) (o : D → S → R D) : Prop where
  ex : ∃ r : List V → Hp → VK → Prop, CallR X u r ∧ ∀ (Γ : Fls) g σ H st W (Q : VK) x d H0, SR X.K T Γ g σ H st → RpM X.K T g H0 H m1 d x → PostE X.K T Γ σ g H m W Q (o d st) → r [x] H Q
theorem je_bi {x : Str} {p : Pos} {id : String} {o : D → S → R D} (h : Bi1 X T (.builtin id) m1 m o) (hg : Gl X x) (hm : X.mg x = none) (ha : JE T X Γ e m1 f) (hv : bootBuiltins x = some (.builtin id) := by decide +kernel) (hn : x ≠ "__name__" := by decide) (hdb : (x == ("__debug__" : Str)) = false := by decide)
    (he : starEach [e] X.env = (false, eval e X.env) :: starEach [] X.env := by rfl) (hpl : (backTo pos (starEach [] X.env)).any (·.1) = false := by rfl) : JE T X Γ (.Call (.Name x p) [e] [] pos) m (e1 o f) := by
  obtain ⟨r, hc, key⟩ := h.ex
  refine ⟨fun W tk => PE.imp (pe_callB hc hg hm hv (pa_cons (ha.run W tk) pa_nil he) hn hdb he hpl) fun σ H Q ⟨g, st, I, p⟩ => ?_⟩
  exact te_bind ipE I p fun d1 s1 x H1 g1 q1 I1 r1 p1 => key Γ g1 σ H1 s1 W Q x d1 H I1 r1 p1
theorem je_bty {x : Str} {p : Pos} {id : String} {o : D → S → R D} (h : Bi1 X T (.type id) m1 m o) (hg : Gl X x) (hm : X.mg x = none) (ha : JE T X Γ e m1 f) (hv : bootBuiltins x = some (.type id) := by decide +kernel) (hn : x ≠ "__name__" := by decide) (hdb : (x == ("__debug__" : Str)) = false := by decide)
    (he : starEach [e] X.env = (false, eval e X.env) :: starEach [] X.env := by rfl) (hpl : (backTo pos (starEach [] X.env)).any (·.1) = false := by rfl) : JE T X Γ (.Call (.Name x p) [e] [] pos) m (e1 o f) := by
  obtain ⟨r, hc, key⟩ := h.ex
  refine ⟨fun W tk => PE.imp (pe_callTy hc hg hm hv (pa_cons (ha.run W tk) pa_nil he) hn hdb he hpl) fun σ H Q ⟨g, st, I, p⟩ => ?_⟩
  exact te_bind ipE I p fun d1 s1 x H1 g1 q1 I1 r1 p1 => key Γ g1 σ H1 s1 W Q x d1 H I1 r1 p1
theorem CallR.or {u : Value} {r r' : List V → Hp → VK → Prop} (h : CallR X u r) (h' : CallR X u r') : CallR X u (fun xs H Q => r xs H Q ∨ r' xs H Q) := by
  intro pins s σ H xs us Q I rx q
  rcases q with q | q
  · exact h pins s σ H xs us Q I rx q
  · exact h' pins s σ H xs us Q I rx q
def lenD : D → S → R D
  | .lst xs, s => .ok (.int xs.length) s
  | .tup xs, s => .ok (.int xs.length) s
  | .scr xs, s => .ok (.int xs.length) s
  | .str x, s => if x.length ≤ sizeLine then .ok (.int x.length) s else .stuck
  | _, _ => .stuck
theorem bi_len : Bi1 X T (.builtin "len") .b1 .sh lenD := by
  refine ⟨_, CallR.or (call_len_seq (X := X)) call_len_str, fun Γ g σ H st W Q x d H0 I r p => ?_⟩
  unfold lenD at p
  split at p
  · obtain ⟨ad, vs, e1, h1, _, h2⟩ := b_lst r
    subst e1
    exact .inl ⟨ad, vs, rfl, .inl (.inl (.inl h1)), by rw [h2.length]; exact post_v I p rm_int⟩
  · obtain ⟨ad, vs, e1, h1, h2⟩ := b_tup r
    subst e1
    exact .inl ⟨ad, vs, rfl, .inr h1, by rw [h2.length]; exact post_v I p rm_int⟩
  · simp only [RpM, Rp] at r
    obtain ⟨ad, e1, h1⟩ := r
    subst e1
    exact .inl ⟨ad, _, rfl, .inl h1.sq, by rw [List.length_map]; exact post_v I p rm_int⟩
  · have e1 := b_str r
    subst e1
    split at p
    · exact .inr ⟨_, rfl, by assumption, post_v I p rm_int⟩
    · exact p.elim
  · exact p.elim
def absD : D → S → R D
  | .int i, s => .ok (.int (if i < 0 then -i else i)) s
  | _, _ => .stuck
theorem bi_abs : Bi1 X T (.builtin "abs") .b1 .sh absD := by
  refine ⟨_, call_abs (X := X), fun Γ g σ H st W Q x d H0 I r p => ?_⟩
  unfold absD at p
  split at p
  · have e1 := b_int r
    subst e1
    exact ⟨_, rfl, post_v I p rm_int⟩
  · exact p.elim
def intD : D → S → R D
  | .int i, s => .ok (.int i) s
  | .bl k, s => .ok (.int (if k then 1 else 0)) s
  | _, _ => .stuck
theorem bi_int : Bi1 X T (.type "int") .b1 .sh intD := by
  refine ⟨_, call_int1 (X := X), fun Γ g σ H st W Q x d H0 I r p => ?_⟩
  unfold intD at p
  split at p
  · have e1 := b_int r
    subst e1
    exact .inl ⟨_, rfl, post_v I p rm_int⟩
  · have e1 := b_bl r
    subst e1
    exact .inr ⟨_, rfl, post_v I p rm_int⟩
  · exact p.elim
def tupleD : D → S → R D
  | .lst xs, s => .ok (.tup xs) s
  | .tup xs, s => .ok (.tup xs) s
  | _, _ => .stuck
theorem bi_tuple : Bi1 X T (.type "tuple") .b1 .sh tupleD := by
  refine ⟨_, call_tuple_of (X := X), fun Γ g σ H st W Q x d H0 I r p => ?_⟩
  unfold tupleD at p
  split at p
  · obtain ⟨ad, vs, e1, h1, _, h2⟩ := b_lst r
    subst e1
    exact ⟨ad, vs, rfl, .inl ⟨.inl (.inl h1), fun l hl => post_tup I h2 hl p⟩⟩
  · obtain ⟨ad, vs, e1, h1, h2⟩ := b_tup r
    subst e1
    exact ⟨ad, vs, rfl, .inr ⟨h1, post_v I p r⟩⟩
  · exact p.elim
def listD : D → S → R D
  | .lst xs, s => .ok (.lst xs) s
  | .tup xs, s => .ok (.lst xs) s
  | .scr xs, s => .ok (.lst (xs.map D.int)) s
  | _, _ => .stuck
theorem bi_list : Bi1 X T (.type "list") .b1 .f1 listD := by
  refine ⟨_, call_list_of (X := X), fun Γ g σ H st W Q x d H0 I r p => ?_⟩
  unfold listD at p
  split at p
  · obtain ⟨ad, vs, e1, h1, _, h2⟩ := b_lst r
    subst e1
    exact ⟨ad, vs, rfl, .inl (.inl (.inl h1)), fun l hl => post_lst I h2 hl p⟩
  · obtain ⟨ad, vs, e1, h1, h2⟩ := b_tup r
    subst e1
    exact ⟨ad, vs, rfl, .inr h1, fun l hl => post_lst I h2 hl p⟩
  · simp only [RpM, Rp] at r
    obtain ⟨ad, e1, h1⟩ := r
    subst e1
    exact ⟨ad, _, rfl, .inl h1.sq, fun l hl => post_lst I (Rps.ints _) hl p⟩
  · exact p.elim
/-- a list of bools -/
def blsD : List D → Option (List Bool)
  | [] => some []
  | .bl b :: r => (blsD r).map (b :: ·)
  | _ :: _ => none
theorem bls_of {K : PySem.W.Frag} {g : Gh} {H : Hp} : ∀ {ds : List D} {vs : List V} {bs : List Bool}, Rps K T g H ds vs → blsD ds = some bs → vs = bs.map V.bl
  | [], vs, bs, h, e => by
    simp only [Rps] at h
    cases e
    exact h
  | d :: ds, vs, bs, h, e => by
    simp only [Rps] at h
    obtain ⟨v, r, e1, h1, h2⟩ := h
    cases d with
    | bl b =>
      simp only [blsD] at e
      cases q : blsD ds with
      | none => rw [q] at e; cases e
      | some l =>
        rw [q] at e
        cases e
        simp only [Rp] at h1
        rw [e1, h1, bls_of h2 q]
        rfl
    | _ => cases e
def allD : D → S → R D
  | .lst xs, s => (match blsD xs with
    | some bs => .ok (.bl (bs.all id)) s
    | none => .stuck)
  | _, _ => .stuck
def anyD : D → S → R D
  | .lst xs, s => (match blsD xs with
    | some bs => .ok (.bl (bs.any id)) s
    | none => .stuck)
  | _, _ => .stuck
theorem bi_all (hc : X.calm = true) : Bi1 X T (.builtin "all") .b1 .sh allD := by
  refine ⟨_, cr_all (X := X) hc, fun Γ g σ H st W Q x d H0 I r p => ?_⟩
  unfold allD at p
  split at p
  · split at p
    · rename_i bs e
      obtain ⟨ad, vs, e1, h1, _, h2⟩ := b_lst r
      subst e1
      rw [bls_of h2 e] at h1
      exact ⟨ad, bs, rfl, .inl (.inl h1), post_v I p rm_bl⟩
    · exact p.elim
  · exact p.elim
theorem bi_any (hc : X.calm = true) : Bi1 X T (.builtin "any") .b1 .sh anyD := by
  refine ⟨_, cr_any (X := X) hc, fun Γ g σ H st W Q x d H0 I r p => ?_⟩
  unfold anyD at p
  split at p
  · split at p
    · rename_i bs e
      obtain ⟨ad, vs, e1, h1, _, h2⟩ := b_lst r
      subst e1
      rw [bls_of h2 e] at h1
      exact ⟨ad, bs, rfl, .inl (.inl h1), post_v I p rm_bl⟩
    · exact p.elim
  · exact p.elim
/-! ### built-ins of several places -/
structure BiN (X : Cx) (T : Tb) (u : Value) (m : Mo) (o : List D → S → R D) : Prop where
  ex : ∃ r : List V → Hp → VK → Prop, CallR X u r ∧ ∀ (Γ : Fls) g σ H st W (Q : VK) xs ds, SR X.K T Γ g σ H st → Rps X.K T g H ds xs → PostE X.K T Γ σ g H m W Q (o ds st) → r xs H Q
def eBi (o : List D → S → R D) (fs : S → R (List D)) : S → R D := fun st => (fs st).bind o
theorem je_biN {x : Str} {p : Pos} {id : String} {o : List D → S → R D} (h : BiN X T (.builtin id) m o) (hg : Gl X x) (hm : X.mg x = none) (ha : JA T X Γ (e :: es) fs) (hv : bootBuiltins x = some (.builtin id) := by decide +kernel) (hn : x ≠ "__name__" := by decide) (hdb : (x == ("__debug__" : Str)) = false := by decide)
    (he : starEach (e :: es) X.env = (false, eval e X.env) :: starEach es X.env := by rfl) (hpl : (backTo pos (starEach es X.env)).any (·.1) = false := by rfl) : JE T X Γ (.Call (.Name x p) (e :: es) [] pos) m (eBi o fs) := by
  obtain ⟨r, hc, key⟩ := h.ex
  refine ⟨fun W tk => PE.imp (pe_callB hc hg hm hv (ha.run W tk) hn hdb he hpl) fun σ H Q ⟨g, st, I, p⟩ => ?_⟩
  exact ta_bind ipE I p fun ds s1 xs H1 g1 q1 I1 r1 p1 => key Γ g1 σ H1 s1 W Q xs ds I1 r1 p1
/-- a built-in function of a module -/
theorem je_biM {x : Str} {p : Pos} {id : String} {o : List D → S → R D} (h : BiN X T (.builtin id) m o) (hg : Gl X x) (hm : X.mg x = some (.builtin id)) (ha : JA T X Γ (e :: es) fs) (hdb : (x == ("__debug__" : Str)) = false := by decide)
    (he : starEach (e :: es) X.env = (false, eval e X.env) :: starEach es X.env := by rfl) (hpl : (backTo pos (starEach es X.env)).any (·.1) = false := by rfl) : JE T X Γ (.Call (.Name x p) (e :: es) [] pos) m (eBi o fs) := by
  obtain ⟨r, hc, key⟩ := h.ex
  refine ⟨fun W tk => PE.imp (pe_callBfun hc hg hm (ha.run W tk) hdb he hpl) fun σ H Q ⟨g, st, I, p⟩ => ?_⟩
  exact ta_bind ipE I p fun ds s1 xs H1 g1 q1 I1 r1 p1 => key Γ g1 σ H1 s1 W Q xs ds I1 r1 p1
theorem rps2 {K : PySem.W.Frag} {g : Gh} {H : Hp} {i j : Int} {vs : List V} (h : Rps K T g H [.int i, .int j] vs) : vs = [.int i, .int j] := by
  simp only [Rps, Rp] at h
  obtain ⟨v, r, e1, h1, v2, r2, e2, h2, h3⟩ := h
  rw [e1, h1, e2, h2, h3]
def gcdD : List D → S → R D
  | [.int i, .int j], s => .ok (.int (Nat.gcd i.natAbs j.natAbs : Nat)) s
  | _, _ => .stuck
theorem bi_gcd : BiN X T (.builtin "math.gcd") .sh gcdD := by
  refine ⟨_, cr_gcd (X := X), fun Γ g σ H st W Q xs ds I r p => ?_⟩
  unfold gcdD at p
  split at p
  · exact ⟨_, _, rps2 r, post_v I p rm_int⟩
  · exact p.elim
def max2D : List D → S → R D
  | [.int i, .int j], s => .ok (.int (if j > i then j else i)) s
  | _, _ => .stuck
theorem bi_max2 (hc : X.calm = true) : BiN X T (.builtin "max") .sh max2D := by
  refine ⟨_, call_max2 (X := X) hc, fun Γ g σ H st W Q xs ds I r p => ?_⟩
  unfold max2D at p
  split at p
  · exact ⟨_, _, rps2 r, post_v I p rm_int⟩
  · exact p.elim
/-! ### isinstance -/
inductive Ty where
  | int | bool | str | list | tuple
def Ty.nm : Ty → String
  | .int => "int"
  | .bool => "bool"
  | .str => "str"
  | .list => "list"
  | .tuple => "tuple"
def tyD : D → Option String
  | .non => some "NoneType"
  | .bl _ => some "bool"
  | .int _ => some "int"
  | .str _ => some "str"
  | .tup _ => some "tuple"
  | .lst _ => some "list"
  | .scr _ => some "list"
  | _ => none
def isTy : Ty → D → Option Bool
  | .int, .int _ => some true
  | .int, .bl _ => some true
  | .bool, .bl _ => some true
  | .str, .str _ => some true
  | .list, .lst _ => some true
  | .list, .scr _ => some true
  | .tuple, .tup _ => some true
  | _, .fn _ => none
  | _, .ref _ => none
  | _, .pt _ => none
  | _, _ => some false
theorem isTy_kit {t : Ty} {d : D} {k : Bool} (h : isTy t d = some k) : ∃ s, tyD d = some s ∧ kitB s t.nm = some k := by
  cases t <;> cases d <;> first
    | (cases h; done)
    | (cases h; exact ⟨_, rfl, by decide +kernel⟩)
theorem tyX_of {K : PySem.W.Frag} {g : Gh} {H0 H : Hp} {d : D} {v : V} {s : String} (r : RpM K T g H0 H .b1 d v) (h : tyD d = some s) : TyX K H v (.type s) := by
  cases d with
  | non => cases h; rw [b_non r]; exact .base .non
  | bl b => cases h; rw [b_bl r]; exact .base (.bl _)
  | int b => cases h; rw [b_int r]; exact .base (.int _)
  | str b => cases h; rw [b_str r]; exact .base (.str _)
  | tup ds =>
    cases h
    obtain ⟨ad, vs, e1, h1, _⟩ := b_tup r
    rw [e1]
    rcases h1 with (h1 | ⟨o, h1⟩) | ⟨o, its, n, h1, h2, _⟩
    · exact .base (.tup h1)
    · exact .fTuple h1
    · exact .kTuple h1 h2
  | lst ds =>
    cases h
    obtain ⟨ad, vs, e1, h1, _⟩ := b_lst r
    rw [e1]
    exact .base (.lst h1)
  | scr ds =>
    cases h
    simp only [RpM, Rp] at r
    obtain ⟨ad, e1, h1⟩ := r
    rw [e1]
    rcases h1 with ⟨_, h1⟩ | ⟨o, h1⟩ | ⟨o, its, n, h1, h2, _⟩
    · exact .base (.lst h1)
    · exact .base (.frz h1)
    · exact .kList h1 h2
  | fn _ => cases h
  | pt _ => cases h
  | ref _ => cases h
def isiD (t : Ty) : D → S → R D := fun d s => match isTy t d with
  | some k => .ok (.bl k) s
  | none => .stuck
def isi2D (t t' : Ty) : D → S → R D := fun d s => match isTy t d, isTy t' d with
  | some k, some k' => .ok (.bl (k || k')) s
  | _, _ => .stuck
theorem je_isi (t : Ty) {x : Str} {p p2 : Pos} (hg : Gl X x) (hm : X.mg x = none) (hg' : Gl X (.ofString t.nm)) (hm' : X.mg (.ofString t.nm) = none) (ha : JE T X Γ e .b1 f) (hx : x = "isinstance" := by rfl) (hv' : bootBuiltins (.ofString t.nm) = some (.type t.nm) := by decide +kernel)
    (hn : (.ofString t.nm : Str) ≠ "__name__" := by decide) (hdb : ((.ofString t.nm : Str) == ("__debug__" : Str)) = false := by decide)
    (he : starEach [e, .Name (.ofString t.nm) p2] X.env = (false, eval e X.env) :: starEach [.Name (.ofString t.nm) p2] X.env := by rfl) (he2 : starEach [.Name (.ofString t.nm) p2] X.env = (false, eval (.Name (.ofString t.nm) p2) X.env) :: starEach [] X.env := by rfl) (hpl : (backTo pos (starEach [.Name (.ofString t.nm) p2] X.env)).any (·.1) = false := by rfl) :
    JE T X Γ (.Call (.Name x p) [e, .Name (.ofString t.nm) p2] [] pos) .sh (e1 (isiD t) f) := by
  subst hx
  refine ⟨fun W tk => PE.imp (pe_callB call_isi hg hm (by decide +kernel) (pa_cons (ha.run W tk) (pa_cons (pe_bltn (v := .ty t.nm) hg' hm' hv' rfl hn hdb) pa_nil he2) he) (by decide) (by decide) he hpl) fun σ H Q ⟨g, st, I, p⟩ => ?_⟩
  refine te_bind ipE I p fun d1 s1 x H1 g1 q1 I1 r1 p1 => ?_
  unfold isiD at p1
  split at p1
  · rename_i k e
    obtain ⟨s, h1, h2⟩ := isTy_kit e
    exact ⟨x, .ty t.nm, .type s, .type t.nm, k, rfl, .ty _, tyX_of r1 h1, kit_ty h2, post_v I1 p1 rm_bl⟩
  · exact p1.elim
theorem je_isi2 (t t' : Ty) {x : Str} {p p2 p3 p4 : Pos} {kk : Nat} (hg : Gl X x) (hm : X.mg x = none) (hg' : Gl X (.ofString t.nm)) (hm' : X.mg (.ofString t.nm) = none) (hg2 : Gl X (.ofString t'.nm)) (hm2 : X.mg (.ofString t'.nm) = none) (ha : JE T X Γ e .b1 f) (hx : x = "isinstance" := by rfl)
    (hv' : bootBuiltins (.ofString t.nm) = some (.type t.nm) := by decide +kernel) (hv2 : bootBuiltins (.ofString t'.nm) = some (.type t'.nm) := by decide +kernel) (hn : (.ofString t.nm : Str) ≠ "__name__" := by decide) (hdb : ((.ofString t.nm : Str) == ("__debug__" : Str)) = false := by decide) (hn2 : (.ofString t'.nm : Str) ≠ "__name__" := by decide) (hdb2 : ((.ofString t'.nm : Str) == ("__debug__" : Str)) = false := by decide)
    (he : starEach [e, .Tuple [.Name (.ofString t.nm) p2, .Name (.ofString t'.nm) p3] kk p4] X.env = (false, eval e X.env) :: starEach [.Tuple [.Name (.ofString t.nm) p2, .Name (.ofString t'.nm) p3] kk p4] X.env := by rfl)
    (he2 : starEach [.Tuple [.Name (.ofString t.nm) p2, .Name (.ofString t'.nm) p3] kk p4] X.env = (false, eval (.Tuple [.Name (.ofString t.nm) p2, .Name (.ofString t'.nm) p3] kk p4) X.env) :: starEach [] X.env := by rfl)
    (he3 : starEach [.Name (.ofString t.nm) p2, .Name (.ofString t'.nm) p3] X.env = (false, eval (.Name (.ofString t.nm) p2) X.env) :: starEach [.Name (.ofString t'.nm) p3] X.env := by rfl) (he4 : starEach [.Name (.ofString t'.nm) p3] X.env = (false, eval (.Name (.ofString t'.nm) p3) X.env) :: starEach [] X.env := by rfl)
    (hpl : (backTo pos (starEach [.Tuple [.Name (.ofString t.nm) p2, .Name (.ofString t'.nm) p3] kk p4] X.env)).any (·.1) = false := by rfl) :
    JE T X Γ (.Call (.Name x p) [e, .Tuple [.Name (.ofString t.nm) p2, .Name (.ofString t'.nm) p3] kk p4] [] pos) .sh (e1 (isi2D t t') f) := by
  subst hx
  refine ⟨fun W tk => PE.imp (pe_callB call_isiT hg hm (by decide +kernel) (pa_cons (ha.run W tk) (pa_cons (pe_tup (pa_cons (pe_bltn (v := .ty t.nm) hg' hm' hv' rfl hn hdb) (pa_cons (pe_bltn (v := .ty t'.nm) hg2 hm2 hv2 rfl hn2 hdb2) pa_nil he4) he3)) pa_nil he2) he) (by decide) (by decide) he hpl) fun σ H Q ⟨g, st, I, p⟩ => ?_⟩
  refine te_bind ipE I p fun d1 s1 x H1 g1 q1 I1 r1 p1 => ?_
  refine ⟨by show 2 ≤ sizeLine; decide, fun tp hp => ?_⟩
  unfold isi2D at p1
  split at p1
  · rename_i k k' e e'
    obtain ⟨s, h1, h2⟩ := isTy_kit e
    obtain ⟨s', h1', h2'⟩ := isTy_kit e'
    have es : s' = s := Option.some.inj (h1'.symm.trans h1)
    subst es
    have I2 := I1.new (o := .tup [V.ty t.nm, V.ty t'.nm]) hp
    have qs : QStep g1 H1 g1 (upd H1 tp (.tup [V.ty t.nm, V.ty t'.nm])) := ⟨.new hp, rfl, fun i b hb => by
      obtain ⟨o, eo, _⟩ := I1.wf.ot b (.inl ⟨i, hb⟩)
      rw [upd_ne (ne_of_none eo hp)]⟩
    have ty := tyX_of (r1.step I1.wf I2.wf qs) h1
    refine ⟨x, tp, [.ty t.nm, .ty t'.nm], .type s', [.type t.nm, .type t'.nm], k || k', rfl, upd_same, .cons (.ty _) (.cons (.ty _) .nil), ty, ?_, post_v I2 (p1.shift qs) rm_bl⟩
    exact kitAny_cons (kit_ty h2) (fun hk => kitAny_cons (kit_ty h2') (fun hk' => by rw [hk, hk']; exact kitAny_nil) (fun hk' => by rw [hk, hk']; rfl)) (fun hk => by rw [hk]; rfl)
  · exact p1.elim
end
end DL
set_option linter.all false
set_option Elab.async false
set_option maxRecDepth 100000
namespace DL
open PySem PySem.Spec PyProof.Rows L2
/-! ### targets -/
inductive Tg where
  | one (i : Nat) | many (is : List Nat) | manyL (is : List Nat)
def setL : List Nat → List D → List (Option D) → List (Option D)
  | i :: is, d :: ds, r => setL is ds (r.set i (some d))
  | _, _, r => r
def setV : List Nat → List V → L2.St → L2.St
  | i :: is, v :: vs, r => setV is vs (r.set i (some v))
  | _, _, r => r
def asgD : Tg → D → S → Option S
  | .one i, d, s => some { s with r := s.r.set i (some d) }
  | .many is, .tup ds, s => if ds.length = is.length then some { s with r := setL is ds s.r } else none
  | .manyL is, .lst ds, s => if ds.length = is.length then some { s with r := setL is ds s.r } else none
  | _, _, _ => none
def Tg.vs : Tg → List Nat
  | .one i => [i]
  | .many is => is
  | .manyL is => is
section
variable {K : PySem.W.Frag} {T : Tb} {g : Gh} {H : Hp} {Γ : Fls} {σ : L2.St} {st : S}
theorem SR.set (I : SR K T Γ g σ H st) {i : Nat} {d : D} {v : V} (hf : fl Γ i = .sh) (r : Rp K T g H d v) : SR K T Γ g (σ.set i (some v)) H { st with r := st.r.set i (some d) } where
  wf := I.wf
  len := by simpa using I.len
  sl := fun j hj => by
    have hj' : j < σ.length := by simpa using hj
    by_cases h : i = j
    · subst h
      rw [List.getD_eq_getElem?_getD, List.getElem?_set_self hj', List.getD_eq_getElem?_getD, List.getElem?_set_self (by rw [← I.len]; exact hj'), hf]
      exact r
    · rw [List.getD_eq_getElem?_getD, List.getElem?_set_ne h, List.getD_eq_getElem?_getD, List.getElem?_set_ne h, ← List.getD_eq_getElem?_getD, ← List.getD_eq_getElem?_getD]
      exact I.sl j hj'
  me := I.me
end
theorem SR.setL {K : PySem.W.Frag} {T : Tb} {g : Gh} {H : Hp} {Γ : Fls} : ∀ {is : List Nat} {ds : List D} {vs : List V} {τ : L2.St} {su : S}, SR K T Γ g τ H su → (∀ i ∈ is, fl Γ i = .sh) → Rps K T g H ds vs → SR K T Γ g (setV is vs τ) H { su with r := DL.setL is ds su.r }
  | [], _, _, _, _, I, _, _ => I
  | i :: is, [], vs, τ, su, I, _, r => by
    simp only [Rps] at r
    subst r
    exact I
  | i :: is, d :: ds, vs, τ, su, I, hf, r => by
    simp only [Rps] at r
    obtain ⟨v, r', e, h1, h2⟩ := r
    subst e
    exact SR.setL (is := is) (ds := ds) (vs := r') (τ := τ.set i (some v)) (su := { su with r := su.r.set i (some d) }) (I.set (hf i List.mem_cons_self) h1) (fun j hj => hf j (List.mem_cons_of_mem _ hj)) h2
/-- a target's reading -/
def tgR (K : PySem.W.Frag) (T : Tb) (t : Tg) : TG := fun v σ H Q => match t with
  | .one i => Q (σ.set i (some v)) H
  | .many is => ∃ a vs, v = .ref a ∧ SqT K H a vs ∧ vs.length = is.length ∧ Q (setV is vs σ) H
  | .manyL is => ∃ a vs, v = .ref a ∧ SqL K H a vs ∧ vs.length = is.length ∧ Q (setV is vs σ) H
structure JG (T : Tb) (X : Cx) (tg : Expr) (t : Tg) : Prop where
  run : PG X tg (tgR X.K T t)
structure JGs (X : Cx) (es : List Expr) (is : List Nat) : Prop where
  run : PGs X es (fun vs σ H Q => vs.length = is.length ∧ Q (setV is vs σ) H)
theorem PG.imp {X : Cx} {e : Expr} {t t' : TG} (h : PG X e t) (i : ∀ v σ H Q, t' v σ H Q → t v σ H Q) : PG X e t' := ⟨fun pins s σ H v u Q I r q => h.run pins s σ H v u Q I r (i v σ H Q q)⟩
theorem PGs.imp {X : Cx} {e : List Expr} {t t' : TGs} (h : PGs X e t) (i : ∀ v σ H Q, t' v σ H Q → t v σ H Q) : PGs X e t' := ⟨fun pins s σ H v u Q I r q => h.run pins s σ H v u Q I r (i v σ H Q q)⟩
section
variable {T : Tb} {X : Cx} {Γ : Fls} {e a b c : Expr} {m m1 m2 m3 : Mo} {f f1 f2 f3 : S → R D} {pos p2 : Pos} {es rest : List Expr} {k1 k2 : S → R Bool} {fs : S → R (List D)} {is : List Nat}
theorem jg_one (i : Nat) {x : Str} (hN : X.N.Nodup) (hi : X.N[i]? = some x := by rfl) (hx : Loc X.env.scope x := by first | exact Or.inl rfl | exact Or.inr rfl) (hf : X.fn x = true ∨ X.env.scope.names.lookup x = some .local := by first | exact .inl rfl | exact .inr rfl | assumption) : JG T X (.Name x pos) (.one i) := ⟨pg_name hN hi hx hf⟩
theorem jgs_nil : JGs X [] [] := ⟨PGs.imp pgs_nil fun vs σ H Q h => ⟨List.eq_nil_of_length_eq_zero h.1, by
  have := List.eq_nil_of_length_eq_zero h.1
  subst this
  exact h.2⟩⟩
theorem jgs_cons (i : Nat) {x : Str} (hN : X.N.Nodup) (h2 : JGs X es is) (hi : X.N[i]? = some x := by rfl) (hx : Loc X.env.scope x := by first | exact Or.inl rfl | exact Or.inr rfl) (hf : X.fn x = true ∨ X.env.scope.names.lookup x = some .local := by first | exact .inl rfl | exact .inr rfl | assumption)
    (hs : (assignEach (.Name x pos :: es) X.env).map (·.2) = assign (.Name x pos) X.env :: (assignEach es X.env).map (·.2) := by rfl) : JGs X (.Name x pos :: es) (i :: is) := by
  refine ⟨PGs.imp (pgs_cons (pg_name hN hi hx hf) h2.run hs) fun vs σ H Q h => ?_⟩
  obtain ⟨hl, q⟩ := h
  cases vs with
  | nil => cases hl
  | cons v r => exact ⟨v, r, rfl, by simpa using hl, q⟩
theorem jg_many {k : Nat} (hc : X.calm = true) (h : JGs X es is) (hn : (assignEach es X.env).length = is.length := by rfl) (hst : (assignEach es X.env).findIdx? (·.1) = none := by rfl) : JG T X (.Tuple es k pos) (.many is) :=
  ⟨PG.imp (pg_tup hc h.run hn hst) fun v σ H Q ⟨a, vs, e, q, hl, hq⟩ => ⟨a, vs, e, q, hl, hl, hq⟩⟩
theorem jg_manyL {k : Nat} (hc : X.calm = true) (h : JGs X es is) (hn : (assignEach es X.env).length = is.length := by rfl) (hst : (assignEach es X.env).findIdx? (·.1) = none := by rfl) : JG T X (.Tuple es k pos) (.manyL is) :=
  ⟨PG.imp (pg_unl hc h.run hn hst) fun v σ H Q ⟨a, vs, e, q, hl, hq⟩ => ⟨a, vs, e, q, hl, hl, hq⟩⟩
/-- the reading of a target from its D-semantics -/
theorem tgR_of {K : PySem.W.Frag} {g : Gh} {σ : L2.St} {H : Hp} {st st' : S} {t : Tg} {d : D} {v : V} {Q : L2.St → Hp → Prop} (I : SR K T Γ g σ H st) (r : Rp K T g H d v) (hf : ∀ i ∈ t.vs, fl Γ i = .sh) (e : asgD t d st = some st')
    (h : ∀ σ', SR K T Γ g σ' H st' → (∀ vs, (∀ i ∈ t.vs, i ∈ vs) → wipe σ' vs = wipe σ vs) → Q σ' H) : tgR K T t v σ H Q := by
  have wip : ∀ (is : List Nat) (vs : List V) (σ : L2.St) (ws : List Nat), (∀ i ∈ is, i ∈ ws) → wipe (setV is vs σ) ws = wipe σ ws := by
    have one : ∀ (ws : List Nat) (σ : L2.St) (i : Nat) (v : V), i ∈ ws → wipe (σ.set i (some v)) ws = wipe σ ws := by
      intro ws
      induction ws with
      | nil => intro σ i v h; cases h
      | cons w ws ih =>
        intro σ i v h
        show (wipe (σ.set i (some v)) ws).set w none = (wipe σ ws).set w none
        by_cases hm : i ∈ ws
        · rw [ih σ i v hm]
        · have hw : i = w := by
            rcases List.mem_cons.mp h with z | z
            · exact z
            · exact absurd z hm
          subst hw
          have comm : ∀ (us : List Nat) (τ : L2.St), i ∉ us → wipe (τ.set i (some v)) us = (wipe τ us).set i (some v) := by
            intro us
            induction us with
            | nil => intro τ _; rfl
            | cons u us ihu =>
              intro τ hu
              show (wipe (τ.set i (some v)) us).set u none = ((wipe τ us).set u none).set i (some v)
              rw [ihu τ fun z => hu (List.mem_cons_of_mem _ z), List.set_comm]
              intro z
              exact hu (by rw [z]; exact List.mem_cons_self)
          rw [comm ws σ hm, List.set_set]
    intro is
    induction is with
    | nil => intro vs σ ws _; rfl
    | cons i is ih =>
      intro vs σ ws h
      cases vs with
      | nil => rfl
      | cons v vs =>
        show wipe (setV is vs (σ.set i (some v))) ws = _
        rw [ih vs _ ws fun j hj => h j (List.mem_cons_of_mem _ hj), one ws σ i v (h i List.mem_cons_self)]
  cases t with
  | one i =>
    cases e
    exact h _ (I.set (hf i List.mem_cons_self) r) fun ws hw => wip [i] [v] σ ws hw
  | many is =>
    cases d with
    | tup ds =>
      simp only [asgD] at e
      split at e
      · rename_i hl
        cases e
        simp only [Rp] at r
        obtain ⟨a, vs, e1, h1, h2⟩ := r
        exact ⟨a, vs, e1, h1, h2.length.trans hl, h _ (I.setL hf h2) fun ws hw => wip is vs σ ws hw⟩
      · cases e
    | _ => cases e
  | manyL is =>
    cases d with
    | lst ds =>
      simp only [asgD] at e
      split at e
      · rename_i hl
        cases e
        simp only [Rp] at r
        obtain ⟨a, vs, e1, _, h1, h2⟩ := r
        exact ⟨a, vs, e1, .inl (.inl h1), h2.length.trans hl, h _ (I.setL hf h2) fun ws hw => wip is vs σ ws hw⟩
      · cases e
    | _ => cases e
/-! ### what is walked -/
structure Wlk (K : PySem.W.Frag) (T : Tb) (g : Gh) (H : Hp) (J : It) (ds : List D) : Prop where
  go : ∀ i d g' H', Step g H g' H' → WF g' H' → ds[i]? = some d → J.go i H'
  stop : ∀ g' H', Step g H g' H' → WF g' H' → J.stop ds.length H'
  yld : ∀ i d g' H' x H'', Step g H g' H' → WF g' H' → ds[i]? = some d → J.yld i H' x H'' → (H'' = H' ∧ Rp K T g' H' d x) ∨ (∃ p vs, H' p = none ∧ H'' = upd H' p (.tup vs) ∧ Rp K T g' H'' d x)
def PostI (K : PySem.W.Frag) (T : Tb) (Γ : Fls) (σ : L2.St) (g : Gh) (H : Hp) (W : WX) (Q : It → Hp → Prop) : R (List D) → Prop
  | .ok ds st => ∀ J H' g', QStep g H g' H' → SR K T Γ g' σ H' st → Wlk K T g' H' J ds → Q J H'
  | .raise e st => PostX K T σ g H W e st
  | .stuck => False
def ti (K : PySem.W.Frag) (T : Tb) (Γ : Fls) (W : WX) (f : S → R (List D)) : TI := fun σ H R => ∃ g st, SR K T Γ g σ H st ∧ PostI K T Γ σ g H W R (f st)
structure JI (T : Tb) (X : Cx) (Γ : Fls) (tg e : Expr) (f : S → R (List D)) : Prop where
  run : ∀ W, Takes X W → PI X tg e (ti X.K T Γ W f)
theorem PostI.shift {K : PySem.W.Frag} {σ : L2.St} {g g' : Gh} {H H' : Hp} {W : WX} {Q : It → Hp → Prop} {r : R (List D)} (s : QStep g H g' H') (h : PostI K T Γ σ g H W Q r) : PostI K T Γ σ g' H' W Q r := by
  cases r with
  | ok d st => exact fun J H2 g2 s2 r2 p => h J H2 g2 (s.trans s2) r2 p
  | raise e st => exact PostX.shift s.toStep h
  | stuck => exact h
theorem ipI {K : PySem.W.Frag} {σ : L2.St} {W : WX} {Q : It → Hp → Prop} : IsPost K T σ W (fun g H => PostI K T Γ σ g H W Q) := ⟨fun _ _ _ _ h => h, fun _ _ _ _ h => h, fun _ _ h => h, fun _ _ _ _ _ s h => h.shift s⟩
theorem PI.imp {X : Cx} {tg e : Expr} {t t' : TI} (h : PI X tg e t) (i : ∀ σ H Q, t' σ H Q → t σ H Q) : PI X tg e t' := ⟨fun pins s σ H R I q => h.run pins s σ H R I (i σ H R q)⟩
def seqI : D → S → R (List D)
  | .lst xs, s => .ok xs s
  | .tup xs, s => .ok xs s
  | .scr xs, s => .ok (xs.map D.int) s
  | _, _ => .stuck
def i1 (o : D → S → R (List D)) (f : S → R D) : S → R (List D) := fun st => (f st).bind o
def iSeq (K : PySem.W.Frag) (tl : TE) : TI := fun σ H R => tl σ H fun x H1 => ∃ a, x = .ref a ∧ (((∃ xs, SqL K H1 a xs) ∧ R (Itl K a) H1) ∨ ((∃ xs, SqT K H1 a xs) ∧ R (Itt K a) H1))
theorem pi_seq {tg l : Expr} {tl : TE} (hl : PE X l tl) : PI X tg l (iSeq X.K tl) := by
  refine ⟨fun pins s σ H R I h => ?_⟩
  refine thn (hl.run pins s σ H _ I h) fun v s1 ⟨x, H1, I1, r1, q1⟩ => ?_
  obtain ⟨a, e, q⟩ := q1
  subst e
  cases r1
  rcases q with ⟨⟨xs, hq⟩, q⟩ | ⟨⟨xs, hq⟩, q⟩
  · obtain ⟨its, rv, p, hz⟩ := I1.list hq
    refine wpAny_pyIter_list p.isList ?_
    refine ⟨s1.heap.objs.size, [s1.heap.objs.size], _, _, H1, rfl, I1.kept (t' := s1.toks) fun b o e => Heap.get?_push_of_some _ e, turn_list a _, ⟨_, Heap.get?_push_size _ rfl, rfl, rfl⟩, fun b hb => ?_, q⟩
    have e : b = s1.heap.objs.size := by simpa using hb
    subst e
    exact I1.fpOk (Nat.le_refl _) (I1.hok.fresh (Nat.le_refl _))
  · obtain ⟨its, rv, p, hz⟩ := I1.tuple hq
    refine wpAny_pyIter_tuple (show s1.heap.IsTuple a its.toArray from p) ?_
    refine ⟨s1.heap.objs.size, [s1.heap.objs.size], _, _, H1, rfl, I1.kept (t' := s1.toks) fun b o e => Heap.get?_push_of_some _ e, turn_tuple a _, ⟨_, Heap.get?_push_size _ rfl, rfl, rfl⟩, fun b hb => ?_, q⟩
    have e : b = s1.heap.objs.size := by simpa using hb
    subst e
    exact I1.fpOk (Nat.le_refl _) (I1.hok.fresh (Nat.le_refl _))
theorem wlk_l {K : PySem.W.Frag} {g : Gh} {H : Hp} {a : Addr} {vs : List V} {ds : List D} (wf : WF g H) (h : ∀ g' H', Step g H g' H' → WF g' H' → SqL K H' a vs) (r : Rps K T g H ds vs) : Wlk K T g H (Itl K a) ds where
  go := fun i d g' H' s w e => by
    obtain ⟨v, q, _⟩ := r.get e
    exact ⟨vs, v, h g' H' s w, q⟩
  stop := fun g' H' s w => ⟨vs, h g' H' s w, by rw [r.length]; exact Nat.le_refl _⟩
  yld := fun i d g' H' x H'' s w e y => by
    obtain ⟨v, q, rv⟩ := r.get e
    obtain ⟨e1, y⟩ := y
    have := (y vs (h g' H' s w)).symm.trans q
    cases this
    exact .inl ⟨e1, Rp.step wf s rv⟩
theorem wlk_t {K : PySem.W.Frag} {g : Gh} {H : Hp} {a : Addr} {vs : List V} {ds : List D} (wf : WF g H) (h : SqT K H a vs) (r : Rps K T g H ds vs) : Wlk K T g H (Itt K a) ds where
  go := fun i d g' H' s w e => by
    obtain ⟨v, q, _⟩ := r.get e
    exact ⟨vs, v, SqT.step wf s h, q⟩
  stop := fun g' H' s w => ⟨vs, SqT.step wf s h, by rw [r.length]; exact Nat.le_refl _⟩
  yld := fun i d g' H' x H'' s w e y => by
    obtain ⟨v, q, rv⟩ := r.get e
    obtain ⟨e1, y⟩ := y
    have := (y vs (SqT.step wf s h)).symm.trans q
    cases this
    exact .inl ⟨e1, Rp.step wf s rv⟩
theorem sql_st {K : PySem.W.Frag} {g : Gh} {H : Hp} {a : Addr} {vs : List V} (wf : WF g H) (h0 : g.A a) (h : H a = some (.lst vs)) : ∀ g' H', Step g H g' H' → WF g' H' → SqL K H' a vs := fun g' H' s _ => .inl (.inl (s.fr _ _ h (wf.ao _ h0)))
theorem ji_seq {tg : Expr} (ha : JE T X Γ e .sh f) : JI T X Γ tg e (i1 seqI f) := by
  refine ⟨fun W tk => PI.imp (pi_seq (ha.run W tk)) fun σ H R ⟨g, st, I, p⟩ => ?_⟩
  refine te_bind ipI I p fun d s1 x H1 g1 q1 I1 r1 p1 => ?_
  unfold seqI at p1
  split at p1
  · simp only [RpM, Rp] at r1
    obtain ⟨a, vs, e1, h0, h1, h2⟩ := r1
    exact ⟨a, e1, .inl ⟨⟨vs, .inl (.inl h1)⟩, p1 _ H1 g1 (.refl g1 H1) I1 (wlk_l I1.wf (sql_st I1.wf h0 h1) h2)⟩⟩
  · simp only [RpM, Rp] at r1
    obtain ⟨a, vs, e1, h1, h2⟩ := r1
    exact ⟨a, e1, .inr ⟨⟨vs, h1⟩, p1 _ H1 g1 (.refl g1 H1) I1 (wlk_t I1.wf h1 h2)⟩⟩
  · simp only [RpM, Rp] at r1
    obtain ⟨a, e1, h1⟩ := r1
    exact ⟨a, e1, .inl ⟨⟨_, h1.sq⟩, p1 _ H1 g1 (.refl g1 H1) I1 (wlk_l I1.wf (fun g' H' s _ => (h1.step I1.wf s).sq) (Rps.ints _))⟩⟩
  · exact p1.elim
/-- range -/
def rngL (lo : Int) (n : Nat) : List D := (List.range n).map fun (i : Nat) => D.int (lo + (i : Int))
theorem wlk_r {K : PySem.W.Frag} {g : Gh} {H : Hp} {lo : Int} {n : Nat} : Wlk K T g H (Itr lo n) (rngL lo n) where
  go := fun i d g' H' s w e => by
    have := (List.getElem?_eq_some_iff.mp e).1
    show i < n
    simpa [rngL] using this
  stop := fun g' H' s w => by
    show n ≤ (rngL lo n).length
    simp [rngL]
  yld := fun i d g' H' x H'' s w e y => by
    obtain ⟨e1, e2⟩ := y
    refine .inl ⟨e1, ?_⟩
    have hi := (List.getElem?_eq_some_iff.mp e).1
    have hi' : i < n := by simpa [rngL] using hi
    have : d = .int (lo + (i : Int)) := by
      unfold rngL at e
      rw [List.getElem?_map, List.getElem?_range hi'] at e
      exact (Option.some.inj e).symm
    rw [this, e2]
    simp only [Rp]
def rng1I : List D → S → R (List D)
  | [.int j], s => if j.natAbs < 2 ^ 62 then .ok (rngL 0 j.toNat) s else .stuck
  | _, _ => .stuck
def iN (o : List D → S → R (List D)) (fs : S → R (List D)) : S → R (List D) := fun st => (fs st).bind o
theorem rps1 {K : PySem.W.Frag} {g : Gh} {H : Hp} {i : Int} {vs : List V} (h : Rps K T g H [.int i] vs) : vs = [.int i] := by
  simp only [Rps, Rp] at h
  obtain ⟨v, r, e1, h1, h2⟩ := h
  rw [e1, h1, h2]
theorem ji_range1 {tg : Expr} {p : Pos} (hg : Gl X "range") (hm : X.mg "range" = none) (ha : JA T X Γ [a] fs) (hs : starEach [a] X.env = [(false, eval a X.env)] := by rfl) : JI T X Γ tg (.Call (.Name "range" p) [a] [] pos) (iN rng1I fs) := by
  refine ⟨fun W tk => PI.imp (pi_range1 hg hm (ha.run W tk) hs) fun σ H R ⟨g, st, I, p⟩ => ?_⟩
  refine ta_bind ipI I p fun ds s1 vs H1 g1 q1 I1 r1 p1 => ?_
  unfold rng1I at p1
  split at p1
  · split at p1
    · rename_i hz
      exact ⟨_, rps1 r1, by omega, by omega, p1 _ H1 g1 (.refl g1 H1) I1 wlk_r⟩
    · exact p1.elim
  · exact p1.elim
/-- enumerate of a list -/
def enumL (xs : List D) : List D := (xs.zipIdx 0).map fun p => .tup [.int (p.2 : Int), p.1]
theorem enumL_get {xs : List D} {i : Nat} {d : D} (h : (enumL xs)[i]? = some d) : ∃ x, xs[i]? = some x ∧ d = .tup [.int (i : Int), x] := by
  unfold enumL at h
  rw [List.getElem?_map, List.getElem?_zipIdx] at h
  cases q : xs[i]? with
  | none => rw [q] at h; cases h
  | some x =>
    rw [q] at h
    refine ⟨x, rfl, ?_⟩
    have := Option.some.inj h
    rw [← this]
    simp
theorem enumL_len (xs : List D) : (enumL xs).length = xs.length := by simp [enumL]
def enumI : List D → S → R (List D)
  | [.lst xs], s => .ok (enumL xs) s
  | _, _ => .stuck
theorem ji_enum {p tpos : Pos} {elts : List Expr} {kk : Nat} (hg : Gl X "enumerate") (hm : X.mg "enumerate" = none) (ha : JA T X Γ [e] fs) (hs : starEach [e] X.env = [(false, eval e X.env)] := by rfl) : JI T X Γ (.Tuple elts kk tpos) (.Call (.Name "enumerate" p) [e] [] pos) (iN enumI fs) := by
  refine ⟨fun W tk => PI.imp (pi_enum hg hm (ha.run W tk) hs) fun σ H R ⟨g, st, I, p⟩ => ?_⟩
  refine ta_bind ipI I p fun ds s1 vs H1 g1 q1 I1 r1 p1 => ?_
  unfold enumI at p1
  split at p1
  · rename_i xs
    simp only [Rps, Rp] at r1
    obtain ⟨v, r, e1, ⟨a, ws, e2, h0, h1, h2⟩, e3⟩ := r1
    subst e1 e2 e3
    refine ⟨a, ws, rfl, .inl (.inl h1), p1 _ H1 g1 (.refl g1 H1) I1 ⟨fun i d g' H' s w e => ?_, fun g' H' s w => ?_, fun i d g' H' x H'' s w e y => ?_⟩⟩
    · obtain ⟨x, q, _⟩ := enumL_get e
      obtain ⟨v, q2, _⟩ := h2.get q
      exact ⟨ws, v, sql_st I1.wf h0 h1 g' H' s w, q2⟩
    · exact ⟨ws, sql_st I1.wf h0 h1 g' H' s w, by rw [enumL_len, h2.length]; exact Nat.le_refl _⟩
    · obtain ⟨z, q, ed⟩ := enumL_get e
      obtain ⟨v, q2, rv⟩ := h2.get q
      obtain ⟨t, x', ex, ht, eH, y⟩ := y
      have := (y ws (sql_st I1.wf h0 h1 g' H' s w)).symm.trans q2
      cases this
      refine .inr ⟨t, _, ht, eH, ?_⟩
      rw [ed, ex, eH]
      simp only [Rp]
      exact ⟨t, _, rfl, .of upd_same, Rps.cons (by simp only [Rp]) (.one (Rp.step w (.new ht) (Rp.step I1.wf s rv)))⟩
  · exact p1.elim
/-- zip of two lists, of two tuples -/
def zipL (xs ys : List D) : List D := (xs.zip ys).map fun p => .tup [p.1, p.2]
theorem zipL_get {xs ys : List D} {i : Nat} {d : D} (h : (zipL xs ys)[i]? = some d) : ∃ x y, xs[i]? = some x ∧ ys[i]? = some y ∧ d = .tup [x, y] := by
  unfold zipL at h
  rw [List.getElem?_map] at h
  cases q : (xs.zip ys)[i]? with
  | none => rw [q] at h; cases h
  | some z =>
    rw [q] at h
    obtain ⟨h1, h2⟩ := List.getElem?_zip_eq_some.mp q
    exact ⟨z.1, z.2, h1, h2, (Option.some.inj h).symm⟩
theorem zipL_len (xs ys : List D) : (zipL xs ys).length = min xs.length ys.length := by simp [zipL]
end
end DL
set_option linter.all false
set_option Elab.async false
set_option maxRecDepth 100000
namespace DL
open PySem PySem.Spec PyProof.Rows L2
/-! ### list comprehensions -/
def wipeD (r : List (Option D)) : List Nat → List (Option D)
  | [] => r
  | v :: vs => (wipeD r vs).set v none
def lcL (t : Tg) (ct : S → R Bool) (fe : S → R D) (r0 : List (Option D)) : List D → List Cell → Option (List D × List Cell)
  | [], m => some ([], m)
  | d :: ds, m => match asgD t d ⟨wipeD r0 t.vs, m⟩ with
    | none => none
    | some s2 => match ct s2 with
      | .ok true s3 => (match fe s3 with
        | .ok y s4 => (match lcL t ct fe r0 ds s4.m with
          | some (ys, m') => some (y :: ys, m')
          | none => none)
        | _ => none)
      | .ok false s3 => lcL t ct fe r0 ds s3.m
      | _ => none
def eLc (fi : S → R (List D)) (t : Tg) (ct : S → R Bool) (fe : S → R D) : S → R D := fun st => (fi st).bind fun ds s =>
  if ds.length ≤ sizeLine then (match lcL t ct fe s.r ds s.m with
    | some (ys, m) => .ok (.lst ys) ⟨s.r, m⟩
    | none => .stuck) else .stuck
def tYesS : S → R Bool := fun s => .ok true s
section
variable {K : PySem.W.Frag} {T : Tb} {g g' g1 : Gh} {H H' H1 : Hp} {Γ : Fls} {σ : L2.St} {st : S}
theorem SR.wipe (I : SR K T Γ g σ H st) : ∀ {vs : List Nat}, (∀ i ∈ vs, fl Γ i = .sh) → SR K T Γ g (wipe σ vs) H ⟨wipeD st.r vs, st.m⟩
  | [], _ => I
  | v :: vs, h => by
    have J := SR.wipe I (vs := vs) fun i hi => h i (List.mem_cons_of_mem _ hi)
    refine ⟨J.wf, by simpa [L2.wipe, wipeD] using J.len, fun j hj => ?_, J.me⟩
    have hj' : j < (L2.wipe σ vs).length := by simpa [L2.wipe] using hj
    show SlR K T g H j (fl Γ j) (((L2.wipe σ vs).set v none).getD j none) (((wipeD st.r vs).set v none).getD j none)
    by_cases e : v = j
    · subst e
      rw [List.getD_eq_getElem?_getD, List.getElem?_set_self hj', List.getD_eq_getElem?_getD, List.getElem?_set_self (by have := J.len; simp only at this; rw [← this]; exact hj'), h v List.mem_cons_self]
      exact True.intro
    · rw [List.getD_eq_getElem?_getD, List.getElem?_set_ne e, List.getD_eq_getElem?_getD, List.getElem?_set_ne e, ← List.getD_eq_getElem?_getD, ← List.getD_eq_getElem?_getD]
      exact J.sl j hj'
theorem wipe_wipe (σ : L2.St) : ∀ (us vs : List Nat), (∀ i ∈ us, i ∈ vs) → wipe (wipe σ us) vs = wipe σ vs
  | [], _, _ => rfl
  | u :: us, vs, h => by
    show wipe ((wipe σ us).set u none) vs = wipe σ vs
    have one : ∀ (ws : List Nat) (τ : L2.St) (i : Nat), i ∈ ws → wipe (τ.set i none) ws = wipe τ ws := by
      intro ws
      induction ws with
      | nil => intro τ i h; cases h
      | cons w ws ih =>
        intro τ i h
        show (wipe (τ.set i none) ws).set w none = (wipe τ ws).set w none
        by_cases hm : i ∈ ws
        · rw [ih τ i hm]
        · have hw : i = w := by
            rcases List.mem_cons.mp h with z | z
            · exact z
            · exact absurd z hm
          subst hw
          have comm : ∀ (us : List Nat) (τ : L2.St), i ∉ us → wipe (τ.set i none) us = (wipe τ us).set i none := by
            intro us
            induction us with
            | nil => intro τ _; rfl
            | cons u us ihu =>
              intro τ hu
              show (wipe (τ.set i none) us).set u none = ((wipe τ us).set u none).set i none
              rw [ihu τ fun z => hu (List.mem_cons_of_mem _ z), List.set_comm]
              intro z
              exact hu (by rw [z]; exact List.mem_cons_self)
          rw [comm ws τ hm, List.set_set]
    rw [one vs _ u (h u List.mem_cons_self)]
    exact wipe_wipe σ us vs fun i hi => h i (List.mem_cons_of_mem _ hi)
/-- an object of ours, neither listed nor owned, is written -/
structure Tmp (g : Gh) (H : Hp) (a : Addr) : Prop where
  at_ : ∃ xs, H a = some (.lst xs)
  na : ¬ g.A a
  no : ¬ g.Own a
theorem Tmp.step {a : Addr} (t : Tmp g H a) (s : Step g H g' H') : Tmp g' H' a := by
  obtain ⟨xs, e⟩ := t.at_
  refine ⟨⟨xs, s.fr _ _ e t.no⟩, fun q => ?_, fun q => ?_⟩
  · rcases s.an a q with q | q | q
    · exact t.na q
    · exact t.no q
    · rw [e] at q; cases q
  · rcases s.on a q with q | q
    · exact t.no q
    · rw [e] at q; cases q
theorem Tmp.sub {a : Addr} {o : HO} (t : Tmp g H a) : Sub g H g (upd H a o) := by
  obtain ⟨xs, e⟩ := t.at_
  refine ⟨fun _ h => h, fun b ob hb q => ?_, fun b ob q i => ?_, List.prefix_refl _⟩
  · rw [upd_ne fun z => t.na (by rw [← z]; exact hb)]; exact q
  · rw [upd_ne fun z => ?_]
    · exact q
    · rw [z, e] at q
      cases q
      cases i
theorem Tmp.wf {a : Addr} {o : HO} (t : Tmp g H a) (w : WF g H) : WF g (upd H a o) where
  ta := fun b hb => by
    obtain ⟨o', e⟩ := w.ta b hb
    exact ⟨o', by rw [upd_ne fun z => t.na (by rw [← z]; exact hb)]; exact e⟩
  ot := fun b hb => by
    obtain ⟨o', e⟩ := w.ot b hb
    exact ⟨o', by rw [upd_ne fun z => t.no (by rw [← z]; exact hb)]; exact e⟩
  ao := w.ao
  nf := w.nf
  df := w.df
  fm := w.fm
  nm := w.nm
theorem Tmp.sr {a : Addr} {o : HO} (t : Tmp g H a) (I : SR K T Γ g σ H st) : SR K T Γ g σ (upd H a o) st :=
  I.sub t.sub (t.wf I.wf) rfl rfl fun b hb => by rw [upd_ne fun z => t.no (by rw [← z]; exact hb)]
theorem Tmp.q {a : Addr} {o : HO} (t : Tmp g H a) (hn : H1 a = none) (s : QStep g1 H1 g H) (w1 : WF g1 H1) : QStep g1 H1 g (upd H a o) where
  aa := s.aa
  an := s.an
  on := s.on
  fr := fun b o' h n => by rw [upd_ne (ne_of_none h hn)]; exact s.fr b o' h n
  im := fun b o' h i => by rw [upd_ne (ne_of_none h hn)]; exact s.im b o' h i
  tr := fun b h => by
    by_cases e : b = a
    · rw [e]; exact hn
    · rw [upd_ne e] at h; exact s.tr b h
  mu := s.mu
  qf := s.qf
  qo := fun i b hb => by
    obtain ⟨o', e, _⟩ := w1.ot b (.inl ⟨i, hb⟩)
    rw [upd_ne (ne_of_none e hn)]
    exact s.qo i b hb
end
structure JTs (T : Tb) (X : Cx) (Γ : Fls) (es : List Expr) (f : S → R Bool) : Prop where
  run : ∀ W, Takes X W → PTs X es (tt X.K T Γ W f)
theorem PTs.imp {X : Cx} {e : List Expr} {t t' : TT} (h : PTs X e t) (i : ∀ σ H Q, t' σ H Q → t σ H Q) : PTs X e t' := ⟨fun pins s σ H Q I q => h.run pins s σ H Q I (i σ H Q q)⟩
section
variable {T : Tb} {X : Cx} {Γ : Fls} {e a b c tg elt iter : Expr} {m m1 m2 m3 : Mo} {f f1 f2 f3 fe : S → R D} {pos p2 : Pos} {es rest ifs : List Expr} {k1 k2 ct : S → R Bool} {fs fi : S → R (List D)} {is : List Nat} {t : Tg}
theorem jts_nil : JTs T X Γ [] tYesS := ⟨fun W tk => PTs.imp pts_nil fun σ H Q ⟨g, st, I, p⟩ => p H g (.refl g H) I⟩
theorem jts_one (h : JT T X Γ c k1) : JTs T X Γ [c] k1 := ⟨fun W tk => pts_one (h.run W tk)⟩
theorem lc_inv {own : List (Str × Nat)} {W : WX} (tk : Takes X W) (hown : own.map (·.2) = t.vs) (hf : ∀ i ∈ t.vs, fl Γ i = .sh)
    {σ : L2.St} {H1 : Hp} {g1 : Gh} {ds : List D} {s1 : S} {J : It} {ys : List D} {mf : List Cell} (I1 : SR X.K T Γ g1 σ H1 s1) (wl : Wlk X.K T g1 H1 J ds) (hz : ds.length ≤ sizeLine)
    (e : lcL t ct fe s1.r ds s1.m = some (ys, mf)) {Q : VK} (q : PostE X.K T Γ σ g1 H1 .f1 W Q (.ok (.lst ys) ⟨s1.r, mf⟩)) (Dd : Addr) (hD : H1 Dd = none) :
    ∃ Wi : Nat → Nat → Hp → Prop, (∃ m, Wi 0 m (upd H1 Dd (.lst []))) ∧ ∀ i m H, Wi i m H →
      (J.stop i H ∧ Q (.ref Dd) H) ∨ (J.go i H ∧ ∃ Nx : Hp → Prop, (∀ H', Nx H' → ∃ m', m' < m ∧ Wi (i + 1) m' H') ∧ ∀ x H', J.yld i H x H' → tgR X.K T t x (wipe σ (own.map (·.2))) H' fun σ2 H2 => wipe σ2 (own.map (·.2)) = wipe σ (own.map (·.2)) ∧ tt X.K T Γ (fun _ _ _ _ => False) ct σ2 H2 fun b H3 =>
        if b = true then te X.K T Γ .sh (fun _ _ _ _ => False) fe σ2 H3 fun y H4 => ∃ acc, H4 Dd = some (.lst acc) ∧ acc.length < sizeLine ∧ Nx (upd H4 Dd (.lst (acc ++ [y]))) else Nx H3) := by
  rw [hown]
  let Inv : Nat → Hp → Prop := fun i H => ∃ g mc acc vs rs, QStep g1 H1 g H ∧ SR X.K T Γ g σ H ⟨s1.r, mc⟩ ∧ Tmp g H Dd ∧ H Dd = some (.lst vs) ∧ Rps X.K T g H acc vs ∧ acc.length ≤ i ∧ lcL t ct fe s1.r (ds.drop i) mc = some (rs, mf) ∧ acc ++ rs = ys
  refine ⟨fun i m H => i ≤ ds.length ∧ m = ds.length - i ∧ Inv i H, ⟨ds.length, Nat.zero_le _, by simp, ?_⟩, ?_⟩
  · refine ⟨g1, s1.m, [], [], ys, ⟨.new hD, rfl, fun i b hb => ?_⟩, I1.new hD, ⟨⟨[], upd_same⟩, I1.wf.nota hD, I1.wf.noto hD⟩, upd_same, Rps.nil, Nat.le_refl _, by rw [List.drop_zero]; exact e, rfl⟩
    obtain ⟨o, eo, _⟩ := I1.wf.ot b (.inl ⟨i, hb⟩)
    rw [upd_ne (ne_of_none eo hD)]
  · rintro i m H ⟨hi, rfl, g, mc, acc, vs, rs, s, I, tm, eD, ra, hl, el, ey⟩
    by_cases hlt : i < ds.length
    · -- a turn
      have ed : ds.drop i = ds[i] :: ds.drop (i + 1) := (List.drop_eq_getElem_cons hlt)
      have eg : ds[i]? = some ds[i] := List.getElem?_eq_getElem hlt
      refine .inr ⟨wl.go i _ g H s.toStep I.wf eg, Inv (i + 1), fun H' h' => ⟨ds.length - (i + 1), by omega, hlt, rfl, h'⟩, fun x H' y => ?_⟩
      rw [ed] at el
      unfold lcL at el
      -- the item has come
      have hy : ∃ sH : QStep g1 H1 g H', SR X.K T Γ g σ H' ⟨s1.r, mc⟩ ∧ Tmp g H' Dd ∧ H' Dd = some (.lst vs) ∧ Rps X.K T g H' acc vs ∧ Rp X.K T g H' ds[i] x := by
        rcases wl.yld i _ g H x H' s.toStep I.wf eg y with ⟨e1, r⟩ | ⟨p, ws, hp, e1, r⟩
        · subst e1
          exact ⟨s, I, tm, eD, ra, r⟩
        · subst e1
          have st2 : Step g H g (upd H p (.tup ws)) := .new hp
          exact ⟨s.trans ⟨st2, rfl, fun i b hb => by
            obtain ⟨o, eo, _⟩ := I.wf.ot b (.inl ⟨i, hb⟩)
            rw [upd_ne (ne_of_none eo hp)]⟩, I.new hp, tm.step st2, by rw [upd_ne (ne_of_none eD hp)]; exact eD, ra.step I.wf st2, r⟩
      obtain ⟨s', I', tm', eD', ra', rx⟩ := hy
      cases ea : asgD t ds[i] ⟨wipeD s1.r t.vs, mc⟩ with
      | none => rw [ea] at el; cases el
      | some s2 =>
        rw [ea] at el
        simp only at el
        refine tgR_of (I'.wipe hf) rx hf ea fun σ2 I2 hw => ⟨?_, ?_⟩
        · rw [hw t.vs fun _ h => h, wipe_wipe σ t.vs t.vs fun _ h => h]
        · refine ⟨g, s2, I2, ?_⟩
          cases ec : ct s2 with
          | raise _ _ => rw [ec] at el; cases el
          | stuck => rw [ec] at el; cases el
          | ok b s3 =>
            rw [ec] at el
            intro H3 g3 q3 I3
            cases b with
            | false =>
              simp only at el
              rw [if_neg Bool.false_ne_true]
              have eD3 := q3.fr _ _ eD' tm'.no
              exact ⟨g3, s3.m, acc, vs, rs, s'.trans q3, I'.re (q3.toStep.sub I'.wf) I3.wf q3.qf q3.qo I3.me, tm'.step q3.toStep, eD3, ra'.step I'.wf q3.toStep, Nat.le_succ_of_le hl, el, ey⟩
            | true =>
              simp only at el
              rw [if_pos rfl]
              refine ⟨g3, s3, I3, ?_⟩
              cases ef : fe s3 with
              | raise _ _ => rw [ef] at el; cases el
              | stuck => rw [ef] at el; cases el
              | ok yd s4 =>
                rw [ef] at el
                simp only at el
                cases er : lcL t ct fe s1.r (ds.drop (i + 1)) s4.m with
                | none => rw [er] at el; cases el
                | some pr =>
                  rw [er] at el
                  obtain ⟨ys', m'⟩ := pr
                  simp only [Option.some.injEq, Prod.mk.injEq] at el
                  obtain ⟨el1, el2⟩ := el
                  subst el1 el2
                  intro v H4 g4 q4 I4 rv
                  have q34 := q3.trans q4
                  have eD4 := q34.fr _ _ eD' tm'.no
                  have tm4 := tm'.step q34.toStep
                  have ra4 := ra'.step I'.wf q34.toStep
                  refine ⟨vs, eD4, by rw [ra'.length]; omega, ?_⟩
                  refine ⟨g4, s4.m, acc ++ [yd], vs ++ [v], ys', tm4.q hD (s'.trans q34) I1.wf, tm4.sr (I'.re (q34.toStep.sub I'.wf) I4.wf q34.qf q34.qo I4.me), ⟨⟨_, upd_same⟩, tm4.na, tm4.no⟩, upd_same, (ra4.append (.one rv)).sub tm4.sub, by rw [List.length_append]; simp; omega, er, by rw [List.append_assoc]; exact ey⟩
    · have hi' : i = ds.length := by omega
      subst hi'
      refine .inl ⟨wl.stop g H s.toStep I.wf, ?_⟩
      rw [List.drop_length] at el
      simp only [lcL, Option.some.injEq, Prod.mk.injEq] at el
      obtain ⟨e1, e2⟩ := el
      subst e1 e2
      rw [List.append_nil] at ey
      subst ey
      exact q _ H g s I ⟨Dd, vs, rfl, eD, ⟨tm.na, tm.no, hD⟩, ra⟩
theorem je_lc {scope : Scope} (own : List (Str × Nat)) (hc : X.calm = true) (hN : X.N.Nodup) (hi : JI T X Γ tg iter fi) (ok : BlkOk X.N X.env.scope scope own)
    (hg : ∀ (s : Shared) (H : Hp) (C : Addr) (cl : List (Str × Addr)) (fp : List Addr), JG T (X.blk s H scope (compEnvC scope cl C X.env) fp) tg t) (ht : ∀ (s : Shared) (H : Hp) (C : Addr) (cl : List (Str × Addr)) (fp : List Addr), JTs T (X.blk s H scope (compEnvC scope cl C X.env) fp) Γ ifs ct)
    (he : ∀ (s : Shared) (H : Hp) (C : Addr) (cl : List (Str × Addr)) (fp : List Addr), JE T (X.blk s H scope (compEnvC scope cl C X.env) fp) Γ elt .sh fe) (hown : own.map (·.2) = t.vs := by rfl) (hf : ∀ i ∈ t.vs, fl Γ i = .sh := by decide) (hs : ∀ x, foldedSetIterable iter X.env x = pure x := by intro _; rfl) :
    JE T X Γ (.ListComp elt [⟨tg, iter, ifs, 0⟩] scope pos) .f1 (eLc fi t ct fe) := by
  refine ⟨fun W tk => PE.imp (pe_lc (g := tgR X.K T t) (tt := tt X.K T Γ (fun _ _ _ _ => False) ct) (te := te X.K T Γ .sh (fun _ _ _ _ => False) fe) hc hN (hi.run W tk) ok (fun s H C cl fp => (hg s H C cl fp).run) (fun s H C cl fp => (ht s H C cl fp).run _ takes0) (fun s H C cl fp => (he s H C cl fp).run _ takes0) hs) fun σ H Q ⟨g, st, I, p⟩ => ?_⟩
  refine ⟨g, st, I, ?_⟩
  unfold eLc at p
  cases e : fi st with
  | raise _ _ => rw [e] at p; exact p
  | stuck => rw [e] at p; exact p
  | ok ds s1 =>
    rw [e] at p
    intro J H1 g1 q1 I1 wl Dd hD
    simp only [R.bind] at p
    split at p
    · split at p
      · rename_i ys mf el
        exact lc_inv tk hown hf I1 wl (by assumption) el (p.shift q1) Dd hD
      · exact p.elim
    · exact p.elim
end
end DL
set_option linter.all false
set_option Elab.async false
set_option maxRecDepth 100000
namespace DL
open PySem PySem.Spec PyProof.Rows L2
/-! ### giving own lists away -/
def Gh.frz (g : Gh) (p : Nat → Bool) : Gh := ⟨fun b => g.A b ∨ ∃ i, p i = true ∧ b ∈ g.fp i, fun i => if p i = true then [] else g.fp i, g.mu⟩
section
variable {K : PySem.W.Frag} {T : Tb} {g g' g1 : Gh} {H H' H1 : Hp} {Γ Γ' : Fls} {σ : L2.St} {st : S} {p : Nat → Bool}
theorem frz_own {b : Addr} (h : (g.frz p).Own b) : g.Own b := by
  rcases h with ⟨i, h⟩ | h
  · by_cases hp : p i = true
    · simp only [Gh.frz, if_pos hp] at h
      cases h
    · simp only [Gh.frz, if_neg hp] at h
      exact .inl ⟨i, h⟩
  · exact .inr h
theorem Step.frz (wf : WF g H) : Step g H (g.frz p) H where
  aa := fun b h => .inl h
  an := fun b h => by
    rcases h with h | ⟨i, _, h⟩
    · exact .inl h
    · exact .inr (.inl (.inl ⟨i, h⟩))
  on := fun b h => .inl (frz_own h)
  fr := fun b o h _ => h
  im := fun b o h _ => h
  tr := fun b h => h
  mu := List.prefix_refl _
theorem WF.frz (w : WF g H) : WF (g.frz p) H where
  ta := fun b h => by
    rcases h with h | ⟨i, _, h⟩
    · exact w.ta b h
    · obtain ⟨o, e, _⟩ := w.ot b (.inl ⟨i, h⟩)
      exact ⟨o, e⟩
  ot := fun b h => w.ot b (frz_own h)
  ao := fun b h q => by
    rcases h with h | ⟨i, hp, h⟩
    · exact w.ao b h (frz_own q)
    · rcases q with ⟨j, q⟩ | q
      · by_cases hj : p j = true
        · simp only [Gh.frz, if_pos hj] at q
          cases q
        · simp only [Gh.frz, if_neg hj] at q
          have := w.df i j b h q
          subst this
          exact hj hp
      · exact w.fm i b h q
  nf := fun i => by
    by_cases hp : p i = true
    · simp only [Gh.frz, if_pos hp]
      exact List.nodup_nil
    · simp only [Gh.frz, if_neg hp]
      exact w.nf i
  df := fun i j b h1 h2 => by
    by_cases hp : p i = true
    · simp only [Gh.frz, if_pos hp] at h1
      cases h1
    · by_cases hq : p j = true
      · simp only [Gh.frz, if_pos hq] at h2
        cases h2
      · simp only [Gh.frz, if_neg hp] at h1
        simp only [Gh.frz, if_neg hq] at h2
        exact w.df i j b h1 h2
  fm := fun i b h => by
    by_cases hp : p i = true
    · simp only [Gh.frz, if_pos hp] at h
      cases h
    · simp only [Gh.frz, if_neg hp] at h
      exact w.fm i b h
  nm := w.nm
theorem l2_rps : ∀ {bs : List Addr} {dss : List (List D)}, (∀ b ∈ bs, g.A b) → L2R K T g H bs dss → Rps K T g H (dss.map D.lst) (bs.map V.ref)
  | [], dss, _, h => by
    cases h
    exact Rps.nil
  | b :: bs, dss, ha, h => by
    obtain ⟨ds, r, ws, e, h1, h2, h3⟩ := h
    subst e
    refine Rps.cons ?_ (l2_rps (fun c hc => ha c (List.mem_cons_of_mem _ hc)) h3)
    simp only [Rp]
    exact ⟨b, ws, rfl, ha b List.mem_cons_self, h1, h2⟩
theorem SR.frz (I : SR K T Γ g σ H st) (hΓ : ∀ i, fl Γ' i = if p i = true then .sh else fl Γ i) : SR K T Γ' (g.frz p) σ H st where
  wf := I.wf.frz
  len := I.len
  sl := fun i hi => by
    have u : Sub g H (g.frz p) H := (Step.frz I.wf).sub I.wf
    have q := I.sl i hi
    rw [hΓ i]
    by_cases hp : p i = true
    · rw [if_pos hp]
      generalize σ.getD i none = v at q
      generalize st.r.getD i none = d at q
      cases h : fl Γ i with
      | sh =>
        rw [h] at q
        cases v <;> cases d <;> first
          | exact q
          | exact Rp.sub u q
      | o1 =>
        rw [h] at q
        cases v with
        | none => exact q.elim
        | some v =>
          cases d with
          | none => exact q.elim
          | some d =>
            obtain ⟨a, vs, ds, e1, e2, e3, h1, h2⟩ := q
            subst e1 e2
            show Rp K T (g.frz p) H (.lst ds) (.ref a)
            simp only [Rp]
            exact ⟨a, vs, rfl, .inr ⟨i, hp, by rw [e3]; exact List.mem_cons_self⟩, h1, h2.sub u⟩
      | o2 =>
        rw [h] at q
        cases v with
        | none => exact q.elim
        | some v =>
          cases d with
          | none => exact q.elim
          | some d =>
            obtain ⟨a, bs, dss, e1, e2, e3, h1, h2⟩ := q
            subst e1 e2
            show Rp K T (g.frz p) H (.lst _) (.ref a)
            simp only [Rp]
            exact ⟨a, _, rfl, .inr ⟨i, hp, by rw [e3]; exact List.mem_cons_self⟩, h1, l2_rps (fun b hb => .inr ⟨i, hp, by rw [e3]; exact List.mem_cons_of_mem _ hb⟩) (h2.sub u fun _ _ => rfl)⟩
    · rw [if_neg hp]
      refine q.sub u (by simp only [Gh.frz, if_neg hp]) fun _ _ => rfl
  me := I.me.sub ((Step.frz I.wf).sub I.wf) rfl fun _ _ => rfl
theorem SR.frzAll (I : SR K T Γ g σ H st) : SR K T [] (g.frz fun _ => true) σ H st := I.frz fun i => by
  rw [if_pos rfl]
  rfl
end
/-! ### statements -/
inductive RS where
  | next (s : S) | brk (s : S) | cont (s : S) | ret (d : D) (s : S) | raise (e : Ex) (s : S) | stuck
/-- the flags behind a block, at a loop's break and continue; the return's mode -/
structure Fx where
  nx : Fls
  lp : Fls := []
  rm : Mo := .sh
/-- the def's entry -/
structure Bs where
  g : Gh
  H : Hp
structure SB (K : PySem.W.Frag) (T : Tb) (Γ : Fls) (B : Bs) (g : Gh) (σ : L2.St) (H : Hp) (st : S) : Prop extends SR K T Γ g σ H st where
  bs : Step B.g B.H g H
  bf : ∀ i, B.g.fp i = []
theorem SB.go {K : PySem.W.Frag} {T : Tb} {Γ Γ' : Fls} {B : Bs} {g g' : Gh} {σ σ' : L2.St} {H H' : Hp} {st st' : S} (I : SB K T Γ B g σ H st) (s : Step g H g' H') (r : SR K T Γ' g' σ' H' st') : SB K T Γ' B g' σ' H' st' := ⟨r, I.bs.trans s, I.bf⟩
section
variable (K : PySem.W.Frag) (T : Tb) (F : Fx) (B : Bs) (g : Gh) (H : Hp)
def PostS (W : WX) (E : Ends) : RS → Prop
  | .next st => ∀ σ' H' g', Step g H g' H' → SR K T F.nx g' σ' H' st → E.nx σ' H'
  | .brk st => ∀ σ' H' g', Step g H g' H' → SR K T F.lp g' σ' H' st → E.bk σ' H'
  | .cont st => ∀ σ' H' g', Step g H g' H' → SR K T F.lp g' σ' H' st → E.ct σ' H'
  | .ret d st => ∀ v H' g', Step B.g B.H g' H' → WF g' H' → (∀ i, g'.fp i = []) → MR K T g' H' st.m → RpM K T g' B.H H' F.rm d v → E.rt v H'
  | .raise e st => ∀ cls dd σ' H' g', Step g H g' H' → SR K T [] g' σ' H' st → ExR K T g' H' e cls dd → W cls dd σ' H'
  | .stuck => False
end
def ts (K : PySem.W.Frag) (T : Tb) (Γ : Fls) (F : Fx) (W : WX) (f : S → RS) : TS := fun E σ H => ∃ B g st, SB K T Γ B g σ H st ∧ PostS K T F B g H W E (f st)
structure JS (T : Tb) (X : Cx) (Γ : Fls) (F : Fx) (s : Stmt) (f : S → RS) : Prop where
  run : ∀ W, Takes X W → PS X s (ts X.K T Γ F W f)
structure JSs (T : Tb) (X : Cx) (Γ : Fls) (F : Fx) (s : List Stmt) (f : S → RS) : Prop where
  run : ∀ W, Takes X W → PSs X s (ts X.K T Γ F W f)
theorem PS.imp {X : Cx} {e : Stmt} {t t' : TS} (h : PS X e t) (i : ∀ E σ H, t' E σ H → t E σ H) : PS X e t' := ⟨fun pins s σ H Q I q => h.run pins s σ H Q I (i Q σ H q)⟩
theorem PSs.imp {X : Cx} {e : List Stmt} {t t' : TS} (h : PSs X e t) (i : ∀ E σ H, t' E σ H → t E σ H) : PSs X e t' := ⟨fun pins s σ H Q I q => h.run pins s σ H Q I (i Q σ H q)⟩
section
variable {K : PySem.W.Frag} {T : Tb} {F F' : Fx} {B : Bs} {g g' : Gh} {H H' : Hp} {W : WX} {E : Ends} {Γ Γ' : Fls} {σ : L2.St} {st : S} {nx lp : Fls} {rm : Mo}
theorem PostS.shift {r : RS} (s : Step g H g' H') (h : PostS K T F B g H W E r) : PostS K T F B g' H' W E r := by
  cases r with
  | next st => exact fun σ2 H2 g2 s2 r2 => h σ2 H2 g2 (s.trans s2) r2
  | brk st => exact fun σ2 H2 g2 s2 r2 => h σ2 H2 g2 (s.trans s2) r2
  | cont st => exact fun σ2 H2 g2 s2 r2 => h σ2 H2 g2 (s.trans s2) r2
  | ret d st => exact h
  | raise e st => exact fun cls dd σ2 H2 g2 s2 => h cls dd σ2 H2 g2 (s.trans s2)
  | stuck => exact h
end
/-- an expression's result goes on as a statement's -/
def R.then {α : Type} (r : R α) (k : α → S → RS) : RS := match r with
  | .ok a s => k a s
  | .raise e s => .raise e s
  | .stuck => .stuck
section
variable {K : PySem.W.Frag} {T : Tb} {F F' : Fx} {B : Bs} {g g' : Gh} {H H' : Hp} {W : WX} {E : Ends} {Γ Γ' : Fls} {σ : L2.St} {st : S} {m : Mo} {nx lp : Fls} {rm : Mo}
theorem te_then {f : S → R D} {k : D → S → RS} {Q : VK} (I : SR K T Γ g σ H st) (h : PostS K T F B g H W E ((f st).then k))
    (hk : ∀ d st' v H' g', QStep g H g' H' → SR K T Γ g' σ H' st' → RpM K T g' H H' m d v → PostS K T F B g' H' W E (k d st') → Q v H') : te K T Γ m W f σ H Q := by
  refine ⟨g, st, I, ?_⟩
  cases e : f st with
  | ok d st' =>
    rw [e] at h
    exact fun v H' g' s r p => hk d st' v H' g' s r p (h.shift s.toStep)
  | raise ex st' =>
    rw [e] at h
    exact fun cls dd H' g' => h cls dd σ H' g'
  | stuck =>
    rw [e] at h
    exact h
theorem tt_then {f : S → R Bool} {k : Bool → S → RS} {Q : Bool → Hp → Prop} (I : SR K T Γ g σ H st) (h : PostS K T F B g H W E ((f st).then k))
    (hk : ∀ b st' H' g', QStep g H g' H' → SR K T Γ g' σ H' st' → PostS K T F B g' H' W E (k b st') → Q b H') : tt K T Γ W f σ H Q := by
  refine ⟨g, st, I, ?_⟩
  cases e : f st with
  | ok d st' =>
    rw [e] at h
    exact fun H' g' s r => hk d st' H' g' s r (h.shift s.toStep)
  | raise ex st' =>
    rw [e] at h
    exact fun cls dd H' g' => h cls dd σ H' g'
  | stuck =>
    rw [e] at h
    exact h
end
section
variable {T : Tb} {X : Cx} {Γ Γ' : Fls} {F : Fx} {e a b c tg iter : Expr} {m m1 m2 m3 : Mo} {f f1 f2 f3 : S → R D} {pos p2 pos' : Pos} {es rest : List Expr} {k1 k2 : S → R Bool} {fs fi : S → R (List D)} {t : Tg} {s1 s2 : Stmt} {ss ss2 : List Stmt} {q q1 q2 : S → RS} {nx lp : Fls} {rm : Mo}
def sNil : S → RS := fun s => .next s
def sSeq (f g : S → RS) : S → RS := fun s => match f s with
  | .next s' => g s'
  | r => r
theorem jss_nil : JSs T X Γ ⟨Γ, lp, rm⟩ [] sNil := ⟨fun W tk => PSs.imp pss_nil fun E σ H ⟨B, g, st, I, p⟩ => p σ H g (.refl g H) I.toSR⟩
theorem jss_cons (h1 : JS T X Γ ⟨Γ', F.lp, F.rm⟩ s1 q1) (h2 : JSs T X Γ' F ss q2) : JSs T X Γ F (s1 :: ss) (sSeq q1 q2) := by
  refine ⟨fun W tk => PSs.imp (pss_cons (h1.run W tk) (h2.run W tk)) fun E σ H ⟨B, g, st, I, p⟩ => ⟨B, g, st, I, ?_⟩⟩
  unfold sSeq at p
  cases e : q1 st with
  | next s' =>
    rw [e] at p
    exact fun σ' H' g' s r => ⟨B, g', s', I.go s r, p.shift s⟩
  | brk s' => rw [e] at p; exact p
  | cont s' => rw [e] at p; exact p
  | ret d s' => rw [e] at p; exact p
  | raise ex s' => rw [e] at p; exact p
  | stuck => rw [e] at p; exact p
theorem jss_one (h1 : JS T X Γ F s1 q1) : JSs T X Γ F [s1] q1 := ⟨fun W tk => pss_one (h1.run W tk)⟩
/-- own lists are given away ahead of a statement -/
theorem js_frz (p : Nat → Bool) (hΓ : ∀ i, fl Γ' i = if p i = true then .sh else fl Γ i) (h : JS T X Γ' F s1 q) : JS T X Γ F s1 q :=
  ⟨fun W tk => PS.imp (h.run W tk) fun E σ H ⟨B, g, st, I, po⟩ => ⟨B, g.frz p, st, I.go (.frz I.wf) (I.frz hΓ), po.shift (.frz I.wf)⟩⟩
def sRet (f : S → R D) : S → RS := fun s => (f s).then fun d s => .ret d s
theorem WF.drop {g : Gh} {H : Hp} (w : WF g H) : WF ⟨g.A, fun _ => [], g.mu⟩ H where
  ta := w.ta
  ot := fun b h => w.ot b (.inr (by
    rcases h with ⟨i, h⟩ | h
    · cases h
    · exact h))
  ao := fun b h q => w.ao b h (.inr (by
    rcases q with ⟨i, q⟩ | q
    · cases q
    · exact q))
  nf := fun _ => List.nodup_nil
  df := fun _ _ _ h => by cases h
  fm := fun _ _ h => by cases h
  nm := w.nm
theorem Step.drop {g : Gh} {H : Hp} : Step g H ⟨g.A, fun _ => [], g.mu⟩ H where
  aa := fun _ h => h
  an := fun _ h => .inl h
  on := fun b h => .inl (by
    rcases h with ⟨i, h⟩ | h
    · cases h
    · exact .inr h)
  fr := fun _ _ h _ => h
  im := fun _ _ h _ => h
  tr := fun _ h => h
  mu := List.prefix_refl _
theorem Sub.drop {g : Gh} {H : Hp} : Sub g H ⟨g.A, fun _ => [], g.mu⟩ H := ⟨fun _ h => h, fun _ _ _ h => h, fun _ _ h _ => h, List.prefix_refl _⟩
theorem MR.drop {K : PySem.W.Frag} {g : Gh} {H : Hp} {m : List Cell} (h : MR K T g H m) : MR K T ⟨g.A, fun _ => [], g.mu⟩ H m := h.sub .drop rfl fun _ _ => rfl
theorem Fresh.drop {g : Gh} {H0 : Hp} {a : Addr} (f : Fresh g H0 a) : Fresh ⟨g.A, fun _ => [], g.mu⟩ H0 a := ⟨f.1, fun q => f.2.1 (.inr (by
  rcases q with ⟨i, q⟩ | q
  · cases q
  · exact q)), f.2.2⟩
theorem RpM.drop {K : PySem.W.Frag} {g : Gh} {H0 H : Hp} {d : D} {v : V} (hm : m = .sh ∨ m = .f1 ∨ m = .f2) (h : RpM K T g H0 H m d v) : RpM K T ⟨g.A, fun _ => [], g.mu⟩ H0 H m d v := by
  rcases hm with rfl | rfl | rfl
  · exact Rp.sub .drop h
  · cases d with
    | lst ds =>
      obtain ⟨a, vs, e, h1, h2, h3⟩ := h
      exact ⟨a, vs, e, h1, h2.drop, h3.sub .drop⟩
    | _ => exact Rp.sub .drop h
  · cases d with
    | lst ds =>
      obtain ⟨a, bs, dss, e, e2, h1, nd, h2, h3⟩ := h
      exact ⟨a, bs, dss, e, e2, h1, nd, fun b hb => (h2 b hb).drop, h3.sub .drop fun _ _ => rfl⟩
    | _ => exact Rp.sub .drop h
theorem js_ret (ha : JE T X Γ e F.rm f) (hm : F.rm = .sh ∨ F.rm = .f1 ∨ F.rm = .f2 := by first | exact .inl rfl | exact .inr (.inl rfl) | exact .inr (.inr rfl)) : JS T X Γ F (.Return (some e) pos) (sRet f) := by
  refine ⟨fun W tk => PS.imp (ps_ret (ha.run W tk)) fun E σ H ⟨B, g, st, I, p⟩ => ?_⟩
  refine ⟨g, st, I.toSR, ?_⟩
  unfold sRet at p
  cases e : f st with
  | ok d s1 =>
    rw [e] at p
    intro v H1 g1 q1 I1 r1
    exact p v H1 ⟨g1.A, fun _ => [], g1.mu⟩ ((I.bs.trans q1.toStep).trans .drop) I1.wf.drop (fun _ => rfl) I1.me.drop ((r1.base I.bs.tr).drop hm)
  | raise ex s1 => rw [e] at p; exact fun cls dd H' g' => p cls dd σ H' g'
  | stuck => rw [e] at p; exact p
def sIf (c : S → R Bool) (a b : S → RS) : S → RS := fun s => (c s).then fun k s => if k then a s else b s
theorem js_if (hc : JT T X Γ c k1) (ha : JSs T X Γ F ss q1) (hb : JSs T X Γ F ss2 q2) : JS T X Γ F (.If c ss ss2 pos) (sIf k1 q1 q2) := by
  refine ⟨fun W tk => PS.imp (ps_if (hc.run W tk) (ha.run W tk) (hb.run W tk)) fun E σ H ⟨B, g, st, I, p⟩ => ?_⟩
  refine tt_then I.toSR p fun k s1 H1 g1 q1 I1 p1 => ?_
  cases k with
  | true => exact ⟨B, g1, s1, I.go q1.toStep I1, p1⟩
  | false => exact ⟨B, g1, s1, I.go q1.toStep I1, p1⟩
def sDrop (f : S → R D) : S → RS := fun s => (f s).then fun _ s => .next s
theorem js_expr (he : JE T X Γ e m f) (hs : swapsWith e none pos.line X.env = pure false := by rfl) : JS T X Γ ⟨Γ, lp, rm⟩ (.Expr e pos) (sDrop f) := by
  refine ⟨fun W tk => PS.imp (ps_expr (he.run W tk) hs) fun E σ H ⟨B, g, st, I, p⟩ => ?_⟩
  exact te_then I.toSR p fun d s1 x H1 g1 q1 I1 r1 p1 => p1 σ H1 g1 (.refl g1 H1) I1
end
end DL
set_option linter.all false
set_option Elab.async false
set_option maxRecDepth 100000
namespace DL
open PySem PySem.Spec PyProof.Rows L2
/-! ### storing into a slot -/
def Gh.slot (g : Gh) (i : Nat) (L : List Addr) : Gh := ⟨g.A, fun j => if j = i then L else g.fp j, g.mu⟩
section
variable {K : PySem.W.Frag} {T : Tb} {g g' g0 : Gh} {H H' H0 : Hp} {Γ Γ' : Fls} {σ : L2.St} {st : S} {i : Nat} {L : List Addr}
theorem slot_own {b : Addr} (h : (g.slot i L).Own b) : g.Own b ∨ b ∈ L := by
  rcases h with ⟨j, h⟩ | h
  · by_cases hj : j = i
    · simp only [Gh.slot, if_pos hj] at h
      exact .inr h
    · simp only [Gh.slot, if_neg hj] at h
      exact .inl (.inl ⟨j, h⟩)
  · exact .inl (.inr h)
theorem Step.slot (s : Step g0 H0 g H) (hL : ∀ b ∈ L, H0 b = none) : Step g0 H0 (g.slot i L) H where
  aa := s.aa
  an := s.an
  on := fun b h => by
    rcases slot_own h with h | h
    · exact s.on b h
    · exact .inr (hL b h)
  fr := s.fr
  im := s.im
  tr := s.tr
  mu := s.mu
theorem WF.slot (w : WF g H) (nd : L.Nodup) (ht : ∀ b ∈ L, ∃ xs, H b = some (.lst xs)) (hA : ∀ b ∈ L, ¬ g.A b) (hO : ∀ b ∈ L, ¬ g.Own b) : WF (g.slot i L) H where
  ta := w.ta
  ot := fun b h => by
    rcases slot_own h with h | h
    · exact w.ot b h
    · obtain ⟨xs, e⟩ := ht b h
      exact ⟨_, e, rfl⟩
  ao := fun b h q => by
    rcases slot_own q with q | q
    · exact w.ao b h q
    · exact hA b q h
  nf := fun j => by
    by_cases hj : j = i
    · simp only [Gh.slot, if_pos hj]; exact nd
    · simp only [Gh.slot, if_neg hj]; exact w.nf j
  df := fun j k b h1 h2 => by
    by_cases hj : j = i
    · simp only [Gh.slot, if_pos hj] at h1
      by_cases hk : k = i
      · rw [hj, hk]
      · simp only [Gh.slot, if_neg hk] at h2
        exact absurd (.inl ⟨k, h2⟩) (hO b h1)
    · simp only [Gh.slot, if_neg hj] at h1
      by_cases hk : k = i
      · simp only [Gh.slot, if_pos hk] at h2
        exact absurd (.inl ⟨j, h1⟩) (hO b h2)
      · simp only [Gh.slot, if_neg hk] at h2
        exact w.df j k b h1 h2
  fm := fun j b h q => by
    by_cases hj : j = i
    · simp only [Gh.slot, if_pos hj] at h
      exact hO b h (.inr q)
    · simp only [Gh.slot, if_neg hj] at h
      exact w.fm j b h q
  nm := w.nm
theorem Sub.slot : Sub g H (g.slot i L) H := ⟨fun _ h => h, fun _ _ _ h => h, fun _ _ h _ => h, List.prefix_refl _⟩
def Mo.fl : Mo → Fl
  | .f1 => .o1
  | .f2 => .o2
  | _ => .sh
/-- does a value of this mode and form own lists when it is stored -/
def flOf : Mo → D → Fl
  | .f1, .lst _ => .o1
  | .f2, .lst _ => .o2
  | _, _ => .sh
theorem SR.asg {d : D} {v : V} {m : Mo} (I : SR K T Γ g σ H st) (s : Step g0 H0 g H) (hm : m = .sh ∨ m = .f1 ∨ m = .f2) (r : RpM K T g H0 H m d v) (hΓ : ∀ j, fl Γ' j = if j = i then flOf m d else fl Γ j) :
    ∃ L, Step g0 H0 (g.slot i L) H ∧ SR K T Γ' (g.slot i L) (σ.set i (some v)) H { st with r := st.r.set i (some d) } ∧ (∀ b ∈ L, Fresh g H0 b) := by
  have other : ∀ (L : List Addr), WF (g.slot i L) H → SlR K T (g.slot i L) H i (flOf m d) (some v) (some d) → SR K T Γ' (g.slot i L) (σ.set i (some v)) H { st with r := st.r.set i (some d) } := fun L w hs => by
    refine ⟨w, by simpa using I.len, fun j hj => ?_, I.me.sub .slot rfl fun _ _ => rfl⟩
    have hj' : j < σ.length := by simpa using hj
    rw [hΓ j]
    by_cases h : i = j
    · subst h
      rw [List.getD_eq_getElem?_getD, List.getElem?_set_self hj', List.getD_eq_getElem?_getD, List.getElem?_set_self (by rw [← I.len]; exact hj'), if_pos rfl]
      exact hs
    · rw [List.getD_eq_getElem?_getD, List.getElem?_set_ne h, List.getD_eq_getElem?_getD, List.getElem?_set_ne h, ← List.getD_eq_getElem?_getD, ← List.getD_eq_getElem?_getD, if_neg (Ne.symm h)]
      exact (I.sl j hj').sub .slot (by simp only [Gh.slot, if_neg (Ne.symm h)]) fun _ _ => rfl
  have plain : Rp K T g H d v → flOf m d = .sh → ∃ L, Step g0 H0 (g.slot i L) H ∧ SR K T Γ' (g.slot i L) (σ.set i (some v)) H { st with r := st.r.set i (some d) } ∧ (∀ b ∈ L, Fresh g H0 b) := fun q e => by
    refine ⟨[], s.slot (fun b hb => by cases hb), other [] (I.wf.slot List.nodup_nil (fun b hb => by cases hb) (fun b hb => by cases hb) (fun b hb => by cases hb)) ?_, fun b hb => by cases hb⟩
    rw [e]
    exact Rp.sub .slot q
  rcases hm with rfl | rfl | rfl
  · exact plain r rfl
  · cases d with
    | lst ds =>
      obtain ⟨a, vs, e, h1, h2, h3⟩ := r
      have one : ∀ b ∈ [a], b = a := fun b hb => by simpa using hb
      refine ⟨[a], s.slot (fun b hb => by rw [one b hb]; exact h2.2.2), other [a] (I.wf.slot (by simp) (fun b hb => ⟨vs, by rw [one b hb]; exact h1⟩) (fun b hb => by rw [one b hb]; exact h2.1) (fun b hb => by rw [one b hb]; exact h2.2.1)) ?_, fun b hb => by rw [one b hb]; exact h2⟩
      exact ⟨a, vs, ds, e, rfl, by simp only [Gh.slot, if_true], h1, h3.sub .slot⟩
    | _ => exact plain r rfl
  · cases d with
    | lst ds =>
      obtain ⟨a, bs, dss, e, e2, h1, nd, h2, h3⟩ := r
      refine ⟨a :: bs, s.slot (fun b hb => (h2 b hb).2.2), other _ (I.wf.slot nd (fun b hb => ?_) (fun b hb => (h2 b hb).1) (fun b hb => (h2 b hb).2.1)) ?_, h2⟩
      · rcases List.mem_cons.mp hb with rfl | hb
        · exact ⟨_, h1⟩
        · exact h3.tracked b hb
      · subst e2
        exact ⟨a, bs, dss, e, rfl, by simp only [Gh.slot, if_true], h1, h3.sub .slot fun _ _ => rfl⟩
    | _ => exact plain r rfl
end
section
variable {T : Tb} {X : Cx} {Γ Γ' : Fls} {F : Fx} {e a b c tg iter : Expr} {m m1 m2 m3 : Mo} {f f1 f2 f3 : S → R D} {pos p2 pos' : Pos} {es rest : List Expr} {k1 k2 : S → R Bool} {fs fi : S → R (List D)} {t : Tg} {s1 s2 : Stmt} {ss ss2 : List Stmt} {q q1 q2 : S → RS} {nx lp : Fls} {rm : Mo}
def sAsg (t : Tg) (f : S → R D) : S → RS := fun s => (f s).then fun d s => match asgD t d s with
  | some s' => .next s'
  | none => .stuck
/-- x = e, of any form of e but a comprehension on one line -/
theorem js_set (i : Nat) {x : Str} (hN : X.N.Nodup) (he : JE T X Γ e .sh f) (hi : X.N[i]? = some x := by rfl) (hx : Loc X.env.scope x := by first | exact Or.inl rfl | exact Or.inr rfl) (hs : swapsWith e (some (.Name x pos')) pos.line X.env = pure false := by rfl)
    (hΓ : fl Γ i = .sh := by rfl) (hf : X.fn x = true ∨ X.env.scope.names.lookup x = some .local := by first | exact .inl rfl | exact .inr rfl | assumption) : JS T X Γ ⟨Γ, lp, rm⟩ (.Assign [.Name x pos'] e pos) (sAsg (.one i) f) := by
  refine ⟨fun W tk => PS.imp (ps_set hN hi hx (he.run W tk) hs hf) fun E σ H ⟨B, g, st, I, p⟩ => ?_⟩
  refine te_then I.toSR p fun d s1 x H1 g1 q1 I1 r1 p1 => ?_
  exact p1 _ H1 g1 (.refl g1 H1) (I1.set hΓ r1)
/-- x = a fresh list (or anything else) -/
def sAsgF (i : Nat) (f : S → R D) : S → RS := fun s => (f s).then fun d s => match d with
  | .lst _ => .next { s with r := s.r.set i (some d) }
  | _ => .stuck
theorem js_setF (i : Nat) {x : Str} (hN : X.N.Nodup) (he : JE T X Γ e m f) (hm : m = .f1 ∨ m = .f2 := by first | exact .inl rfl | exact .inr rfl) (hi : X.N[i]? = some x := by rfl) (hx : Loc X.env.scope x := by first | exact Or.inl rfl | exact Or.inr rfl) (hs : swapsWith e (some (.Name x pos')) pos.line X.env = pure false := by rfl)
    (hΓ : ∀ j, fl Γ' j = if j = i then m.fl else fl Γ j) (hf : X.fn x = true ∨ X.env.scope.names.lookup x = some .local := by first | exact .inl rfl | exact .inr rfl | assumption) : JS T X Γ ⟨Γ', lp, rm⟩ (.Assign [.Name x pos'] e pos) (sAsgF i f) := by
  refine ⟨fun W tk => PS.imp (ps_set hN hi hx (he.run W tk) hs hf) fun E σ H ⟨B, g, st, I, p⟩ => ?_⟩
  refine ⟨g, st, I.toSR, ?_⟩
  unfold sAsgF at p
  cases e : f st with
  | ok d s1 =>
    rw [e] at p
    intro v H1 g1 q1 I1 r1
    cases d with
    | lst ds =>
      have hfl : m.fl = flOf m (.lst ds) := by rcases hm with rfl | rfl <;> rfl
      obtain ⟨L, st2, I2, _⟩ := I1.asg (Γ' := Γ') (i := i) q1.toStep (by rcases hm with rfl | rfl; exact .inr (.inl rfl); exact .inr (.inr rfl)) r1 (fun j => by rw [hΓ j, hfl])
      exact p _ H1 _ st2 I2
    | _ => exact p.elim
  | raise ex s1 => rw [e] at p; exact fun cls dd H' g' => p cls dd σ H' g'
  | stuck => rw [e] at p; exact p
/-- x = [..], a comprehension on one line; x a local -/
theorem js_setLc {y : Str} {py spos : Pos} {elt : Expr} {ifs : List Expr} {scope : Scope} {ct : S → R Bool} {fe : S → R D} (i : Nat) (own : List (Str × Nat)) (hc : X.calm = true) (hN : X.N.Nodup) (hi : JI T X Γ tg iter fi) (ok : BlkOk X.N X.env.scope scope own)
    (hg : ∀ (s : Shared) (H : Hp) (C : Addr) (cl : List (Str × Addr)) (fp : List Addr), JG T (X.blk s H scope (compEnvC scope cl C X.env) fp) tg t) (ht : ∀ (s : Shared) (H : Hp) (C : Addr) (cl : List (Str × Addr)) (fp : List Addr), JTs T (X.blk s H scope (compEnvC scope cl C X.env) fp) Γ ifs ct)
    (he : ∀ (s : Shared) (H : Hp) (C : Addr) (cl : List (Str × Addr)) (fp : List Addr), JE T (X.blk s H scope (compEnvC scope cl C X.env) fp) Γ elt .sh fe)
    (hsw : swapsWith (.ListComp elt [⟨tg, iter, ifs, 0⟩] scope pos) (some (.Name y py)) spos.line X.env = pure true)
    (hΓ : ∀ j, fl Γ' j = if j = i then .o1 else fl Γ j) (hy : X.N[i]? = some y := by rfl) (hyl : X.env.scope.names.lookup y = some .local := by rfl)
    (hown : own.map (·.2) = t.vs := by rfl) (hf : ∀ i ∈ t.vs, fl Γ i = .sh := by decide) (hs : ∀ x, foldedSetIterable iter X.env x = pure x := by intro _; rfl) :
    JS T X Γ ⟨Γ', lp, rm⟩ (.Assign [.Name y py] (.ListComp elt [⟨tg, iter, ifs, 0⟩] scope pos) spos) (sAsgF i (eLc fi t ct fe)) := by
  refine ⟨fun W tk => PS.imp (ps_setLc (g := tgR X.K T t) (tt := tt X.K T Γ (fun _ _ _ _ => False) ct) (te := te X.K T Γ .sh (fun _ _ _ _ => False) fe) hc hN hy hyl hsw (hi.run W tk) ok (fun s H C cl fp => (hg s H C cl fp).run) (fun s H C cl fp => (ht s H C cl fp).run _ takes0) (fun s H C cl fp => (he s H C cl fp).run _ takes0) hs) fun E σ H ⟨B, g, st, I, p⟩ => ?_⟩
  refine ⟨g, st, I.toSR, ?_⟩
  unfold sAsgF eLc at p
  cases e : fi st with
  | raise _ _ => rw [e] at p; exact fun cls dd H' g' => p cls dd σ H' g'
  | stuck => rw [e] at p; exact p
  | ok ds s1 =>
    rw [e] at p
    intro J H1 g1 q1 I1 wl Dd hD
    simp only [R.bind] at p
    split at p
    · split at p
      · rename_i ys mf el
        simp only [R.then] at p
        refine lc_inv (W := W) (Q := fun x H1 => gName i x σ H1 E.nx) tk hown hf I1 wl (by assumption) el (fun v H2 g2 q2 I2 r2 => ?_) Dd hD
        obtain ⟨L, st2, I3, _⟩ := I2.asg (Γ' := Γ') (i := i) (q1.trans q2).toStep (.inr (.inl rfl)) (r2.base q1.tr) (fun j => by rw [hΓ j]; rfl)
        exact p _ H2 _ st2 I3
      · exact p.elim
    · exact p.elim
/-- (a, b, ..) = e -/
theorem js_asgT {tg : Expr} (he : JE T X Γ e .sh f) (hg : JG T X tg t) (hΓ : ∀ i ∈ t.vs, fl Γ i = .sh := by decide) (hs : swapsWithSole [tg] e pos.line X.env = pure false := by rfl) (hw : swappedStores [tg] e X.env = pure none := by rfl)
    (h1 : (assignEach [tg] X.env).map (·.2) = [assign tg X.env] := by rfl) : JS T X Γ ⟨Γ, lp, rm⟩ (.Assign [tg] e pos) (sAsg t f) := by
  refine ⟨fun W tk => PS.imp (ps_asg (he.run W tk) hg.run hs hw h1) fun E σ H ⟨B, g, st, I, p⟩ => ?_⟩
  refine te_then I.toSR p fun d s1 x H1 g1 q1 I1 r1 p1 => ?_
  split at p1
  · rename_i s' ea
    exact tgR_of I1 r1 hΓ ea fun σ' I2 _ => p1 _ H1 g1 (.refl g1 H1) I2
  · exact p1.elim
/-- a, b = x, y -/
def sPar (i j : Nat) (f1 f2 : S → R D) : S → RS := fun s => (f1 s).then fun d1 s1 => (f2 s1).then fun d2 s2 => .next { s2 with r := (s2.r.set i (some d1)).set j (some d2) }
theorem js_par (i j : Nat) {x y : Str} {px py pt : Pos} {kt k2 pt2} (hc : X.calm = true) (hN : X.N.Nodup) (ha : JE T X Γ a .sh f1) (hb : JE T X Γ b .sh f2) (hi : X.N[i]? = some x := by rfl) (hj : X.N[j]? = some y := by rfl) (hij : i ≠ j := by decide)
    (hx : X.env.scope.names.lookup x = some .local := by rfl) (hy : X.env.scope.names.lookup y = some .local := by rfl) (hΓ : fl Γ i = .sh := by rfl) (hΓ' : fl Γ j = .sh := by rfl)
    (hw : swappedStores [.Tuple [.Name x px, .Name y py] kt pt] (.Tuple [a, b] k2 pt2) X.env = pure (some [x, y]) := by rfl) (hs : swapsWithSole [.Tuple [.Name x px, .Name y py] kt pt] (.Tuple [a, b] k2 pt2) pos.line X.env = pure false := by rfl)
    (hst : starEach [a, b] X.env = (false, eval a X.env) :: starEach [b] X.env := by rfl) (hst2 : starEach [b] X.env = (false, eval b X.env) :: starEach [] X.env := by rfl) :
    JS T X Γ ⟨Γ, lp, rm⟩ (.Assign [.Tuple [.Name x px, .Name y py] kt pt] (.Tuple [a, b] k2 pt2) pos) (sPar i j f1 f2) := by
  refine ⟨fun W tk => PS.imp (ps_par hc hN hi hj hij hx hy (pa_cons (ha.run W tk) (pa_cons (hb.run W tk) pa_nil hst2) hst) hw hs) fun E σ H ⟨B, g, st, I, p⟩ => ?_⟩
  refine te_then I.toSR p fun d1 s1 v H1 g1 q1 I1 r1 p1 => te_then I1 p1 fun d2 s2 w H2 g2 q2 I2 r2 p2 => ?_
  exact ⟨v, w, rfl, p2 _ H2 g2 (.refl g2 H2) ((I2.set hΓ (Rp.step I1.wf q2.toStep r1)).set hΓ' r2)⟩
/-- x op= e of whole numbers -/
def sAug (o : D → D → S → R D) (i : Nat) (f : S → R D) : S → RS := fun s => (eVar i s).then fun d s1 => (f s1).then fun e s2 => (o d e s2).then fun z s3 => .next { s3 with r := s3.r.set i (some z) }
theorem js_augAdd (i : Nat) {x : Str} (hN : X.N.Nodup) (he : JE T X Γ e .b1 f) (hi : X.N[i]? = some x := by rfl) (hx : Loc X.env.scope x := by first | exact Or.inl rfl | exact Or.inr rfl) (hΓ : fl Γ i = .sh := by rfl) (hf : X.fn x = true ∨ X.env.scope.names.lookup x = some .local := by first | exact .inl rfl | exact .inr rfl | assumption) :
    JS T X Γ ⟨Γ, lp, rm⟩ (.AugAssign (.Name x pos') .Add e pos) (sAug (fun d e s => match d, e with | .int i, .int j => .ok (.int (i + j)) s | _, _ => .stuck) i f) := by
  refine ⟨fun W tk => PS.imp (ps_aug hN hi hx (he.run W tk) ip_add hf) fun E σ H ⟨B, g, st, I, p⟩ => ?_⟩
  unfold sAug eVar at p
  cases e : st.r.getD i none with
  | none => rw [e] at p; exact p.elim
  | some d =>
    rw [e] at p
    obtain ⟨v, h1, h2⟩ := I.slot e
    rw [hΓ] at h2
    refine ⟨v, h1, te_then I.toSR p fun d2 s1 w H1 g1 q1 I1 r1 p1 => ?_⟩
    simp only at p1
    split at p1
    · simp only [SlR, Rp] at h2
      exact ⟨_, _, h2, b_int r1, p1 _ H1 g1 (.refl g1 H1) (I1.set hΓ (by simp only [Rp]))⟩
    · exact p1.elim
/-! ### own lists changed -/
theorem Step.wr {g : Gh} {H : Hp} {ad : Addr} {ws vs : List V} (own : g.Own ad) (hH : H ad = some (.lst ws)) : Step g H g (upd H ad (.lst vs)) where
  aa := fun _ h => h
  an := fun _ h => .inl h
  on := fun _ h => .inl h
  fr := fun b o h n => by
    rw [upd_ne fun z => n (by rw [z]; exact own)]
    exact h
  im := fun b o h im => by
    rw [upd_ne fun z => ?_]
    · exact h
    · rw [z, hH] at h
      cases h
      cases im
  tr := fun b h => by
    by_cases e : b = ad
    · rw [e, upd_same] at h
      cases h
    · rw [upd_ne e] at h
      exact h
  mu := List.prefix_refl _
theorem WF.wr {g : Gh} {H : Hp} {ad : Addr} {vs : List V} (w : WF g H) (own : g.Own ad) : WF g (upd H ad (.lst vs)) where
  ta := fun b h => by
    obtain ⟨o, e⟩ := w.ta b h
    exact ⟨o, by rw [upd_ne fun z => w.ao b h (by rw [z]; exact own)]; exact e⟩
  ot := fun b h => by
    by_cases e : b = ad
    · exact ⟨_, by rw [e, upd_same], rfl⟩
    · obtain ⟨o, e2, i2⟩ := w.ot b h
      exact ⟨o, by rw [upd_ne e]; exact e2, i2⟩
  ao := w.ao
  nf := w.nf
  df := w.df
  fm := w.fm
  nm := w.nm
/-- an own list of slot i is written -/
theorem SR.own1 {K : PySem.W.Frag} {g : Gh} {σ : L2.St} {H : Hp} {st : S} {i : Nat} {ad : Addr} {vs : List V} {ds : List D} (I : SR K T Γ g σ H st) (hf : fl Γ i = .o1) (ha : g.fp i = [ad]) (hv : σ.getD i none = some (.ref ad)) (hH : ∃ ws, H ad = some (.lst ws)) (r : Rps K T g H ds vs) :
    Step g H g (upd H ad (.lst vs)) ∧ SR K T Γ g σ (upd H ad (.lst vs)) { st with r := st.r.set i (some (.lst ds)) } := by
  obtain ⟨ws, hH⟩ := hH
  have hm : ad ∈ g.fp i := by rw [ha]; exact List.mem_cons_self
  have own : g.Own ad := .inl ⟨i, hm⟩
  have s : Step g H g (upd H ad (.lst vs)) := .wr own hH
  have wf : WF g (upd H ad (.lst vs)) := I.wf.wr own
  have u := s.sub I.wf
  refine ⟨s, wf, by simpa using I.len, fun j hj => ?_, I.me.sub u rfl fun b hb => by rw [upd_ne fun z => I.wf.fm i ad hm (by rw [← z]; exact hb)]⟩
  by_cases h : i = j
  · subst h
    rw [hv, hf, List.getD_eq_getElem?_getD, List.getElem?_set_self (by rw [← I.len]; exact hj)]
    exact ⟨ad, vs, ds, rfl, rfl, ha, upd_same, r.sub u⟩
  · rw [List.getD_eq_getElem?_getD (l := st.r.set i _), List.getElem?_set_ne h, ← List.getD_eq_getElem?_getD]
    exact (I.sl j hj).sub u rfl fun b hb => by rw [upd_ne fun z => h (I.wf.df i j ad hm (by rw [← z]; exact hb))]
theorem SR.getO {K : PySem.W.Frag} {g : Gh} {σ : L2.St} {H : Hp} {st : S} {i : Nat} {d : D} (I : SR K T Γ g σ H st) (hf : fl Γ i = .o1) (e : st.r.getD i none = some d) : ∃ ad vs ds, d = .lst ds ∧ σ[i]? = some (some (.ref ad)) ∧ σ.getD i none = some (.ref ad) ∧ g.fp i = [ad] ∧ H ad = some (.lst vs) ∧ Rps K T g H ds vs := by
  obtain ⟨v, h1, h2⟩ := I.slot e
  rw [hf] at h2
  obtain ⟨ad, vs, ds, e1, e2, e3, h3, h4⟩ := h2
  subst e1
  exact ⟨ad, vs, ds, e2, h1, by rw [List.getD_eq_getElem?_getD, h1]; rfl, e3, h3, h4⟩
def sApp (i : Nat) (f : S → R D) : S → RS := fun s => match s.r.getD i none with
  | some _ => (f s).then fun d s1 => (match s1.r.getD i none with
    | some (.lst xs) => if xs.length < sizeLine then .next { s1 with r := s1.r.set i (some (.lst (xs ++ [d]))) } else .stuck
    | _ => .stuck)
  | none => .stuck
theorem js_app (i : Nat) {x : Str} {p' ap : Pos} (he : JE T X Γ e .sh f) (hN : X.N[i]? = some x := by rfl) (hv : Vis X.env.scope x := by first | exact Or.inl rfl | exact Or.inr (Or.inl rfl) | exact Or.inr (Or.inr rfl)) (hf : fl Γ i = .o1 := by rfl)
    (hd : (x == ("__debug__" : Str)) = false := by decide) (hcd : (x == ("__classdict__" : Str)) = false := by decide)
    (hb : ∀ {te : TE}, PE X e te → PE X (.Call (.Attribute (.Name x p') "append" ap) [e] [] pos') (tBM X.K "list" rAppend (tVar i) (tCons te tNil)) := by
      exact fun h => pe_bm PySem.F.plainAttrs_list PySem.F.slot_list_append PySem.F.type_list_append mt_append (pv _) (pa_cons h pa_nil))
    (hs : swapsWith (.Call (.Attribute (.Name x p') "append" ap) [e] [] pos') none pos.line X.env = pure false := by rfl) : JS T X Γ ⟨Γ, lp, rm⟩ (.Expr (.Call (.Attribute (.Name x p') "append" ap) [e] [] pos') pos) (sApp i f) := by
  refine ⟨fun W tk => PS.imp (ps_expr (hb (he.run W tk)) hs) fun E σ H ⟨B, g, st, I, p⟩ => ?_⟩
  unfold sApp at p
  cases e0 : st.r.getD i none with
  | none => rw [e0] at p; exact p.elim
  | some d0 =>
    rw [e0] at p
    obtain ⟨ad, vs0, ds0, e1, h1, h1', h2, h3, h4⟩ := I.getO hf e0
    refine ⟨_, h1, .inl ⟨rfl, _, .inl (.inl h3)⟩, te_then I.toSR p fun d s1 x H1 g1 q1 I1 r1 p1 => ?_⟩
    cases e2 : s1.r.getD i none with
    | none => rw [e2] at p1; exact p1.elim
    | some d1 =>
      rw [e2] at p1
      obtain ⟨ad', vs, ds, e3, _, h1'', h2', h3', h4'⟩ := I1.getO hf e2
      subst e3
      have ea : ad' = ad := by
        rw [h1'] at h1''
        cases h1''
        rfl
      subst ea
      simp only at p1
      split at p1
      · rename_i hz
        obtain ⟨st2, I2⟩ := I1.own1 hf h2' h1' ⟨vs, h3'⟩ (h4'.append (.one r1))
        exact ⟨ad', vs, x, rfl, rfl, h3', by rw [h4'.length]; exact hz, p1 σ _ g1 st2 I2⟩
      · exact p1.elim
/-- own.extend(e) -/
def sExt (i : Nat) (f : S → R D) : S → RS := fun s => match s.r.getD i none with
  | some _ => (f s).then fun d s1 => (match s1.r.getD i none, d with
    | some (.lst xs), .lst ys => if xs.length + ys.length ≤ sizeLine then .next { s1 with r := s1.r.set i (some (.lst (xs ++ ys))) } else .stuck
    | _, _ => .stuck)
  | none => .stuck
/-- own[k] = e -/
def sSetI (i : Nat) (fk fe : S → R D) : S → RS := fun s => (fe s).then fun d s1 => match s1.r.getD i none with
  | some _ => (fk s1).then fun k s2 => (match s2.r.getD i none, k with
    | some (.lst xs), .int k => (match ixN xs.length k with
      | some j => .next { s2 with r := s2.r.set i (some (.lst (xs.set j d))) }
      | none => .stuck)
    | _, _ => .stuck)
  | none => .stuck
theorem js_setI (i : Nat) {x : Str} {p' : Pos} {kx : Expr} {fk : S → R D} (he : JE T X Γ e .sh f) (hk : JE T X Γ kx .b1 fk) (hN : X.N[i]? = some x := by rfl) (hv : Vis X.env.scope x := by first | exact Or.inl rfl | exact Or.inr (Or.inl rfl) | exact Or.inr (Or.inr rfl)) (hf : fl Γ i = .o1 := by rfl)
    (hd : (x == ("__debug__" : Str)) = false := by decide) (hcd : (x == ("__classdict__" : Str)) = false := by decide)
    (ha : ∀ v, assign (.Subscript (.Name x p') kx pos') X.env v = (do
      let ov ← holding [v] (eval (.Name x p') X.env)
      let iv ← holding [v, ov] (eval kx X.env)
      standAt pos'
      holding [v, ov, iv] (setItem ov iv v)
      release [v, ov, iv] []) := by intro _; rfl)
    (hs : swapsWithSole [.Subscript (.Name x p') kx pos'] e pos.line X.env = pure false := by rfl) (hw : swappedStores [.Subscript (.Name x p') kx pos'] e X.env = pure none := by rfl)
    (h1 : (assignEach [.Subscript (.Name x p') kx pos'] X.env).map (·.2) = [assign (.Subscript (.Name x p') kx pos') X.env] := by rfl) : JS T X Γ ⟨Γ, lp, rm⟩ (.Assign [.Subscript (.Name x p') kx pos'] e pos) (sSetI i fk f) := by
  refine ⟨fun W tk => PS.imp (ps_asg (he.run W tk) (pg_sub (pe_var hN hv hd hcd) (hk.run W tk) set_list ha) hs hw h1) fun E σ H ⟨B, g, st, I, p⟩ => ?_⟩
  unfold sSetI at p
  refine te_then I.toSR p fun d s1 x H1 g1 q1 I1 r1 p1 => ?_
  cases e0 : s1.r.getD i none with
  | none => rw [e0] at p1; exact p1.elim
  | some d0 =>
    rw [e0] at p1
    obtain ⟨ad, vs0, ds0, e1, h1, h1', h2, h3, h4⟩ := I1.getO hf e0
    refine ⟨_, h1, te_then I1 p1 fun k s2 y H2 g2 q2 I2 r2 p2 => ?_⟩
    cases e2 : s2.r.getD i none with
    | none => rw [e2] at p2; exact p2.elim
    | some d1 =>
      rw [e2] at p2
      obtain ⟨ad', vs, ds, e3, _, h1'', h2', h3', h4'⟩ := I2.getO hf e2
      subst e3
      have ea : ad' = ad := by
        rw [h1'] at h1''
        cases h1''
        rfl
      subst ea
      cases k with
      | int k =>
        simp only at p2
        split at p2
        · rename_i j ej
          obtain ⟨st2, I3⟩ := I2.own1 hf h2' h1' ⟨vs, h3'⟩ (h4'.set j (Rp.step I1.wf q2.toStep r1))
          exact ⟨ad', vs, k, j, rfl, b_int r2, h3', by rw [h4'.length]; exact ej, p2 σ _ g2 st2 I3⟩
        · exact p2.elim
      | _ => exact p2.elim
/-! ### a cell changed -/
theorem SR.cell {K : PySem.W.Frag} {g : Gh} {σ : L2.St} {H : Hp} {st : S} {n : Nat} {ad : Addr} {vs : List V} {ds : List D} (I : SR K T Γ g σ H st) (ha : g.mu[n]? = some ad) (hH : ∃ ws, H ad = some (.lst ws)) (r : Rps K T g H ds vs) :
    Step g H g (upd H ad (.lst vs)) ∧ SR K T Γ g σ (upd H ad (.lst vs)) { st with m := st.m.set n (.lst ds) } := by
  obtain ⟨ws, hH⟩ := hH
  have hm : ad ∈ g.mu := List.mem_of_getElem? ha
  have own : g.Own ad := .inr hm
  have s : Step g H g (upd H ad (.lst vs)) := .wr own hH
  have wf : WF g (upd H ad (.lst vs)) := I.wf.wr own
  have u := s.sub I.wf
  refine ⟨s, wf, I.len, fun j hj => (I.sl j hj).sub u rfl fun b hb => by rw [upd_ne fun z => I.wf.fm j b hb (by rw [z]; exact hm)], by simpa using I.me.len, fun k c b h1 h2 => ?_⟩
  by_cases h : n = k
  · subst h
    rw [ha] at h2
    cases h2
    have hl : n < st.m.length := by
      rw [← I.me.len]
      exact (List.getElem?_eq_some_iff.mp ha).1
    rw [List.getElem?_set_self hl] at h1
    cases h1
    exact ⟨vs, upd_same, r.sub u⟩
  · rw [List.getElem?_set_ne h] at h1
    have q := I.me.at_ k c b h1 h2
    have hne : b ≠ ad := fun z => by
      subst z
      obtain ⟨h3, e3⟩ := List.getElem?_eq_some_iff.mp ha
      obtain ⟨h4, e4⟩ := List.getElem?_eq_some_iff.mp h2
      exact h ((List.getElem_inj I.wf.nm).mp (e3.trans e4.symm))
    exact CellR.sub u (upd_ne hne) q
/-- cell[k] = e -/
def sSetM (i : Nat) (fk fe : S → R D) : S → RS := fun s => (fe s).then fun d s1 => match s1.r.getD i none with
  | some (.ref n) => (fk s1).then fun k s2 => (match mLst s2 n, k with
    | some xs, .int k => (match ixN xs.length k with
      | some j => .next { s2 with m := s2.m.set n (.lst (xs.set j d)) }
      | none => .stuck)
    | _, _ => .stuck)
  | _ => .stuck
theorem js_setM (i : Nat) {x : Str} {p' : Pos} {kx : Expr} {fk : S → R D} (he : JE T X Γ e .sh f) (hk : JE T X Γ kx .b1 fk) (hN : X.N[i]? = some x := by rfl) (hv : Vis X.env.scope x := by first | exact Or.inl rfl | exact Or.inr (Or.inl rfl) | exact Or.inr (Or.inr rfl)) (hf : fl Γ i = .sh := by rfl)
    (hd : (x == ("__debug__" : Str)) = false := by decide) (hcd : (x == ("__classdict__" : Str)) = false := by decide)
    (ha : ∀ v, assign (.Subscript (.Name x p') kx pos') X.env v = (do
      let ov ← holding [v] (eval (.Name x p') X.env)
      let iv ← holding [v, ov] (eval kx X.env)
      standAt pos'
      holding [v, ov, iv] (setItem ov iv v)
      release [v, ov, iv] []) := by intro _; rfl)
    (hs : swapsWithSole [.Subscript (.Name x p') kx pos'] e pos.line X.env = pure false := by rfl) (hw : swappedStores [.Subscript (.Name x p') kx pos'] e X.env = pure none := by rfl)
    (h1 : (assignEach [.Subscript (.Name x p') kx pos'] X.env).map (·.2) = [assign (.Subscript (.Name x p') kx pos') X.env] := by rfl) : JS T X Γ ⟨Γ, lp, rm⟩ (.Assign [.Subscript (.Name x p') kx pos'] e pos) (sSetM i fk f) := by
  refine ⟨fun W tk => PS.imp (ps_asg (he.run W tk) (pg_sub (pe_var hN hv hd hcd) (hk.run W tk) set_list ha) hs hw h1) fun E σ H ⟨B, g, st, I, p⟩ => ?_⟩
  unfold sSetM at p
  refine te_then I.toSR p fun d s1 x H1 g1 q1 I1 r1 p1 => ?_
  cases e0 : s1.r.getD i none with
  | none => rw [e0] at p1; exact p1.elim
  | some d0 =>
    rw [e0] at p1
    obtain ⟨v, h1, h2⟩ := I1.slot e0
    rw [hf] at h2
    cases d0 with
    | ref n =>
      simp only [SlR, Rp] at h2
      obtain ⟨ad, ev, ha⟩ := h2
      refine ⟨_, h1, te_then I1 p1 fun k s2 y H2 g2 q2 I2 r2 p2 => ?_⟩
      subst ev
      have ha2 : g2.mu[n]? = some ad := by
        obtain ⟨tl, ht⟩ := q2.mu
        rw [← ht, List.getElem?_append_left (List.getElem?_eq_some_iff.mp ha).1]
        exact ha
      cases em : mLst s2 n with
      | none => rw [em] at p2; exact p2.elim
      | some xs =>
        rw [em] at p2
        obtain ⟨vs, h3', h4'⟩ := mcell I2 em ha2
        cases k with
        | int k =>
          simp only at p2
          split at p2
          · rename_i j ej
            obtain ⟨st2, I3⟩ := I2.cell ha2 ⟨vs, h3'⟩ (h4'.set j (Rp.step I1.wf q2.toStep r1))
            exact ⟨ad, vs, k, j, rfl, b_int r2, h3', by rw [h4'.length]; exact ej, p2 σ _ g2 st2 I3⟩
          · exact p2.elim
        | _ => exact p2.elim
    | _ => exact p1.elim
/-- x = a fresh list that becomes a cell -/
def sAsgC (i : Nat) (f : S → R D) : S → RS := fun s => (f s).then fun d s => match d with
  | .lst xs => .next { r := s.r.set i (some (.ref s.m.length)), m := s.m ++ [.lst xs] }
  | _ => .stuck
def Gh.more (g : Gh) (a : Addr) : Gh := ⟨g.A, g.fp, g.mu ++ [a]⟩
theorem js_setC (i : Nat) {x : Str} (hN : X.N.Nodup) (he : JE T X Γ e .f1 f) (hi : X.N[i]? = some x := by rfl) (hx : Loc X.env.scope x := by first | exact Or.inl rfl | exact Or.inr rfl) (hs : swapsWith e (some (.Name x pos')) pos.line X.env = pure false := by rfl)
    (hΓ : fl Γ i = .sh := by rfl) (hf : X.fn x = true ∨ X.env.scope.names.lookup x = some .local := by first | exact .inl rfl | exact .inr rfl | assumption) : JS T X Γ ⟨Γ, lp, rm⟩ (.Assign [.Name x pos'] e pos) (sAsgC i f) := by
  refine ⟨fun W tk => PS.imp (ps_set hN hi hx (he.run W tk) hs hf) fun E σ H ⟨B, g, st, I, p⟩ => ?_⟩
  refine ⟨g, st, I.toSR, ?_⟩
  unfold sAsgC at p
  cases e : f st with
  | raise ex s1 => rw [e] at p; exact fun cls dd H' g' => p cls dd σ H' g'
  | stuck => rw [e] at p; exact p
  | ok d s1 =>
    rw [e] at p
    intro v H1 g1 q1 I1 r1
    cases d with
    | lst ds =>
      obtain ⟨a, vs, ev, h1, h2, h3⟩ := r1
      subst ev
      have own : ∀ b, (g1.more a).Own b → g1.Own b ∨ b = a := fun b h => by
        rcases h with h | h
        · exact .inl (.inl h)
        · rcases List.mem_append.mp h with h | h
          · exact .inl (.inr h)
          · exact .inr (by simpa using h)
      have st2 : Step g H (g1.more a) H1 := ⟨q1.aa, q1.an, fun b h => by
        rcases own b h with h | h
        · exact q1.on b h
        · rw [h]; exact .inr h2.2.2, q1.fr, q1.im, q1.tr, q1.mu.trans (List.prefix_append _ _)⟩
      have u : Sub g1 H1 (g1.more a) H1 := ⟨fun _ h => h, fun _ _ _ h => h, fun _ _ h _ => h, List.prefix_append _ _⟩
      have wf : WF (g1.more a) H1 := ⟨I1.wf.ta, fun b h => by
        rcases own b h with h | h
        · exact I1.wf.ot b h
        · rw [h]; exact ⟨_, h1, rfl⟩, fun b h q => by
        rcases own b q with q | q
        · exact I1.wf.ao b h q
        · rw [q] at h; exact h2.1 h, I1.wf.nf, I1.wf.df, fun j b h q => by
        rcases List.mem_append.mp q with q | q
        · exact I1.wf.fm j b h q
        · have : b = a := by simpa using q
          rw [this] at h
          exact h2.2.1 (.inl ⟨j, h⟩), by
        rw [show (g1.more a).mu = g1.mu ++ [a] from rfl, List.nodup_append]
        refine ⟨I1.wf.nm, by simp, fun x hx y hy => ?_⟩
        have : y = a := by simpa using hy
        rw [this]
        rintro rfl
        exact h2.2.1 (.inr hx)⟩
      have I2 : SR X.K T Γ (g1.more a) σ H1 { s1 with m := s1.m ++ [.lst ds] } := I1.re u wf rfl (fun _ _ _ => rfl) ⟨by
        show (g1.mu ++ [a]).length = _
        rw [List.length_append, List.length_append, I1.me.len]; rfl, fun n c b e1 e2 => by
        have e2' : (g1.mu ++ [a])[n]? = some b := e2
        by_cases hn : n < s1.m.length
        · rw [List.getElem?_append_left hn] at e1
          rw [List.getElem?_append_left (by rw [I1.me.len]; exact hn)] at e2'
          have q := I1.me.at_ n c b e1 e2'
          exact CellR.sub u rfl q
        · rw [List.getElem?_append_right (by omega)] at e1
          rw [List.getElem?_append_right (by rw [I1.me.len]; omega)] at e2'
          rw [I1.me.len] at e2'
          cases hk : n - s1.m.length with
          | zero =>
            rw [hk] at e1 e2'
            cases e1
            cases e2'
            exact ⟨vs, h1, h3.sub u⟩
          | succ k =>
            rw [hk] at e1
            simp at e1⟩
      refine p _ H1 (g1.more a) st2 (I2.set hΓ ?_)
      simp only [Rp]
      refine ⟨a, rfl, ?_⟩
      show (g1.mu ++ [a])[s1.m.length]? = some a
      rw [List.getElem?_append_right (by rw [I1.me.len]; exact Nat.le_refl _), I1.me.len, Nat.sub_self]
      rfl
    | _ => exact p.elim
end
end DL
set_option linter.all false
set_option Elab.async false
set_option maxRecDepth 100000
namespace DL
open PySem PySem.Spec PyProof.Rows L2
/-! ### loops -/
def forL (t : Tg) (body : S → RS) : List D → S → RS
  | [], s => .next s
  | d :: ds, s => match asgD t d s with
    | none => .stuck
    | some s2 => match body s2 with
      | .next s3 => forL t body ds s3
      | .cont s3 => forL t body ds s3
      | .brk s3 => .next s3
      | r => r
def sFor (fi : S → R (List D)) (t : Tg) (body : S → RS) : S → RS := fun s => (fi s).then fun ds s1 => forL t body ds s1
def whileL (c : S → R Bool) (body : S → RS) : Nat → S → RS
  | 0, _ => .stuck
  | n + 1, s => (c s).then fun k s1 => if k then (match body s1 with
      | .next s2 => whileL c body n s2
      | .cont s2 => whileL c body n s2
      | .brk s2 => .next s2
      | r => r) else .next s1
def sWhile (fuel : S → Nat) (c : S → R Bool) (body : S → RS) : S → RS := fun s => whileL c body (fuel s) s
section
variable {T : Tb} {X : Cx} {Γ Γ' : Fls} {F : Fx} {e a b c tg iter : Expr} {m m1 m2 m3 : Mo} {f f1 f2 f3 : S → R D} {pos p2 pos' : Pos} {es rest : List Expr} {k1 k2 : S → R Bool} {fs fi : S → R (List D)} {t : Tg} {s1 s2 : Stmt} {ss ss2 : List Stmt} {q q1 q2 : S → RS} {nx lp : Fls} {rm : Mo}
theorem ti_then {K : PySem.W.Frag} {B : Bs} {g : Gh} {H : Hp} {W : WX} {E : Ends} {σ : L2.St} {st : S} {fi : S → R (List D)} {k : List D → S → RS} {Q : It → Hp → Prop} (I : SR K T Γ g σ H st) (h : PostS K T F B g H W E ((fi st).then k))
    (hk : ∀ ds st' J H' g', QStep g H g' H' → SR K T Γ g' σ H' st' → Wlk K T g' H' J ds → PostS K T F B g' H' W E (k ds st') → Q J H') : ti K T Γ W fi σ H Q := by
  refine ⟨g, st, I, ?_⟩
  cases e : fi st with
  | ok d st' =>
    rw [e] at h
    exact fun J H' g' s r p => hk d st' J H' g' s r p (h.shift s.toStep)
  | raise ex st' =>
    rw [e] at h
    exact fun cls dd H' g' => h cls dd σ H' g'
  | stuck =>
    rw [e] at h
    exact h
theorem js_for (hp : PassesOwn (model X.prog X.w) X.A X.env X.xe) (hc : X.calm = true) (hi : JI T X Γ tg iter fi) (hg : JG T X tg t) (hb : JSs T X Γ ⟨Γ, Γ, rm⟩ ss q) (hf : ∀ i ∈ t.vs, fl Γ i = .sh := by decide)
    (hs : ∀ x, foldedSetIterable iter X.env x = pure x := by intro _; rfl) : JS T X Γ ⟨Γ, lp, rm⟩ (.For tg iter ss [] pos) (sFor fi t q) := by
  refine ⟨fun W tk => PS.imp (ps_for hp hc (hi.run W tk) hg.run (hb.run W tk) hs) fun E σ H ⟨B, g, st, I, p⟩ => ?_⟩
  refine ti_then I.toSR p fun ds s1 J H1 g1 q1 I1 wl p1 => ?_
  have IB1 := I.go q1.toStep I1
  refine ⟨fun i m σ' H' => i ≤ ds.length ∧ m = ds.length - i ∧ ∃ g' s', Step g1 H1 g' H' ∧ SB X.K T Γ B g' σ' H' s' ∧ PostS X.K T ⟨Γ, lp, rm⟩ B g' H' W E (forL t q (ds.drop i) s'), ⟨ds.length, Nat.zero_le _, by simp, g1, s1, .refl _ _, IB1, by rw [List.drop_zero]; exact p1⟩, ?_⟩
  rintro i m σ' H' ⟨hi, rfl, g', s', st', I', p'⟩
  by_cases hlt : i < ds.length
  · have ed : ds.drop i = ds[i] :: ds.drop (i + 1) := (List.drop_eq_getElem_cons hlt)
    have eg : ds[i]? = some ds[i] := List.getElem?_eq_getElem hlt
    refine .inr ⟨wl.go i _ g' H' st' I'.wf eg, fun σ3 H3 => ∃ g3 s3, Step g1 H1 g3 H3 ∧ SB X.K T Γ B g3 σ3 H3 s3 ∧ PostS X.K T ⟨Γ, lp, rm⟩ B g3 H3 W E (forL t q (ds.drop (i + 1)) s3), fun σ3 H3 h3 => ⟨ds.length - (i + 1), by omega, hlt, rfl, h3⟩, fun x H2 y => ?_⟩
    rw [ed] at p'
    unfold forL at p'
    have hy : ∃ sH : Step g' H' g' H2, SR X.K T Γ g' σ' H2 s' ∧ Rp X.K T g' H2 ds[i] x := by
      rcases wl.yld i _ g' H' x H2 st' I'.wf eg y with ⟨e1, r⟩ | ⟨p, ws, hp, e1, r⟩
      · subst e1
        exact ⟨.refl _ _, I'.toSR, r⟩
      · subst e1
        exact ⟨.new hp, I'.toSR.new hp, r⟩
    obtain ⟨sH, I2, rx⟩ := hy
    cases ea : asgD t ds[i] s' with
    | none => rw [ea] at p'; exact p'.elim
    | some s2 =>
      rw [ea] at p'
      simp only at p'
      refine tgR_of I2 rx hf ea fun σ2 I3 _ => ⟨B, g', s2, I'.go sH I3, ?_⟩
      have st2 := st'.trans sH
      cases eb : q s2 with
      | next s3 =>
        rw [eb] at p'
        exact fun σ3 H3 g3 st3 I4 => ⟨g3, s3, st2.trans st3, (I'.go sH I3).go st3 I4, p'.shift (sH.trans st3)⟩
      | cont s3 =>
        rw [eb] at p'
        exact fun σ3 H3 g3 st3 I4 => ⟨g3, s3, st2.trans st3, (I'.go sH I3).go st3 I4, p'.shift (sH.trans st3)⟩
      | brk s3 =>
        rw [eb] at p'
        exact fun σ3 H3 g3 st3 I4 => p' σ3 H3 g3 (sH.trans st3) I4
      | ret d s3 => rw [eb] at p'; exact p'
      | raise ex s3 =>
        rw [eb] at p'
        exact fun cls dd σ3 H3 g3 st3 => p' cls dd σ3 H3 g3 (sH.trans st3)
      | stuck => rw [eb] at p'; exact p'
  · have hi' : i = ds.length := by omega
    subst hi'
    refine .inl ⟨wl.stop g' H' st' I'.wf, ?_⟩
    rw [List.drop_length] at p'
    exact p' σ' H' g' (.refl _ _) I'.toSR
theorem js_while (fuel : S → Nat) (hp : PassesOwn (model X.prog X.w) X.A X.env X.xe) (hc : JT T X Γ c k1) (hb : JSs T X Γ ⟨Γ, Γ, rm⟩ ss q) : JS T X Γ ⟨Γ, lp, rm⟩ (.While c ss [] pos) (sWhile fuel k1 q) := by
  refine ⟨fun W tk => PS.imp (ps_while hp (hc.run W tk) (hb.run W tk)) fun E σ H ⟨B, g, st, I, p⟩ => ?_⟩
  refine ⟨fun n σ' H' => ∃ g' s', SB X.K T Γ B g' σ' H' s' ∧ PostS X.K T ⟨Γ, lp, rm⟩ B g' H' W E (whileL k1 q n s'), ⟨fuel st, g, st, I, p⟩, ?_⟩
  rintro n σ' H' ⟨g', s', I', p'⟩
  cases n with
  | zero => exact p'.elim
  | succ n =>
    unfold whileL at p'
    refine tt_then I'.toSR p' fun k s1 H1 g1 q1 I1 p1 => ?_
    have IB1 := I'.go q1.toStep I1
    cases k with
    | false =>
      rw [if_neg Bool.false_ne_true] at p1 ⊢
      exact p1 σ' H1 g1 (.refl _ _) I1
    | true =>
      rw [if_pos rfl] at p1 ⊢
      refine ⟨fun σ3 H3 => ∃ g3 s3, SB X.K T Γ B g3 σ3 H3 s3 ∧ PostS X.K T ⟨Γ, lp, rm⟩ B g3 H3 W E (whileL k1 q n s3), fun σ3 H3 h3 => ⟨n, Nat.lt_succ_self n, h3⟩, B, g1, s1, IB1, ?_⟩
      cases eb : q s1 with
      | next s3 =>
        rw [eb] at p1
        exact fun σ3 H3 g3 st3 I4 => ⟨g3, s3, IB1.go st3 I4, p1.shift st3⟩
      | cont s3 =>
        rw [eb] at p1
        exact fun σ3 H3 g3 st3 I4 => ⟨g3, s3, IB1.go st3 I4, p1.shift st3⟩
      | brk s3 =>
        rw [eb] at p1
        exact fun σ3 H3 g3 st3 I4 => p1 σ3 H3 g3 st3 I4
      | ret d s3 => rw [eb] at p1; exact p1
      | raise ex s3 => rw [eb] at p1; exact p1
      | stuck => rw [eb] at p1; exact p1
/-! ### code never come to -/
theorem je_never : JE T X Γ e m (fun _ => .stuck) := ⟨fun W tk => ⟨fun pins s σ H Q I ⟨g, st, _, p⟩ => p.elim⟩⟩
/-! ### constants, defs as values -/
theorem je_glob (d : D) {x : Str} {v : V} {u : Value} (hg : Gl X x) (hm : X.mg x = some u) (r : RelV v u) (rp : ∀ g H, Rp X.K T g H d v) (hd : (x == ("__debug__" : Str)) = false := by decide) : JE T X Γ (.Name x pos) .sh (eC d) :=
  ⟨fun W tk => PE.imp (L2.pe_glob hg hm r hd) fun σ H Q ⟨g, st, I, p⟩ => p _ H g (.refl g H) I (rp g H)⟩
theorem je_fn (i : Nat) {x : Str} {fa : Addr} (hg : Gl X x) (hm : X.mg x = some (.ref fa)) (ht : T.fn i = some fa) (hd : (x == ("__debug__" : Str)) = false := by decide) : JE T X Γ (.Name x pos) .sh (eC (.fn i)) :=
  je_glob (.fn i) (v := .ref fa) hg hm rfl (fun g H => by simp only [Rp]; exact ⟨fa, rfl, ht⟩) hd
/-! ### raise -/
theorem pmk_own0 {C : Addr} {bmB : List Value} {B newId initId : String} {x : Str} {p : Pos} (F : ExcBaseFacts B newId initId bmB) (q : PySem.W.excIn X.K C bmB newId = true) (gC : X.mg x = some (.ref C))
    (kC : PySem.W.keepIn X.K (.ref C) = true) (r : Raises X (.ref C)) (hg : Gl X x) (hdb : (x == ("__debug__" : Str)) = false := by decide) :
    PMk X (.Call (.Name x p) [] [] pos) (fun σ H Q => Q (.ref C) none H) := by
  intro pins s σ H Q I h
  refine wpAny_Call_Name_kw (ld_glob I hg gC ?_ hdb)
  refine PySem.W.callWith_K0 I.kIn kC ?_
  show wpAny _ _ (call (.ref C) []) _ _ _
  obtain ⟨bm, N, nm, qn, bs, hdct, sn, sub, ab, col, dd, k0, k1, k2, k3, k5, mN, hC, hN, hni, T⟩ := exc_obj I.kIn q
  refine wpAny_call_exc_subT F T hC hN hni (fun h' e hm => ?_) (Nat.zero_le _)
  exact mk_of I hm r h (I.hok.gone hm.new)
def sRaise (i : Nat) : S → RS := fun s => .raise (.mk i []) s
/-- what an own exception class without an __init__ must have -/
structure Exc0 (K : PySem.W.Frag) (T : Tb) (mg : Str → Option Value) (x : Str) (i : Nat) : Prop where
  ex : ∃ (C : Addr) (bmB : List Value) (B newId initId : String), T.exc i = some C ∧ mg x = some (.ref C) ∧ ExcBaseFacts B newId initId bmB ∧ PySem.W.excIn K C bmB newId = true ∧ PySem.W.keepIn K (.ref C) = true ∧
    PySem.W.subIn K (.ref C) (.type "BaseException") = some true ∧ PySem.W.typeIn K (.ref C) = some (.type "type")
theorem js_raise (i : Nat) {x : Str} {p : Pos} (hc : X.calm = true) (h : Exc0 X.K T X.mg x i) (hg : Gl X x) (hdb : (x == ("__debug__" : Str)) = false := by decide) : JS T X Γ F (.Raise (some (.Call (.Name x p) [] [] pos')) none pos) (sRaise i) := by
  obtain ⟨C, bmB, B, newId, initId, hT, gC, Fc, q, kC, b, t⟩ := h.ex
  refine ⟨fun W tk => PS.imp (L2.ps_raise hc tk (pmk_own0 Fc q gC kC (raises_own b t) hg hdb)) fun E σ H ⟨Bs, g, st, I, p⟩ => ?_⟩
  exact p _ none σ H _ (.frz I.wf) I.toSR.frzAll ⟨C, hT, rfl, .inl ⟨rfl, rfl⟩⟩
end
/-! ### what a def promises -/
inductive RF where
  | ok (d : D) (m : List Cell) | raise (e : Ex) (m : List Cell) | stuck
abbrev MF := List D → List Cell → RF
def spOf (K : PySem.W.Frag) (T : Tb) (n : Nat) (rm : Mo) (mf : MF) : Sp := fun vs H Q E => ∃ ds m g, ds.length = n ∧ WF g H ∧ (∀ i, g.fp i = []) ∧ Rps K T g H ds vs ∧ MR K T g H m ∧ match mf ds m with
  | .ok d m' => ∀ v H' g', Step g H g' H' → WF g' H' → (∀ i, g'.fp i = []) → MR K T g' H' m' → RpM K T g' H H' rm d v → Q v H'
  | .raise e m' => ∀ cls dd H' g', Step g H g' H' → WF g' H' → (∀ i, g'.fp i = []) → MR K T g' H' m' → ExR K T g' H' e cls dd → E cls dd H'
  | .stuck => False
/-- a body as a function -/
def mkF (n : Nat) (q : S → RS) : MF := fun ds m => match q ⟨ds.map some ++ List.replicate (n - ds.length) none, m⟩ with
  | .next s => .ok .non s.m
  | .ret d s => .ok d s.m
  | .raise e s => .raise e s.m
  | _ => .stuck
/-- a def of the module, callable -/
structure Cal (P : Program) (w : World) (K : PySem.W.Frag) (mg : Str → Option Value) (base : Heap) (T : Tb) (x : Str) (k n : Nat) (rm : Mo) (mf : MF) : Prop where
  ex : ∃ f fd ps, FnOk P w K mg base (L2.CX P w) k f fd ps (spOf K T n rm mf) ∧ mg x = some (.ref f) ∧ PySem.W.keepIn K (.ref f) = true ∧ Binds K fd ps []
section
variable {K : PySem.W.Frag} {T : Tb} {g g' : Gh} {H H' : Hp} {Γ : Fls} {σ : L2.St} {st : S} {W : WX} {Q : VK} {m : Mo}
theorem ExR.drop {e : Ex} {cls : Value} {dd : Option Addr} (h : ExR K T g H e cls dd) : ExR K T ⟨g.A, fun _ => [], g.mu⟩ H e cls dd := by
  cases e with
  | mk i fs =>
    obtain ⟨C, h1, h2, h3⟩ := h
    refine ⟨C, h1, h2, ?_⟩
    rcases h3 with h3 | ⟨ne, dx, vs, e1, e2, r, l⟩
    · exact .inl h3
    · exact .inr ⟨ne, dx, vs, e1, e2, r.sub .drop, l⟩
theorem start_get (N : List Str) (vs : List V) (ds : List D) (hl : vs.length = ds.length) (i : Nat) (hi : i < (L2.start N vs).length) (P : Option V → Option D → Prop) (hn : P none none) (hs : ∀ v d, vs[i]? = some v → ds[i]? = some d → P (some v) (some d)) :
    P ((L2.start N vs).getD i none) ((ds.map some ++ List.replicate (N.length - ds.length) none).getD i none) := by
  unfold L2.start at hi ⊢
  rw [← hl]
  by_cases h : i < vs.length
  · rw [List.getD_eq_getElem?_getD, List.getElem?_append_left (by simpa using h), List.getD_eq_getElem?_getD, List.getElem?_append_left (by simpa using (hl ▸ h)), List.getElem?_map, List.getElem?_map]
    have h' : i < ds.length := hl ▸ h
    rw [List.getElem?_eq_getElem h, List.getElem?_eq_getElem h']
    exact hs _ _ (List.getElem?_eq_getElem h) (List.getElem?_eq_getElem h')
  · rw [List.getD_eq_getElem?_getD, List.getElem?_append_right (by simpa using Nat.le_of_not_lt h), List.getD_eq_getElem?_getD, List.getElem?_append_right (by simpa using Nat.le_of_not_lt (hl ▸ h)), List.getElem?_replicate, List.getElem?_replicate]
    have e1 : (if i - (vs.map some).length < N.length - vs.length then some (none : Option V) else none).getD none = none := by split <;> rfl
    have e2 : (if i - (ds.map some).length < N.length - vs.length then some (none : Option D) else none).getD none = none := by split <;> rfl
    rw [e1, e2]
    exact hn
end
section
variable {P : Program} {w : World} {K : PySem.W.Frag} {mg : Str → Option Value} {base : Heap} {T : Tb}
/-- THE RULE for a def -/
theorem fn_mk {x qual : Str} {st : Stmt} {f : Addr} {fd : FuncData} {N ps : List Str} {k n : Nat} {rm : Mo} {q : S → RS} {Γ' : Fls} (F : Fun K x qual st f fd) (Sc : FnScope N ps (defScope st)) (hps : ps.length = n) (hle : n ≤ N.length)
    (hb : ∀ (cdv : Value) (A : Around) (outer : List Env) (s : Shared) (H : Hp) (E : XK), Room k (A.deeper (envOfC qual (defScope st) s.heap.objs.size f cdv)) →
      PassesOwn (model P w) (cxOf (L2.CX P w) P w K mg base N qual (defScope st) f cdv A outer s H E).A (cxOf (L2.CX P w) P w K mg base N qual (defScope st) f cdv A outer s H E).env (cxOf (L2.CX P w) P w K mg base N qual (defScope st) f cdv A outer s H E).xe →
      JSs T (cxOf (L2.CX P w) P w K mg base N qual (defScope st) f cdv A outer s H E) [] ⟨Γ', [], rm⟩ (defBody st) q) :
    FnOk P w K mg base (L2.CX P w) (k + 1) f fd ps (spOf K T n rm (mkF N.length q)) := by
  refine F.okX Sc (fun vs H Q E h => ?_) (fun cdv A outer s H vs Q E hr h => ?_)
  · obtain ⟨ds, m, g, h1, _, _, h2, _⟩ := h
    rw [h2.length, h1, hps]
  · obtain ⟨ds, m, g, hl, wf, hfp, rps, mr, hq⟩ := h
    refine ⟨_, (hb cdv A outer s H E hr (passes_of rfl)).run (fun cls d _ H' => E cls d H') (takes_of rfl rfl rfl rfl), ?_⟩
    have len := rps.length
    have I : SR K T [] g (L2.start N vs) H ⟨ds.map some ++ List.replicate (N.length - ds.length) none, m⟩ := ⟨wf, by
      unfold L2.start
      simp only [List.length_append, List.length_map, List.length_replicate, len], fun i hi => by
      refine start_get N vs ds len i hi (fun v d => SlR K T g H i (fl [] i) v d) True.intro fun v d e1 e2 => ?_
      obtain ⟨v', e3, r⟩ := rps.get e2
      rw [e1] at e3
      cases e3
      exact r, mr⟩
    refine ⟨⟨g, H⟩, g, _, ⟨I, .refl g H, hfp⟩, ?_⟩
    unfold mkF at hq
    cases e : q ⟨ds.map some ++ List.replicate (N.length - ds.length) none, m⟩ with
    | next s' =>
      rw [e] at hq
      exact fun σ' H' g' s2 I2 => hq _ H' ⟨g'.A, fun _ => [], g'.mu⟩ (s2.trans .drop) I2.wf.drop (fun _ => rfl) I2.me.drop rm_non
    | ret d s' =>
      rw [e] at hq
      exact hq
    | raise ex s' =>
      rw [e] at hq
      exact fun cls dd σ' H' g' s2 I2 x => hq cls dd H' ⟨g'.A, fun _ => [], g'.mu⟩ (s2.trans .drop) I2.wf.drop (fun _ => rfl) I2.me.drop x.drop
    | brk _ => rw [e] at hq; exact hq.elim
    | cont _ => rw [e] at hq; exact hq.elim
    | stuck => rw [e] at hq; exact hq.elim
end
end DL
set_option linter.all false
set_option Elab.async false
set_option maxRecDepth 100000
namespace DL
open PySem PySem.Spec PyProof.Rows L2
/-! ### calls -/
def callR (r : RF) (s : S) : R D := match r with
  | .ok d m => .ok d ⟨s.r, m⟩
  | .raise e m => .raise e ⟨s.r, m⟩
  | .stuck => .stuck
/-- what a caller owns, behind a call -/
def Gh.back (g : Gh) (fp : Nat → List Addr) : Gh := ⟨g.A, fp, g.mu⟩
section
variable {K : PySem.W.Frag} {T : Tb} {g g' : Gh} {H H' : Hp} {Γ : Fls} {σ : L2.St} {st : S} {W : WX} {Q : VK} {m : Mo}
theorem Sub.back {fp : Nat → List Addr} : Sub g H (g.back fp) H := ⟨fun _ h => h, fun _ _ _ h => h, fun _ _ h _ => h, List.prefix_refl _⟩
abbrev Gh.dr (g : Gh) : Gh := ⟨g.A, fun _ => [], g.mu⟩
theorem own_dr {b : Addr} (h : g.dr.Own b) : b ∈ g.mu := by
  rcases h with ⟨_, h⟩ | h
  · cases h
  · exact h
theorem back_own (hfp : ∀ i, g'.fp i = []) {b : Addr} {fp : Nat → List Addr} (h : (g'.back fp).Own b) : (∃ i, b ∈ fp i) ∨ g'.Own b := by
  rcases h with h | h
  · exact .inl h
  · exact .inr (.inr h)
theorem QStep.back (w : WF g H) (s : Step g.dr H g' H') (hfp : ∀ i, g'.fp i = []) : QStep g H (g'.back g.fp) H' where
  aa := s.aa
  an := fun b h => by
    rcases s.an b h with h | h | h
    · exact .inl h
    · exact .inr (.inl (.inr (own_dr h)))
    · exact .inr (.inr h)
  on := fun b h => by
    rcases back_own hfp h with h | h
    · exact .inl (.inl h)
    · rcases s.on b h with h | h
      · exact .inl (.inr (own_dr h))
      · exact .inr h
  fr := fun b o h n => s.fr b o h fun q => n (.inr (own_dr q))
  im := s.im
  tr := s.tr
  mu := s.mu
  qf := rfl
  qo := fun i b hb => by
    obtain ⟨o, e, _⟩ := w.ot b (.inl ⟨i, hb⟩)
    rw [s.fr b o e fun q => w.fm i b hb (own_dr q), e]
theorem WF.back (w : WF g H) (s : Step g.dr H g' H') (w' : WF g' H') (hfp : ∀ i, g'.fp i = []) : WF (g'.back g.fp) H' where
  ta := w'.ta
  ot := fun b h => by
    rcases back_own hfp h with ⟨i, h⟩ | h
    · obtain ⟨o, e, im⟩ := w.ot b (.inl ⟨i, h⟩)
      exact ⟨o, s.fr b o e fun q => w.fm i b h (own_dr q), im⟩
    · exact w'.ot b h
  ao := fun b h q => by
    rcases back_own hfp q with ⟨i, q⟩ | q
    · rcases s.an b h with h | h | h
      · exact w.ao b h (.inl ⟨i, q⟩)
      · exact w.fm i b q (own_dr h)
      · obtain ⟨o, e, _⟩ := w.ot b (.inl ⟨i, q⟩)
        rw [h] at e
        cases e
    · exact w'.ao b h q
  nf := w.nf
  df := w.df
  fm := fun i b h q => by
    rcases s.on b (.inr q) with z | z
    · exact w.fm i b h (own_dr z)
    · obtain ⟨o, e, _⟩ := w.ot b (.inl ⟨i, h⟩)
      rw [z] at e
      cases e
  nm := w'.nm
theorem RpM.back (hm : m = .sh ∨ m = .f1 ∨ m = .f2) {H0 : Hp} {d : D} {v : V} (w : WF g H0) (hfp : ∀ i, g'.fp i = []) (h : RpM K T g' H0 H' m d v) : RpM K T (g'.back g.fp) H0 H' m d v := by
  have fr : ∀ {a : Addr}, Fresh g' H0 a → Fresh (g'.back g.fp) H0 a := fun {a} f => ⟨f.1, fun q => by
    rcases back_own hfp q with ⟨i, q⟩ | q
    · obtain ⟨o, e, _⟩ := w.ot a (.inl ⟨i, q⟩)
      rw [f.2.2] at e
      cases e
    · exact f.2.1 q, f.2.2⟩
  rcases hm with rfl | rfl | rfl
  · exact Rp.sub .back h
  · cases d with
    | lst ds =>
      obtain ⟨a, vs, e, h1, h2, h3⟩ := h
      exact ⟨a, vs, e, h1, fr h2, h3.sub .back⟩
    | _ => exact Rp.sub .back h
  · cases d with
    | lst ds =>
      obtain ⟨a, bs, dss, e, e2, h1, nd, h2, h3⟩ := h
      exact ⟨a, bs, dss, e, e2, h1, nd, fun b hb => fr (h2 b hb), h3.sub .back fun _ _ => rfl⟩
    | _ => exact Rp.sub .back h
theorem ExR.back {fp : Nat → List Addr} {e : Ex} {cls : Value} {dd : Option Addr} (h : ExR K T g H e cls dd) : ExR K T (g.back fp) H e cls dd := by
  cases e with
  | mk i fs =>
    obtain ⟨C, h1, h2, h3⟩ := h
    refine ⟨C, h1, h2, ?_⟩
    rcases h3 with h3 | ⟨ne, dx, vs, e1, e2, r, l⟩
    · exact .inl h3
    · exact .inr ⟨ne, dx, vs, e1, e2, r.sub .back, l⟩
/-- a callee's promise from the caller's wish -/
theorem sp_of {n : Nat} {mf : MF} {ds : List D} {vs : List V} (hm : m = .sh ∨ m = .f1 ∨ m = .f2) (I : SR K T Γ g σ H st) (r : Rps K T g H ds vs) (hl : ds.length = n) (p : PostE K T Γ σ g H m W Q (callR (mf ds st.m) st)) : spOf K T n m mf vs H Q (WE W σ) := by
  refine ⟨ds, st.m, g.dr, hl, I.wf.drop, fun _ => rfl, r.sub .drop, I.me.drop, ?_⟩
  cases e : mf ds st.m with
  | ok d m' =>
    rw [e] at p
    intro v H' g' s w' hfp me rv
    have w2 := I.wf.back s w' hfp
    have qs := QStep.back I.wf s hfp
    exact p v H' _ qs (I.re (qs.toStep.sub I.wf) w2 rfl qs.qo (me.sub .back rfl fun _ _ => rfl)) (RpM.back hm I.wf hfp rv)
  | raise ex m' =>
    rw [e] at p
    intro cls dd H' g' s w' hfp me x
    have w2 := I.wf.back s w' hfp
    have qs := QStep.back I.wf s hfp
    have I2 := I.re (qs.toStep.sub I.wf) w2 rfl qs.qo (me.sub .back rfl fun _ _ => rfl)
    refine p cls dd H' _ (qs.toStep.trans (.frz I2.wf (p := fun _ => true))) I2.frzAll ?_
    cases ex with
    | mk i fs =>
      obtain ⟨C, h1, h2, h3⟩ := x
      refine ⟨C, h1, h2, ?_⟩
      rcases h3 with h3 | ⟨ne, dx, vs, e1, e2, r, l⟩
      · exact .inl h3
      · exact .inr ⟨ne, dx, vs, e1, e2, (r.sub .back).sub (g' := (g'.back g.fp).frz fun _ => true) ⟨fun _ h => Or.inl h, fun _ _ _ h => h, fun _ _ h _ => h, List.prefix_refl _⟩, l⟩
  | stuck => rw [e] at p; exact p.elim
end
section
variable {T : Tb} {X : Cx} {Γ Γ' : Fls} {F : Fx} {e a b c tg iter : Expr} {m m1 m2 m3 : Mo} {f f1 f2 f3 : S → R D} {pos p2 pos' : Pos} {es rest : List Expr} {k1 k2 : S → R Bool} {fs fi : S → R (List D)} {t : Tg} {s1 s2 : Stmt} {ss ss2 : List Stmt} {q q1 q2 : S → RS} {k n : Nat} {mf : MF}
def eCallN (n : Nat) (mf : MF) (fs : S → R (List D)) : S → R D := fun st => (fs st).bind fun ds s => if ds.length = n then callR (mf ds s.m) s else .stuck
theorem je_call {x : Str} {p : Pos} (C : Cal X.prog X.w X.K X.mg X.base T x k n m mf) {k0 : Nat} (hr : Room k0 X.A) (hk : k ≤ k0) (hg : Gl X x) (ha : JA T X Γ (e :: es) fs) (hm : m = .sh ∨ m = .f1 ∨ m = .f2 := by first | exact .inl rfl | exact .inr (.inl rfl) | exact .inr (.inr rfl)) (hdb : (x == ("__debug__" : Str)) = false := by decide)
    (he : starEach (e :: es) X.env = (false, eval e X.env) :: starEach es X.env := by rfl) (hpl : (backTo pos (starEach es X.env)).any (·.1) = false := by rfl) : JE T X Γ (.Call (.Name x p) (e :: es) [] pos) m (eCallN n mf fs) := by
  obtain ⟨fa, fd, ps, Fn, hmg, kp, hb⟩ := C.ex
  refine ⟨fun W tk => PE.imp (pe_callS (E := WE W) Fn (hr.mono hk) hg hmg kp hb (passAt tk) (ha.run W tk) hdb he hpl) fun σ H Q ⟨g, st, I, p⟩ => ?_⟩
  refine ta_bind ipE I p fun ds s1 vs H1 g1 q1 I1 r1 p1 => ?_
  split at p1
  · rename_i hl
    exact sp_of hm I1 r1 hl p1
  · exact p1.elim
theorem je_call0 {x : Str} {p : Pos} (C : Cal X.prog X.w X.K X.mg X.base T x k 0 m mf) {k0 : Nat} (hr : Room k0 X.A) (hk : k ≤ k0) (hg : Gl X x) (hm : m = .sh ∨ m = .f1 ∨ m = .f2 := by first | exact .inl rfl | exact .inr (.inl rfl) | exact .inr (.inr rfl)) (hdb : (x == ("__debug__" : Str)) = false := by decide) :
    JE T X Γ (.Call (.Name x p) [] [] pos) m (eCallN 0 mf aNil) := by
  obtain ⟨fa, fd, ps, Fn, hmg, kp, hb⟩ := C.ex
  refine ⟨fun W tk => ⟨fun pins s σ H Q I h => ?_⟩⟩
  obtain ⟨g, st, Is, p⟩ := h
  refine wpAny_Call_Name_kw (ld_glob I hg hmg ?_ hdb)
  refine PySem.W.callWith_K0 I.kIn kp ?_
  exact run_fnS (E := WE W) (us := []) (vs := []) Fn (hr.mono hk) hb (passAt tk σ) I .nil (sp_of hm Is Rps.nil rfl p)
/-- the defs that are held as values -/
structure Tab (P : Program) (w : World) (K : PySem.W.Frag) (mg : Str → Option Value) (base : Heap) (T : Tb) (k : Nat) (ar : Nat → Nat) (mfs : Nat → MF) : Prop where
  at_ : ∀ j f, T.fn j = some f → ∃ fd ps, FnOk P w K mg base (L2.CX P w) k f fd ps (spOf K T (ar j) .sh (mfs j)) ∧ PySem.W.keepIn K (.ref f) = true ∧ Binds K fd ps []
def eCallV (i : Nat) (ar : Nat → Nat) (mfs : Nat → MF) (fs : S → R (List D)) : S → R D := fun st => match st.r.getD i none with
  | some (.fn j) => (fs st).bind fun ds s => if ds.length = ar j then callR (mfs j ds s.m) s else .stuck
  | _ => .stuck
theorem je_callV (i : Nat) {x : Str} {p : Pos} {ar : Nat → Nat} {mfs : Nat → MF} (C : Tab X.prog X.w X.K X.mg X.base T k ar mfs) {k0 : Nat} (hr : Room k0 X.A) (hk : k ≤ k0) (ha : JA T X Γ (e :: es) fs) (hf : fl Γ i = .sh := by rfl) (hN : X.N[i]? = some x := by rfl) (hv : Vis X.env.scope x := by first | exact Or.inl rfl | exact Or.inr (Or.inl rfl) | exact Or.inr (Or.inr rfl))
    (hd : (x == ("__debug__" : Str)) = false := by decide) (hcd : (x == ("__classdict__" : Str)) = false := by decide)
    (he : starEach (e :: es) X.env = (false, eval e X.env) :: starEach es X.env := by rfl) (hpl : (backTo pos (starEach es X.env)).any (·.1) = false := by rfl) : JE T X Γ (.Call (.Name x p) (e :: es) [] pos) .sh (eCallV i ar mfs fs) := by
  refine ⟨fun W tk => ⟨fun pins s σ H Q I h => ?_⟩⟩
  obtain ⟨g, st, Is, po⟩ := h
  unfold eCallV at po
  cases e0 : st.r.getD i none with
  | none => rw [e0] at po; exact po.elim
  | some d =>
    rw [e0] at po
    cases d with
    | fn j =>
      obtain ⟨v, h1, h2⟩ := Is.slot e0
      rw [hf] at h2
      simp only [SlR, Rp] at h2
      obtain ⟨fa, ev, hT⟩ := h2
      subst ev
      obtain ⟨fd, ps, Fn, kp, hb⟩ := C.at_ j fa hT
      refine wpAny_Call_Name_kw (thn ((pe_var (pos := p) hN hv hd hcd).run pins s σ H (fun v H1 => v = .ref fa ∧ H1 = H) I ⟨.ref fa, h1, rfl, rfl⟩) fun u s1 ⟨v, H1, I1, r1, q1⟩ => ?_)
      obtain ⟨rfl, rfl⟩ := q1
      cases r1
      have rd : ta X.K T Γ W fs σ H1 (fun vs H2 => spOf X.K T (ar j) .sh (mfs j) vs H2 Q (WE W σ)) := by
        refine ta_bind ipE Is po fun ds s1 vs H1 g1 q1 I1 r1 p1 => ?_
        split at p1
        · rename_i hl
          exact sp_of (.inl rfl) I1 r1 hl p1
        · exact p1.elim
      refine PySem.W.callWith_K (h₀ := X.base) I.ok.mod.kin kp (thn ((ha.run W tk).run pos pins s1 σ _ _ I1 rd) fun us s2 ⟨vs, H2, I2, r, q⟩ => ⟨I2.kIn, ?_⟩) he hpl
      exact run_fnS (E := WE W) Fn (hr.mono hk) hb (passAt tk σ) I2 r q
    | _ => exact po.elim
end
end DL
set_option linter.all false
set_option Elab.async false
set_option maxRecDepth 100000
set_option maxHeartbeats 2000000
namespace DL
open PySem PySem.Spec PyProof.Rows L2
/-! ### several except clauses, with or without a name -/
abbrev Sui := Addr → Value → Option Addr → TS
/-- the ends of a suite whose name is forgotten behind it -/
def endsFree (o : Option Nat) (D : Ends) : Ends := match o with
  | none => D
  | some i => ⟨fun τ G => D.nx (τ.set i none) G, D.rt, fun τ G => D.bk (τ.set i none) G, fun τ G => D.ct (τ.set i none) G⟩
def withName (o : Option Nat) (a : Addr) (τ : L2.St) : L2.St := match o with
  | none => τ
  | some i => τ.set i (some (.ref a))
def wCl (K : PySem.W.Frag) (Wo : WX) (D : Ends) : List (Value × Option Nat × Sui) → WX
  | [] => Wo
  | (c, o, u) :: r => fun cls d τ G => ∃ b, PySem.W.exmOne K cls c = some b ∧ (b = true → ∀ a, G a = none → u a cls d (endsFree o D) (withName o a τ) G) ∧ (b = false → wCl K Wo D r cls d τ G)
inductive Cls (X : Cx) : List ExceptHandler → List (Value × Option Nat × Sui) → Prop
  | nil : Cls X [] []
  | anon {x : Str} {c : Value} {u : Sui} {b₀ : Stmt} {suite : List Stmt} {np p' : Pos} {hds : List ExceptHandler} {l : List (Value × Option Nat × Sui)} (hc : Names X x c)
      (su : ∀ a oe cls d pn, Zc cls d oe → (∃ vs, oe.data = .fields vs) → PSs (X.suite a ((a, oe) :: pn)) (b₀ :: suite) (u a cls d)) (r : Cls X hds l) :
      Cls X (.ExceptHandler (some (.Name x np)) none (b₀ :: suite) p' :: hds) ((c, none, u) :: l)
  | named {x n : Str} {i : Nat} {c : Value} {u : Sui} {b₀ : Stmt} {suite : List Stmt} {np p' : Pos} {hds : List ExceptHandler} {l : List (Value × Option Nat × Sui)} (hc : Names X x c) (hi : X.N[i]? = some n) (hk : X.env.kindOf n = some .local)
      (su : ∀ a oe cls d pn, Zc cls d oe → (∃ vs, oe.data = .fields vs) → PSs (X.suite a ((a, oe) :: pn)) (b₀ :: suite) (u a cls d)) (r : Cls X hds l) :
      Cls X (.ExceptHandler (some (.Name x np)) (some n) (b₀ :: suite) p' :: hds) ((c, some i, u) :: l)
section
variable {X : Cx} {body : List Stmt} {h₀ : ExceptHandler} {hds : List ExceptHandler} {l : List (Value × Option Nat × Sui)} {pos : Pos} {tb : WX → TS} {Wo : WX}
theorem no_frame {B h : Heap} {fr : List Env} {a : Addr} {o : Obj} {vs : Array Value} (ff : h.FunFrames B fr) (e : h.get? a = some o) (dd : o.data = .fields vs) : a ∉ frs fr := by
  intro hm
  obtain ⟨_, o', e', hnf⟩ := ff.mem hm
  rw [e] at e'
  cases e'
  exact hnf _ dd
theorem ps_tryC (hs : X.stack = X.env :: X.outer) (hf : X.env.frame = some X.env.locals) (hN : X.N.Nodup) (tk : Takes X Wo)
    (hb : ∀ (W : WX) (pn : List (Addr × Obj)) (xe : Value → Shared → Prop), Takes (X.tr pn xe) W → PassesOwn (model X.prog X.w) X.A X.env xe → PSs (X.tr pn xe) body (tb W))
    (hh : Cls X (h₀ :: hds) l) : PS X (.Try body (h₀ :: hds) [] [] pos) (fun D σ H => tb (wCl X.K Wo D l) D σ H) := by
  refine ⟨fun pins s σ H D I h => ?_⟩
  have ok := I.ok
  have frm : X.A.frames = some (X.env :: X.outer) := by rw [ok.frames, hs]
  refine wpAny_Try_except (wpAny_mono ((hb (wCl X.K Wo D l) (X.pn ++ pins) (fun e s₁ => wpAny (model X.prog X.w) X.A (noteFrame e X.env) (fun _ s₂ => wpAny (model X.prog X.w) X.A (setFlight e none) (fun _ s₃ =>
    wpAny (model X.prog X.w) X.A (handleBy e X.env (h₀ :: hds)) (SP X pins D) X.xe s₃) X.xe s₂) X.xe s₁) (fun u z xx => ?_) PassesOwn.looking).run [] s σ H D (I.toTry _) h) (fun f z hz => ?_) fun _ _ q => q)
  · obtain ⟨a, B, si, pi, τ, G, cls, d, rfl, Jt, nb, up, sky, na, os, ag, w⟩ := xx
    have J : Inv X pins τ G si := Jt.ofTry ok
    rw [show (X.tr (X.pn ++ pins) _).stack = X.env :: X.outer from hs] at sky
    refine Sky.land Zc.steady frm hf sky fun h3 fl3 up3 => ?_
    have J3 : Inv X pins τ G { z with heap := h3 } := J.landed nb fl3.1 (up.trans up3) os ag
    obtain ⟨o3, v3, g3, z3, d3⟩ := fl3.there
    have out := no_frame fl3.2.2.1 g3 d3
    have nL : a ≠ X.env.locals := fun q => out (List.mem_filterMap.mpr ⟨X.env, List.mem_cons_self, by rw [hf, q]⟩)
    have nF : a ∉ X.fs := fun hm => by
      obtain ⟨e, he, q⟩ := List.mem_filterMap.mp hm
      exact out (List.mem_filterMap.mpr ⟨e, List.mem_cons_of_mem _ he, q⟩)
    have T3 := J3.suite g3 d3 na nL nF
    have look : PySem.W.Looks (model X.prog X.w) h3 (typeOf (.ref a)) cls := fun A Q E s k q => wpAny_typeOf_ref (k _ _ g3) (by rw [z3.1]; exact q)
    have test : ∀ {x : Str} {np : Pos} {c : Value} {Q E : Value → Shared → Prop}, Names X x c → Q c { z with heap := h3 } → wpAny (model X.prog X.w) (X.A.mark (some (.ref a))) (eval (.Name x np) X.env) Q E { z with heap := h3 } := by
      intro x np c Q E hc q
      obtain ⟨hg, db, hm | ⟨hm, hv, nn⟩⟩ := hc
      · exact ld_glob (X := X.suite a ((a, o3) :: (X.pn ++ pins))) T3 hg hm q db
      · exact ld_blt (X := X.suite a ((a, o3) :: (X.pn ++ pins))) T3 hg hm hv q nn db
    have run : ∀ {ks : List ExceptHandler} {l' : List (Value × Option Nat × Sui)}, Cls X ks l' → wCl X.K Wo D l' cls d τ G → wpAny (model X.prog X.w) X.A (handleBy (.ref a) X.env ks) (SP X pins D) X.xe { z with heap := h3 } := by
      intro ks l' hk
      induction hk with
      | nil =>
        intro w
        refine wpAny_handleBy_nil ?_
        obtain ⟨k1, k2, k3, oe, vs, TT, oT, tt', he, hz, hd, h1, hr⟩ := id fl3
        unfold PySem.passOn
        refine wpAny_bind (wpAny_field he hd h1 ?_)
        rw [if_neg (show ¬ ((Value.ref TT == Value.none) = true) from by simp)]
        have fin : wpAny (model X.prog X.w) X.A (setFlight (.ref a) X.env.frame) (fun _ s4 => wpAny (model X.prog X.w) X.A (throw (.ref a) : Sem Flow) (SP X pins D) X.xe s4) X.xe { z with heap := h3 } := by
          rw [hf]
          refine HandSPX.setFlight_upZ fl3 fun h4 q4 up4 => wpAny_throw (tk _ _ ?_)
          exact ⟨a, B, si, pins, τ, G, cls, d, rfl, J, nb, (up.trans up3).trans up4, .inr (.inr (by rw [hs]; exact q4)), na, os, ag, w⟩
        first
          | exact wpAny_bind (wpAny_pure (wpAny_bind fin))
          | exact wpAny_bind fin
      | anon hc su r ih =>
        intro w
        obtain ⟨b, hb1, yes, no⟩ := w
        have LM := PySem.W.exm_one (M := model X.prog X.w) (J3.kIn) look hb1
        refine wpAny_handleBy_cons (codeAny_handlers_test (test hc (LM.here ?_))) (by intro q; cases q)
        cases b with
        | true =>
          refine codeAny_handlers_suite (HandSPX.lands_againZ fl3 fun h4 fl4 up4 => ?_)
          have J4 : Inv X pins τ G { z with heap := h4 } := J.landed nb fl4.1 ((up.trans up3).trans up4) os ag
          obtain ⟨o4, v4, g4, z4, d4⟩ := fl4.there
          refine wpAny_mono ((su a o4 cls d (X.pn ++ pins) z4 ⟨_, d4⟩).run [] _ _ G _ (J4.suite g4 d4 na nL nF) (yes rfl a na)) (fun f s6 hsp => ?_) (fun _ _ q => False.elim q)
          cases f with
          | next => exact let ⟨τ6, G6, S6, q6⟩ := hsp; ⟨τ6, G6, S6.unsuite ok, q6⟩
          | brk => exact let ⟨τ6, G6, S6, q6⟩ := hsp; ⟨τ6, G6, S6.unsuite ok, q6⟩
          | cont => exact let ⟨τ6, G6, S6, q6⟩ := hsp; ⟨τ6, G6, S6.unsuite ok, q6⟩
          | ret u => exact let ⟨v6, τ6, G6, S6, r6, q6⟩ := hsp; ⟨v6, τ6, G6, S6.unsuite ok, r6, q6⟩
        | false => exact ih (no rfl)
      | @named x n i c u b₀ suite np p' hds l hc hi hk su r ih =>
        intro w
        obtain ⟨b, hb1, yes, no⟩ := w
        have LM := PySem.W.exm_one (M := model X.prog X.w) (J3.kIn) look hb1
        refine wpAny_handleBy_cons (codeAny_handlers_test (test hc (LM.here ?_))) (by intro q; cases q)
        cases b with
        | true =>
          refine codeAny_handlers_suite_as (HandSPX.lands_againZ fl3 fun h4 fl4 up4 => ?_)
          have J4 : Inv X pins τ G { z with heap := h4 } := J.landed nb fl4.1 ((up.trans up3).trans up4) os ag
          obtain ⟨o4, v4, g4, z4, d4⟩ := fl4.there
          refine store_ok (X := X.suite a ((a, o4) :: (X.pn ++ pins))) (v := .ref a) (J4.suite g4 d4 na nL nF) hN hi (.inl hk) rfl (fun s5 S5 => ?_) (.inr hk)
          refine wpAny_mono ((su a o4 cls d (X.pn ++ pins) z4 ⟨_, d4⟩).run [] s5 _ G _ S5 (yes rfl a na)) (fun f s6 hsp => ?_) (fun _ _ q => False.elim q)
          have fin : ∀ {τ6 : L2.St} {G6 : Hp} {Q : Shared → Prop}, Inv (X.suite a ((a, o4) :: (X.pn ++ pins))) [] τ6 G6 s6 → (∀ s7, Inv X pins (τ6.set i none) G6 s7 → Q s7) →
              wpAny (model X.prog X.w) X.A (do bindName X.env n .none; unbindBehindTheSuite X.env n p') (fun _ s7 => Q s7) X.xe s6 := fun S6 hq => gone_ok (S6.unsuite ok) hN hi hk hq
          cases f with
          | next => exact let ⟨τ6, G6, S6, q6⟩ := hsp; fin S6 fun s7 J7 => ⟨_, _, J7, q6⟩
          | brk => exact let ⟨τ6, G6, S6, q6⟩ := hsp; fin S6 fun s7 J7 => ⟨_, _, J7, q6⟩
          | cont => exact let ⟨τ6, G6, S6, q6⟩ := hsp; fin S6 fun s7 J7 => ⟨_, _, J7, q6⟩
          | ret u => exact let ⟨v6, τ6, G6, S6, r6, q6⟩ := hsp; fin S6 fun s7 J7 => ⟨_, _, _, J7, r6, q6⟩
        | false => exact ih (no rfl)
    exact run hh w
  · cases f with
    | next => exact let ⟨τ, G, J, q⟩ := hz; wpAny_execs_nil ⟨τ, G, J.ofTry ok, q⟩
    | brk => exact let ⟨τ, G, J, q⟩ := hz; ⟨τ, G, J.ofTry ok, q⟩
    | cont => exact let ⟨τ, G, J, q⟩ := hz; ⟨τ, G, J.ofTry ok, q⟩
    | ret u => exact let ⟨v, τ, G, J, r, q⟩ := hz; ⟨v, τ, G, J.ofTry ok, r, q⟩
end
/-! ### try in the plain semantics -/
def Ex.ix : Ex → Nat
  | .mk i _ => i
def hNil : Ex → S → RS := fun e s => .raise e s
/-- except .. as n: c = [txt, isinstance(n, ..)] -/
def hSay (cm : Nat → Bool) (i c : Nat) (txt : Str) (b : Bool) (r : Ex → S → RS) : Ex → S → RS := fun e s => if cm e.ix then (match e with
  | .mk _ [] => if i < s.r.length then .next { s with r := ((s.r.set c (some (.lst [.str txt, .bl b])))).set i none } else .stuck
  | _ => .stuck) else r e s
def sTry (q : S → RS) (h : Ex → S → RS) : S → RS := fun s => match q s with
  | .raise e s' => h e s'
  | r => r
/-- whom a clause catches -/
structure Cat (X : Cx) (T : Tb) (x : Str) (cm : Nat → Bool) where
  c : Value
  nm : Names X x c
  cm : ∀ j C, T.exc j = some C → PySem.W.exmOne X.K (.ref C) c = some (cm j)
structure JHs (T : Tb) (X : Cx) (F : Fx) (hds : List ExceptHandler) (q : Ex → S → RS) : Prop where
  ex : ∃ l, Cls X hds l ∧ ∀ (W : WX) (B : Bs) (g : Gh) (σ : L2.St) (H : Hp) (st : S) (e : Ex) (cls : Value) (dd : Option Addr) (E : Ends), SB X.K T [] B g σ H st → ExR X.K T g H e cls dd → PostS X.K T F B g H W E (q e st) → wCl X.K W E l cls dd σ H
section
variable {T : Tb} {X : Cx} {Γ Γ' : Fls} {F : Fx} {pos p1 p2 p3 p4 p5 p6 p7 : Pos} {ss : List Stmt} {s1 : Stmt} {q1 : S → RS} {q2 r : Ex → S → RS} {hds : List ExceptHandler} {h₀ : ExceptHandler} {nx lp : Fls} {rm : Mo}
theorem jh_nil : JHs T X F [] hNil := ⟨[], .nil, fun W B g σ H st e cls dd E I x p => p cls dd σ H g (.refl g H) I.toSR x⟩
/-- c = [txt, isinstance(n, t)] in a suite -/
def tSay (K : PySem.W.Frag) (i c : Nat) (txt : Str) (b : Bool) (t : String) (a : Addr) (cls : Value) (d : Option Addr) : TS := fun E σ H =>
  σ[i]? = some (some (.ref a)) ∧ d = none ∧ (∃ C, cls = .ref C ∧ ExcC K C ∧ PySem.W.kitOne K (.ref C) (.type t) = some b) ∧ ∀ p, H p = none → E.nx (σ.set c (some (.ref p))) (upd H p (.lst [.str txt, .bl b]))
theorem su_say (i c : Nat) {n y tx xi : Str} {b : Bool} {t : String} {ki : Nat} {a : Addr} {oe : Obj} {cls : Value} {d : Option Addr} {pn : List (Addr × Obj)} (hN : X.N.Nodup) (hi : X.N[i]? = some n) (hv : Vis X.env.scope n) (hc : X.N[c]? = some y) (hx : Loc X.env.scope y) (hf : X.fn y = true ∨ X.env.scope.names.lookup y = some .local)
    (hd : (n == ("__debug__" : Str)) = false) (hcd : (n == ("__classdict__" : Str)) = false) (hx0 : xi = "isinstance") (hg : Gl X xi) (hm : X.mg xi = none) (hg' : Gl X (.ofString t)) (hm' : X.mg (.ofString t) = none) (hv' : bootBuiltins (.ofString t) = some (.type t)) (hn' : (.ofString t : Str) ≠ "__name__") (hdb : ((.ofString t : Str) == ("__debug__" : Str)) = false)
    (st1 : starEach [.Constant (.str tx) ki p1, .Call (.Name xi p2) [.Name n p3, .Name (.ofString t) p4] [] p5] X.env = (false, eval (.Constant (.str tx) ki p1) X.env) :: starEach [.Call (.Name xi p2) [.Name n p3, .Name (.ofString t) p4] [] p5] X.env)
    (st2 : starEach [.Call (.Name xi p2) [.Name n p3, .Name (.ofString t) p4] [] p5] X.env = (false, eval (.Call (.Name xi p2) [.Name n p3, .Name (.ofString t) p4] [] p5) X.env) :: starEach [] X.env)
    (st3 : starEach [.Name n p3, .Name (.ofString t) p4] X.env = (false, eval (.Name n p3) X.env) :: starEach [.Name (.ofString t) p4] X.env) (st4 : starEach [.Name (.ofString t) p4] X.env = (false, eval (.Name (.ofString t) p4) X.env) :: starEach [] X.env)
    (hpl : (backTo p5 (starEach [.Name (.ofString t) p4] X.env)).any (·.1) = false)
    (hz : Zc cls d oe) (hv2 : ∃ vs, oe.data = .fields vs)
    (hsw : swapsWith (.List [.Constant (.str tx) ki p1, .Call (.Name xi p2) [.Name n p3, .Name (.ofString t) p4] [] p5] p6) (some (.Name y p7)) pos.line X.env = pure false) :
    PSs (X.suite a ((a, oe) :: pn)) [.Assign [.Name y p7] (.List [.Constant (.str tx) ki p1, .Call (.Name xi p2) [.Name n p3, .Name (.ofString t) p4] [] p5] p6) pos] (tSay X.K i c tx b t a cls d) := by
  subst hx0
  refine ⟨fun pins s σ H E I h => ?_⟩
  obtain ⟨h1, rfl, ⟨C, rfl, ec, kk⟩, h4⟩ := h
  have e0 := call_isE (X := X) (a := a) (pn := pn) ec hz hv2
  have e1 := pe_callB (X := X.suite a ((a, oe) :: pn)) (p := p2) (pos := p5) e0 hg hm (by decide +kernel) (pa_cons (pe_var (pos := p3) hi hv hd hcd) (pa_cons (pe_bltn (pos := p4) (v := .ty t) hg' hm' hv' rfl hn' hdb) pa_nil st4) st3) (by decide) (by decide) st3 hpl
  have e2 := ps_set (X := X.suite a ((a, oe) :: pn)) (pos := pos) (pos' := p7) hN hc hx (pe_lst (pos := p6) (pa_cons pe_str (pa_cons e1 pa_nil st2) st1)) hsw hf
  refine (pss_one e2).run pins s σ H E I ?_
  refine ⟨_, h1, .ty t, .type t, b, rfl, fun u hu => by cases hu; rfl, kk, by show 2 ≤ sizeLine; decide, fun p' hp => h4 p' hp⟩
/-- what isinstance tells of the caught ones -/
structure SayR (K : PySem.W.Frag) (T : Tb) (cm : Nat → Bool) (t : String) (b : Bool) : Prop where
  ok : ∀ j C, T.exc j = some C → cm j = true → ExcC K C ∧ PySem.W.kitOne K (.ref C) (.type t) = some b
theorem jh_say (i c : Nat) (b : Bool) (t : String) {x n y tx xi : Str} {ki : Nat} {cm : Nat → Bool} (C : Cat X T x cm) (Sa : SayR X.K T cm t b) (hr : JHs T X ⟨[], lp, rm⟩ hds r) (hN : X.N.Nodup) (hi : X.N[i]? = some n := by rfl) (hk : X.env.kindOf n = some .local := by rfl)
    (hv : Vis X.env.scope n := by first | exact Or.inl rfl | exact Or.inr (Or.inl rfl) | exact Or.inr (Or.inr rfl)) (hc : X.N[c]? = some y := by rfl) (hx : Loc X.env.scope y := by first | exact Or.inl rfl | exact Or.inr rfl) (hf : X.fn y = true ∨ X.env.scope.names.lookup y = some .local := by first | exact .inl rfl | exact .inr rfl | assumption)
    (hd : (n == ("__debug__" : Str)) = false := by decide) (hcd : (n == ("__classdict__" : Str)) = false := by decide) (hx0 : xi = "isinstance" := by rfl) (hg : Gl X xi := by rfl) (hm : X.mg xi = none := by first | rfl | assumption) (hg' : Gl X (.ofString t) := by rfl) (hm' : X.mg (.ofString t) = none := by first | rfl | assumption) (hv' : bootBuiltins (.ofString t) = some (.type t) := by decide +kernel)
    (hn' : (.ofString t : Str) ≠ "__name__" := by decide) (hdb : ((.ofString t : Str) == ("__debug__" : Str)) = false := by decide) (hic : i ≠ c := by decide)
    (st1 : starEach [.Constant (.str tx) ki p1, .Call (.Name xi p2) [.Name n p3, .Name (.ofString t) p4] [] p5] X.env = (false, eval (.Constant (.str tx) ki p1) X.env) :: starEach [.Call (.Name xi p2) [.Name n p3, .Name (.ofString t) p4] [] p5] X.env := by rfl)
    (st2 : starEach [.Call (.Name xi p2) [.Name n p3, .Name (.ofString t) p4] [] p5] X.env = (false, eval (.Call (.Name xi p2) [.Name n p3, .Name (.ofString t) p4] [] p5) X.env) :: starEach [] X.env := by rfl)
    (st3 : starEach [.Name n p3, .Name (.ofString t) p4] X.env = (false, eval (.Name n p3) X.env) :: starEach [.Name (.ofString t) p4] X.env := by rfl) (st4 : starEach [.Name (.ofString t) p4] X.env = (false, eval (.Name (.ofString t) p4) X.env) :: starEach [] X.env := by rfl)
    (hpl : (backTo p5 (starEach [.Name (.ofString t) p4] X.env)).any (·.1) = false := by rfl)
    (hsw : swapsWith (.List [.Constant (.str tx) ki p1, .Call (.Name xi p2) [.Name n p3, .Name (.ofString t) p4] [] p5] p6) (some (.Name y p7)) pos.line X.env = pure false := by rfl) {np p8 : Pos} :
    JHs T X ⟨[], lp, rm⟩ (.ExceptHandler (some (.Name x np)) (some n) [.Assign [.Name y p7] (.List [.Constant (.str tx) ki p1, .Call (.Name xi p2) [.Name n p3, .Name (.ofString t) p4] [] p5] p6) pos] p8 :: hds) (hSay cm i c tx b r) := by
  obtain ⟨l, cl, go⟩ := hr.ex
  refine ⟨_, .named C.nm hi hk (fun a oe cls d pn hz hv2 => su_say (b := b) i c hN hi hv hc hx hf hd hcd hx0 hg hm hg' hm' hv' hn' hdb st1 st2 st3 st4 hpl hz hv2 hsw) cl, fun W B g σ H st e cls dd E I x p => ?_⟩
  cases e with
  | mk j fs =>
    have x' := x
    obtain ⟨C', hC, rfl, x2⟩ := x'
    unfold hSay at p
    refine ⟨cm j, C.cm j C' hC, fun hb a ha => ?_, fun hb => ?_⟩
    · rw [show (Ex.mk j fs).ix = j from rfl, hb, if_pos rfl] at p
      cases fs with
      | cons f fs => exact p.elim
      | nil =>
        have hdn : dd = none := by
          rcases x2 with ⟨_, h⟩ | ⟨ne, _⟩
          · exact h
          · exact absurd rfl ne
        obtain ⟨k1, k2⟩ := Sa.ok j C' hC hb
        dsimp only at p
        split at p
        case isFalse => exact p.elim
        rename_i li
        rw [← I.len] at li
        refine ⟨by simp [withName, li], hdn, ⟨C', rfl, k1, k2⟩, fun q hq => ?_⟩
        have I2 := (I.toSR.new (o := .lst [.str tx, .bl b]) hq).add upd_same (I.wf.noto hq)
        have st1 : Step g H (g.add q) (upd H q (.lst [.str tx, .bl b])) := (Step.new hq).add hq
        have I3 := I2.set (i := c) (d := .lst [.str tx, .bl b]) (v := .ref q) rfl (by
          simp only [Rp]
          exact ⟨q, _, rfl, .inr rfl, upd_same, Rps.cons rp_str (Rps.cons rp_bl Rps.nil)⟩)
        have I4 := I3.wipe (vs := [i]) fun _ _ => rfl
        refine p _ _ _ st1 ?_
        have es : ((withName (some i) a σ).set c (some (.ref q))).set i none = L2.wipe (σ.set c (some (.ref q))) [i] := by
          show ((σ.set i (some (.ref a))).set c (some (.ref q))).set i none = ((σ.set c (some (.ref q))).set i none)
          rw [List.set_comm _ _ hic, List.set_set, List.set_comm _ _ hic.symm]
        rw [es]
        exact I4
    · rw [show (Ex.mk j fs).ix = j from rfl, hb] at p
      exact go W B g σ H st _ _ dd E I x p
/-- a clause that catches none of the exceptions that the program raises -/
theorem jh_not {x n : Str} {o : Option Str} {s1 : Stmt} {ss : List Stmt} (i : Nat) (C : Cat X T x fun _ => false) (hr : JHs T X F hds r) (ho : o = some n) (hi : X.N[i]? = some n := by rfl) (hk : X.env.kindOf n = some .local := by rfl) : JHs T X F (.ExceptHandler (some (.Name x p1)) o (s1 :: ss) p2 :: hds) r := by
  subst ho
  obtain ⟨l, cl, go⟩ := hr.ex
  refine ⟨_, .named (u := fun _ _ _ _ _ _ => False) C.nm hi hk (fun a oe cls d pn _ _ => ⟨fun _ _ _ _ _ _ h => h.elim⟩) cl, fun W B g σ H st e cls dd E I x p => ?_⟩
  cases e with
  | mk j fs =>
    have x' := x
    obtain ⟨C', hC, rfl, _⟩ := x'
    exact ⟨false, C.cm j C' hC, fun hb => (by cases hb), fun _ => go W B g σ H st _ _ dd E I x p⟩
theorem js_try (hs : X.stack = X.env :: X.outer) (hf : X.env.frame = some X.env.locals) (hN : X.N.Nodup) (hb : ∀ pn xe, PassesOwn (model X.prog X.w) X.A X.env xe → JSs T (X.tr pn xe) Γ F ss q1) (hh : JHs T X F (h₀ :: hds) q2) : JS T X Γ F (.Try ss (h₀ :: hds) [] [] pos) (sTry q1 q2) := by
  obtain ⟨l, cl, go⟩ := hh.ex
  refine ⟨fun W tk => PS.imp (ps_tryC hs hf hN tk (tb := fun W => ts X.K T Γ F W q1) (fun W' pn xe tk' hp => (hb pn xe hp).run W' tk') cl) fun E σ H ⟨B, g, st, I, p⟩ => ⟨B, g, st, I, ?_⟩⟩
  unfold sTry at p
  cases e : q1 st with
  | raise ex s' =>
    rw [e] at p
    intro cls dd σ' H' g' s1 I1 x
    exact go W B g' σ' H' s' ex cls dd E (I.go s1 I1) x (p.shift s1)
  | next s => rw [e] at p; exact p
  | brk s => rw [e] at p; exact p
  | cont s => rw [e] at p; exact p
  | ret d s => rw [e] at p; exact p
  | stuck => rw [e] at p; exact p
end
end DL
set_option linter.all false
set_option Elab.async false
set_option maxRecDepth 100000
namespace DL
open PySem PySem.Spec PyProof.Rows L2
/-! ### small helps for printed proofs -/
instance flDec : DecidableEq Fl := fun a b => match a, b with
  | .sh, .sh => isTrue rfl
  | .o1, .o1 => isTrue rfl
  | .o2, .o2 => isTrue rfl
  | .sh, .o1 => isFalse fun h => Fl.noConfusion h
  | .sh, .o2 => isFalse fun h => Fl.noConfusion h
  | .o1, .sh => isFalse fun h => Fl.noConfusion h
  | .o1, .o2 => isFalse fun h => Fl.noConfusion h
  | .o2, .sh => isFalse fun h => Fl.noConfusion h
  | .o2, .o1 => isFalse fun h => Fl.noConfusion h
theorem fl_out {Γ : Fls} {n i : Nat} (h : Γ.length ≤ n) (hi : n ≤ i) : fl Γ i = .sh := by
  unfold fl
  rw [List.getD_eq_getElem?_getD, List.getElem?_eq_none (by omega)]
  rfl
theorem flz_of (n : Nat) {Γ Γ' : Fls} {p : Nat → Bool} (h : ∀ i, i < n → fl Γ' i = if p i = true then .sh else fl Γ i) (h1 : Γ.length ≤ n) (h2 : Γ'.length ≤ n) : ∀ i, fl Γ' i = if p i = true then .sh else fl Γ i := by
  intro i
  by_cases hi : i < n
  · exact h i hi
  · rw [fl_out h2 (by omega), fl_out h1 (by omega)]
    split <;> rfl
theorem flf_of (n : Nat) {Γ Γ' : Fls} {i : Nat} {f : Fl} (h : ∀ j, j < n → fl Γ' j = if j = i then f else fl Γ j) (h1 : Γ.length ≤ n) (h2 : Γ'.length ≤ n) (hi : i < n) : ∀ j, fl Γ' j = if j = i then f else fl Γ j := by
  intro j
  by_cases hj : j < n
  · exact h j hj
  · rw [fl_out h2 (by omega), fl_out h1 (by omega), if_neg (by omega)]
theorem hu64 {k : Nat} {A : Around} (r : Room k A) : A.units + 64 < cLine := by
  have := r.un
  omega
def FnF (K : PySem.W.Frag) (mg : Str → Option Value) (x : Str) (st : Stmt) (ps : List Str) : Prop := ∃ f fd, Fun K x x st f fd ∧ Binds K fd ps [] ∧ mg x = some (.ref f)
def ConF (K : PySem.W.Frag) (mg : Str → Option Value) (T : Tb) (x : Str) (d : D) : Prop := ∃ (v : V) (u : Value), mg x = some u ∧ RelV v u ∧ ∀ g H, Rp K T g H d v
def CatF (K : PySem.W.Frag) (T : Tb) (mg : Str → Option Value) (x : Str) (cm : Nat → Bool) : Prop := ∃ C, mg x = some (.ref C) ∧ ∀ j C', T.exc j = some C' → PySem.W.exmOne K (.ref C') (.ref C) = some (cm j)
theorem con_int {K : PySem.W.Frag} {mg : Str → Option Value} {T : Tb} {x : Str} {n : Int} {t : Nat} (h : mg x = some (.int n t)) : ConF K mg T x (.int n) := ⟨.int n, _, h, ⟨_, rfl⟩, fun _ _ => rp_int⟩
section
variable {P : Program} {w : World} {K : PySem.W.Frag} {mg : Str → Option Value} {base : Heap} {T : Tb} {k : Nat} {f : Addr} {fd : FuncData} {ps : List Str} {n : Nat} {rm : Mo}
theorem fn_never : FnOk P w K mg base (L2.CX P w) k f fd ps (spOf K T n rm fun _ _ => .stuck) :=
  ⟨fun _ _ _ _ ⟨_, _, _, _, _, _, _, _, h⟩ => h.elim, fun _ _ _ _ _ _ _ _ _ _ _ _ _ ⟨_, _, _, _, _, _, _, _, h⟩ => h.elim⟩
end
theorem cat_of {X : Cx} {T : Tb} {x : Str} {cm : Nat → Bool} (h : CatF X.K T X.mg x cm) (hg : Gl X x) (hd : (x == ("__debug__" : Str)) = false) : Nonempty (Cat X T x cm) :=
  let ⟨C, h1, h2⟩ := h
  ⟨⟨.ref C, ⟨hg, hd, .inl h1⟩, h2⟩⟩
section
variable {T : Tb} {X : Cx} {Γ Γ' : Fls} {F : Fx} {e a b c tg iter : Expr} {m m1 m2 m3 : Mo} {f f1 f2 f3 : S → R D} {pos p2 pos' : Pos} {nx lp : Fls} {rm : Mo}
def augD : D → D → S → R D := fun d e s => match d, e with | .int i, .int j => .ok (.int (i + j)) s | _, _ => .stuck
def sPar3 (i j k : Nat) (f1 f2 f3 : S → R D) : S → RS := fun s => (f1 s).then fun d1 s1 => (f2 s1).then fun d2 s2 => (f3 s2).then fun d3 s3 => .next { s3 with r := ((s3.r.set i (some d1)).set j (some d2)).set k (some d3) }
theorem js_par3 (i j l : Nat) {x y z : Str} {px py pz pt : Pos} {kt k2 pt2} (hc : X.calm = true) (hN : X.N.Nodup) (ha : JE T X Γ a .sh f1) (hb : JE T X Γ b .sh f2) (hcc : JE T X Γ c .sh f3) (hi : X.N[i]? = some x := by rfl) (hj : X.N[j]? = some y := by rfl) (hl : X.N[l]? = some z := by rfl) (hij : i ≠ j := by decide) (hil : i ≠ l := by decide) (hjl : j ≠ l := by decide)
    (hx : X.env.scope.names.lookup x = some .local := by rfl) (hy : X.env.scope.names.lookup y = some .local := by rfl) (hz : X.env.scope.names.lookup z = some .local := by rfl) (hΓ : fl Γ i = .sh := by rfl) (hΓ' : fl Γ j = .sh := by rfl) (hΓ2 : fl Γ l = .sh := by rfl)
    (hw : swappedStores [.Tuple [.Name x px, .Name y py, .Name z pz] kt pt] (.Tuple [a, b, c] k2 pt2) X.env = pure (some [x, y, z]) := by rfl) (hs : swapsWithSole [.Tuple [.Name x px, .Name y py, .Name z pz] kt pt] (.Tuple [a, b, c] k2 pt2) pos.line X.env = pure false := by rfl)
    (hst : starEach [a, b, c] X.env = (false, eval a X.env) :: starEach [b, c] X.env := by rfl) (hst2 : starEach [b, c] X.env = (false, eval b X.env) :: starEach [c] X.env := by rfl) (hst3 : starEach [c] X.env = (false, eval c X.env) :: starEach [] X.env := by rfl) :
    JS T X Γ ⟨Γ, lp, rm⟩ (.Assign [.Tuple [.Name x px, .Name y py, .Name z pz] kt pt] (.Tuple [a, b, c] k2 pt2) pos) (sPar3 i j l f1 f2 f3) := by
  refine ⟨fun W tk => PS.imp (ps_par3 hc hN hi hj hl hij hil hjl hx hy hz (pa_cons (ha.run W tk) (pa_cons (hb.run W tk) (pa_cons (hcc.run W tk) pa_nil hst3) hst2) hst) hw hs) fun E σ H ⟨B, g, st, I, p⟩ => ?_⟩
  refine te_then I.toSR p fun d1 s1 v H1 g1 q1 I1 r1 p1 => te_then I1 p1 fun d2 s2 w H2 g2 q2 I2 r2 p2 => te_then I2 p2 fun d3 s3 u H3 g3 q3 I3 r3 p3 => ?_
  have r1' : Rp X.K T g2 H2 d1 v := Rp.step I1.wf q2.toStep r1
  exact ⟨v, w, u, rfl, p3 _ H3 g3 (.refl g3 H3) (((I3.set hΓ (Rp.step I2.wf q3.toStep r1')).set hΓ' (Rp.step I2.wf q3.toStep r2)).set hΓ2 r3)⟩
end
section
variable {T : Tb} {X : Cx} {Γ : Fls} {pos : Pos}
theorem je_fnZ (i : Nat) {x : Str} (hg : Gl X x) (h : ∃ fa, X.mg x = some (.ref fa) ∧ T.fn i = some fa) (hd : (x == ("__debug__" : Str)) = false := by decide) : JE T X Γ (.Name x pos) .sh (eC (.fn i)) :=
  let ⟨_, h1, h2⟩ := h
  je_fn i hg h1 h2 hd
theorem je_conZ (d : D) {x : Str} (hg : Gl X x) (h : ConF X.K X.mg T x d) (hd : (x == ("__debug__" : Str)) = false := by decide) : JE T X Γ (.Name x pos) .sh (eC d) :=
  let ⟨_, _, h1, h2, h3⟩ := h
  je_glob d hg h1 h2 h3 hd
end
def blkB (N : List Str) (sc scope : Scope) (own : List (Str × Nat)) : Bool :=
  decide (scope.kind = .function) && (scope.names.all fun y => decide (scope.names.lookup y.1 = some y.2)) && (own.all fun p => decide (N[p.2]? = some p.1)) &&
    (scope.names.all fun y => decide (y.2 = .free → sc.names.lookup y.1 = some .cell ∨ sc.names.lookup y.1 = some .free)) && (scope.names.all fun y => decide (y.2 = .local ∨ y.2 = .cell → y.1 ∈ own.map (·.1) ∨ y.1 ∉ N))
theorem blk_of {N : List Str} {sc scope : Scope} {own : List (Str × Nat)} (h : blkB N sc scope own = true) : BlkOk N sc scope own := by
  unfold blkB at h
  simp only [Bool.and_eq_true, List.all_eq_true, decide_eq_true_eq] at h
  obtain ⟨⟨⟨⟨h1, h2⟩, h3⟩, h4⟩, h5⟩ := h
  exact ⟨h1, h2, h3, h4, h5⟩
end DL
set_option linter.all false
set_option Elab.async false
set_option maxRecDepth 100000
namespace DL
open PySem PySem.Spec PyProof.Rows L2
/-! ### the end of a law -/
def spLaw (K : PySem.W.Frag) : Sp := fun vs H Q _ => ∃ (a : Addr) (ns : List Int), vs = [.ref a] ∧ SqL K H a (ns.map V.int) ∧ ns.length ≤ 63 ∧ (∀ z ∈ ns, Builtin.Int.intBits z ≤ 1048576) ∧ ∀ H', Q (.bl true) H'
def LawTrue (mf : MF) : Prop := ∀ ns : List Int, ns.length ≤ 63 → (∀ z ∈ ns, Builtin.Int.intBits z ≤ 1048576) → ∃ m', mf [.scr ns] [] = .ok (.bl true) m'
theorem spLaw_of {K : PySem.W.Frag} {T : Tb} {mf : MF} (h : LawTrue mf) (vs : List V) (H : Hp) (Q : VK) (E : XK) (s : spLaw K vs H Q E) : spOf K T 1 .sh mf vs H Q E := by
  obtain ⟨a, ns, rfl, hS, hl, hb, q⟩ := s
  obtain ⟨m', e⟩ := h ns hl hb
  have rp : Rp K T ⟨fun b => b = a ∧ ∃ o, H b = some o, fun _ => [], []⟩ H (.scr ns) (.ref a) := by
    simp only [Rp]
    refine ⟨a, rfl, ?_⟩
    rcases hS with (h1 | h1) | h1
    · exact .inl ⟨⟨rfl, _, h1⟩, h1⟩
    · exact .inr (.inl h1)
    · exact .inr (.inr h1)
  refine ⟨[.scr ns], [], ⟨fun b => b = a ∧ ∃ o, H b = some o, fun _ => [], []⟩, rfl, ⟨fun b hb => hb.2, fun b ho => ?_, fun b _ ho => ?_, fun i => List.nodup_nil, fun i j b hi => (by cases hi), fun i b hi => (by cases hi), List.nodup_nil⟩, fun _ => rfl, .one rp, ⟨rfl, fun n c a h => (by simp at h)⟩, ?_⟩
  · rcases ho with ⟨i, h⟩ | h <;> cases h
  · rcases ho with ⟨i, h⟩ | h <;> cases h
  · rw [e]
    intro v H' g' _ _ _ _ r
    have ev : v = .bl true := by simpa [RpM, Rp] using r
    subst ev
    exact q H'
theorem cx_none {P : Program} {w : World} {H : Hp} {s s' : Shared} {e : Value} (h : L2.CX P w [] H s (fun _ _ _ => False) e s') : False := by
  obtain ⟨_, _, _, _, _, _, _, _, _, _, _, _, z⟩ := h
  exact z
theorem bits_B {ns : List Int} (h : ∀ z ∈ ns, Builtin.Int.intBits z ≤ 1048576) : ∃ B : Nat, (∀ y : Nat, y ≤ 8192 * B → y.log2 < 90000000) ∧ ∀ z ∈ ns, z.natAbs ≤ B := by
  refine ⟨2 ^ 1048576, fun y hy => ?_, fun z hz => ?_⟩
  · by_cases h0 : y = 0
    · rw [h0]
      decide
    · have h1 : y < 2 ^ 1048590 := by
        refine Nat.lt_of_le_of_lt hy ?_
        rw [show (8192 : Nat) = 2 ^ 13 by decide, ← Nat.pow_add]
        exact Nat.pow_lt_pow_right (by decide) (by decide)
      exact Nat.lt_of_lt_of_le ((Nat.log2_lt h0).2 h1) (by decide)
  · have := h z hz
    unfold Builtin.Int.intBits at this
    split at this
    · rename_i e
      have e' : z = 0 := by simpa using e
      rw [e']
      exact Nat.zero_le _
    · rename_i e
      have e' : z.natAbs ≠ 0 := by
        have : z ≠ 0 := by simpa using e
        omega
      exact Nat.le_of_lt ((Nat.log2_lt e').1 (by omega))
section
variable {K : PySem.W.Frag} {T : Tb} {mg : Str → Option Value} {h : Heap} {x : Str}
theorem fnF_mk {st : Stmt} {ps : List Str} {f : Addr} {od an : Option Addr} {sl : Array (Option Value)} {oc kV dc pm cd ct : Value} (X : K.In h) (G : h.Ns mainGlobals mg) (a : PySem.W.nsIn K mainGlobals x = some (some (.ref f)))
    (l : K.lookup f = some ⟨oc, od, .func (PySem.W.fnOf x x (defArgs st) (defBody st) (defScope st) .none kV dc pm an cd ct), sl⟩) (c : PySem.W.codeIn K cd x = true) (k : PySem.W.keepIn K (.ref f) = true)
    (hb : ∀ (kV doc pm : Value) (an : Option Addr) (cdv ct : Value) (us : List Value), us.length = ps.length → bindArgs (PySem.W.fnOf x x (defArgs st) (defBody st) (defScope st) .none kV doc pm an cdv ct) ⟨us, []⟩ = pure (ps.zip us)) : FnF K mg x st ps :=
  ⟨_, _, fun_mk l c k, (fun_mk l c k).binds hb, PySem.W.mg_of X G a⟩
theorem con_i {n : Int} {t : Nat} (X : K.In h) (G : h.Ns mainGlobals mg) (a : PySem.W.nsIn K mainGlobals x = some (some (.int n t))) : ConF K mg T x (.int n) := con_int (PySem.W.mg_of X G a)
theorem con_t2 {p q : Int} {t u n : Nat} {f : Addr} {od : Option Addr} {sl : Array (Option Value)} (X : K.In h) (G : h.Ns mainGlobals mg) (a : PySem.W.nsIn K mainGlobals x = some (some (.ref f))) (l : K.lookup f = some ⟨.type "tuple", od, .seq #[.int p t, .int q u] n, sl⟩) : ConF K mg T x (.tup [.int p, .int q]) :=
  ⟨.ref f, _, PySem.W.mg_of X G a, rfl, fun g H => by
    simp only [Rp]
    exact ⟨f, [.int p, .int q], rfl, .inr ⟨_, _, _, l, rfl, rfl, by show 2 ≤ sizeLine; decide, .cons ⟨_, rfl⟩ (.cons ⟨_, rfl⟩ .nil)⟩, Rps.cons rp_int (Rps.cons rp_int Rps.nil)⟩⟩
theorem exc0_mk {i : Nat} {C : Addr} (X : K.In h) (G : h.Ns mainGlobals mg) (a : PySem.W.nsIn K mainGlobals x = some (some (.ref C))) (hT : T.exc i = some C) (q : PySem.W.excIn K C [.type "ValueError", .type "Exception", .type "BaseException", .type "object"] "ValueError.__new__" = true)
    (k : PySem.W.keepIn K (.ref C) = true) (s : PySem.W.subIn K (.ref C) (.type "BaseException") = some true) (t : PySem.W.typeIn K (.ref C) = some (.type "type")) : Exc0 K T mg x i :=
  ⟨C, _, _, _, _, hT, PySem.W.mg_of X G a, PySem.F.excBase_ValueError, q, k, s, t⟩
theorem tab_one {P : Program} {w : World} {base : Heap} {j k k' n : Nat} {mf : MF} {f : Addr} (h1 : ∃ f, mg x = some (.ref f) ∧ T.fn j = some f) (h2 : T.fn j = some f) (C : Cal P w K mg base T x k n .sh mf) (hk : k ≤ k') :
    ∃ fd ps, FnOk P w K mg base (L2.CX P w) k' f fd ps (spOf K T n .sh mf) ∧ PySem.W.keepIn K (.ref f) = true ∧ Binds K fd ps [] := by
  obtain ⟨f1, g1, e1⟩ := h1
  obtain ⟨f2, fd, ps, F, g2, kp, b⟩ := C.ex
  have z1 : f1 = f := Option.some.inj (e1.symm.trans h2)
  have z2 : f2 = f := by
    have := g2.symm.trans g1
    rw [z1] at this
    cases this
    rfl
  subst z2
  exact ⟨fd, ps, F.mono hk, kp, b⟩
end
end DL
set_option linter.all false
set_option Elab.async false
set_option maxRecDepth 100000
namespace DL
open PySem PySem.Spec PyProof.Rows L2
/-! ### a new cell -/
section
variable {K : PySem.W.Frag} {T : Tb} {g g' g0 : Gh} {H H' H0 : Hp} {Γ Γ' : Fls} {σ : L2.St} {st : S}
theorem more_own {a b : Addr} (h : (g.more a).Own b) : g.Own b ∨ b = a := by
  rcases h with h | h
  · exact .inl (.inl h)
  · rcases List.mem_append.mp h with h | h
    · exact .inl (.inr h)
    · exact .inr (by simpa using h)
theorem Sub.more {a : Addr} : Sub g H (g.more a) H := ⟨fun _ h => h, fun _ _ _ h => h, fun _ _ h _ => h, List.prefix_append _ _⟩
theorem Step.more {a : Addr} (s : Step g0 H0 g H) (hn : H0 a = none) : Step g0 H0 (g.more a) H := ⟨s.aa, s.an, fun b h => by
  rcases more_own h with h | h
  · exact s.on b h
  · rw [h]
    exact .inr hn, s.fr, s.im, s.tr, s.mu.trans (List.prefix_append _ _)⟩
theorem SR.more {a : Addr} {o : HO} {c : Cell} (I : SR K T Γ g σ H st) (h1 : H a = some o) (hi : imo o = false) (hA : ¬ g.A a) (hO : ¬ g.Own a) (hc : CellR K T (g.more a) H a c) : SR K T Γ (g.more a) σ H { st with m := st.m ++ [c] } := by
  have u : Sub g H (g.more a) H := .more
  have wf : WF (g.more a) H := ⟨I.wf.ta, fun b h => by
    rcases more_own h with h | h
    · exact I.wf.ot b h
    · rw [h]
      exact ⟨_, h1, hi⟩, fun b h q => by
    rcases more_own q with q | q
    · exact I.wf.ao b h q
    · rw [q] at h
      exact hA h, I.wf.nf, I.wf.df, fun j b h q => by
    rcases List.mem_append.mp q with q | q
    · exact I.wf.fm j b h q
    · have : b = a := by simpa using q
      rw [this] at h
      exact hO (.inl ⟨j, h⟩), by
    rw [show (g.more a).mu = g.mu ++ [a] from rfl, List.nodup_append]
    refine ⟨I.wf.nm, by simp, fun x hx y hy => ?_⟩
    have : y = a := by simpa using hy
    rw [this]
    rintro rfl
    exact hO (.inr hx)⟩
  refine I.re u wf rfl (fun _ _ _ => rfl) ⟨by
    show (g.mu ++ [a]).length = _
    rw [List.length_append, List.length_append, I.me.len]
    rfl, fun n c' b e1 e2 => ?_⟩
  have e2' : (g.mu ++ [a])[n]? = some b := e2
  by_cases hn : n < st.m.length
  · rw [List.getElem?_append_left hn] at e1
    rw [List.getElem?_append_left (by rw [I.me.len]; exact hn)] at e2'
    exact CellR.sub u rfl (I.me.at_ n c' b e1 e2')
  · rw [List.getElem?_append_right (by omega)] at e1
    rw [List.getElem?_append_right (by rw [I.me.len]; omega)] at e2'
    rw [I.me.len] at e2'
    cases hk : n - st.m.length with
    | zero =>
      rw [hk] at e1 e2'
      cases e1
      cases e2'
      exact hc
    | succ k =>
      rw [hk] at e1
      simp at e1
theorem ref_more {a : Addr} (I : SR K T Γ g σ H st) : Rp K T (g.more a) H (.ref st.m.length) (.ref a) := by
  simp only [Rp]
  refine ⟨a, rfl, ?_⟩
  show (g.mu ++ [a])[st.m.length]? = some a
  rw [List.getElem?_append_right (by rw [I.me.len]; exact Nat.le_refl _), I.me.len, Nat.sub_self]
  rfl
/-- a fresh object becomes a cell, as an expression's value -/
theorem post_cell {m : Mo} {W : WX} {Q : VK} {p : Addr} {o : HO} {c : Cell} (I : SR K T Γ g σ H st) (hp : H p = none) (hi : imo o = false) (hc : CellR K T (g.more p) (upd H p o) p c) (q : PostE K T Γ σ g H .sh W Q (.ok (.ref st.m.length) { st with m := st.m ++ [c] })) : Q (.ref p) (upd H p o) := by
  have I1 := I.new (o := o) hp
  refine q _ _ (g.more p) ⟨(Step.new hp).more hp, rfl, fun i b hb => ?_⟩ (I1.more upd_same hi (I.wf.nota hp) (I.wf.noto hp) hc) (ref_more I1)
  obtain ⟨o', e, _⟩ := I.wf.ot b (.inl ⟨i, hb⟩)
  rw [upd_ne (ne_of_none e hp)]
/-- a cell written -/
theorem SR.put {n : Nat} {ad : Addr} {o o' : HO} {c : Cell} (I : SR K T Γ g σ H st) (ha : g.mu[n]? = some ad) (hH : H ad = some o) (hi : imm o = false) (hi' : imo o' = false) (hc : CellR K T g (upd H ad o') ad c) :
    Step g H g (upd H ad o') ∧ SR K T Γ g σ (upd H ad o') { st with m := st.m.set n c } := by
  have hm : ad ∈ g.mu := List.mem_of_getElem? ha
  have own : g.Own ad := .inr hm
  have s : Step g H g (upd H ad o') := ⟨fun _ h => h, fun _ h => .inl h, fun _ h => .inl h, fun b u h n => by
    rw [upd_ne fun z => n (by rw [z]; exact own)]
    exact h, fun b u h im => by
    rw [upd_ne fun z => ?_]
    · exact h
    · rw [z, hH] at h
      cases h
      rw [hi] at im
      exact absurd im (by simp), fun b h => by
    by_cases e : b = ad
    · rw [e, upd_same] at h
      cases h
    · rw [upd_ne e] at h
      exact h, List.prefix_refl _⟩
  have wf : WF g (upd H ad o') := ⟨fun b h => by
    by_cases e : b = ad
    · exact ⟨_, by rw [e, upd_same]⟩
    · rw [upd_ne e]
      exact I.wf.ta b h, fun b h => by
    by_cases e : b = ad
    · exact ⟨_, by rw [e, upd_same], hi'⟩
    · rw [upd_ne e]
      exact I.wf.ot b h, I.wf.ao, I.wf.nf, I.wf.df, I.wf.fm, I.wf.nm⟩
  have u := s.sub I.wf
  refine ⟨s, wf, I.len, fun j hj => (I.sl j hj).sub u rfl fun b hb => by rw [upd_ne fun z => I.wf.fm j b hb (by rw [z]; exact hm)], by simpa using I.me.len, fun k c' b h1 h2 => ?_⟩
  by_cases h : n = k
  · subst h
    rw [ha] at h2
    cases h2
    have hl : n < st.m.length := by
      rw [← I.me.len]
      exact (List.getElem?_eq_some_iff.mp ha).1
    rw [List.getElem?_set_self hl] at h1
    cases h1
    exact hc
  · rw [List.getElem?_set_ne h] at h1
    have hne : b ≠ ad := fun z => by
      subst z
      obtain ⟨h3, e3⟩ := List.getElem?_eq_some_iff.mp ha
      obtain ⟨h4, e4⟩ := List.getElem?_eq_some_iff.mp h2
      exact h ((List.getElem_inj I.wf.nm).mp (e3.trans e4.symm))
    exact CellR.sub u (upd_ne hne) (I.me.at_ k c' b h1 h2)
end
/-! ### dicts with keys of whole numbers or texts -/
def keyD : D → Option Key
  | .int i => some (.inl i)
  | .str x => some (.inr x)
  | _ => none
def valD (kvs : List (Key × D)) (k : Key) : Option D := (kvs.find? fun kv => decide (kv.1 = k)).map (·.2)
def putD (kvs : List (Key × D)) (k : Key) (v : D) : List (Key × D) :=
  if (kvs.any fun kv => decide (kv.1 = k)) = true then kvs.map (fun kv => if kv.1 = k then (kv.1, v) else kv) else kvs ++ [(k, v)]
def mDic (s : S) (n : Nat) : Option (List (Key × D)) := match s.m[n]? with
  | some (.dic _ kvs) => some kvs
  | _ => none
def mDicU (s : S) (n : Nat) : Option (List (Key × D)) := match s.m[n]? with
  | some (.dic false kvs) => some kvs
  | _ => none
section
variable {K : PySem.W.Frag} {T : Tb} {g g' : Gh} {H H' : Hp} {Γ : Fls} {σ : L2.St} {st : S}
theorem key_of {d : D} {v : V} {k : Key} {H0 : Hp} (r : RpM K T g H0 H .b1 d v) (e : keyD d = some k) : v = kV k := by
  cases d <;> simp [keyD] at e
  · subst e
    exact b_int r
  · subst e
    exact b_str r
theorem key_sh {d : D} {v : V} {k : Key} (r : Rp K T g H d v) (e : keyD d = some k) : v = kV k := by
  cases d <;> simp [keyD] at e
  · subst e
    simp only [Rp] at r
    exact r
  · subst e
    simp only [Rp] at r
    exact r
theorem zip_val : ∀ {kvs : List (Key × D)} {vs : List V} (k : Key), Rps K T g H (kvs.map (·.2)) vs → match valD kvs k with
    | some d => ∃ v, valV ((kvs.map (·.1)).zip vs) k = some v ∧ Rp K T g H d v
    | none => valV ((kvs.map (·.1)).zip vs) k = none
  | [], vs, k, h => by
    simp only [List.map_nil, Rps] at h
    subst h
    rfl
  | kv :: kvs, vs, k, h => by
    simp only [List.map_cons, Rps] at h
    obtain ⟨v, r, e, h1, h2⟩ := h
    subst e
    by_cases hk : kv.1 = k
    · have e1 : valD (kv :: kvs) k = some kv.2 := by simp [valD, List.find?_cons, hk]
      rw [e1]
      exact ⟨v, valV_pos hk, h1⟩
    · have e1 : valD (kv :: kvs) k = valD kvs k := by simp [valD, List.find?_cons, hk]
      have e2 : valV (((kv :: kvs).map (·.1)).zip (v :: r)) k = valV ((kvs.map (·.1)).zip r) k := valV_neg (p := (kv.1, v)) hk
      rw [e1, e2]
      exact zip_val k h2
theorem zip_any (k : Key) : ∀ {kvs : List (Key × D)} {vs : List V}, vs.length = kvs.length → (((kvs.map (·.1)).zip vs).any fun kv => decide (kv.1 = k)) = (kvs.any fun kv => decide (kv.1 = k))
  | [], vs, h => rfl
  | kv :: kvs, [], h => by simp at h
  | kv :: kvs, v :: vs, h => by
    simp only [List.map_cons, List.zip_cons_cons, List.any_cons]
    rw [zip_any k (by simpa using h)]
theorem zip_map (k : Key) (v : V) (d : D) (r : Rp K T g H d v) : ∀ {kvs : List (Key × D)} {vs : List V}, Rps K T g H (kvs.map (·.2)) vs → ∃ vs', ((kvs.map (·.1)).zip vs).map (fun kv => if kv.1 = k then (kv.1, v) else kv) = ((kvs.map fun kv => if kv.1 = k then (kv.1, d) else kv).map (·.1)).zip vs' ∧
    Rps K T g H ((kvs.map fun kv => if kv.1 = k then (kv.1, d) else kv).map (·.2)) vs'
  | [], vs, h => by
    simp only [List.map_nil, Rps] at h
    subst h
    exact ⟨[], rfl, Rps.nil⟩
  | kv :: kvs, vs, h => by
    simp only [List.map_cons, Rps] at h
    obtain ⟨w, rr, e, h1, h2⟩ := h
    subst e
    obtain ⟨vs', e1, e2⟩ := zip_map k v d r h2
    by_cases hk : kv.1 = k
    · refine ⟨v :: vs', ?_, ?_⟩
      · simp only [List.map_cons, List.zip_cons_cons, if_pos hk]
        rw [e1]
      · simp only [List.map_cons, if_pos hk]
        exact Rps.cons r e2
    · refine ⟨w :: vs', ?_, ?_⟩
      · simp only [List.map_cons, List.zip_cons_cons, if_neg hk]
        rw [e1]
      · simp only [List.map_cons, if_neg hk]
        exact Rps.cons h1 e2
theorem zip_snoc (k : Key) (v : V) (d : D) : ∀ {kvs : List (Key × D)} {vs : List V}, vs.length = kvs.length → ((kvs.map (·.1)).zip vs) ++ [(k, v)] = ((kvs ++ [(k, d)]).map (·.1)).zip (vs ++ [v])
  | [], [], h => rfl
  | [], v :: vs, h => by simp at h
  | kv :: kvs, [], h => by simp at h
  | kv :: kvs, w :: vs, h => by
    simp only [List.map_cons, List.zip_cons_cons, List.cons_append]
    rw [zip_snoc k v d (by simpa using h)]
theorem zip_put {kvs : List (Key × D)} {vs : List V} {k : Key} {v : V} {d : D} (r : Rp K T g H d v) (h : Rps K T g H (kvs.map (·.2)) vs) : ∃ vs', putK ((kvs.map (·.1)).zip vs) k v = ((putD kvs k d).map (·.1)).zip vs' ∧ Rps K T g H ((putD kvs k d).map (·.2)) vs' := by
  have hl : vs.length = kvs.length := by
    have := h.length
    simpa using this
  unfold putK putD
  rw [zip_any k hl]
  split
  · exact zip_map k v d r h
  · refine ⟨vs ++ [v], zip_snoc k v d hl, ?_⟩
    rw [List.map_append]
    exact h.append (.one r)
theorem dic_at {n : Nat} {kvs : List (Key × D)} {a : Addr} (I : SR K T Γ g σ H st) (h : mDic st n = some kvs) (ha : g.mu[n]? = some a) : ∃ vs, Rd H a (.dK ((kvs.map (·.1)).zip vs)) ∧ Rps K T g H (kvs.map (·.2)) vs := by
  unfold mDic at h
  split at h
  · rename_i lk kvs' e
    cases h
    have q := I.me.at_ n _ a e ha
    cases lk with
    | false =>
      obtain ⟨vs, q1, q2⟩ := q
      exact ⟨vs, .inl q1, q2⟩
    | true =>
      obtain ⟨vs, od, q1, q2⟩ := q
      exact ⟨vs, .inr ⟨od, q1⟩, q2⟩
  · cases h
theorem dic_atU {n : Nat} {kvs : List (Key × D)} {a : Addr} (I : SR K T Γ g σ H st) (h : mDicU st n = some kvs) (ha : g.mu[n]? = some a) : ∃ vs, H a = some (.dK ((kvs.map (·.1)).zip vs)) ∧ Rps K T g H (kvs.map (·.2)) vs := by
  unfold mDicU at h
  split at h
  · rename_i kvs' e
    cases h
    exact I.me.at_ n _ a e ha
  · cases h
theorem b_ref {H0 : Hp} {n : Nat} {v : V} (r : RpM K T g H0 H .b1 (.ref n) v) : ∃ a, v = .ref a ∧ g.mu[n]? = some a := by simpa [RpM, Rp] using r
end
section
variable {T : Tb} {X : Cx} {Γ Γ' : Fls} {F : Fx} {nx lp : Fls} {rm : Mo} {e a b c o i tg iter : Expr} {m m1 m2 m3 : Mo} {f f1 f2 f3 : S → R D} {pos p2 pos' apos cpos : Pos} {es : List Expr} {fs : S → R (List D)}
def eDic0 : S → R D := fun s => .ok (.ref s.m.length) { s with m := s.m ++ [.dic false []] }
theorem je_dic0 : JE T X Γ (.Dict [] [] pos) .sh eDic0 := ⟨fun W tk => PE.imp pe_dnewK fun σ H Q ⟨g, st, I, p⟩ => fun q hq => post_cell (m := .sh) (c := .dic false []) I hq rfl ⟨[], upd_same, Rps.nil⟩ p⟩
/-- d[k] -/
def dixD : D → D → S → R D := fun d k s => match d, keyD k with
  | .ref n, some k => (match mDic s n with
    | some kvs => (match valD kvs k with
      | some v => .ok v s
      | none => .stuck)
    | none => .stuck)
  | _, _ => .stuck
theorem je_dix (hu : X.A.units + 64 < cLine) (ha : JE T X Γ a .b1 f1) (hb : JE T X Γ b .b1 f2) (hs : NoSl b := by exact fun _ _ => rfl) : JE T X Γ (.Subscript a b pos) .sh (e2 dixD f1 f2) := by
  refine ⟨fun W tk => PE.imp (pe_dget (by omega) (ha.run W tk) (hb.run W tk) hs) fun σ H Q ⟨g, st, I, p⟩ => ?_⟩
  refine te_bind ipE I p fun d1 s1 x H1 g1 q1 I1 r1 p1 => te_bind ipE I1 p1 fun d2 s2 y H2 g2 q2 I2 r2 p2 => ?_
  have r1' := r1.step I1.wf I2.wf q2
  unfold dixD at p2
  split at p2
  · rename_i n k ek
    split at p2
    · rename_i kvs em
      split at p2
      · rename_i v ev
        obtain ⟨ad, ex, hn⟩ := b_ref r1'
        subst ex
        obtain ⟨vs, h1, h2⟩ := dic_at I2 em hn
        have z := zip_val k h2
        rw [ev] at z
        obtain ⟨w, z1, z2⟩ := z
        exact ⟨ad, w, rfl, .inl ⟨_, k, h1, key_of r2 ek, z1.symm⟩, p2 _ H2 g2 (.refl g2 H2) I2 z2⟩
      · exact p2.elim
    · exact p2.elim
  · exact p2.elim
end
end DL
set_option linter.all false
set_option Elab.async false
set_option maxRecDepth 100000
namespace DL
open PySem PySem.Spec PyProof.Rows L2
section
variable {T : Tb} {X : Cx} {Γ Γ' : Fls} {F : Fx} {nx lp : Fls} {rm : Mo} {e a b c o i tg iter : Expr} {m m1 m2 m3 : Mo} {f f1 f2 f3 : S → R D} {pos p2 pos' apos cpos : Pos} {es : List Expr} {fs : S → R (List D)}
/-- d.get(k, x) -/
def dgetD : D → D → D → S → R D := fun d k x s => match d, keyD k with
  | .ref n, some k => (match mDic s n with
    | some kvs => .ok ((valD kvs k).getD x) s
    | none => .stuck)
  | _, _ => .stuck
def isDic (d : D) (s : S) : Bool := match d with
  | .ref n => (mDic s n).isSome
  | _ => false
def eGet (f1 f2 f3 : S → R D) : S → R D := fun st => (f1 st).bind fun d s1 => if isDic d s1 then (f2 s1).bind fun k s2 => (f3 s2).bind fun x s3 => dgetD d k x s3 else .stuck
theorem je_dget (hu : X.A.units + 64 < cLine) (ha : JE T X Γ a .b1 f1) (hb : JE T X Γ b .sh f2) (hc : JE T X Γ c .sh f3)
    (mm : M2 X a "get" apos b c cpos := by exact ⟨rfl, rfl, rfl, rfl⟩) : JE T X Γ (.Call (.Attribute a "get" apos) [b, c] [] cpos) .sh (eGet f1 f2 f3) := by
  refine ⟨fun W tk => PE.imp (pe_dget2 (by omega) (ha.run W tk) (hb.run W tk) (hc.run W tk) mm) fun σ H Q ⟨g, st, I, p⟩ => ?_⟩
  refine te_bind ipE I p fun d1 s1 x H1 g1 q1 I1 r1 p1 => ?_
  split at p1
  case isFalse => exact p1.elim
  rename_i hd
  unfold isDic at hd
  split at hd
  case h_2 => cases hd
  rename_i n
  obtain ⟨kvs, ek⟩ := Option.isSome_iff_exists.mp hd
  obtain ⟨ad, ex, hn⟩ := b_ref r1
  subst ex
  obtain ⟨vs, h1, h2⟩ := dic_at I1 ek hn
  refine ⟨ad, rfl, .inl ⟨_, h1⟩, te_bind ipE I1 p1 fun d2 s2 y H2 g2 q2 I2 r2 p2 => te_bind ipE I2 p2 fun d3 s3 z H3 g3 q3 I3 r3 p3 => ?_⟩
  unfold dgetD at p3
  split at p3
  · rename_i n' k en ek2
    cases en
    split at p3
    · rename_i kvs' ek3
      have hn3 : g3.mu[n]? = some ad := by
        obtain ⟨t, ht⟩ := (q2.trans q3).mu
        rw [← ht, List.getElem?_append_left (List.getElem?_eq_some_iff.mp hn).1]
        exact hn
      obtain ⟨vs', h1', h2'⟩ := dic_at I3 ek3 hn3
      have zz := zip_val k h2'
      have ky : y = kV k := key_sh (Rp.step I2.wf q3.toStep r2) ek2
      cases ev : valD kvs' k with
      | none =>
        rw [ev] at zz p3
        exact ⟨none, .inl ⟨_, k, h1', ky, zz.symm⟩, p3 _ H3 g3 (.refl g3 H3) I3 r3⟩
      | some v =>
        rw [ev] at zz p3
        obtain ⟨w, z1, z2⟩ := zz
        exact ⟨some w, .inl ⟨_, k, h1', ky, z1.symm⟩, p3 _ H3 g3 (.refl g3 H3) I3 z2⟩
    · exact p3.elim
  · exact p3.elim
/-- k in d, k not in d -/
def dinD (neg : Bool) : D → D → S → R D := fun k d s => match d, keyD k with
  | .ref n, some k => (match mDic s n with
    | some kvs => .ok (.bl (if neg then !(valD kvs k).isSome else (valD kvs k).isSome)) s
    | none => .stuck)
  | _, _ => .stuck
theorem PC.imp {op : CmpOp} {t t' : TE} (h : PC X op a b t) (i : ∀ σ H Q, t' σ H Q → t σ H Q) : PC X op a b t' := ⟨fun pins s σ H Q I hw => h.run pins s σ H Q I (i σ H Q hw)⟩
theorem din_get {K : PySem.W.Frag} {g : Gh} {σ : L2.St} {H H0 H5 : Hp} {st : S} {W : WX} {Q : VK} {d k : D} {x y : V} {neg : Bool} (I : SR K T Γ g σ H st) (rd : RpM K T g H0 H .b1 d x) (rk : RpM K T g H5 H .b1 k y) (p : PostE K T Γ σ g H .sh W Q (dinD neg k d st)) :
    ∃ a o, x = .ref a ∧ DGet H a y o ∧ Q (.bl (if neg then !o.isSome else o.isSome)) H := by
  unfold dinD at p
  split at p
  · rename_i n kk ek
    split at p
    · rename_i kvs em
      obtain ⟨ad, ex, hn⟩ := b_ref rd
      subst ex
      obtain ⟨vs, h1, h2⟩ := dic_at I em hn
      have z := zip_val kk h2
      cases ev : valD kvs kk with
      | none =>
        rw [ev] at z p
        exact ⟨ad, none, rfl, .inl ⟨_, kk, h1, key_of rk ek, z.symm⟩, p _ H g (.refl g H) I rm_bl⟩
      | some v =>
        rw [ev] at z p
        obtain ⟨w, z1, z2⟩ := z
        exact ⟨ad, some w, rfl, .inl ⟨_, kk, h1, key_of rk ek, z1.symm⟩, p _ H g (.refl g H) I rm_bl⟩
    · exact p.elim
  · exact p.elim
theorem jt_toB {op : CmpOp} {t : S → R D} (h : ∀ W, Takes X W → PC X op a b (te X.K T Γ .sh W t)) (hm : behindInMarks op b = false) : JT T X Γ (.Compare a [op] [b] pos) (toB t) := by
  refine ⟨fun W tk => PT.imp (pt_cmp (h W tk) hm) fun σ H Q ⟨g, st, I, p⟩ => ?_⟩
  unfold toB at p
  refine te_bind ipT I p fun d1 s1 x H1 g1 q1 I1 r1 p1 => ?_
  obtain ⟨k, ek, p2⟩ := toB_spec p1
  subst ek
  simp only [RpM, Rp] at r1
  exact ⟨k, r1, p2 H1 g1 (.refl g1 H1) I1⟩
theorem jt_dnin (hu : X.A.units + 64 < cLine) (ha : JE T X Γ a .b1 f1) (hb : JE T X Γ b .b1 f2) (hm : behindInMarks .NotIn b = false := by first | exact nobehind _ (by decide) (by decide) | rfl) : JT T X Γ (.Compare a [.NotIn] [b] pos) (toB (e2 (dinD true) f1 f2)) :=
  jt_toB (fun W tk => PC.imp (pc_dnotin (by omega) (ha.run W tk) (hb.run W tk)) fun σ H Q ⟨g, st, I, p⟩ => te_bind ipE I p fun d1 s1 x H1 g1 q1 I1 r1 p1 => te_bind ipE I1 p1 fun d2 s2 y H2 g2 q2 I2 r2 p2 =>
    let ⟨ad, o, h1, h2, h3⟩ := din_get I2 r2 (r1.step I1.wf I2.wf q2) p2
    ⟨ad, o, h1, h2, h3⟩) hm
end
end DL
set_option linter.all false
set_option Elab.async false
set_option maxRecDepth 100000
namespace DL
open PySem PySem.Spec PyProof.Rows L2
/-! ### locks -/
section
variable {K : PySem.W.Frag} {T : Tb} {g g' g0 : Gh} {H H' H0 : Hp} {Γ Γ' : Fls} {σ σ' : L2.St} {st st' : S}
def lockS (s : S) (n : Nat) : Option S := match s.m[n]? with
  | some (.dic false kvs) => some { s with m := s.m.set n (.dic true kvs) }
  | _ => none
def unlockS (s : S) (n : Nat) : Option S := match s.m[n]? with
  | some (.dic true kvs) => some { s with m := s.m.set n (.dic false kvs) }
  | _ => none
theorem SR.lock {n : Nat} {a : Addr} {s1 : S} (I : SR K T Γ g σ H st) (ha : g.mu[n]? = some a) (e : lockS st n = some s1) : ∃ zs, H a = some (.dK zs) ∧ ∀ od, Step g H g (upd H a (.frz od (.dK zs))) ∧ SR K T Γ g σ (upd H a (.frz od (.dK zs))) s1 := by
  unfold lockS at e
  split at e
  · rename_i kvs em
    cases e
    obtain ⟨vs, h1, h2⟩ := I.me.at_ n _ a em ha
    refine ⟨_, h1, fun od => ?_⟩
    have s0 : Step g H g (upd H a (.frz od (.dK ((kvs.map (·.1)).zip vs)))) := ⟨fun _ h => h, fun _ h => .inl h, fun _ h => .inl h, fun b u h n => by
      rw [upd_ne fun z => n (by rw [z]; exact .inr (List.mem_of_getElem? ha))]
      exact h, fun b u h im => by
      rw [upd_ne fun z => ?_]
      · exact h
      · rw [z, h1] at h
        cases h
        exact absurd im (by simp [imm]), fun b h => by
      by_cases e : b = a
      · rw [e, upd_same] at h
        cases h
      · rw [upd_ne e] at h
        exact h, List.prefix_refl _⟩
    exact I.put (o' := .frz od (.dK ((kvs.map (·.1)).zip vs))) (c := .dic true kvs) ha h1 rfl rfl ⟨vs, od, upd_same, h2.sub (s0.sub I.wf)⟩
  · cases e
/-- behind the lock -/
theorem unlocked {n : Nat} {a : Addr} {od : Obj} {zs : List (Key × V)} {s2 : S} (ha : g0.mu[n]? = some a) (hz : H0 a = some (.dK zs)) (s : Step g0 (upd H0 a (.frz od (.dK zs))) g H) (I : SR K T Γ g σ H st) (e : unlockS st n = some s2) :
    H a = some (.frz od (.dK zs)) ∧ Step g0 H0 g (upd H a (.dK zs)) ∧ SR K T Γ g σ (upd H a (.dK zs)) s2 ∧ Sub g H g (upd H a (.dK zs)) := by
  have h0 : H a = some (.frz od (.dK zs)) := s.im _ _ upd_same rfl
  have own0 : g0.Own a := .inr (List.mem_of_getElem? ha)
  have hm : g.mu[n]? = some a := by
    obtain ⟨t, ht⟩ := s.mu
    rw [← ht, List.getElem?_append_left (List.getElem?_eq_some_iff.mp ha).1]
    exact ha
  have hmm : a ∈ g.mu := List.mem_of_getElem? hm
  have own : g.Own a := .inr hmm
  have ne0 : ∀ b, upd H0 a (.frz od (.dK zs)) b = none → H0 b = none := fun b h => by
    by_cases z : b = a
    · rw [z, upd_same] at h
      cases h
    · rw [upd_ne z] at h
      exact h
  have st0 : Step g0 H0 g (upd H a (.dK zs)) := ⟨s.aa, fun b h => (s.an b h).imp id (Or.imp id (ne0 b)), fun b h => (s.on b h).imp id (ne0 b), fun b u h no => by
    have z : b ≠ a := fun z => no (by rw [z]; exact own0)
    rw [upd_ne z]
    exact s.fr b u (by rw [upd_ne z]; exact h) no, fun b u h im => by
    have z : b ≠ a := fun z => by
      rw [z, hz] at h
      cases h
      exact absurd im (by simp [imm])
    rw [upd_ne z]
    exact s.im b u (by rw [upd_ne z]; exact h) im, fun b h => by
    have z : b ≠ a := fun z => by
      rw [z, upd_same] at h
      cases h
    rw [upd_ne z] at h
    exact ne0 b (s.tr b h), s.mu⟩
  have u : Sub g H g (upd H a (.dK zs)) := ⟨fun _ h => h, fun b o hA h => by
    rw [upd_ne fun z => I.wf.ao b hA (by rw [z]; exact own)]
    exact h, fun b o h i => by
    rw [upd_ne fun z => ?_]
    · exact h
    · rw [z, h0] at h
      cases h
      exact absurd i (by simp [imo]), List.prefix_refl _⟩
  refine ⟨h0, st0, ?_, u⟩
  unfold unlockS at e
  split at e
  · rename_i kvs em
    cases e
    obtain ⟨vs, od', h1, h2⟩ := I.me.at_ n _ a em hm
    have ez : zs = (kvs.map (·.1)).zip vs := by
      rw [h0] at h1
      cases h1
      rfl
    have wf : WF g (upd H a (.dK zs)) := ⟨fun b h => by
      by_cases e : b = a
      · exact ⟨_, by rw [e, upd_same]⟩
      · rw [upd_ne e]
        exact I.wf.ta b h, fun b h => by
      by_cases e : b = a
      · exact ⟨_, by rw [e, upd_same], rfl⟩
      · rw [upd_ne e]
        exact I.wf.ot b h, I.wf.ao, I.wf.nf, I.wf.df, I.wf.fm, I.wf.nm⟩
    refine ⟨wf, I.len, fun j hj => (I.sl j hj).sub u rfl fun b hb => by rw [upd_ne fun z => I.wf.fm j b hb (by rw [z]; exact hmm)], by simpa using I.me.len, fun k c' b h1' h2' => ?_⟩
    by_cases h : n = k
    · subst h
      rw [hm] at h2'
      cases h2'
      have hl : n < st.m.length := by
        rw [← I.me.len]
        exact (List.getElem?_eq_some_iff.mp hm).1
      rw [List.getElem?_set_self hl] at h1'
      cases h1'
      exact ⟨vs, by rw [upd_same, ez], h2.sub u⟩
    · rw [List.getElem?_set_ne h] at h1'
      have hne : b ≠ a := fun z => by
        subst z
        obtain ⟨h3, e3⟩ := List.getElem?_eq_some_iff.mp hm
        obtain ⟨h4, e4⟩ := List.getElem?_eq_some_iff.mp h2'
        exact h ((List.getElem_inj I.wf.nm).mp (e3.trans e4.symm))
      exact CellR.sub u (upd_ne hne) (I.me.at_ k c' b h1' h2')
  · cases e
end
def sLock (i : Nat) (q : S → RS) : S → RS := fun s => match s.r.getD i none with
  | some (.ref n) => (match lockS s n with
    | some s1 => (match q s1 with
      | .next s2 => (match unlockS s2 n with
        | some s3 => .next s3
        | none => .stuck)
      | _ => .stuck)
    | none => .stuck)
  | _ => .stuck
def eLock (i : Nat) (f : S → R D) : S → R D := fun s => match s.r.getD i none with
  | some (.ref n) => (match lockS s n with
    | some s1 => (match f s1 with
      | .ok d s2 => (match unlockS s2 n with
        | some s3 => .ok d s3
        | none => .stuck)
      | _ => .stuck)
    | none => .stuck)
  | _ => .stuck
section
variable {T : Tb} {X : Cx} {Γ Γ' : Fls} {F : Fx} {nx lp : Fls} {rm : Mo} {e a b c o tg iter : Expr} {m m1 m2 m3 : Mo} {f f1 f2 f3 : S → R D} {pos p2 pos' apos cpos : Pos} {es : List Expr} {fs : S → R (List D)} {s1 : Stmt} {q : S → RS}
theorem js_lock (i : Nat) (h : JS T X Γ F s1 q) (hΓ : fl Γ i = .sh := by rfl) : JS T X Γ F s1 (sLock i q) := by
  refine ⟨fun W tk => PS.imp (ps_lock (h.run W tk)) fun E σ H ⟨B, g, st, I, p⟩ => ?_⟩
  unfold sLock at p
  cases es : st.r.getD i none with
  | none => rw [es] at p; exact p.elim
  | some d0 =>
    rw [es] at p
    obtain ⟨v0, _, h2⟩ := I.slot es
    rw [hΓ] at h2
    cases d0 with
    | ref n =>
      simp only [SlR, Rp] at h2
      obtain ⟨ad, ev, hn⟩ := h2
      simp only at p
      cases el : lockS st n with
      | none => rw [el] at p; exact p.elim
      | some s1 =>
        rw [el] at p
        obtain ⟨zs, hz, hl⟩ := I.toSR.lock hn el
        refine ⟨ad, .dK zs, hz, True.intro, fun od => ?_⟩
        obtain ⟨stp, I1⟩ := hl od
        refine ⟨B, g, s1, I.go stp I1, ?_⟩
        simp only at p
        cases eq : q s1 with
        | next s2 =>
          rw [eq] at p
          intro σ' H' g' sp I2
          simp only at p
          cases eu : unlockS s2 n with
          | none => rw [eu] at p; exact p.elim
          | some s3 =>
            rw [eu] at p
            obtain ⟨k1, k2, k3, _⟩ := unlocked hn hz sp I2 eu
            exact ⟨k1, p σ' _ g' k2 k3⟩
        | brk s2 => rw [eq] at p; exact p.elim
        | cont s2 => rw [eq] at p; exact p.elim
        | ret d s2 => rw [eq] at p; exact p.elim
        | raise ex s2 => rw [eq] at p; exact p.elim
        | stuck => rw [eq] at p; exact p.elim
    | _ => exact p.elim
theorem je_lock (i : Nat) (h : JE T X Γ e .f1 f) (hΓ : fl Γ i = .sh := by rfl) : JE T X Γ e .f1 (eLock i f) := by
  refine ⟨fun W tk => PE.imp (pe_lock (h.run W tk)) fun σ H Q ⟨g, st, I, p⟩ => ?_⟩
  unfold eLock at p
  cases es : st.r.getD i none with
  | none => rw [es] at p; exact p.elim
  | some d0 =>
    rw [es] at p
    obtain ⟨v0, _, h2⟩ := I.slot es
    rw [hΓ] at h2
    cases d0 with
    | ref n =>
      simp only [SlR, Rp] at h2
      obtain ⟨ad, ev, hn⟩ := h2
      simp only at p
      cases el : lockS st n with
      | none => rw [el] at p; exact p.elim
      | some s1 =>
        rw [el] at p
        obtain ⟨zs, hz, hl⟩ := I.lock hn el
        refine ⟨ad, .dK zs, hz, True.intro, fun od => ?_⟩
        obtain ⟨stp, I1⟩ := hl od
        refine ⟨g, s1, I1, ?_⟩
        simp only at p
        cases eq : f s1 with
        | ok d s2 =>
          rw [eq] at p
          intro v H' g' sp I2 r
          simp only at p
          cases eu : unlockS s2 n with
          | none => rw [eu] at p; exact p.elim
          | some s3 =>
            rw [eu] at p
            obtain ⟨k1, k2, k3, k4⟩ := unlocked hn hz sp.toStep I2 eu
            refine ⟨k1, p v _ g' ⟨k2, sp.qf, fun j b hb => ?_⟩ k3 ?_⟩
            · have z : b ≠ ad := fun z => I.wf.fm j b hb (by rw [z]; exact List.mem_of_getElem? hn)
              rw [upd_ne z, sp.qo j b hb, upd_ne z]
            · cases d with
              | lst ds =>
                obtain ⟨x, vs, e1, e2, e3, e4⟩ := r
                have zx : x ≠ ad := fun z => by
                  rw [z, k1] at e2
                  cases e2
                refine ⟨x, vs, e1, by rw [upd_ne zx]; exact e2, ⟨e3.1, e3.2.1, ?_⟩, e4.sub k4⟩
                have := e3.2.2
                rw [upd_ne zx] at this
                exact this
              | _ => exact Rp.sub k4 r
        | raise ex s2 => rw [eq] at p; exact p.elim
        | stuck => rw [eq] at p; exact p.elim
    | _ => exact p.elim
end
end DL
set_option linter.all false
set_option Elab.async false
set_option maxRecDepth 100000
namespace DL
open PySem PySem.Spec PyProof.Rows L2
/-! ### walks over a locked dict -/
def kD : Key → D
  | .inl i => .int i
  | .inr x => .str x
def mDicL (s : S) (n : Nat) : Option (List (Key × D)) := match s.m[n]? with
  | some (.dic true kvs) => some kvs
  | _ => none
def iDic (view : List (Key × D) → List D) (f : S → R D) : S → R (List D) := fun s => (f s).bind fun d s1 => match d with
  | .ref n => (match mDicL s1 n with
    | some kvs => .ok (view kvs) s1
    | none => .stuck)
  | _ => .stuck
def valsV (kvs : List (Key × D)) : List D := kvs.map (·.2)
def itemsV (kvs : List (Key × D)) : List D := kvs.map fun kv => .tup [kD kv.1, kv.2]
section
variable {K : PySem.W.Frag} {T : Tb} {g g' : Gh} {H H' : Hp} {Γ : Fls} {σ : L2.St} {st : S}
theorem dic_atL {n : Nat} {kvs : List (Key × D)} {a : Addr} (I : SR K T Γ g σ H st) (h : mDicL st n = some kvs) (ha : g.mu[n]? = some a) : ∃ vs od, H a = some (.frz od (.dK ((kvs.map (·.1)).zip vs))) ∧ Rps K T g H (kvs.map (·.2)) vs := by
  unfold mDicL at h
  split at h
  · rename_i kvs' e
    cases h
    exact I.me.at_ n _ a e ha
  · cases h
theorem zip_get : ∀ {kvs : List (Key × D)} {vs : List V} {i : Nat} {k : Key} {x : V}, ((kvs.map (·.1)).zip vs)[i]? = some (k, x) → vs[i]? = some x ∧ (kvs.map (·.1))[i]? = some k
  | kvs, vs, i, k, x, h => by
    rw [List.getElem?_zip_eq_some] at h
    exact ⟨h.2, h.1⟩
theorem rp_key {k : Key} : Rp K T g H (kD k) (kV k) := by
  cases k <;> simp only [kD, Rp] <;> rfl
theorem wlk_vals {a : Addr} {od : Obj} {kvs : List (Key × D)} {vs : List V} (wf : WF g H) (h : H a = some (.frz od (.dK ((kvs.map (·.1)).zip vs)))) (r : Rps K T g H (kvs.map (·.2)) vs) : Wlk K T g H (Itd a od ((kvs.map (·.1)).zip vs)) (valsV kvs) := by
  have hl : ((kvs.map (·.1)).zip vs).length = kvs.length := by
    have := r.length
    simp at this
    simp [this]
  refine ⟨fun i d g' H' s w e => ⟨s.im _ _ h rfl, ?_⟩, fun g' H' s w => ⟨s.im _ _ h rfl, ?_⟩, fun i d g' H' x H'' s w e y => ?_⟩
  · rw [hl]
    have := (List.getElem?_eq_some_iff.mp e).1
    simpa [valsV] using this
  · rw [hl]
    simp [valsV]
  · obtain ⟨eh, k, hk⟩ := y
    obtain ⟨h1, _⟩ := zip_get hk
    obtain ⟨v, h2, h3⟩ := r.get e
    rw [h1] at h2
    cases h2
    exact .inl ⟨eh, h3.step wf s⟩
theorem wlk_items {a : Addr} {od : Obj} {kvs : List (Key × D)} {vs : List V} (wf : WF g H) (h : H a = some (.frz od (.dK ((kvs.map (·.1)).zip vs)))) (r : Rps K T g H (kvs.map (·.2)) vs) : Wlk K T g H (Iti a od ((kvs.map (·.1)).zip vs)) (itemsV kvs) := by
  have hl : ((kvs.map (·.1)).zip vs).length = kvs.length := by
    have := r.length
    simp at this
    simp [this]
  refine ⟨fun i d g' H' s w e => ⟨s.im _ _ h rfl, ?_⟩, fun g' H' s w => ⟨s.im _ _ h rfl, ?_⟩, fun i d g' H' x H'' s w e y => ?_⟩
  · rw [hl]
    have := (List.getElem?_eq_some_iff.mp e).1
    simpa [itemsV] using this
  · rw [hl]
    simp [itemsV]
  · obtain ⟨p, k, v, hk, ex, hp, eh⟩ := y
    subst ex eh
    obtain ⟨h1, h2⟩ := zip_get hk
    rw [itemsV, List.getElem?_map] at e
    obtain ⟨kv, ekv, e2⟩ := Option.map_eq_some_iff.mp e
    subst e2
    rw [List.getElem?_map, ekv] at h2
    cases h2
    obtain ⟨v', h3, h4⟩ := r.get (i := i) (d := kv.2) (by rw [List.getElem?_map, ekv]; rfl)
    rw [h1] at h3
    cases h3
    refine .inr ⟨p, _, hp, rfl, ?_⟩
    simp only [Rp]
    exact ⟨p, _, rfl, .inl (.inl upd_same), Rps.cons rp_key (.one ((h4.step wf s).step w (.new hp)))⟩
end
section
variable {T : Tb} {X : Cx} {Γ Γ' : Fls} {F : Fx} {nx lp : Fls} {rm : Mo} {e a b c o tg iter : Expr} {m m1 m2 m3 : Mo} {f f1 f2 f3 : S → R D} {pos p2 pos' apos cpos tpos : Pos} {es elts : List Expr} {fs : S → R (List D)} {s1 : Stmt} {q : S → RS}
theorem ji_vals (ha : JE T X Γ a .b1 f) (hb : attributeBase a "values" X.env (eval a X.env) = eval a X.env := by rfl) (hl : (apos.endLine == cpos.line) = true := by rfl) : JI T X Γ tg (.Call (.Attribute a "values" apos) [] [] cpos) (iDic valsV f) := by
  refine ⟨fun W tk => PI.imp (pi_values (ha.run W tk) hb hl) fun σ H R ⟨g, st, I, p⟩ => ?_⟩
  refine te_bind ipI I p fun d1 s1 x H1 g1 q1 I1 r1 p1 => ?_
  split at p1
  case h_2 => exact p1.elim
  rename_i n
  split at p1
  case h_2 => exact p1.elim
  rename_i kvs ek
  obtain ⟨ad, ex, hn⟩ := b_ref r1
  obtain ⟨vs, od, h1, h2⟩ := dic_atL I1 ek hn
  exact ⟨ad, od, _, ex, h1, p1 _ H1 g1 (.refl g1 H1) I1 (wlk_vals I1.wf h1 h2)⟩
theorem ji_items {kk : Nat} (ha : JE T X Γ a .b1 f) (hb : attributeBase a "items" X.env (eval a X.env) = eval a X.env := by rfl) (hl : (apos.endLine == cpos.line) = true := by rfl) : JI T X Γ (.Tuple elts kk tpos) (.Call (.Attribute a "items" apos) [] [] cpos) (iDic itemsV f) := by
  refine ⟨fun W tk => PI.imp (pi_items (ha.run W tk) hb hl) fun σ H R ⟨g, st, I, p⟩ => ?_⟩
  refine te_bind ipI I p fun d1 s1 x H1 g1 q1 I1 r1 p1 => ?_
  split at p1
  case h_2 => exact p1.elim
  rename_i n
  split at p1
  case h_2 => exact p1.elim
  rename_i kvs ek
  obtain ⟨ad, ex, hn⟩ := b_ref r1
  obtain ⟨vs, od, h1, h2⟩ := dic_atL I1 ek hn
  exact ⟨ad, od, _, ex, h1, p1 _ H1 g1 (.refl g1 H1) I1 (wlk_items I1.wf h1 h2)⟩
/-- d[k] = v -/
def sDput (fd fk fv : S → R D) : S → RS := fun s => (fv s).then fun v s1 => (fd s1).then fun d s2 => (fk s2).then fun k s3 => match d, keyD k with
  | .ref n, some k => (match mDicU s3 n with
    | some kvs => if kvs.length < sizeLine then .next { s3 with m := s3.m.set n (.dic false (putD kvs k v)) } else .stuck
    | none => .stuck)
  | _, _ => .stuck
theorem js_dput (hu : X.A.units + 64 < cLine) (hd : JE T X Γ a .b1 f1) (hk : JE T X Γ b .b1 f2) (hv : JE T X Γ c .sh f3) (hs : swapsWith c (some (.Subscript a b pos')) pos.line X.env = pure false := by rfl) : JS T X Γ ⟨Γ, lp, rm⟩ (.Assign [.Subscript a b pos'] c pos) (sDput f1 f2 f3) := by
  refine ⟨fun W tk => PS.imp (ps_dput (by omega) (hd.run W tk) (hk.run W tk) (hv.run W tk) hs) fun E σ H ⟨B, g, st, I, p⟩ => ?_⟩
  refine te_then I.toSR p fun d1 s1 v H1 g1 q1 I1 r1 p1 => te_then I1 p1 fun d2 s2 x H2 g2 q2 I2 r2 p2 => te_then I2 p2 fun d3 s3 y H3 g3 q3 I3 r3 p3 => ?_
  split at p3
  case h_2 => exact p3.elim
  rename_i n k ek
  split at p3
  case h_2 => exact p3.elim
  rename_i kvs em
  split at p3
  case isFalse => exact p3.elim
  rename_i hz
  obtain ⟨ad, ex, hn⟩ := b_ref (r2.step I2.wf I3.wf q3)
  subst ex
  obtain ⟨vs, h1, h2⟩ := dic_atU I3 em hn
  have rv : Rp X.K T g3 H3 d1 v := (Rp.step I1.wf q2.toStep r1 |> Rp.step I2.wf q3.toStep)
  obtain ⟨vs', e1, e2⟩ := zip_put (k := k) rv h2
  have hl : vs.length = kvs.length := by
    have := h2.length
    simpa using this
  have hz2 : ((kvs.map (·.1)).zip vs).length < sizeLine := by
    simp [hl]
    exact hz
  have s0 : Sub g3 H3 g3 (upd H3 ad (.dK (putK ((kvs.map (·.1)).zip vs) k v))) := ⟨fun _ h => h, fun b o hA h => by
    rw [upd_ne fun z => I3.wf.ao b hA (by rw [z]; exact .inr (List.mem_of_getElem? hn))]
    exact h, fun b o h i => by
    rw [upd_ne fun z => ?_]
    · exact h
    · rw [z, h1] at h
      cases h
      exact absurd i (by simp [imo]), List.prefix_refl _⟩
  obtain ⟨k1, k2⟩ := I3.put (o' := .dK (putK ((kvs.map (·.1)).zip vs) k v)) (c := .dic false (putD kvs k d1)) hn h1 rfl rfl ⟨vs', by rw [upd_same, e1], e2.sub s0⟩
  exact ⟨ad, _, rfl, .inl ⟨_, k, h1, key_of r3 ek, hz2, rfl⟩, p3 σ _ g3 k1 k2⟩
end
end DL
set_option linter.all false
set_option Elab.async false
set_option maxRecDepth 100000
namespace DL
open PySem PySem.Spec PyProof.Rows L2
/-! ### d.update(e), dict(pairs), {k: v} -/
def rUpd : V → List V → Hp → VK → Prop := fun x xs H Q => ∃ (a b : Addr) (kvs more : List (Key × V)), x = .ref a ∧ xs = [.ref b] ∧ a ≠ b ∧ H a = some (.dK kvs) ∧ Rd H b (.dK more) ∧ kvs.length + more.length ≤ sizeLine ∧ Q .non (upd H a (.dK (mergeK kvs more)))
theorem mtd_update {X : Cx} : MtR X "dict.update" rUpd := by
  intro pins s σ H x vs v us Q I rx rv h
  obtain ⟨a, b, kvs, more, rfl, rfl, ne, e, e2, hz, q⟩ := h
  obtain rfl : v = Value.ref a := rx
  cases rv with
  | cons r rr =>
    cases rr
    cases r
    obtain ⟨z, hd, us, rel, dd⟩ := dk_of I.hok e
    obtain ⟨z2, hd2, us2, rel2, dd2⟩ := dk_rd I.hok e2
    have hsz : us.length + us2.length ≤ sizeLine := by
      rw [← rel.length, ← rel2.length]
      exact hz
    refine call_meetsIn PySem.F.slot_dict_update dd.typeIs PySem.F.entry_dict_update (PySem.F.args_dict_update_2 _ _) (meets_dict_update (mixKind X.prog X.w) a b ne hd2) ⟨us, us2, dd, dd2, hsz, fun h' dd' _ hs => ?_⟩
    have he : ∃ q, h'.get? a = some q := let ⟨q, _, _, hq, _⟩ := dd'; ⟨q, hq⟩
    have rm := KV.merge rel2 rel
    have hl : (mergeK kvs more).length ≤ sizeLine := by
      rw [rm.length]
      exact Nat.le_trans (merged_length_le us us2) hsz
    exact ⟨.non, _, d_write (t' := s.toks) I (by rw [e]; exact True.intro) hs he (dk_new hl hd rm dd'), rfl, q⟩
def mergeD (kvs more : List (Key × D)) : List (Key × D) := more.foldl (fun acc kv => putD acc kv.1 kv.2) kvs
section
variable {K : PySem.W.Frag} {T : Tb} {g g' : Gh} {H H' : Hp} {Γ : Fls} {σ : L2.St} {st : S}
theorem zip_merge : ∀ {more kvs : List (Key × D)} {vs ws : List V}, Rps K T g H (kvs.map (·.2)) vs → Rps K T g H (more.map (·.2)) ws → ∃ vs', mergeK ((kvs.map (·.1)).zip vs) ((more.map (·.1)).zip ws) = ((mergeD kvs more).map (·.1)).zip vs' ∧ Rps K T g H ((mergeD kvs more).map (·.2)) vs'
  | [], kvs, vs, ws, h, h2 => by
    simp only [List.map_nil, Rps] at h2
    subst h2
    exact ⟨vs, rfl, h⟩
  | kv :: more, kvs, vs, ws, h, h2 => by
    simp only [List.map_cons, Rps] at h2
    obtain ⟨w, r, e, h3, h4⟩ := h2
    subst e
    obtain ⟨vs1, e1, h5⟩ := zip_put (k := kv.1) h3 h
    obtain ⟨vs2, e2, h6⟩ := zip_merge (more := more) h5 h4
    refine ⟨vs2, ?_, h6⟩
    show mergeK (putK ((kvs.map (·.1)).zip vs) kv.1 w) ((more.map (·.1)).zip r) = _
    rw [e1]
    exact e2
def pairsD : List D → Option (List (Key × D))
  | [] => some []
  | .tup [k, v] :: r => (match keyD k, pairsD r with
    | some k, some ps => some ((k, v) :: ps)
    | _, _ => none)
  | _ => none
theorem pairs_of : ∀ {ds : List D} {vs : List V} {prs : List (Key × D)}, Rps K T g H ds vs → pairsD ds = some prs → ∃ ps ws, vs = ps.map V.ref ∧ Paired (fun p (kv : Key × V) => SqT K H p [kV kv.1, kv.2]) ps ((prs.map (·.1)).zip ws) ∧ Rps K T g H (prs.map (·.2)) ws := by
  intro ds
  induction ds with
  | nil =>
    intro vs prs h e
    simp only [Rps] at h
    subst h
    cases e
    exact ⟨[], [], rfl, .nil, Rps.nil⟩
  | cons d ds ih =>
    intro vs prs h e
    simp only [Rps] at h
    obtain ⟨v, r, e1, h1, h2⟩ := h
    subst e1
    unfold pairsD at e
    split at e
    · rename_i heq
      cases heq
    · rename_i k w r' heq
      cases heq
      split at e
      · rename_i kk ps' ek ep
        cases e
        obtain ⟨qs, ws, e2, h3, h4⟩ := ih h2 ep
        simp only [Rp] at h1
        obtain ⟨a, us, e3, h5, h6⟩ := h1
        simp only [Rps] at h6
        obtain ⟨ku, r1, e4, h7, wu, r2, e5, h8, e6⟩ := h6
        subst e3 e4 e5 e6 e2
        have ek' := key_sh h7 ek
        subst ek'
        exact ⟨a :: qs, wu :: ws, rfl, .cons h5 h3, Rps.cons h8 h4⟩
      · cases e
    · cases e
end
section
variable {T : Tb} {X : Cx} {Γ Γ' : Fls} {F : Fx} {nx lp : Fls} {rm : Mo} {e a b c o tg iter : Expr} {m m1 m2 m3 : Mo} {f f1 f2 f3 : S → R D} {pos p2 pos' apos cpos tpos : Pos} {es elts : List Expr} {fs : S → R (List D)} {s1 : Stmt} {q : S → RS}
def sUpd (fd fe : S → R D) : S → RS := fun s => (fd s).then fun d s1 => match d with
  | .ref n => (match mDicU s1 n with
    | some _ => (fe s1).then fun e s2 => (match e with
      | .ref n' => if n = n' then .stuck else (match mDicU s2 n, mDic s2 n' with
        | some kvs, some more => if kvs.length + more.length ≤ sizeLine then .next { s2 with m := s2.m.set n (.dic false (mergeD kvs more)) } else .stuck
        | _, _ => .stuck)
      | _ => .stuck)
    | none => .stuck)
  | _ => .stuck
theorem js_upd (hd : JE T X Γ a .b1 f1) (he : JE T X Γ b .sh f2)
    (hb : ∀ {te1 te2 : TE}, PE X a te1 → PE X b te2 → PE X (.Call (.Attribute a "update" apos) [b] [] cpos) (tBM X.K "dict" rUpd te1 (tCons te2 tNil)) := by exact fun h1 h2 => pe_bm PySem.F.plainAttrs_dict PySem.F.slot_dict_update PySem.F.type_dict_update mtd_update h1 (pa_cons h2 pa_nil))
    (hs : swapsWith (.Call (.Attribute a "update" apos) [b] [] cpos) none pos.line X.env = pure false := by rfl) : JS T X Γ ⟨Γ, lp, rm⟩ (.Expr (.Call (.Attribute a "update" apos) [b] [] cpos) pos) (sUpd f1 f2) := by
  refine ⟨fun W tk => PS.imp (ps_expr (hb (hd.run W tk) (he.run W tk)) hs) fun E σ H ⟨B, g, st, I, p⟩ => ?_⟩
  refine te_then I.toSR p fun d1 s1 x H1 g1 q1 I1 r1 p1 => ?_
  split at p1
  case h_2 => exact p1.elim
  rename_i n
  split at p1
  case h_2 => exact p1.elim
  rename_i kvs0 em0
  obtain ⟨ad, ex, hn⟩ := b_ref r1
  subst ex
  obtain ⟨vs0, h0, _⟩ := dic_atU I1 em0 hn
  refine ⟨.inr (.inr (.inl ⟨rfl, .inl ⟨_, h0⟩⟩)), te_then I1 p1 fun d2 s2 y H2 g2 q2 I2 r2 p2 => ?_⟩
  split at p2
  case h_2 => exact p2.elim
  rename_i n'
  split at p2
  case isTrue => exact p2.elim
  rename_i hne
  split at p2
  case h_2 => exact p2.elim
  rename_i kvs more ek em
  split at p2
  case isFalse => exact p2.elim
  rename_i hz
  have hn2 : g2.mu[n]? = some ad := by
    obtain ⟨t, ht⟩ := q2.mu
    rw [← ht, List.getElem?_append_left (List.getElem?_eq_some_iff.mp hn).1]
    exact hn
  simp only [RpM, Rp] at r2
  obtain ⟨bd, ey, hn'⟩ := r2
  subst ey
  obtain ⟨vs, h1, h2⟩ := dic_atU I2 ek hn2
  obtain ⟨ws, h3, h4⟩ := dic_at I2 em hn'
  have nab : ad ≠ bd := fun z => by
    subst z
    obtain ⟨h3, e3⟩ := List.getElem?_eq_some_iff.mp hn2
    obtain ⟨h4, e4⟩ := List.getElem?_eq_some_iff.mp hn'
    exact hne ((List.getElem_inj I2.wf.nm).mp (e3.trans e4.symm))
  obtain ⟨vs', e1, e2⟩ := zip_merge h2 h4
  have l1 : vs.length = kvs.length := by
    have := h2.length
    simpa using this
  have l2 : ws.length = more.length := by
    have := h4.length
    simpa using this
  have hz2 : ((kvs.map (·.1)).zip vs).length + ((more.map (·.1)).zip ws).length ≤ sizeLine := by
    simp [l1, l2]
    exact hz
  have s0 : Sub g2 H2 g2 (upd H2 ad (.dK (mergeK ((kvs.map (·.1)).zip vs) ((more.map (·.1)).zip ws)))) := ⟨fun _ h => h, fun b o hA h => by
    rw [upd_ne fun z => I2.wf.ao b hA (by rw [z]; exact .inr (List.mem_of_getElem? hn2))]
    exact h, fun b o h i => by
    rw [upd_ne fun z => ?_]
    · exact h
    · rw [z, h1] at h
      cases h
      exact absurd i (by simp [imo]), List.prefix_refl _⟩
  obtain ⟨k1, k2⟩ := I2.put (o' := .dK (mergeK ((kvs.map (·.1)).zip vs) ((more.map (·.1)).zip ws))) (c := .dic false (mergeD kvs more)) hn2 h1 rfl rfl ⟨vs', by rw [upd_same, e1], e2.sub s0⟩
  exact ⟨ad, bd, _, _, rfl, rfl, nab, h1, h3, hz2, p2 σ _ g2 k1 k2⟩
def dictD : D → S → R D := fun d s => match d with
  | .lst ds => (match pairsD ds with
    | some prs => .ok (.ref s.m.length) { s with m := s.m ++ [.dic false (mergeD [] prs)] }
    | none => .stuck)
  | _ => .stuck
theorem je_dictP (hc : X.calm = true) (hg : Gl X "dict") (hm : X.mg "dict" = none) (ha : JE T X Γ a .b1 f) (hs : starEach [a] X.env = (false, eval a X.env) :: starEach [] X.env := by rfl) (hpl : (backTo pos (starEach [] X.env)).any (·.1) = false := by rfl) :
    JE T X Γ (.Call (.Name "dict" p2) [a] [] pos) .sh (e1 dictD f) := by
  refine ⟨fun W tk => PE.imp (pe_callTy (call_dictP hc) hg hm (by decide +kernel) (pa_cons (ha.run W tk) pa_nil hs) (by decide) (by decide) hs hpl) fun σ H Q ⟨g, st, I, p⟩ => ?_⟩
  refine te_bind ipE I p fun d1 s1 x H1 g1 q1 I1 r1 p1 => ?_
  unfold dictD at p1
  split at p1
  case h_2 => exact p1.elim
  rename_i ds
  split at p1
  case h_2 => exact p1.elim
  rename_i prs ep
  obtain ⟨ad, vs, ex, h1, _, h2⟩ := b_lst r1
  subst ex
  obtain ⟨ps, ws, e1, h3, h4⟩ := pairs_of h2 ep
  subst e1
  refine ⟨ad, ps, _, rfl, .inl (.inl h1), h3, fun p' hp => ?_⟩
  have I2 := I1.new (o := .dK (mergeK [] ((prs.map (·.1)).zip ws))) hp
  obtain ⟨vs', e2, h5⟩ := zip_merge (K := X.K) (T := T) (g := g1) (H := H1) (kvs := []) (vs := []) Rps.nil h4
  exact post_cell (m := .sh) (c := .dic false (mergeD [] prs)) I1 hp rfl ⟨vs', by rw [upd_same]; exact congrArg (fun z => some (HO.dK z)) e2, (h5.step I1.wf (.new hp)).sub .more⟩ p1
end
end DL
set_option linter.all false
set_option Elab.async false
set_option maxRecDepth 100000
namespace DL
open PySem PySem.Spec PyProof.Rows L2
/-! ### x in a list or a tuple of data -/
theorem op_inDT {X : Cx} (hu : X.A.units + 65 < cLine) : OpR X (compareOp .In) (fun x y H Q => ∃ d ds, Dp X.K H x d ∧ Dp X.K H y (.tuple ds) ∧ SeqAt.shaped d = true ∧ SeqAt.shaped (.tuple ds) = true ∧ Q (.bl (ds.any fun z => PyData.eqv z d)) H) := by
  intro pins s σ H x y v u Q I rx ry h
  obtain ⟨d, ds, hd, he, sd, se, q⟩ := h
  obtain ⟨as, r1⟩ := Dp.reads I d x v hd rx
  obtain ⟨bs, r2⟩ := Dp.reads I (.tuple ds) y u he ry
  exact SeqAt.in_tuple_reads r2 r1 (SeqAt.canLay_of_shaped se) (SeqAt.canLay_of_shaped sd) (room_in_shaped sd hu) ⟨.bl _, H, I, rfl, q⟩
theorem op_notInDT {X : Cx} (hu : X.A.units + 65 < cLine) : OpR X (compareOp .NotIn) (fun x y H Q => ∃ d ds, Dp X.K H x d ∧ Dp X.K H y (.tuple ds) ∧ SeqAt.shaped d = true ∧ SeqAt.shaped (.tuple ds) = true ∧ Q (.bl (!ds.any fun z => PyData.eqv z d)) H) := by
  intro pins s σ H x y v u Q I rx ry h
  obtain ⟨d, ds, hd, he, sd, se, q⟩ := h
  obtain ⟨as, r1⟩ := Dp.reads I d x v hd rx
  obtain ⟨bs, r2⟩ := Dp.reads I (.tuple ds) y u he ry
  exact SeqAt.notIn_tuple_reads r2 r1 (SeqAt.canLay_of_shaped se) (SeqAt.canLay_of_shaped sd) (room_in_shaped sd hu) ⟨.bl _, H, I, rfl, q⟩
def inD (x y : D) : Option Bool := match toP x, toP y with
  | some d, some (.list ds) => if SeqAt.shaped d && SeqAt.shaped (.list ds) then some (ds.any fun z => PyData.eqv z d) else none
  | some d, some (.tuple ds) => if SeqAt.shaped d && SeqAt.shaped (.tuple ds) then some (ds.any fun z => PyData.eqv z d) else none
  | _, _ => none
def notinD (x y : D) : Option Bool := (inD x y).map (!·)
theorem OpR.or {X : Cx} {f : Value → Value → Sem Value} {r r' : R2} (h : OpR X f r) (h' : OpR X f r') : OpR X f (fun x y H Q => r x y H Q ∨ r' x y H Q) := by
  intro pins s σ H x y v u Q I rx ry q
  rcases q with q | q
  · exact h pins s σ H x y v u Q I rx ry q
  · exact h' pins s σ H x y v u Q I rx ry q
theorem cmp_in {X : Cx} {T : Tb} (hu : X.A.units + 65 < cLine) : CmpR X T .In .b1 .b1 inD := by
  refine ⟨_, (op_inD hu).or (op_inDT hu), fun Γ g σ H st Q x y d1 d2 H0 H1 k I r1 r2 e p => ?_⟩
  unfold inD at e
  split at e
  · rename_i d ds e1 e2
    split at e
    · rename_i hz
      rw [Bool.and_eq_true] at hz
      cases e
      exact .inl ⟨d, ds, dp_b r1 e1, dp_b r2 e2, hz.1, hz.2, p⟩
    · cases e
  · rename_i d ds e1 e2
    split at e
    · rename_i hz
      rw [Bool.and_eq_true] at hz
      cases e
      exact .inr ⟨d, ds, dp_b r1 e1, dp_b r2 e2, hz.1, hz.2, p⟩
    · cases e
  · cases e
theorem cmp_notin {X : Cx} {T : Tb} (hu : X.A.units + 65 < cLine) : CmpR X T .NotIn .b1 .b1 notinD := by
  refine ⟨_, (op_notInD hu).or (op_notInDT hu), fun Γ g σ H st Q x y d1 d2 H0 H1 k I r1 r2 e p => ?_⟩
  unfold notinD inD at e
  split at e
  · rename_i d ds e1 e2
    split at e
    · rename_i hz
      rw [Bool.and_eq_true] at hz
      cases e
      exact .inl ⟨d, ds, dp_b r1 e1, dp_b r2 e2, hz.1, hz.2, p⟩
    · cases e
  · rename_i d ds e1 e2
    split at e
    · rename_i hz
      rw [Bool.and_eq_true] at hz
      cases e
      exact .inr ⟨d, ds, dp_b r1 e1, dp_b r2 e2, hz.1, hz.2, p⟩
    · cases e
  · cases e
theorem hu65 {k : Nat} {A : Around} (r : Room k A) : A.units + 65 < cLine := by
  have := r.un
  omega
end DL
set_option linter.all false
set_option Elab.async false
set_option maxRecDepth 100000
namespace DL
open PySem PySem.Spec PyProof.Rows L2
open AutoSeq1 (wpAny_loadPart')
/-! ### enumerate(tuple) -/
set_option maxHeartbeats 1000000 in
theorem enum_new1 {v : Value} {o : Obj} {Hq : Heap → Prop} (B : Begins v o Hq) :
    Meets (Builtin.«enumerate.__new__» ⟨[.type "enumerate", v], []⟩) (fun _ R s => Hq s.heap ∧
      R (.ok (.ret (.ref (s.heap.push o).objs.size))) { s with heap := (s.heap.push o).push { cls := .type "enumerate", data := .fields #[.none, .bool false, .ref s.heap.objs.size, rawInt 0, .none, .none] } }) :=
  .of_wp fun prog w A R s h => by
    obtain ⟨hp, g, d, tk, os⟩ := s
    obtain ⟨h1, h⟩ := h
    have hsub := sub_enumerate
    have q1 : ∀ {A' : Around} {E : Value → Shared → Prop} {Q : Value → Shared → Prop}, Q (.ref hp.objs.size) ⟨hp.push o, g, d, tk, os⟩ → wpAny (model prog w) A' (pyIter v) Q E ⟨hp, g, d, tk, os⟩ :=
      fun q => B.iter prog w _ _ ⟨hp, g, d, tk, os⟩ _ h1 q
    wp_walk using q1
    refine wpAny_stack_any fun st => wpAny_pure ?_
    split
    · rename_i c _ _ _ _ _
      cases (c == Value.type "enumerate") <;> (wp_walk using q1; exact ⟨_, rfl, h⟩)
    · wp_walk using q1
      exact ⟨_, rfl, h⟩
theorem call_enumT {prog : Program} {w : World} {A : Around} {E : Value → Shared → Prop} {s : Shared} {v : Value} {o : Obj} {Hq : Heap → Prop} {Q : Value → Shared → Prop} (B : Begins v o Hq) (h1 : Hq s.heap)
    (h : ∀ h', IsEnum h' (s.heap.objs.size + 1) s.heap.objs.size 0 .none → h'.get? s.heap.objs.size = some o → h'.objs.size = s.heap.objs.size + 2 → (∀ b o, s.heap.get? b = some o → h'.get? b = some o) → Q (.ref (s.heap.objs.size + 1)) { s with heap := h' }) :
    wpAny (model prog w) A (call (.type "enumerate") [v]) Q E s := by
  refine callType_new F.called_enumerate (by decide) (F.typeCall_enumerate_1 _) (F.newCall_enumerate_1 _) (fun obj => F.args_object_init_2 obj _) F.entry_enumerate_new (enum_new1 B) ⟨h1, ?_⟩
  have hz : (s.heap.push o).objs.size = s.heap.objs.size + 1 := Heap.size_push ..
  show _ ∧ _
  rw [hz]
  have he : IsEnum ((s.heap.push o).push { cls := .type "enumerate", data := .fields #[.none, .bool false, .ref s.heap.objs.size, rawInt 0, .none, .none] }) (s.heap.objs.size + 1) s.heap.objs.size 0 .none := by
    have z := Heap.get?_push_size (s.heap.push o) (o := { cls := .type "enumerate", data := .fields #[.none, .bool false, .ref s.heap.objs.size, rawInt 0, .none, .none] }) rfl
    rw [hz] at z
    exact z
  exact ⟨⟨_, he, rfl⟩, h _ he (Heap.get?_push_of_some _ (Heap.get?_push_size _ B.free)) (by rw [Heap.size_push, hz]) fun b o x => Heap.get?_push_of_some _ (Heap.get?_push_of_some _ x)⟩
def IteT (K : PySem.W.Frag) (a : Addr) : It :=
  ⟨fun i H => ∃ (xs : List V) (x : V), SqT K H a xs ∧ xs[i]? = some x, fun i H v H' => ∃ p x, v = .ref p ∧ H p = none ∧ H' = upd H p (.tup [.int (i : Nat), x]) ∧ ∀ xs, SqT K H a xs → xs[i]? = some x, fun i H => ∃ xs : List V, SqT K H a xs ∧ xs.length = i⟩
theorem turn_enumT {P : Program} {w : World} {K : PySem.W.Frag} {elts : List Expr} {kk : Nat} {tpos : Pos} (a e it : Addr) :
    Turn P w K (.Tuple elts kk tpos) (IteT K a) [e, it] e (fun i h => (∃ old, IsEnum h e it ((i : Nat) : Int) old) ∧ h.IsTupleIter it a i ∧ e ≠ it ∧ a ≠ it ∧ e ≠ a) where
  mem := by simp
  obj := fun i h st b hb => by
    obtain ⟨⟨old, he⟩, ⟨o, ho, hc, hd⟩, _⟩ := st
    have e' : b = e ∨ b = it := by simpa using hb
    rcases e' with z | z
    · rw [z]
      exact ⟨_, he, fun v q => nomatch q⟩
    · rw [z]
      exact ⟨o, ho, fun v q => by rw [hd] at q; cases q⟩
  keep := fun i h h' st k => let ⟨⟨old, he⟩, hi, hne⟩ := st; ⟨⟨old, k e (by simp) _ he⟩, hi.at fun o q => k it (by simp) o q, hne⟩
  item := by
    intro X hP hw hK hc i pins s σ H E I hf st hg
    subst hP hw hK
    obtain ⟨⟨old, he⟩, hit, hne, hai, hea⟩ := st
    obtain ⟨xs, x, hq, hx⟩ := hg
    obtain ⟨its, rv, p, hz⟩ := I.tuple hq
    obtain ⟨u, hu, ru⟩ := rv.get hx
    have hel : e < s.heap.objs.size := Heap.lt_size he
    have hil : it < s.heap.objs.size := by obtain ⟨_, q, _⟩ := hit; exact Heap.lt_size q
    have hlt : i < its.toArray.size := by
      have := (List.getElem?_eq_some_iff.mp hu).1
      simpa using this
    have hh : X.A.handled = none := I.ok.hd hc
    refine wpAny_pyNext_enum_itemC (Draws.tuple (prog := X.prog) (w := X.w) (A := X.A.in1) hh it a hai its.toArray) he ⟨hit, p⟩ hlt hne (by simp [hne, hea]) fun y h' tk hy ho hs' hT hsz hk => ?_
    have ey : y = u := by
      have : its[i]? = some y := by simpa using hy
      rw [hu] at this
      cases this
      rfl
    subst ey
    refine ⟨_, rfl, wpAny_letOwnedTupleGo_enum (s := { s with heap := h', toks := tk + 1 }) ho fun h'' he' sb => ?_⟩
    have hT2 : h''.get? s.heap.objs.size = some { cls := .type "tuple", data := .seq #[.int i tk, y] } := (sb.2 _ (Nat.ne_of_gt hel)).trans hT
    have new : ObjOk X.prog X.w (upd H s.heap.objs.size (.tup [.int (i : Nat), x])) h'' s.heap.objs.size (.tup [.int (i : Nat), x]) :=
      ⟨by show 2 ≤ sizeLine; decide, [.int i tk, y], .cons ⟨_, rfl⟩ (.cons ru .nil), ⟨_, hT2, rfl, _, rfl⟩⟩
    have I1 : Inv X pins σ (upd H s.heap.objs.size (.tup [.int (i : Nat), x])) { s with heap := h'', toks := tk + 1 } :=
      I.turnedNew (ch := [e, it]) (fun b ob hb q => (sb.2 b (fun z => hb (by simp [z]))).trans (hk b ob (fun z => hb (by simp [z])) (fun z => hb (by simp [z])) q)) hf (Nat.le_refl _) new
    refine ⟨.ref s.heap.objs.size, _, I1, rfl, ⟨_, x, rfl, I.hok.fresh (Nat.le_refl _), rfl, fun ys hy => by rw [I.tuple_inj hy hq]; exact hx⟩, ⟨⟨y, ?_⟩, hs'.1.at fun o q => (sb.2 it (Ne.symm hne)).trans q, hne, hai, hea⟩, fun b hb => ?_⟩
    · have e1 : ((i + 1 : Nat) : Int) = (i : Int) + 1 := by omega
      rw [e1]
      exact he'
    · have hb' : b < s.heap.objs.size := by
        have e' : b = e ∨ b = it := by simpa using hb
        rcases e' with z | z
        · rw [z]; exact hel
        · rw [z]; exact hil
      rw [upd_ne (Nat.ne_of_lt hb')]
      exact (hf b hb).1
  done := by
    intro X hP hw hK hc i pins s σ H E I hf st hg
    subst hP hw hK
    obtain ⟨⟨old, he⟩, hit, hne, hai, hea⟩ := st
    obtain ⟨xs, hq, hx⟩ := hg
    obtain ⟨its, rv, p, hz⟩ := I.tuple hq
    have hl : its.toArray.size = i := by
      rw [List.size_toArray, ← rv.length]
      exact hx
    have hh : X.A.handled = none := I.ok.hd hc
    obtain ⟨f0, f1, f2, f3, f4, f5⟩ := hf it (by simp)
    exact wpAny_pyNext_enum_endD (Draws.tuple (prog := X.prog) (w := X.w) (A := X.A.in1) hh it a hai its.toArray) he ⟨by rw [hl]; exact hit, p⟩ fun h' eb => ⟨rfl, I.turned (t' := s.toks) (fun b o hb q => eb b o hb q) f0 f1 f3 f4 f5⟩
  self := fun A i s Q E st h => let ⟨⟨_, he⟩, _⟩ := st; wpAny_pyIter_enum he h
def iEnumT (K : PySem.W.Frag) (ta : TA) : TI := fun σ H R => ta σ H fun vs H1 => ∃ a xs, vs = [.ref a] ∧ SqT K H1 a xs ∧ R (IteT K a) H1
theorem pi_enumT {X : Cx} {e : Expr} {ta : TA} {p pos tpos : Pos} {elts : List Expr} {kk : Nat} (hg : Gl X "enumerate") (hm : X.mg "enumerate" = none) (ha : PA X [e] ta) (hs : starEach [e] X.env = [(false, eval e X.env)] := by rfl) :
    PI X (.Tuple elts kk tpos) (.Call (.Name "enumerate" p) [e] [] pos) (iEnumT X.K ta) := by
  refine ⟨fun pins s σ H R I h => ?_⟩
  refine Call_ (ld_blt I hg hm boot_enumerate (PyProof.Rows.callWith_type1 (thn (ha.run pos pins s σ H _ I h) fun us s1 ⟨vs, H1, I1, r1, q1⟩ => ?_) hs rfl))
  obtain ⟨a, xs, ex, hq, q⟩ := q1
  subst ex
  cases r1 with
  | cons r rr =>
    cases rr
    cases r
    obtain ⟨its, rv, p', hz⟩ := I1.tuple hq
    have hal : a < s1.heap.objs.size := p'.lt
    refine call_enumT (begins_tuple a its.toArray) p' fun h' he hit hsz hk => wpAny_pyIter_enum he ?_
    have I2 : Inv X pins σ H1 { s1 with heap := h' } := I1.kept (t' := s1.toks) hk
    refine ⟨s1.heap.objs.size + 1, [s1.heap.objs.size + 1, s1.heap.objs.size], _, _, H1, rfl, I2, turn_enumT a (s1.heap.objs.size + 1) s1.heap.objs.size, ⟨⟨.none, he⟩, ⟨_, hit, rfl, rfl⟩, Nat.succ_ne_self _, Nat.ne_of_lt hal, Nat.ne_of_gt (Nat.lt_succ_of_lt hal)⟩, fun b hb => ?_, q⟩
    have e' : b = s1.heap.objs.size + 1 ∨ b = s1.heap.objs.size := by simpa using hb
    have hle : s1.heap.objs.size ≤ b := by
      rcases e' with z | z <;> rw [z]
      · exact Nat.le_add_right _ _
      · exact Nat.le_refl _
    exact I1.fpOk hle (I1.hok.fresh hle)
def enumTI : List D → S → R (List D)
  | [.tup xs], s => .ok (enumL xs) s
  | _, _ => .stuck
section
variable {T : Tb} {X : Cx} {Γ : Fls} {e : Expr} {fs : S → R (List D)} {pos : Pos}
theorem ji_enumT {p tpos : Pos} {elts : List Expr} {kk : Nat} (hg : Gl X "enumerate") (hm : X.mg "enumerate" = none) (ha : JA T X Γ [e] fs) (hs : starEach [e] X.env = [(false, eval e X.env)] := by rfl) : JI T X Γ (.Tuple elts kk tpos) (.Call (.Name "enumerate" p) [e] [] pos) (iN enumTI fs) := by
  refine ⟨fun W tk => PI.imp (pi_enumT hg hm (ha.run W tk) hs) fun σ H R ⟨g, st, I, p⟩ => ?_⟩
  refine ta_bind ipI I p fun ds s1 vs H1 g1 q1 I1 r1 p1 => ?_
  unfold enumTI at p1
  split at p1
  case h_2 => exact p1.elim
  rename_i xs
  simp only [Rps] at r1
  obtain ⟨v, r, ev, hv, er⟩ := r1
  subst er ev
  simp only [Rp] at hv
  obtain ⟨a, ws, ex, h1, h2⟩ := hv
  subst ex
  refine ⟨a, ws, rfl, h1, p1 _ H1 g1 (.refl g1 H1) I1 ?_⟩
  refine ⟨fun i d g' H' s w e => ?_, fun g' H' s w => ⟨ws, SqT.step I1.wf s h1, by rw [enumL_len, h2.length]⟩, fun i d g' H' x H'' s w e y => ?_⟩
  · obtain ⟨z, ez, _⟩ := enumL_get e
    obtain ⟨v, q, _⟩ := h2.get ez
    exact ⟨ws, v, SqT.step I1.wf s h1, q⟩
  · obtain ⟨z, ez, ed⟩ := enumL_get e
    obtain ⟨v, q, rv⟩ := h2.get ez
    obtain ⟨p, v', ex, hp, eh, hv⟩ := y
    have := (hv ws (SqT.step I1.wf s h1)).symm.trans q
    cases this
    subst ed ex eh
    refine .inr ⟨p, _, hp, rfl, ?_⟩
    simp only [Rp]
    exact ⟨p, _, rfl, .inl (.inl upd_same), Rps.cons rp_int (.one ((rv.step I1.wf s).step w (.new hp)))⟩
end
end DL
set_option linter.all false
set_option Elab.async false
set_option maxRecDepth 100000
namespace DL
open PySem PySem.Spec PyProof.Rows L2
/-! ### x, y = a, b with fresh lists -/
section
variable {K : PySem.W.Frag} {T : Tb} {g g' : Gh} {H H' H0 : Hp} {d : D} {v : V}
/-- a value beside a slot that has got a fresh list -/
theorem RpM.slot {m : Mo} {i : Nat} {L : List Addr} {g1 : Gh} {H1 : Hp} (hm : m = .sh ∨ m = .f1) (hL : ∀ b ∈ L, H1 b = none) (r1 : RpM K T g1 H0 H1 m d v) (r : RpM K T g H0 H m d v) : RpM K T (g.slot i L) H0 H m d v := by
  rcases hm with rfl | rfl
  · exact Rp.sub .slot r
  · cases d with
    | lst ds =>
      obtain ⟨a, vs, e, h1, h2, h3⟩ := r
      obtain ⟨a', vs', e', h1', _, _⟩ := r1
      rw [e] at e'
      cases e'
      refine ⟨a, vs, e, h1, ⟨h2.1, fun q => ?_, h2.2.2⟩, h3.sub .slot⟩
      rcases slot_own q with q | q
      · exact h2.2.1 q
      · rw [hL a q] at h1'
        cases h1'
    | _ => exact Rp.sub .slot r
end
end DL
set_option linter.all false
set_option Elab.async false
set_option maxRecDepth 100000
namespace DL
open PySem PySem.Spec PyProof.Rows L2
section
variable {T : Tb} {X : Cx} {Γ Γ' Γ2 : Fls} {F : Fx} {nx lp : Fls} {rm : Mo} {e a b c tg iter : Expr} {m m1 m2 m3 : Mo} {f f1 f2 f3 : S → R D} {pos p2 pos' : Pos} {fs fi fi' : S → R (List D)}
theorem ji_either (c : S → Bool) (h1 : JI T X Γ tg e fi) (h2 : JI T X Γ tg e fi') : JI T X Γ tg e (fun s => if c s then fi s else fi' s) := by
  refine ⟨fun W tk => ⟨fun pins s σ H R I h => ?_⟩⟩
  obtain ⟨g, st, I1, p⟩ := h
  by_cases hc : c st = true
  · simp only [hc, if_true] at p
    exact (h1.run W tk).run pins s σ H R I ⟨g, st, I1, p⟩
  · rw [Bool.not_eq_true] at hc
    simp only [hc, Bool.false_eq_true, if_false] at p
    exact (h2.run W tk).run pins s σ H R I ⟨g, st, I1, p⟩
def tupAt (fs : S → R (List D)) : S → Bool := fun s => match fs s with
  | .ok [.tup _] _ => true
  | _ => false
def iEnumB (fs : S → R (List D)) : S → R (List D) := fun s => if tupAt fs s then iN enumTI fs s else iN enumI fs s
theorem ji_enumB {p tpos : Pos} {elts : List Expr} {kk : Nat} (hg : Gl X "enumerate") (hm : X.mg "enumerate" = none) (ha : JA T X Γ [e] fs) (hs : starEach [e] X.env = [(false, eval e X.env)] := by rfl) : JI T X Γ (.Tuple elts kk tpos) (.Call (.Name "enumerate" p) [e] [] pos) (iEnumB fs) :=
  ji_either (tupAt fs) (ji_enumT hg hm ha hs) (ji_enum hg hm ha hs)
end
end DL
set_option linter.all false
set_option Elab.async false
set_option maxRecDepth 100000
namespace DL
open PySem PySem.Spec PyProof.Rows L2
/-! ### {k: v} -/
def eDic1 (f1 f2 : S → R D) : S → R D := fun st => (f1 st).bind fun k s1 => (f2 s1).bind fun v s2 => match keyD k with
  | some k => .ok (.ref s2.m.length) { s2 with m := s2.m ++ [.dic false [(k, v)]] }
  | none => .stuck
section
variable {T : Tb} {X : Cx} {Γ : Fls} {a b : Expr} {f1 f2 : S → R D} {pos : Pos}
theorem je_dic1 (ha : JE T X Γ a .sh f1) (hb : JE T X Γ b .sh f2) : JE T X Γ (.Dict [some a] [b] pos) .sh (eDic1 f1 f2) := by
  refine ⟨fun W tk => PE.imp (pe_disp (pps_cons (ha.run W tk) (hb.run W tk) pps_nil) rfl rfl (by simp) (by simp)) fun σ H Q ⟨g, st, I, p⟩ => fun q hq => ?_⟩
  have I0 := I.new (o := .dK []) hq
  have q0 : QStep g H g (upd H q (.dK [])) := ⟨.new hq, rfl, fun i b hb => by
    obtain ⟨o', e, _⟩ := I.wf.ot b (.inl ⟨i, hb⟩)
    rw [upd_ne (ne_of_none e hq)]⟩
  refine ⟨g, st, I0, ?_⟩
  unfold eDic1 at p
  cases e1 : f1 st with
  | raise ex s1 => rw [e1] at p; exact fun cls dd H' g' s => p cls dd H' g' (q0.toStep.trans s)
  | stuck => rw [e1] at p; exact p
  | ok d1 s1 =>
    rw [e1] at p
    intro v H1 g1 q1 I1 r1
    refine ⟨g1, s1, I1, ?_⟩
    simp only [R.bind] at p
    cases e2 : f2 s1 with
    | raise ex s2 => rw [e2] at p; exact fun cls dd H' g' s => p cls dd H' g' ((q0.toStep.trans q1.toStep).trans s)
    | stuck => rw [e2] at p; exact p
    | ok d2 s2 =>
      rw [e2] at p
      intro w H2 g2 q2 I2 r2
      simp only at p
      split at p
      case h_2 => exact p.elim
      rename_i k ek
      have qs : QStep g H g2 H2 := (q0.trans q1).trans q2
      have hp1 : H1 q = some (.dK []) := q1.fr q _ upd_same (I.wf.noto hq)
      have no1 : ¬ g1.Own q := fun z => by
        rcases q1.on q z with z | z
        · exact I.wf.noto hq z
        · rw [upd_same] at z
          cases z
      have hp2 : H2 q = some (.dK []) := q2.fr q _ hp1 no1
      have no2 : ¬ g2.Own q := fun z => by
        rcases q2.on q z with z | z
        · exact no1 z
        · rw [hp1] at z
          cases z
      have na1 : ¬ g1.A q := fun z => by
        rcases q1.an q z with z | z | z
        · exact I.wf.nota hq z
        · exact I.wf.noto hq z
        · rw [upd_same] at z
          cases z
      have na2 : ¬ g2.A q := fun z => by
        rcases q2.an q z with z | z | z
        · exact na1 z
        · exact no1 z
        · rw [hp1] at z
          cases z
      have kv : v = kV k := key_sh r1 ek
      have u : Sub g2 H2 g2 (upd H2 q (.dK [(k, w)])) := ⟨fun _ h => h, fun b o hA h => by
        rw [upd_ne fun z => na2 (by rw [← z]; exact hA)]
        exact h, fun b o h i => by
        rw [upd_ne fun z => ?_]
        · exact h
        · rw [z, hp2] at h
          cases h
          exact absurd i (by simp [imo]), List.prefix_refl _⟩
      have wf : WF g2 (upd H2 q (.dK [(k, w)])) := ⟨fun b hb => by
        obtain ⟨o', e⟩ := I2.wf.ta b hb
        exact ⟨o', by rw [upd_ne fun z => na2 (by rw [← z]; exact hb)]; exact e⟩, fun b hb => by
        obtain ⟨o', e⟩ := I2.wf.ot b hb
        exact ⟨o', by rw [upd_ne fun z => no2 (by rw [← z]; exact hb)]; exact e⟩, I2.wf.ao, I2.wf.nf, I2.wf.df, I2.wf.fm, I2.wf.nm⟩
      have I3 : SR X.K T Γ g2 σ (upd H2 q (.dK [(k, w)])) s2 := I2.sub u wf rfl rfl fun b hb => by rw [upd_ne fun z => no2 (by rw [← z]; exact hb)]
      have I4 := I3.more (a := q) (o := .dK [(k, w)]) (c := .dic false [(k, d2)]) upd_same rfl na2 no2 ⟨[w], upd_same, Rps.one ((Rp.sub u r2).sub .more)⟩
      have q4 : QStep g H (g2.more q) (upd H2 q (.dK [(k, w)])) := ⟨(⟨qs.aa, qs.an, qs.on, fun b o' h n => by
        rw [upd_ne (ne_of_none h hq)]
        exact qs.fr b o' h n, fun b o' h i => by
        rw [upd_ne (ne_of_none h hq)]
        exact qs.im b o' h i, fun b h => by
        by_cases e : b = q
        · rw [e]
          exact hq
        · rw [upd_ne e] at h
          exact qs.tr b h, qs.mu⟩ : Step g H g2 (upd H2 q (.dK [(k, w)]))).more hq, qs.qf, fun i b hb => by
        obtain ⟨o', e, _⟩ := I.wf.ot b (.inl ⟨i, hb⟩)
        rw [upd_ne (ne_of_none e hq)]
        exact qs.qo i b hb⟩
      exact ⟨hp2, [(k, w)], by rw [kv]; rfl, by simp, p _ _ _ q4 I4 (ref_more I3)⟩
end
end DL
set_option linter.all false
set_option Elab.async false
set_option maxRecDepth 100000
namespace DL
open PySem PySem.Spec PyProof.Rows L2
/-! ### zip of a list and a tuple, in any mixture -/
def SqK (K : PySem.W.Frag) (t : Bool) (H : Hp) (a : Addr) (xs : List V) : Prop := if t then SqT K H a xs else SqL K H a xs
def ItK (t : Bool) (h : Heap) (it a : Addr) (i : Nat) : Prop := if t then h.IsTupleIter it a i else h.IsListIter it a i
def AtK (t : Bool) (h : Heap) (a : Addr) (items : Array Value) : Prop := if t then h.IsTuple a items else h.IsList a items
theorem drawsK {prog : Program} {w : World} {A : Around} (t : Bool) (hh : A.handled = none) (it a : Addr) (hne : a ≠ it) (items : Array Value) : Draws prog w A it [it, a] items.size (fun i v => items[i]? = some v) (fun i h => ItK t h it a i ∧ AtK t h a items) := by
  cases t
  · exact Draws.list hh it a hne items
  · exact Draws.tuple hh it a hne items
theorem beginsK (t : Bool) (a : Addr) (items : Array Value) : ∃ o, Begins (.ref a) o (fun h => AtK t h a items) ∧ ∀ h it, Heap.get? h it = some o → ItK t h it a 0 := by
  cases t
  · exact ⟨_, begins_list a items, fun h it e => ⟨_, e, rfl, rfl⟩⟩
  · exact ⟨_, begins_tuple a items, fun h it e => ⟨_, e, rfl, rfl⟩⟩
theorem atK {X : Cx} {pins : List (Addr × Obj)} {σ : L2.St} {H : Hp} {s : Shared} {a : Addr} {xs : List V} (t : Bool) (I : L2.Inv X pins σ H s) (h : SqK X.K t H a xs) : ∃ its : List Value, Vals xs its ∧ AtK t s.heap a its.toArray ∧ a < s.heap.objs.size := by
  cases t
  · obtain ⟨its, rv, p, _⟩ := I.list h
    exact ⟨its, rv, p.isList, p.lt⟩
  · obtain ⟨its, rv, p, _⟩ := I.tuple h
    exact ⟨its, rv, p, p.lt⟩
theorem injK {X : Cx} {pins : List (Addr × Obj)} {σ : L2.St} {H : Hp} {s : Shared} {a : Addr} {xs ys : List V} (t : Bool) (I : L2.Inv X pins σ H s) (h : SqK X.K t H a xs) (h' : SqK X.K t H a ys) : xs = ys := by
  cases t
  · exact I.list_inj h h'
  · exact I.tuple_inj h h'
theorem ItK.keep {t : Bool} {h h' : Heap} {it a : Addr} {i : Nat} (x : ItK t h it a i) (k : ∀ o, h.get? it = some o → h'.get? it = some o) : ItK t h' it a i := by
  cases t
  · exact Heap.IsListIter.at x k
  · exact Heap.IsTupleIter.at x k
theorem ItK.obj {t : Bool} {h : Heap} {it a : Addr} {i : Nat} (x : ItK t h it a i) : ∃ o, h.get? it = some o ∧ ∀ v, o.data ≠ .cell v := by
  cases t
  · obtain ⟨o, e, _, d⟩ := x
    exact ⟨o, e, fun v q => by rw [d] at q; cases q⟩
  · obtain ⟨o, e, _, d⟩ := x
    exact ⟨o, e, fun v q => by rw [d] at q; cases q⟩
def ItzM (K : PySem.W.Frag) (t u : Bool) (a b : Addr) : It :=
  ⟨fun i H => ∃ (xs ys : List V) (x y : V), SqK K t H a xs ∧ SqK K u H b ys ∧ xs[i]? = some x ∧ ys[i]? = some y,
    fun i H v H' => ∃ p x y, v = .ref p ∧ H p = none ∧ H' = upd H p (.tup [x, y]) ∧ (∀ xs, SqK K t H a xs → xs[i]? = some x) ∧ ∀ ys, SqK K u H b ys → ys[i]? = some y,
    fun i H => ∃ xs ys : List V, SqK K t H a xs ∧ SqK K u H b ys ∧ i ≤ xs.length ∧ i ≤ ys.length ∧ (i = xs.length ∨ i = ys.length)⟩
structure Apart5 (z TI TO i1 i2 a b : Addr) : Prop where
  nd : [z, TI, TO, i1, i2].Nodup
  na : a ∉ [z, TI, TO, i1, i2]
  nb : b ∉ [z, TI, TO, i1, i2]
theorem Apart5.sep {z TI TO i1 i2 a b : Addr} (D : Apart5 z TI TO i1 i2 a b) : ZipSep2 z TI TO i1 i2 [i1, a] [i2, b] := by
  obtain ⟨nd, na, nb⟩ := D
  simp only [List.nodup_cons, List.mem_cons, List.not_mem_nil, or_false, not_or, List.nodup_nil, and_true, not_false_eq_true] at nd na nb
  obtain ⟨⟨n1, n2, n3, n4⟩, ⟨n5, n6, n7⟩, ⟨n8, n9⟩, n10⟩ := nd
  obtain ⟨a1, a2, a3, a4, a5⟩ := na
  obtain ⟨b1, b2, b3, b4, b5⟩ := nb
  exact ⟨Ne.symm n1, Ne.symm n2, n5, n6, by simp, by simp [n3, Ne.symm a1], by simp [n8, Ne.symm a3], n7, by simp, by simp [n4, Ne.symm b1], by simp [n9, Ne.symm b3], by simp [n10, Ne.symm b4], by simp [Ne.symm n10, Ne.symm a5]⟩
theorem turn_zipM {P : Program} {w : World} {K : PySem.W.Frag} {elts : List Expr} {kk : Nat} {tpos : Pos} {a b z TI TO i1 i2 : Addr} (t u : Bool) (D : Apart5 z TI TO i1 i2 a b) :
    Turn P w K (.Tuple elts kk tpos) (ItzM K t u a b) [z, TI, TO, i1, i2] z (fun i h => IsZip h z TI TO .none ∧ IsTupOf2 h TI (.ref i1) (.ref i2) ∧ (∃ x y, IsTupOf2 h TO x y) ∧ ItK t h i1 a i ∧ ItK u h i2 b i) where
  mem := by simp
  obj := fun i h st c hc => by
    obtain ⟨hz, hTI, ⟨x, y, hTO⟩, h1, h2⟩ := st
    have e' : c = z ∨ c = TI ∨ c = TO ∨ c = i1 ∨ c = i2 := by simpa using hc
    rcases e' with q | q | q | q | q <;> rw [q]
    · exact ⟨_, hz, fun v q => nomatch q⟩
    · exact ⟨_, hTI, fun v q => nomatch q⟩
    · exact ⟨_, hTO, fun v q => nomatch q⟩
    · exact h1.obj
    · exact h2.obj
  keep := fun i h h' st k => by
    obtain ⟨hz, hTI, ⟨x, y, hTO⟩, h1, h2⟩ := st
    exact ⟨k z (by simp) _ hz, k TI (by simp) _ hTI, ⟨x, y, k TO (by simp) _ hTO⟩, h1.keep fun o q => k i1 (by simp) o q, h2.keep fun o q => k i2 (by simp) o q⟩
  item := by
    intro X hP hw hK hc i pins s σ H E I hf st hg
    subst hP hw hK
    obtain ⟨hz, hTI, ⟨x0, y0, hTO⟩, h1, h2⟩ := st
    obtain ⟨xs, ys, x, y, hqx, hqy, hx, hy⟩ := hg
    obtain ⟨its, rv, p, _⟩ := atK t I hqx
    obtain ⟨its2, rv2, p2, _⟩ := atK u I hqy
    obtain ⟨v1, hu, ru⟩ := rv.get hx
    obtain ⟨v2, hu2, ru2⟩ := rv2.get hy
    have S := D.sep
    have hzl : z < s.heap.objs.size := Heap.lt_size hz
    have hh : X.A.handled = none := I.ok.hd hc
    have ai : a ≠ i1 := fun e => D.na (by simp [e])
    have bi : b ≠ i2 := fun e => D.nb (by simp [e])
    have lt1 : i < its.toArray.size := by simpa using (List.getElem?_eq_some_iff.mp hu).1
    have lt2 : i < its2.toArray.size := by simpa using (List.getElem?_eq_some_iff.mp hu2).1
    refine wpAny_pyNext_zipD2_item S (drawsK (prog := X.prog) (w := X.w) (A := X.A.in1) t hh i1 a ai its.toArray) (drawsK (prog := X.prog) (w := X.w) (A := X.A.in1) u hh i2 b bi its2.toArray) hz hTI hTO ⟨h1, p⟩ ⟨h2, p2⟩ lt1 lt2 fun w1 w2 h' tk y1 y2 z' TO' d1 d2 hT hsz hk => ?_
    have e1 : w1 = v1 := by
      have : its[i]? = some w1 := by simpa using y1
      rw [hu] at this
      cases this
      rfl
    have e2 : w2 = v2 := by
      have : its2[i]? = some w2 := by simpa using y2
      rw [hu2] at this
      cases this
      rfl
    subst e1 e2
    refine ⟨_, rfl, wpAny_letOwnedTupleGo_zip (s := { s with heap := h', toks := tk }) z' fun h'' z'' sb => ?_⟩
    have hT2 : h''.get? s.heap.objs.size = some { cls := .type "tuple", data := .seq #[w1, w2] } := (sb.2 _ (Nat.ne_of_gt hzl)).trans hT
    have new : ObjOk X.prog X.w (upd H s.heap.objs.size (.tup [x, y])) h'' s.heap.objs.size (.tup [x, y]) :=
      ⟨by show 2 ≤ sizeLine; decide, [w1, w2], .cons ru (.cons ru2 .nil), ⟨_, hT2, rfl, _, rfl⟩⟩
    have I1 : Inv X pins σ (upd H s.heap.objs.size (.tup [x, y])) { s with heap := h'', toks := tk } :=
      I.turnedNew (t' := tk) (ch := [z, TI, TO, i1, i2]) (fun c o hb q => (sb.2 c (fun q' => hb (by simp [q']))).trans (hk c o (fun q' => hb (by simp [q'])) (fun q' => hb (by simp [q'])) (fun q' => hb (by simp [q'])) (fun q' => hb (by simp [q'])) q)) hf (Nat.le_refl _) new
    refine ⟨.ref s.heap.objs.size, _, I1, rfl, ⟨_, x, y, rfl, I.hok.fresh (Nat.le_refl _), rfl, fun l hl => by rw [injK t I hl hqx]; exact hx, fun l hl => by rw [injK u I hl hqy]; exact hy⟩, ⟨z'', ?_, ⟨w1, w2, ?_⟩, ?_, ?_⟩, fun c hcm => ?_⟩
    · exact (sb.2 _ S.TIz).trans (hk _ _ S.TIz S.TITO S.TIi1 S.TIi2 hTI)
    · exact (sb.2 _ S.TOz).trans TO'
    · exact d1.1.keep fun o q => (sb.2 _ (Ne.symm S.zi1)).trans q
    · exact d2.1.keep fun o q => (sb.2 _ (Ne.symm S.zi2)).trans q
    · have hlt : c < s.heap.objs.size := by
        have e' : c = z ∨ c = TI ∨ c = TO ∨ c = i1 ∨ c = i2 := by simpa using hcm
        rcases e' with q | q | q | q | q <;> rw [q]
        · exact hzl
        · exact Heap.lt_size hTI
        · exact Heap.lt_size hTO
        · obtain ⟨_, e1, _⟩ := h1.obj
          exact Heap.lt_size e1
        · obtain ⟨_, e2, _⟩ := h2.obj
          exact Heap.lt_size e2
      rw [upd_ne (Nat.ne_of_lt hlt)]
      exact (hf c hcm).1
  done := by
    intro X hP hw hK hc i pins s σ H E I hf st hg
    subst hP hw hK
    obtain ⟨hz, hTI, ⟨x0, y0, hTO⟩, h1, h2⟩ := st
    obtain ⟨xs, ys, hqx, hqy, le1, le2, hend⟩ := hg
    obtain ⟨its, rv, p, _⟩ := atK t I hqx
    obtain ⟨its2, rv2, p2, _⟩ := atK u I hqy
    have l1 := rv.length
    have l2 := rv2.length
    have hh : X.A.handled = none := I.ok.hd hc
    have ai : a ≠ i1 := fun e => D.na (by simp [e])
    have bi : b ≠ i2 := fun e => D.nb (by simp [e])
    have s1 : its.toArray.size = its.length := by simp
    have s2 : its2.toArray.size = its2.length := by simp
    exact wpAny_pyNext_zipD2_end D.sep (drawsK (prog := X.prog) (w := X.w) (A := X.A.in1) t hh i1 a ai its.toArray) (drawsK (prog := X.prog) (w := X.w) (A := X.A.in1) u hh i2 b bi its2.toArray) hz hTI hTO ⟨h1, p⟩ ⟨h2, p2⟩ (by omega) (by omega) (by omega) fun h' tk hk => ⟨rfl, I.turnedL (t' := tk) (ch := [z, TI, TO, i1, i2]) (fun c o hb q =>
      hk c o (fun q' => hb (by simp [q'])) (fun q' => hb (by simp [q'])) (fun q' => hb (by simp [q'])) (fun q' => hb (by simp [q'])) q) hf⟩
  self := fun A i s Q E st h => wpAny_pyIter_zip st.1 h
def iZipM (K : PySem.W.Frag) (t u : Bool) (ta : TA) : TI := fun σ H R => ta σ H fun vs H1 => ∃ a b xs ys, vs = [.ref a, .ref b] ∧ SqK K t H1 a xs ∧ SqK K u H1 b ys ∧ R (ItzM K t u a b) H1
theorem out5 (n a : Nat) (la : a < n) : (a : Addr) ∉ ([n + 4, n + 2, n + 3, n, n + 1] : List Addr) := by
  intro h
  have h' : a = n + 4 ∨ a = n + 2 ∨ a = n + 3 ∨ a = n ∨ a = n + 1 := by simpa using h
  omega
theorem apart5 (n a b : Nat) (la : a < n) (lb : b < n) : Apart5 (n + 4) (n + 2) (n + 3) n (n + 1) a b := ⟨by simp, out5 n a la, out5 n b lb⟩
theorem pi_zipM {X : Cx} {e e2 : Expr} {ta : TA} {p pos tpos : Pos} {elts : List Expr} {kk : Nat} (t u : Bool) (hg : Gl X "zip") (hm : X.mg "zip" = none) (ha : PA X [e, e2] ta)
    (hs : starEach [e, e2] X.env = (false, eval e X.env) :: starEach [e2] X.env := by rfl) (hpl : (backTo pos (starEach [e2] X.env)).any (·.1) = false := by rfl) :
    PI X (.Tuple elts kk tpos) (.Call (.Name "zip" p) [e, e2] [] pos) (iZipM X.K t u ta) := by
  refine ⟨fun pins s σ H R I h => ?_⟩
  refine Call_ (ld_blt I hg hm PyProof.Rows.boot_zip (PyProof.Rows.callWith_type1 (thn (ha.run pos pins s σ H _ I h) fun us s1 ⟨vs, H1, I1, r1, q1⟩ => ?_) hs hpl))
  obtain ⟨a, b, xs, ys, ex, hqx, hqy, q⟩ := q1
  subst ex
  cases r1 with
  | cons r rr =>
    cases rr with
    | cons r' rr =>
      cases rr
      cases r
      cases r'
      obtain ⟨its, rv, p1, la⟩ := atK t I1 hqx
      obtain ⟨its2, rv2, p2, lb⟩ := atK u I1 hqy
      obtain ⟨o1, B1, k1⟩ := beginsK t a its.toArray
      obtain ⟨o2, B2, k2⟩ := beginsK u b its2.toArray
      refine zip_begins2 B1 B2 p1 p2 fun h' hz hTI hTO h1 h2 hsz hk => wpAny_pyIter_zip hz ?_
      have I2 : Inv X pins σ H1 { s1 with heap := h' } := I1.kept (t' := s1.toks) hk
      refine ⟨s1.heap.objs.size + 4, [s1.heap.objs.size + 4, s1.heap.objs.size + 2, s1.heap.objs.size + 3, s1.heap.objs.size, s1.heap.objs.size + 1], _, _, H1, rfl, I2, turn_zipM t u (apart5 s1.heap.objs.size a b la lb), ⟨hz, hTI, ⟨_, _, hTO⟩, k1 _ _ h1, k2 _ _ h2⟩, fun c hcm => ?_, q⟩
      have e' : c = s1.heap.objs.size + 4 ∨ c = s1.heap.objs.size + 2 ∨ c = s1.heap.objs.size + 3 ∨ c = s1.heap.objs.size ∨ c = s1.heap.objs.size + 1 := by simpa using hcm
      have hle : s1.heap.objs.size ≤ c := by
        rcases e' with z | z | z | z | z <;> rw [z]
        · exact Nat.le_add_right _ _
        · exact Nat.le_add_right _ _
        · exact Nat.le_add_right _ _
        · exact Nat.le_refl _
        · exact Nat.le_add_right _ _
      exact I1.fpOk hle (I1.hok.fresh hle)
def isTup : D → Bool
  | .tup _ => true
  | _ => false
def sqD : D → Option (List D)
  | .tup xs => some xs
  | .lst xs => some xs
  | _ => none
def zipMI (t u : Bool) : List D → S → R (List D)
  | [d, e], s => if isTup d == t && isTup e == u then (match sqD d, sqD e with
    | some xs, some ys => .ok (zipL xs ys) s
    | _, _ => .stuck) else .stuck
  | _, _ => .stuck
section
variable {T : Tb} {X : Cx} {Γ : Fls} {e a b : Expr} {fs : S → R (List D)} {pos : Pos}
theorem sqK_of {K : PySem.W.Frag} {g : Gh} {H : Hp} {d : D} {v : V} {xs : List D} {t : Bool} (wf : WF g H) (r : Rp K T g H d v) (e : sqD d = some xs) (ht : isTup d = t) : ∃ x vs, v = .ref x ∧ SqK K t H x vs ∧ Rps K T g H xs vs ∧ ∀ g' H', Step g H g' H' → WF g' H' → SqK K t H' x vs := by
  cases d <;> simp [sqD] at e
  · subst e ht
    simp only [Rp] at r
    obtain ⟨x, vs, e, h1, h2⟩ := r
    exact ⟨x, vs, e, h1, h2, fun g' H' s w => SqT.step wf s h1⟩
  · subst e ht
    simp only [Rp] at r
    obtain ⟨x, vs, e, h0, h1, h2⟩ := r
    exact ⟨x, vs, e, .inl (.inl h1), h2, sql_st wf h0 h1⟩
theorem ji_zipM (t u : Bool) {p tpos : Pos} {elts : List Expr} {kk : Nat} (hg : Gl X "zip") (hm : X.mg "zip" = none) (ha : JA T X Γ [a, b] fs) (hs : starEach [a, b] X.env = (false, eval a X.env) :: starEach [b] X.env := by rfl) (hpl : (backTo pos (starEach [b] X.env)).any (·.1) = false := by rfl) :
    JI T X Γ (.Tuple elts kk tpos) (.Call (.Name "zip" p) [a, b] [] pos) (iN (zipMI t u) fs) := by
  refine ⟨fun W tk => PI.imp (pi_zipM t u hg hm (ha.run W tk) hs hpl) fun σ H R ⟨g, st, I, p⟩ => ?_⟩
  refine ta_bind ipI I p fun ds s1 vs H1 g1 q1 I1 r1 p1 => ?_
  unfold zipMI at p1
  split at p1
  case h_2 => exact p1.elim
  rename_i d1 d2
  split at p1
  case isFalse => exact p1.elim
  rename_i hz
  simp only [Bool.and_eq_true, beq_iff_eq] at hz
  split at p1
  case h_2 => exact p1.elim
  rename_i xs ys e1 e2
  simp only [Rps] at r1
  obtain ⟨v1, r, e3, h1, v2, r', e4, h2, e5⟩ := r1
  subst e3 e4 e5
  obtain ⟨x, ws, ex, k1, k2, k3⟩ := sqK_of I1.wf h1 e1 hz.1
  obtain ⟨y, us, ey, k4, k5, k6⟩ := sqK_of I1.wf h2 e2 hz.2
  subst ex ey
  refine ⟨x, y, ws, us, rfl, k1, k4, p1 _ H1 g1 (.refl g1 H1) I1 ⟨fun i d g' H' s w e => ?_, fun g' H' s w => ?_, fun i d g' H' z H'' s w e yl => ?_⟩⟩
  · obtain ⟨p, q, ep, eq, _⟩ := zipL_get e
    obtain ⟨v, hv, _⟩ := k2.get ep
    obtain ⟨v', hv', _⟩ := k5.get eq
    exact ⟨ws, us, v, v', k3 g' H' s w, k6 g' H' s w, hv, hv'⟩
  · refine ⟨ws, us, k3 g' H' s w, k6 g' H' s w, ?_, ?_, ?_⟩ <;> rw [zipL_len] <;> have := k2.length <;> have := k5.length <;> omega
  · obtain ⟨p, q, ep, eq, ed⟩ := zipL_get e
    obtain ⟨v, hv, rv⟩ := k2.get ep
    obtain ⟨v', hv', rv'⟩ := k5.get eq
    obtain ⟨pp, x', y', ez, hp, eh, hx, hy⟩ := yl
    have e6 := (hx ws (k3 g' H' s w)).symm.trans hv
    have e7 := (hy us (k6 g' H' s w)).symm.trans hv'
    cases e6
    cases e7
    subst ed ez eh
    refine .inr ⟨pp, _, hp, rfl, ?_⟩
    simp only [Rp]
    exact ⟨pp, _, rfl, .inl (.inl upd_same), Rps.cons ((rv.step I1.wf s).step w (.new hp)) (.one ((rv'.step I1.wf s).step w (.new hp)))⟩
def shapeAt (t u : Bool) (fs : S → R (List D)) : S → Bool := fun s => match fs s with
  | .ok [d, e] _ => isTup d == t && isTup e == u
  | _ => false
def iZipB (fs : S → R (List D)) : S → R (List D) := fun s => if shapeAt true true fs s then iN (zipMI true true) fs s else if shapeAt true false fs s then iN (zipMI true false) fs s else if shapeAt false true fs s then iN (zipMI false true) fs s else iN (zipMI false false) fs s
theorem ji_zipB {p tpos : Pos} {elts : List Expr} {kk : Nat} (hg : Gl X "zip") (hm : X.mg "zip" = none) (ha : JA T X Γ [a, b] fs) (hs : starEach [a, b] X.env = (false, eval a X.env) :: starEach [b] X.env := by rfl) (hpl : (backTo pos (starEach [b] X.env)).any (·.1) = false := by rfl) :
    JI T X Γ (.Tuple elts kk tpos) (.Call (.Name "zip" p) [a, b] [] pos) (iZipB fs) :=
  ji_either _ (ji_zipM true true hg hm ha hs hpl) (ji_either _ (ji_zipM true false hg hm ha hs hpl) (ji_either _ (ji_zipM false true hg hm ha hs hpl) (ji_zipM false false hg hm ha hs hpl)))
end
end DL
set_option linter.all false
set_option Elab.async false
set_option maxRecDepth 100000
namespace DL
open PySem PySem.Spec PyProof.Rows L2
/-! ### a call with own lists lent -/
mutual
/-- no list within -/
def nl : D → Bool
  | .tup ds => nls ds
  | .lst _ => false
  | .scr _ => false
  | .pt ds => nls ds
  | _ => true
def nls : List D → Bool
  | [] => true
  | d :: ds => nl d && nls ds
end
def nlC : Cell → Bool
  | .lst ds => nls ds
  | .dic _ kvs => nls (kvs.map (·.2))
  | .dit kvs => nls (kvs.map (·.1)) && nls (kvs.map (·.2))
  | .obj _ fs => nls (fs.map (·.2))
def nlE : Ex → Bool
  | .mk _ fs => nls fs
section
variable {K : PySem.W.Frag} {T : Tb} {g g' : Gh} {H H' : Hp} {Γ : Fls} {σ : L2.St} {st : S} {W : WX} {Q : VK} {m : Mo}
mutual
theorem nl_rp (e : g'.mu = g.mu) : ∀ {d : D} {v : V}, nl d = true → Rp K T g H d v → Rp K T g' H d v
  | .non, v, _, h => by simpa [Rp] using h
  | .bl b, v, _, h => by simpa [Rp] using h
  | .int i, v, _, h => by simpa [Rp] using h
  | .str x, v, _, h => by simpa [Rp] using h
  | .tup ds, v, n, h => by
    simp only [Rp, nl] at h n ⊢
    obtain ⟨a, vs, e1, q, r⟩ := h
    exact ⟨a, vs, e1, q, nl_rps e n r⟩
  | .lst ds, v, n, h => by simp [nl] at n
  | .fn i, v, _, h => by simpa [Rp] using h
  | .ref n, v, _, h => by
    simp only [Rp] at h ⊢
    rw [e]
    exact h
  | .scr xs, v, n, h => by simp [nl] at n
  | .pt ds, v, n, h => by
    simp only [Rp, nl] at h n ⊢
    obtain ⟨a, vs, o, e1, q, z, r⟩ := h
    exact ⟨a, vs, o, e1, q, z, nl_rps e n r⟩
theorem nl_rps (e : g'.mu = g.mu) : ∀ {ds : List D} {vs : List V}, nls ds = true → Rps K T g H ds vs → Rps K T g' H ds vs
  | [], vs, _, h => by simpa [Rps] using h
  | d :: ds, vs, n, h => by
    simp only [Rps, nls, Bool.and_eq_true] at h n ⊢
    obtain ⟨v, r, e1, h1, h2⟩ := h
    exact ⟨v, r, e1, nl_rp e n.1 h1, nl_rps e n.2 h2⟩
end
theorem nl_mr (e : g'.mu = g.mu) {ms : List Cell} (n : ms.all nlC = true) (h : MR K T g H ms) : MR K T g' H ms := by
  refine ⟨by rw [e]; exact h.len, fun k c a h1 h2 => ?_⟩
  rw [e] at h2
  have q := h.at_ k c a h1 h2
  have nc : nlC c = true := List.all_eq_true.mp n c (List.mem_of_getElem? h1)
  cases c with
  | lst ds =>
    obtain ⟨vs, q1, q2⟩ := q
    exact ⟨vs, q1, nl_rps e nc q2⟩
  | dic lk kvs =>
    cases lk with
    | false =>
      obtain ⟨vs, q1, q2⟩ := q
      exact ⟨vs, q1, nl_rps e nc q2⟩
    | true =>
      obtain ⟨vs, od, q1, q2⟩ := q
      exact ⟨vs, od, q1, nl_rps e nc q2⟩
  | dit kvs =>
    obtain ⟨xs, vs, q1, q2, q3, q4, q5, q6, q7, q8⟩ := q
    simp only [nlC, Bool.and_eq_true] at nc
    exact ⟨xs, vs, q1, q2, q3, q4, q5, q6, nl_rps e nc.1 q7, nl_rps e nc.2 q8⟩
  | obj c fs =>
    obtain ⟨C, dx, vs, q1, q2, q3⟩ := q
    exact ⟨C, dx, vs, q1, q2, nl_rps e nc q3⟩
def RbS (K : PySem.W.Frag) (T : Tb) (g : Gh) (H : Hp) : List D → List V → Prop
  | [], vs => vs = []
  | d :: ds, vs => ∃ v r, vs = v :: r ∧ RpM K T g H H .b1 d v ∧ RbS K T g H ds r
theorem RbS.step (wf : WF g H) (wf' : WF g' H') (s : QStep g H g' H') : ∀ {ds : List D} {vs : List V}, RbS K T g H ds vs → RbS K T g' H' ds vs
  | [], vs, h => h
  | d :: ds, vs, h => by
    obtain ⟨v, r, e, h1, h2⟩ := h
    refine ⟨v, r, e, ?_, h2.step wf wf' s⟩
    have z := h1.step wf wf' s
    cases d <;> exact z
/-- all that is tracked and no cell is listed -/
def Gh.lend (g : Gh) (H : Hp) : Gh := ⟨fun b => g.A b ∨ ((∃ xs, H b = some (.lst xs)) ∧ b ∉ g.mu), fun _ => [], g.mu⟩
theorem lend_own {b : Addr} (h : (g.lend H).Own b) : b ∈ g.mu := by
  rcases h with ⟨i, h⟩ | h
  · cases h
  · exact h
theorem WF.lend (w : WF g H) : WF (g.lend H) H := ⟨fun b h => by
  rcases h with h | ⟨⟨xs, h⟩, _⟩
  · exact w.ta b h
  · exact ⟨_, h⟩, fun b h => w.ot b (.inr (lend_own h)), fun b h q => by
  rcases h with h | ⟨_, h⟩
  · exact w.ao b h (.inr (lend_own q))
  · exact h (lend_own q), fun _ => List.nodup_nil, fun i j b h => (by cases h), fun i b h => (by cases h), w.nm⟩
theorem Sub.lend : Sub g H (g.lend H) H := ⟨fun _ h => .inl h, fun _ _ _ h => h, fun _ _ h _ => h, List.prefix_refl _⟩
theorem rb_lend : ∀ {ds : List D} {vs : List V}, RbS K T g H ds vs → Rps K T (g.lend H) H ds vs
  | [], vs, h => h
  | d :: ds, vs, h => by
    obtain ⟨v, r, e, h1, h2⟩ := h
    subst e
    refine Rps.cons ?_ (rb_lend h2)
    cases d with
    | lst es =>
      obtain ⟨a, ws, e1, e2, e3, e4⟩ := h1
      simp only [Rp]
      exact ⟨a, ws, e1, .inr ⟨⟨_, e2⟩, e3⟩, e2, e4.sub .lend⟩
    | _ => exact Rp.sub .lend h1
/-- the ghost taken back -/
def Gh.took (g g' : Gh) : Gh := ⟨g.A, g.fp, g'.mu⟩
theorem took_q (w : WF g H) (s : Step (g.lend H) H g' H') : QStep g H (g.took g') H' := by
  have nf : ∀ i b, b ∈ g.fp i → ¬ (g.lend H).Own b := fun i b h q => w.fm i b h (lend_own q)
  refine ⟨⟨fun _ h => h, fun _ h => .inl h, fun b h => ?_, fun b o h n => s.fr b o h fun q => n (.inr (lend_own q)), s.im, s.tr, s.mu⟩, rfl, fun i b hb => ?_⟩
  · rcases h with h | h
    · exact .inl (.inl h)
    · rcases s.on b (.inr h) with q | q
      · exact .inl (.inr (lend_own q))
      · exact .inr q
  · obtain ⟨o, e, _⟩ := w.ot b (.inl ⟨i, hb⟩)
    rw [e]
    exact s.fr b o e (nf i b hb)
theorem took_wf (w : WF g H) (s : Step (g.lend H) H g' H') (w' : WF g' H') : WF (g.took g') H' := by
  have key : ∀ b, b ∈ g'.mu → b ∈ g.mu ∨ H b = none := fun b h => (s.on b (.inr h)).imp lend_own id
  have st : ∀ b o, H b = some o → b ∉ g.mu → H' b = some o := fun b o h n => s.fr b o h fun q => n (lend_own q)
  refine ⟨fun b h => ?_, fun b h => ?_, fun b h q => ?_, w.nf, w.df, fun i b h q => ?_, w'.nm⟩
  · obtain ⟨o, e⟩ := w.ta b h
    exact ⟨o, st b o e fun z => w.ao b h (.inr z)⟩
  · rcases h with ⟨i, h⟩ | h
    · obtain ⟨o, e, i'⟩ := w.ot b (.inl ⟨i, h⟩)
      exact ⟨o, st b o e (w.fm i b h), i'⟩
    · exact w'.ot b (.inr h)
  · rcases q with q | q
    · exact w.ao b h (.inl q)
    · rcases key b q with z | z
      · exact w.ao b h (.inr z)
      · obtain ⟨o, e⟩ := w.ta b h
        rw [z] at e
        cases e
  · rcases key b q with z | z
    · exact w.fm i b h z
    · obtain ⟨o, e, _⟩ := w.ot b (.inl ⟨i, h⟩)
      rw [z] at e
      cases e
def callRb (r : RF) (s : S) : R D := match r with
  | .ok d m => if nl d && m.all nlC then .ok d ⟨s.r, m⟩ else .stuck
  | .raise e m => if nlE e && m.all nlC then .raise e ⟨s.r, m⟩ else .stuck
  | .stuck => .stuck
theorem sp_lend {n : Nat} {mf : MF} {ds : List D} {vs : List V} (I : SR K T Γ g σ H st) (r : RbS K T g H ds vs) (hl : ds.length = n) (p : PostE K T Γ σ g H .sh W Q (callRb (mf ds st.m) st)) : spOf K T n .sh mf vs H Q (WE W σ) := by
  have me0 : MR K T (g.lend H) H st.m := I.me.sub .lend rfl fun _ _ => rfl
  refine ⟨ds, st.m, g.lend H, hl, I.wf.lend, fun _ => rfl, rb_lend r, me0, ?_⟩
  cases e : mf ds st.m with
  | ok d m' =>
    rw [e] at p
    simp only [callRb] at p
    split at p
    case isFalse => exact p.elim
    rename_i hz
    rw [Bool.and_eq_true] at hz
    intro v H' g' s w' hfp me rv
    have qs := took_q I.wf s
    have w2 := took_wf I.wf s w'
    exact p v H' _ qs (I.re (qs.toStep.sub I.wf) w2 rfl qs.qo (nl_mr (g := g') (g' := g.took g') rfl hz.2 me)) (nl_rp (g := g') (g' := g.took g') rfl hz.1 rv)
  | raise ex m' =>
    rw [e] at p
    simp only [callRb] at p
    split at p
    case isFalse => exact p.elim
    rename_i hz
    rw [Bool.and_eq_true] at hz
    intro cls dd H' g' s w' hfp me x
    have qs := took_q I.wf s
    have w2 := took_wf I.wf s w'
    have I2 := I.re (qs.toStep.sub I.wf) w2 rfl qs.qo (nl_mr (g := g') (g' := g.took g') rfl hz.2 me)
    refine p cls dd H' _ (qs.toStep.trans (.frz I2.wf (p := fun _ => true))) I2.frzAll ?_
    cases ex with
    | mk i fs =>
      obtain ⟨C, h1, h2, h3⟩ := x
      refine ⟨C, h1, h2, ?_⟩
      rcases h3 with h3 | ⟨ne, dx, vs, e1, e2, r, l⟩
      · exact .inl h3
      · exact .inr ⟨ne, dx, vs, e1, e2, nl_rps (g := g') (g' := (g.took g').frz fun _ => true) rfl hz.1 r, l⟩
  | stuck => rw [e] at p; exact p.elim
def PostB (K : PySem.W.Frag) (T : Tb) (Γ : Fls) (σ : L2.St) (g : Gh) (H : Hp) (W : WX) (Q : List V → Hp → Prop) : R (List D) → Prop
  | .ok ds st => ∀ vs H' g', QStep g H g' H' → SR K T Γ g' σ H' st → RbS K T g' H' ds vs → Q vs H'
  | .raise e st => PostX K T σ g H W e st
  | .stuck => False
def tb_ (K : PySem.W.Frag) (T : Tb) (Γ : Fls) (W : WX) (f : S → R (List D)) : TA := fun σ H Q => ∃ g st, SR K T Γ g σ H st ∧ PostB K T Γ σ g H W Q (f st)
theorem PostB.shift {Q : List V → Hp → Prop} {r : R (List D)} (s : QStep g H g' H') (h : PostB K T Γ σ g H W Q r) : PostB K T Γ σ g' H' W Q r := by
  cases r with
  | ok ds st => exact fun vs H2 g2 s2 => h vs H2 g2 (s.trans s2)
  | raise e st => exact PostX.shift s.toStep h
  | stuck => exact h
theorem ipB {Q : List V → Hp → Prop} : IsPost K T σ W (fun g H => PostB K T Γ σ g H W Q) := ⟨fun _ _ _ _ h => h, fun _ _ _ _ h => h, fun _ _ h => h, fun _ _ _ _ _ s h => h.shift s⟩
theorem tb_bind {α : Type} {P : Gh → Hp → R α → Prop} {f : S → R (List D)} {k : List D → S → R α} {Q : List V → Hp → Prop} (ip : IsPost K T σ W P) (I : SR K T Γ g σ H st) (h : P g H ((f st).bind k))
    (hk : ∀ ds st' vs H' g', QStep g H g' H' → SR K T Γ g' σ H' st' → RbS K T g' H' ds vs → P g' H' (k ds st') → Q vs H') : tb_ K T Γ W f σ H Q := by
  refine ⟨g, st, I, ?_⟩
  cases e : f st with
  | ok ds s1 => rw [e] at h; exact fun vs H' g' s I' r => hk ds s1 vs H' g' s I' r (ip.sh _ _ _ _ _ s h)
  | raise ex s1 => rw [e] at h; exact ip.px _ _ _ _ h
  | stuck => rw [e] at h; exact (ip.ps _ _ h).elim
end
structure JB (T : Tb) (X : Cx) (Γ : Fls) (es : List Expr) (f : S → R (List D)) : Prop where
  run : ∀ W, Takes X W → PA X es (tb_ X.K T Γ W f)
section
variable {T : Tb} {X : Cx} {Γ : Fls} {e : Expr} {es : List Expr} {f : S → R D} {fs : S → R (List D)} {pos : Pos} {k n : Nat} {mf : MF}
theorem jb_nil : JB T X Γ [] aNil := ⟨fun W tk => PA.imp pa_nil fun σ H Q ⟨g, st, I, p⟩ => p [] H g (.refl g H) I rfl⟩
theorem jb_cons (ha : JE T X Γ e .b1 f) (hr : JB T X Γ es fs) (hs : starEach (e :: es) X.env = (false, eval e X.env) :: starEach es X.env := by rfl) : JB T X Γ (e :: es) (aCons f fs) := by
  refine ⟨fun W tk => PA.imp (pa_cons (ha.run W tk) (hr.run W tk) hs) fun σ H Q ⟨g, st, I, p⟩ => ?_⟩
  refine te_bind ipB I p fun d1 s1 x H1 g1 q1 I1 r1 p1 => tb_bind ipB I1 p1 fun ds s2 xs H2 g2 q2 I2 r2 p2 => ?_
  have z := r1.step I1.wf I2.wf q2
  exact p2 _ H2 g2 (.refl g2 H2) I2 ⟨x, xs, rfl, by cases d1 <;> exact z, r2⟩
def eCallB (n : Nat) (mf : MF) (fs : S → R (List D)) : S → R D := fun st => (fs st).bind fun ds s => if ds.length = n then callRb (mf ds s.m) s else .stuck
theorem je_callB {x : Str} {p : Pos} (C : Cal X.prog X.w X.K X.mg X.base T x k n .sh mf) {k0 : Nat} (hr : Room k0 X.A) (hk : k ≤ k0) (hg : Gl X x) (ha : JB T X Γ (e :: es) fs) (hdb : (x == ("__debug__" : Str)) = false := by decide)
    (he : starEach (e :: es) X.env = (false, eval e X.env) :: starEach es X.env := by rfl) (hpl : (backTo pos (starEach es X.env)).any (·.1) = false := by rfl) : JE T X Γ (.Call (.Name x p) (e :: es) [] pos) .sh (eCallB n mf fs) := by
  obtain ⟨fa, fd, ps, Fn, hmg, kp, hb⟩ := C.ex
  refine ⟨fun W tk => PE.imp (pe_callS (E := WE W) Fn (hr.mono hk) hg hmg kp hb (passAt tk) (ha.run W tk) hdb he hpl) fun σ H Q ⟨g, st, I, p⟩ => ?_⟩
  refine tb_bind ipE I p fun ds s1 vs H1 g1 q1 I1 r1 p1 => ?_
  split at p1
  · rename_i hl
    exact sp_lend I1 r1 hl p1
  · exact p1.elim
end
end DL
set_option linter.all false
set_option Elab.async false
set_option maxRecDepth 100000
namespace DL
open PySem PySem.Spec PyProof.Rows L2 HT
/-! ### slices with the step -1 -/
end DL
set_option linter.all false
set_option Elab.async false
set_option maxRecDepth 100000
namespace DL
open PySem PySem.Spec PyProof.Rows L2
/-! ### a call whose own cells are forgotten -/
mutual
/-- no reference within -/
def nr : D → Bool
  | .tup ds => nrs ds
  | .lst ds => nrs ds
  | .ref _ => false
  | .pt ds => nrs ds
  | _ => true
def nrs : List D → Bool
  | [] => true
  | d :: ds => nr d && nrs ds
end
def nrC : Cell → Bool
  | .lst ds => nrs ds
  | .dic _ kvs => nrs (kvs.map (·.2))
  | .dit kvs => nrs (kvs.map (·.1)) && nrs (kvs.map (·.2))
  | .obj _ fs => nrs (fs.map (·.2))
def nrE : Ex → Bool
  | .mk _ fs => nrs fs
def trimF (mf : MF) : MF := fun ds m => match mf ds m with
  | .ok d m' => if nr d && (m'.take m.length).all nrC then .ok d (m'.take m.length) else .stuck
  | .raise e m' => if nrE e && (m'.take m.length).all nrC then .raise e (m'.take m.length) else .stuck
  | .stuck => .stuck
section
variable {K : PySem.W.Frag} {T : Tb} {g g' : Gh} {H H' : Hp}
mutual
theorem nr_rp (e : g'.A = g.A) : ∀ {d : D} {v : V}, nr d = true → Rp K T g H d v → Rp K T g' H d v
  | .non, v, _, h => by simpa [Rp] using h
  | .bl b, v, _, h => by simpa [Rp] using h
  | .int i, v, _, h => by simpa [Rp] using h
  | .str x, v, _, h => by simpa [Rp] using h
  | .tup ds, v, n, h => by
    simp only [Rp, nr] at h n ⊢
    obtain ⟨a, vs, e1, q, r⟩ := h
    exact ⟨a, vs, e1, q, nr_rps e n r⟩
  | .lst ds, v, n, h => by
    simp only [Rp, nr] at h n ⊢
    obtain ⟨a, vs, e1, q1, q2, r⟩ := h
    exact ⟨a, vs, e1, by rw [e]; exact q1, q2, nr_rps e n r⟩
  | .fn i, v, _, h => by simpa [Rp] using h
  | .ref n, v, n', h => by simp [nr] at n'
  | .scr xs, v, n, h => by
    simp only [Rp, ScrOk] at h ⊢
    obtain ⟨a, e1, q⟩ := h
    refine ⟨a, e1, ?_⟩
    rw [e]
    exact q
  | .pt ds, v, n, h => by
    simp only [Rp, nr] at h n ⊢
    obtain ⟨a, vs, o, e1, q, z, r⟩ := h
    exact ⟨a, vs, o, e1, q, z, nr_rps e n r⟩
theorem nr_rps (e : g'.A = g.A) : ∀ {ds : List D} {vs : List V}, nrs ds = true → Rps K T g H ds vs → Rps K T g' H ds vs
  | [], vs, _, h => by simpa [Rps] using h
  | d :: ds, vs, n, h => by
    simp only [Rps, nrs, Bool.and_eq_true] at h n ⊢
    obtain ⟨v, r, e1, h1, h2⟩ := h
    exact ⟨v, r, e1, nr_rp e n.1 h1, nr_rps e n.2 h2⟩
end
theorem nr_cell (e : g'.A = g.A) {a : Addr} {c : Cell} (n : nrC c = true) (h : CellR K T g H a c) : CellR K T g' H a c := by
  cases c with
  | lst ds =>
    obtain ⟨vs, q1, q2⟩ := h
    exact ⟨vs, q1, nr_rps e n q2⟩
  | dic lk kvs =>
    cases lk with
    | false =>
      obtain ⟨vs, q1, q2⟩ := h
      exact ⟨vs, q1, nr_rps e n q2⟩
    | true =>
      obtain ⟨vs, od, q1, q2⟩ := h
      exact ⟨vs, od, q1, nr_rps e n q2⟩
  | dit kvs =>
    obtain ⟨xs, vs, q1, q2, q3, q4, q5, q6, q7, q8⟩ := h
    simp only [nrC, Bool.and_eq_true] at n
    exact ⟨xs, vs, q1, q2, q3, q4, q5, q6, nr_rps e n.1 q7, nr_rps e n.2 q8⟩
  | obj c fs =>
    obtain ⟨C, dx, vs, q1, q2, q3⟩ := h
    exact ⟨C, dx, vs, q1, q2, nr_rps e n q3⟩
/-- back to the cells that were -/
def Gh.cut (g' g : Gh) : Gh := ⟨g'.A, g'.fp, g.mu⟩
theorem cut_own (s : Step g H g' H') {b : Addr} (h : (g'.cut g).Own b) : g'.Own b := by
  rcases h with h | h
  · exact .inl h
  · exact .inr (s.mu.subset h)
theorem Step.cut (s : Step g H g' H') : Step g H (g'.cut g) H' :=
  ⟨s.aa, s.an, fun b h => s.on b (cut_own s h), s.fr, s.im, s.tr, List.prefix_refl _⟩
theorem WF.cut (s : Step g H g' H') (w : WF g H) (w' : WF g' H') : WF (g'.cut g) H' :=
  ⟨w'.ta, fun b h => w'.ot b (cut_own s h), fun b h q => w'.ao b h (cut_own s q), w'.nf, w'.df, fun i b h q => w'.fm i b h (s.mu.subset q), w.nm⟩
theorem MR.cut (s : Step g H g' H') {m m' : List Cell} (hl : g.mu.length = m.length) (h : MR K T g' H' m') (n : (m'.take m.length).all nrC = true) : MR K T (g'.cut g) H' (m'.take m.length) := by
  obtain ⟨t, ht⟩ := s.mu
  have h2 := h.len
  rw [← ht, List.length_append] at h2
  refine ⟨?_, fun k c a h3 h4 => ?_⟩
  · show g.mu.length = _
    rw [List.length_take]
    omega
  · have hk : k < m.length := by
      have := (List.getElem?_eq_some_iff.mp h3).1
      rw [List.length_take] at this
      omega
    have nc : nrC c = true := List.all_eq_true.mp n c (List.mem_of_getElem? h3)
    rw [List.getElem?_take_of_lt hk] at h3
    refine nr_cell (g := g') (g' := g'.cut g) rfl nc (h.at_ k c a h3 ?_)
    have h4' : g.mu[k]? = some a := h4
    rw [← ht, List.getElem?_append_left (by omega)]
    exact h4'
theorem RpM.cut (s : Step g H g' H') {m : Mo} (hm : m = .sh ∨ m = .f1) {H0 : Hp} {d : D} {v : V} (n : nr d = true) (h : RpM K T g' H0 H' m d v) : RpM K T (g'.cut g) H0 H' m d v := by
  rcases hm with rfl | rfl
  · exact nr_rp (g := g') (g' := g'.cut g) rfl n h
  · cases d with
    | lst ds =>
      obtain ⟨a, vs, e, h1, h2, h3⟩ := h
      exact ⟨a, vs, e, h1, ⟨h2.1, fun q => h2.2.1 (cut_own s q), h2.2.2⟩, nr_rps (g := g') (g' := g'.cut g) rfl n h3⟩
    | _ => exact nr_rp (g := g') (g' := g'.cut g) rfl n h
theorem ExR.cut {e : Ex} {cls : Value} {dd : Option Addr} (n : nrE e = true) (h : ExR K T g' H' e cls dd) : ExR K T (g'.cut g) H' e cls dd := by
  cases e with
  | mk i fs =>
    obtain ⟨C, h1, h2, h3⟩ := h
    refine ⟨C, h1, h2, ?_⟩
    rcases h3 with h3 | ⟨ne, dx, vs, e1, e2, r, l⟩
    · exact .inl h3
    · exact .inr ⟨ne, dx, vs, e1, e2, nr_rps (g := g') (g' := g'.cut g) rfl n r, l⟩
theorem sp_trim {k : Nat} {rm : Mo} (hm : rm = .sh ∨ rm = .f1) {mf : MF} {vs : List V} {Q : VK} {E : XK} (h : spOf K T k rm (trimF mf) vs H Q E) : spOf K T k rm mf vs H Q E := by
  obtain ⟨ds, m, g, hl, wf, hfp, r, me, p⟩ := h
  refine ⟨ds, m, g, hl, wf, hfp, r, me, ?_⟩
  unfold trimF at p
  cases e : mf ds m with
  | ok d m' =>
    simp only [e] at p
    split at p
    case h_2 q => split at q <;> cases q
    case h_3 q => exact p.elim
    rename_i q
    split at q
    case isFalse => cases q
    rename_i hz
    rw [Bool.and_eq_true] at hz
    cases q
    intro v H' g' s w' hf' me' rv
    exact p v H' (g'.cut g) s.cut (WF.cut s wf w') hf' (me'.cut s me.len hz.2) (RpM.cut s hm hz.1 rv)
  | raise ex m' =>
    simp only [e] at p
    split at p
    case h_1 q => split at q <;> cases q
    case h_3 q => exact p.elim
    rename_i q
    split at q
    case isFalse => cases q
    rename_i hz
    rw [Bool.and_eq_true] at hz
    cases q
    intro cls dd H' g' s w' hf' me' x
    exact p cls dd H' (g'.cut g) s.cut (WF.cut s wf w') hf' (me'.cut s me.len hz.2) (ExR.cut hz.1 x)
  | stuck => simp only [e] at p
end
theorem Cal.trim {P : Program} {w : World} {K : PySem.W.Frag} {mg : Str → Option Value} {base : Heap} {T : Tb} {x : Str} {k n : Nat} {rm : Mo} {mf : MF} (C : Cal P w K mg base T x k n rm mf) (hm : rm = .sh ∨ rm = .f1 := by first | exact .inl rfl | exact .inr rfl) : Cal P w K mg base T x k n rm (trimF mf) := by
  obtain ⟨f, fd, ps, F, r⟩ := C.ex
  exact ⟨f, fd, ps, F.imp fun vs H Q E h => sp_trim hm h, r⟩
end DL
set_option linter.all false
set_option Elab.async false
set_option maxRecDepth 100000
namespace DL
open PySem PySem.Spec PyProof.Rows L2
/-! ### max(xs), min(xs) of ints, in a list or a tuple -/
def rMinT (K : PySem.W.Frag) : List V → Hp → VK → Prop := fun vs H Q => ∃ (a : Addr) (ns : List Int), vs = [V.ref a] ∧ SqT K H a (ns.map V.int) ∧ 0 < ns.length ∧ ∀ m, m ∈ ns → (∀ y, y ∈ ns → m ≤ y) → Q (.int m) H
theorem alike_ints (ns : List Int) : PySem.W.AlikeAll (ns.map PyData.int) := by
  refine ⟨fun x hx y hy => ?_, fun x hx => ?_⟩
  · obtain ⟨i, _, rfl⟩ := List.mem_map.1 hx
    obtain ⟨j, _, rfl⟩ := List.mem_map.1 hy
    rfl
  · obtain ⟨i, _, rfl⟩ := List.mem_map.1 hx
    exact PyData.noConfusion
theorem depth_ints : ∀ ns : List Int, PyData.depthAll (ns.map PyData.int) ≤ 1
  | [] => by simp [PyData.depthAll]
  | n :: ns => by
    have := depth_ints ns
    simp only [List.map_cons, PyData.depthAll, PyData.depth]
    omega
theorem fold_ge (n : Int) : ∀ (ns : List Int) (z : Int), ns.foldl min z ≤ z ∧ (∀ y ∈ ns, ns.foldl min z ≤ y) ∧ (ns.foldl min z = z ∨ ns.foldl min z ∈ ns)
  | [], z => ⟨Int.le_refl _, fun _ h => (List.not_mem_nil h).elim, Or.inl rfl⟩
  | a :: ns, z => by
    obtain ⟨h1, h2, h3⟩ := fold_ge n ns (min z a)
    simp only [List.foldl_cons]
    refine ⟨by omega, fun y hy => ?_, ?_⟩
    · rcases List.mem_cons.1 hy with rfl | hy
      · omega
      · exact h2 y hy
    · rcases h3 with h3 | h3
      · rw [h3]
        by_cases hz : z ≤ a
        · rw [Int.min_eq_left hz]; exact .inl rfl
        · rw [Int.min_eq_right (by omega)]; exact .inr List.mem_cons_self
      · exact .inr (List.mem_cons_of_mem _ h3)
section
variable {X : Cx}
theorem units_ok {X : Cx} (hu : X.A.units + 65 < cLine) (ns : List Int) : X.A.units + 1 + PyData.depthAll (ns.map PyData.int) < cLine := by
  have := depth_ints ns
  omega
theorem cr_minT (hc : X.calm = true) (hu : X.A.units + 65 < cLine) : CallR X (.builtin "min") (rMinT X.K) := by
  intro pins s σ H vs us Q I r h
  obtain ⟨a, ns, rfl, hs, hne, q⟩ := h
  obtain ⟨its, rv, hl, _⟩ := I.tuple hs
  rw [Vals.ref1 r]
  have hr := rv.ints.reads s.heap
  cases ns with
  | nil => cases hne
  | cons n ns =>
    refine PySem.W.min_tuple_data (I.ok.hd hc) hl (by simpa using hr) (alike_ints (n :: ns)) (units_ok hu (n :: ns)) fun i v h' tk bs hv hrd hk => ?_
    rw [PySem.W.minD_ints] at hrd
    cases hrd
    have hm := fold_ge 0 ns n
    exact ⟨.int _, H, I.kept hk, ⟨_, rfl⟩, q _ (by rcases hm.2.2 with z | z; rw [z]; exact List.mem_cons_self; exact List.mem_cons_of_mem _ z) fun y hy => by
      rcases List.mem_cons.1 hy with rfl | hy
      · exact hm.1
      · exact hm.2.1 y hy⟩
end
/-- ints only -/
def intsOf : List D → Option (List Int)
  | [] => some []
  | .int i :: r => (intsOf r).map (i :: ·)
  | _ :: _ => none
theorem ints_of {K : PySem.W.Frag} {T : Tb} {g : Gh} {H : Hp} : ∀ {ds : List D} {vs : List V} {ns : List Int}, Rps K T g H ds vs → intsOf ds = some ns → vs = ns.map V.int
  | [], vs, ns, h, e => by
    simp only [Rps] at h
    cases e
    exact h
  | d :: ds, vs, ns, h, e => by
    simp only [Rps] at h
    obtain ⟨v, r, e1, h1, h2⟩ := h
    cases d with
    | int b =>
      simp only [intsOf] at e
      cases q : intsOf ds with
      | none => rw [q] at e; cases e
      | some l =>
        rw [q] at e
        cases e
        simp only [Rp] at h1
        rw [e1, h1, ints_of h2 q]
        rfl
    | _ => cases e
def minF (n : Int) (ns : List Int) : Int := ns.foldl (fun a b => if ltB b a then b else a) n
theorem minF_top (n : Int) (ns : List Int) {m : Int} (h1 : m ∈ n :: ns) (h2 : ∀ y ∈ n :: ns, m ≤ y) : minF n ns = m := by
  have e : minF n ns = ns.foldl min n := by
    unfold minF
    congr 1
    funext a b
    rw [ltB_eq]
    by_cases h : b < a
    · rw [if_pos (by simpa using h), Int.min_eq_right (by omega)]
    · rw [if_neg (by simpa using h), Int.min_eq_left (by omega)]
  obtain ⟨a, b, c⟩ := fold_ge 0 ns n
  rw [e]
  have z1 : m ≤ ns.foldl min n := by
    rcases c with c | c
    · rw [c]; exact h2 _ List.mem_cons_self
    · exact h2 _ (List.mem_cons_of_mem _ c)
  rcases List.mem_cons.1 h1 with rfl | h1
  · omega
  · have := b m h1
    omega
def min1D : D → S → R D
  | .lst xs, s => (match intsOf xs with
    | some (n :: ns) => .ok (.int (minF n ns)) s
    | _ => .stuck)
  | .tup xs, s => (match intsOf xs with
    | some (n :: ns) => .ok (.int (minF n ns)) s
    | _ => .stuck)
  | _, _ => .stuck
section
variable {X : Cx} {T : Tb}
theorem bi_min1 (hu : X.A.units + 65 < cLine) (hc : X.calm = true) : Bi1 X T (.builtin "min") .b1 .sh min1D := by
  refine ⟨_, (cr_min (X := X) hc).or (cr_minT hc hu), fun Γ g σ H st W Q x d H0 I r p => ?_⟩
  unfold min1D at p
  split at p
  · split at p
    · rename_i n ns e
      obtain ⟨ad, vs, e1, h1, _, h2⟩ := b_lst r
      subst e1
      rw [ints_of h2 e] at h1
      exact .inl ⟨ad, n :: ns, rfl, .inl (.inl h1), Nat.zero_lt_succ _, fun m h3 h4 => by rw [← minF_top n ns h3 h4]; exact post_v I p rm_int⟩
    · exact p.elim
  · split at p
    · rename_i n ns e
      obtain ⟨ad, vs, e1, h1, h2⟩ := b_tup r
      subst e1
      rw [ints_of h2 e] at h1
      exact .inr ⟨ad, n :: ns, rfl, h1, Nat.zero_lt_succ _, fun m h3 h4 => by rw [← minF_top n ns h3 h4]; exact post_v I p rm_int⟩
    · exact p.elim
  · exact p.elim
end
end DL
set_option linter.all false
set_option Elab.async false
set_option maxRecDepth 100000
namespace DL
open PySem PySem.Spec PyProof.Rows L2
/-! ### lists held as cells -/
/-- a fresh list becomes a cell -/
def eCell (f : S → R D) : S → R D := fun st => (f st).bind fun d s => match d with
  | .lst xs => .ok (.ref s.m.length) { s with m := s.m ++ [.lst xs] }
  | _ => .stuck
section
variable {T : Tb} {X : Cx} {Γ Γ' : Fls} {F : Fx} {nx lp : Fls} {rm : Mo} {e a b c o : Expr} {m m1 m2 m3 : Mo} {f f1 f2 f3 fo : S → R D} {pos p2 pos' apos cpos : Pos} {es : List Expr} {fs : S → R (List D)}
theorem je_cell (he : JE T X Γ e .f1 f) : JE T X Γ e .sh (eCell f) := by
  refine ⟨fun W tk => PE.imp (he.run W tk) fun σ H Q ⟨g, st, I, p⟩ => ⟨g, st, I, ?_⟩⟩
  unfold eCell at p
  cases e : f st with
  | raise ex s1 => rw [e] at p; exact p
  | stuck => rw [e] at p; exact p
  | ok d s1 =>
    rw [e] at p
    intro v H1 g1 q1 I1 r1
    cases d with
    | lst ds =>
      obtain ⟨a, vs, ev, h1, h2, h3⟩ := r1
      subst ev
      exact p _ H1 (g1.more a) ⟨q1.toStep.more h2.2.2, q1.qf, q1.qo⟩ (I1.more h1 rfl h2.1 h2.2.1 ⟨vs, h1, h3.sub .more⟩) (ref_more I1)
    | _ => exact p.elim
/-- o[k] = a value that is there; then on -/
def putK (fo fk : S → R D) (d : D) (k : S → RS) : S → RS := fun s1 => (fo s1).then fun o s2 => match o with
  | .ref n => (fk s2).then fun i s3 => (match mLst s3 n, i with
    | some xs, .int i => (match ixN xs.length i with
      | some j => k { s3 with m := s3.m.set n (.lst (xs.set j d)) }
      | none => .stuck)
    | _, _ => .stuck)
  | _ => .stuck
theorem put_of {K : PySem.W.Frag} {B : Bs} {E : Ends} {W : WX} {g : Gh} {H : Hp} {σ : L2.St} {st : S} {fk : S → R D} {d : D} {v : V} {k : S → RS} {Q : L2.St → Hp → Prop} (I : SR K T Γ g σ H st) (r : Rp K T g H d v) (p : PostS K T F B g H W E (putK fo fk d k st))
    (hk : ∀ g' H' st', Step g H g' H' → SR K T Γ g' σ H' st' → PostS K T F B g' H' W E (k st') → Q σ H') : gSub (te K T Γ .sh W fo) (te K T Γ .b1 W fk) rSetL v σ H Q := by
  unfold putK at p
  refine te_then I p fun o s2 y H2 g2 q2 I2 r2 p2 => ?_
  cases o with
  | ref n =>
    simp only [RpM, Rp] at r2
    obtain ⟨ad, ev, ha⟩ := r2
    refine te_then I2 p2 fun k s3 z H3 g3 q3 I3 r3 p3 => ?_
    subst ev
    have ha2 : g3.mu[n]? = some ad := by
      obtain ⟨tl, ht⟩ := q3.mu
      rw [← ht, List.getElem?_append_left (List.getElem?_eq_some_iff.mp ha).1]
      exact ha
    cases em : mLst s3 n with
    | none => rw [em] at p3; exact p3.elim
    | some xs =>
      rw [em] at p3
      obtain ⟨vs, h3', h4'⟩ := mcell I3 em ha2
      cases k with
      | int k =>
        simp only at p3
        split at p3
        · rename_i j ej
          obtain ⟨st2, I4⟩ := I3.cell ha2 ⟨vs, h3'⟩ (h4'.set j (Rp.step I2.wf q3.toStep (Rp.step I.wf q2.toStep r)))
          exact ⟨ad, vs, k, j, rfl, b_int r3, h3', by rw [h4'.length]; exact ej, hk g3 _ _ ((q2.toStep.trans q3.toStep).trans st2) I4 (p3.shift st2)⟩
        · exact p3.elim
      | _ => exact p3.elim
  | _ => exact p2.elim
/-- o[k], o'[k'] = a, b -/
def sSetR2 (fo fk fo2 fk2 fa fb : S → R D) : S → RS := fun s => (eTup (aCons fa (aCons fb aNil)) s).then fun d s1 => match d with
  | .tup [d1, d2] => putK fo fk d1 (putK fo2 fk2 d2 .next) s1
  | _ => .stuck
theorem js_setR2 {kx kx2 o2 : Expr} {fk fo2 fk2 fa fb : S → R D} {pos1 pos3 tpos vpos : Pos} {kt kv : Nat} (hc : X.calm = true) (ha' : JE T X Γ a .sh fa) (hb' : JE T X Γ b .sh fb) (ho : JE T X Γ o .sh fo) (hk : JE T X Γ kx .b1 fk) (ho2 : JE T X Γ o2 .sh fo2) (hk2 : JE T X Γ kx2 .b1 fk2)
    (ha : ∀ v, assign (.Subscript o kx pos1) X.env v = (do
      let ov ← holding [v] (eval o X.env)
      let iv ← holding [v, ov] (eval kx X.env)
      standAt pos1
      holding [v, ov, iv] (setItem ov iv v)
      release [v, ov, iv] []) := by intro _; rfl)
    (hb : ∀ v, assign (.Subscript o2 kx2 pos3) X.env v = (do
      let ov ← holding [v] (eval o2 X.env)
      let iv ← holding [v, ov] (eval kx2 X.env)
      standAt pos3
      holding [v, ov, iv] (setItem ov iv v)
      release [v, ov, iv] []) := by intro _; rfl)
    (h2 : (assignEach [.Subscript o kx pos1, .Subscript o2 kx2 pos3] X.env).map (·.2) = assign (.Subscript o kx pos1) X.env :: (assignEach [.Subscript o2 kx2 pos3] X.env).map (·.2) := by rfl)
    (h3 : (assignEach [.Subscript o2 kx2 pos3] X.env).map (·.2) = assign (.Subscript o2 kx2 pos3) X.env :: (assignEach [] X.env).map (·.2) := by rfl)
    (hn : (assignEach [.Subscript o kx pos1, .Subscript o2 kx2 pos3] X.env).length = 2 := by rfl) (hst : (assignEach [.Subscript o kx pos1, .Subscript o2 kx2 pos3] X.env).findIdx? (·.1) = none := by rfl)
    (hs : swapsWithSole [.Tuple [.Subscript o kx pos1, .Subscript o2 kx2 pos3] kt tpos] (.Tuple [a, b] kv vpos) pos.line X.env = pure false := by rfl) (hw : swappedStores [.Tuple [.Subscript o kx pos1, .Subscript o2 kx2 pos3] kt tpos] (.Tuple [a, b] kv vpos) X.env = pure none := by rfl)
    (h1 : (assignEach [.Tuple [.Subscript o kx pos1, .Subscript o2 kx2 pos3] kt tpos] X.env).map (·.2) = [assign (.Tuple [.Subscript o kx pos1, .Subscript o2 kx2 pos3] kt tpos) X.env] := by rfl)
    (hs1 : starEach [a, b] X.env = (false, eval a X.env) :: starEach [b] X.env := by rfl) (hs2 : starEach [b] X.env = (false, eval b X.env) :: starEach [] X.env := by rfl) :
    JS T X Γ ⟨Γ, lp, rm⟩ (.Assign [.Tuple [.Subscript o kx pos1, .Subscript o2 kx2 pos3] kt tpos] (.Tuple [a, b] kv vpos) pos) (sSetR2 fo fk fo2 fk2 fa fb) := by
  have ht : JE T X Γ (.Tuple [a, b] kv vpos) .sh (eTup (aCons fa (aCons fb aNil))) := je_tup (ja_cons ha' (ja_cons hb' ja_nil hs2) hs1)
  refine ⟨fun W tk => PS.imp (ps_asg (ht.run W tk) (pg_tup (n := 2) hc (pgs_cons (pg_sub (ho.run W tk) (hk.run W tk) set_list ha) (pgs_cons (pg_sub (ho2.run W tk) (hk2.run W tk) set_list hb) pgs_nil h3) h2) hn hst) hs hw h1) fun E σ H ⟨B, g, st, I, p⟩ => ?_⟩
  unfold sSetR2 at p
  refine te_then I.toSR p fun d s1 x H1 g1 q1 I1 r1 p1 => ?_
  split at p1
  · rename_i d1 d2
    simp only [RpM, Rp, Rps] at r1
    obtain ⟨ad, vs, ev, hq, v1, r1', e1, rp1, v2, r2', e2, rp2, e3⟩ := r1
    subst e3 e2 e1
    refine ⟨ad, [v1, v2], ev, hq, rfl, v1, [v2], rfl, put_of I1 rp1 p1 fun g' H' st' s' I' p' => ⟨v2, [], rfl, put_of I' (rp2.step I1.wf s') p' fun g2 H2 st2 s2 I2 p2 => ⟨rfl, ?_⟩⟩⟩
    exact p2 σ H2 g2 (.refl g2 H2) I2
  · exact p1.elim
/-! ### names.index(place), of ints -/
/-! ### pool.pop(k), pool a cell -/
/-! ### list(range(n)) -/
/-! ### sorted(xs), of ints -/
/-! ### tuple(x), list(x), x a cell -/
theorem post_tupC {K : PySem.W.Frag} {g : Gh} {H : Hp} {σ : L2.St} {st : S} {W : WX} {Q : VK} {n : Nat} {xs : List D} {x : V} (I : SR K T Γ g σ H st) (r : Rp K T g H (.ref n) x) (em : mLst st n = some xs) : ∃ ad vs, x = .ref ad ∧ SqL K H ad vs ∧ Rps K T g H xs vs := by
  simp only [Rp] at r
  obtain ⟨ad, ev, ha⟩ := r
  obtain ⟨vs, h1, h2⟩ := mcell I em ha
  exact ⟨ad, vs, ev, .inl (.inl h1), h2⟩
def tupleC : D → S → R D
  | .ref n, s => (match mLst s n with
    | some xs => .ok (.tup xs) s
    | none => .stuck)
  | d, s => tupleD d s
theorem bi_tupleC : Bi1 X T (.type "tuple") .b1 .sh tupleC := by
  obtain ⟨r0, h0, k0⟩ := (bi_tuple (X := X) (T := T)).ex
  refine ⟨_, h0.or (call_tuple_of (X := X)), fun Γ g σ H st W Q x d H0 I r p => ?_⟩
  unfold tupleC at p
  split at p
  · split at p
    · rename_i n xs em
      obtain ⟨ad, vs, e1, h1, h2⟩ := post_tupC (W := W) (Q := Q) I r em
      subst e1
      exact .inr ⟨ad, vs, rfl, .inl ⟨h1, fun l hl => post_tup I h2 hl p⟩⟩
    · exact p.elim
  · exact .inl (k0 Γ g σ H st W Q x d H0 I r p)
end
end DL
set_option linter.all false
set_option Elab.async false
set_option maxRecDepth 100000
namespace DL
open PySem PySem.Spec PyProof.Rows L2
/-! ### x, y, z = a, b, c with fresh lists -/
end DL
set_option linter.all false
set_option Elab.async false
set_option maxRecDepth 100000
namespace DL
open PySem PySem.Spec PyProof.Rows L2
/-! ### // of wider numbers: no division by _pylong where what is divided is short enough -/
end DL
set_option linter.all false
set_option Elab.async false
set_option maxRecDepth 100000
set_option maxHeartbeats 4000000
namespace DL
open PySem PySem.Spec PyProof.Rows L2
/-! ### a tuple times 1 is that tuple -/
theorem tuple_mul1 (l : Addr) (items : Array Value) (n : Nat) (dd : Option Addr) (sl : Array (Option Value)) (u : Tok) (c1 : items.isEmpty = false) :
    Meets (Builtin.«tuple.__mul__» ⟨[.ref l, .int 1 u], []⟩) (fun _ R s => s.heap.get? l = some { cls := .type "tuple", dict := dd, data := .seq items n, slots := sl } ∧
      R (.ok (.ret (Value.ref l))) { s with heap := s.heap, toks := s.toks }) :=
  .of_wp fun prog w A R s h => by
    obtain ⟨hp, g, d, tk, os⟩ := s
    obtain ⟨hl, h⟩ := h
    have f1 := AutoSeq1.idx_int
    wp_walk using wpAny_loadPart' hl
    exact ⟨_, rfl, h⟩
def rRepT1 (K : PySem.W.Frag) : R2 := fun x y H Q => ∃ l xs, x = .ref l ∧ y = .int 1 ∧ SqT K H l xs ∧ xs ≠ [] ∧ Q (.ref l) H
section
variable {X : Cx} {T : Tb}
theorem op_repT1 : OpR X (binaryOp .Mult) (rRepT1 X.K) := by
  intro pins s σ H x y v u Q I rx ry h
  obtain ⟨l, xs, rfl, rfl, hT, hne, q⟩ := h
  cases rx
  obtain ⟨t, rfl⟩ := ry
  obtain ⟨its, r, ⟨⟨cls, dd, data, sl⟩, ho, hc, n, hd⟩, hs⟩ := I.tuple hT
  simp only at hc hd
  subst hc hd
  have hle : its.length = xs.length := r.length.symm
  have hi : its.toArray.isEmpty = false := by
    cases its with
    | nil =>
      rw [List.length_nil] at hle
      exact absurd (List.eq_nil_of_length_eq_zero hle.symm) hne
    | cons a b => rfl
  refine wpAny_binaryOp_repeat_ref (T := "tuple") (U := "int") (by decide) ⟨_, ho, rfl⟩ (fun s' => typeIs_int s' 1 t) noFill_tuple_mul F.fills_int_mul F.slot_int_rmul repeat_tuple F.slot_int_index.lookup
    (call_meets F.slot_int_rmul (typeIs_int s 1 t) F.entry_int_rmul (F.args_int_rmul_2 _ _) (int_rmul_tuple 1 t l its.toArray n dd sl)
      ⟨ho, rfl, ⟨_, ho, rfl⟩, call_meets F.slot_tuple_mul ⟨_, ho, rfl⟩ F.entry_tuple_mul (F.args_tuple_mul_2 _ _) (tuple_mul1 l its.toArray n dd sl t hi) ⟨ho, ?_⟩⟩)
  exact ⟨.ref l, H, I, rfl, q⟩
/-- *, a tuple times 1 too -/
def mulE : D → D → S → R D
  | .tup xs, .int k, s => if k = 1 ∧ xs ≠ [] then .ok (.tup xs) s else mulD (.tup xs) (.int k) s
  | a, b, s => mulD a b s
theorem bin_mulE : BinR X T .Mult .b1 .b1 .f1 mulE := by
  obtain ⟨r, h, k⟩ := bin_mul (X := X) (T := T)
  refine ⟨_, h.or op_repT1, fun Γ g σ H st W Q x y d1 d2 H0 H1 I r1 r2 p => ?_⟩
  unfold mulE at p
  split at p
  · rename_i xs c
    split at p
    · rename_i hz
      obtain ⟨rfl, hne⟩ := hz
      obtain ⟨a, vs, e1, s1, q1⟩ := b_tup r1
      subst e1
      exact .inr ⟨a, vs, rfl, b_int r2, s1, fun e => hne (by
        have := q1.length
        rw [e] at this
        exact List.eq_nil_of_length_eq_zero this.symm), post_v I p (by
          simp only [RpM, Rp]
          exact ⟨a, vs, rfl, s1, q1⟩)⟩
    · exact .inl (k Γ g σ H st W Q x y _ _ H0 H1 I r1 r2 p)
  · exact .inl (k Γ g σ H st W Q x y _ _ H0 H1 I r1 r2 p)
end
end DL
set_option linter.all false
set_option Elab.async false
set_option maxRecDepth 100000
namespace DL
open PySem PySem.Spec PyProof.Rows L2
/-! ### // of numbers of any width: the long division has its room -/
structure SeerP (P : Program) (base : Heap) : Prop where
  ns : base.NoSeer
  tree : P.given.tree = none
/-! ### the end, with the seer's facts of the base -/
section
theorem look_app {K E : PySem.W.Frag} (a : Addr) : List.lookup a (K ++ E) = (K.lookup a).or (E.lookup a) := by
  induction K with
  | nil => simp
  | cons p r ih =>
    obtain ⟨b, o⟩ := p
    simp only [List.cons_append, List.lookup]
    split
    · simp
    · exact ih
theorem ns_at {h h' : Heap} {a : Addr} {m : Str → Option Value} {o : Obj} (x : h.Ns a m) (e : h.get? a = some o) (e' : h'.get? a = some o) : h'.Ns a m := by
  obtain ⟨o2, es, ep, e2, r⟩ := x
  have : o2 = o := Option.some.inj (e2.symm.trans e)
  subst this
  exact ⟨_, es, ep, e', r⟩
theorem ns_obj {h : Heap} {a : Addr} {m : Str → Option Value} (x : h.Ns a m) : ∃ o es ep, h.get? a = some o ∧ o.data = .dict es ep := by
  obtain ⟨o, es, ep, e, d, _⟩ := x
  exact ⟨o, es, ep, e, d⟩
theorem walk_ofS {l : PySem.W.OpenLaw} {n k : Nat} {q : Program} {loose : List Str} {XP : (Str → Option Value) → Heap → Prop} {YP : World → Heap → Prop} {d : DefRec} {K : Params → PySem.W.Frag} {x : Str}
    (hn : l.most = some n) (hn2 : n ≤ sizeLine) (h63 : n ≤ 63) (hdf : d.params.defaults = []) (hr : Room k callerA) (hi : importsNone q = true) (ht : l.prog.given.tree = none)
    (hY : ∀ (w : World) (h : Heap), YP w h → (K w.params).In h)
    (F : ∀ (w : World) (mg : Str → Option Value) (fa : Addr) (h : Heap), (K w.params).In h → h.Ns mainGlobals mg → mg d.name = some (.ref fa) →
      ∃ fd : FuncData, (∀ (s : Shared) (u : Value), BindsTo s fd ⟨[u], []⟩ [(x, u)]) ∧
        ∀ base : Heap, (K w.params).In base → base.Ns mainGlobals mg → SeerP l.prog base → FnOk l.prog w (K w.params) mg base (L2.CX l.prog w) k fa fd [x] (spLaw (K w.params))) :
    PySem.W.WalkO q loose XP YP l.row.toRowW d [] (fun f vs => PySem.call f vs) := by
  refine Att.attach_callB hn hdf fun w s₀ s₁ mg mb fa o pm cd doc a vs ns G Y ho hd hcd hmg hobj hints hlen hbits hg => ?_
  have KX := hY w _ Y
  obtain ⟨fd, hb, hF⟩ := F w mg fa _ KX G.T.g hmg
  have NS := G.T.seer hi
  obtain ⟨mc, nc, c1, c2⟩ := NS.statics
  obtain ⟨mm, nm, m1⟩ := NS.mods
  obtain ⟨mb', nb, b0⟩ := NS.imp
  obtain ⟨bm, ob, g1, _, g2, g3, g4, g5⟩ := G.T.bmain
  obtain ⟨oc, esc, epc, ec, dc⟩ := ns_obj nc
  obtain ⟨om, esm, epm, em, dm⟩ := ns_obj nm
  obtain ⟨obl, esb, epb, eb, db⟩ := ns_obj nb
  obtain ⟨E, hE⟩ : ∃ E : PySem.W.Frag, E = [(cStatics, oc), (sysModules, om), (builtinsNs, obl), (bm, ob)] := ⟨_, rfl⟩
  have hEin : ∀ b u, E.lookup b = some u → s₁.heap.get? b = some u ∧ ∀ its n, u.data ≠ .seq its n := fun b u e => by
    rw [hE] at e
    simp only [List.lookup] at e
    split at e
    · rename_i z
      cases e
      exact ⟨by rw [beq_iff_eq.mp z]; exact ec, fun its n e => by rw [dc] at e; cases e⟩
    · split at e
      · rename_i z
        cases e
        exact ⟨by rw [beq_iff_eq.mp z]; exact em, fun its n e => by rw [dm] at e; cases e⟩
      · split at e
        · rename_i z
          cases e
          exact ⟨by rw [beq_iff_eq.mp z]; exact eb, fun its n e => by rw [db] at e; cases e⟩
        · split at e
          · rename_i z
            cases e
            exact ⟨by rw [beq_iff_eq.mp z]; exact g2, fun its n e => by rw [g5] at e; cases e⟩
          · cases e
  have KX' : PySem.W.Frag.In (K w.params ++ E) s₁.heap := fun b u e => by
    rw [look_app] at e
    cases hk : (K w.params).lookup b with
    | some u' =>
      rw [hk] at e
      cases e
      exact KX _ _ hk
    | none =>
      rw [hk] at e
      exact (hEin b u (by simpa using e)).1
  have hat : ∀ (b : Addr) (u : Obj), s₁.heap.get? b = some u → (E.lookup b).isSome = true → ∀ base : Heap, PySem.W.Frag.In (K w.params ++ E) base → base.get? b = some u := fun b u e hs base hin => by
    obtain ⟨u', hu'⟩ : ∃ u', (K w.params ++ E).lookup b = some u' := by
      rw [look_app]
      cases hk : (K w.params).lookup b with
      | some v => exact ⟨v, rfl⟩
      | none =>
        obtain ⟨v, hv⟩ := Option.isSome_iff_exists.mp hs
        exact ⟨v, by rw [hv]; rfl⟩
    have h1 := KX' _ _ hu'
    rw [e] at h1
    cases h1
    exact hin _ _ hu'
  have kin : ∀ base : Heap, PySem.W.Frag.In (K w.params ++ E) base → (K w.params).In base := fun base hin b u e => hin b u (by rw [look_app, e]; rfl)
  have seer : ∀ base : Heap, PySem.W.Frag.In (K w.params ++ E) base → base.Ns mainGlobals mg → SeerP l.prog base := fun base hin hmgb => by
    refine ⟨⟨⟨mc, ns_at nc ec (hat _ _ ec (by rw [hE]; simp [List.lookup]) base hin), c1, c2⟩, ⟨mm, ns_at nm em (hat _ _ em (by rw [hE]; simp only [List.lookup]; split <;> simp) base hin), m1⟩,
      ⟨mb', ns_at nb eb (hat _ _ eb (by rw [hE]; simp only [List.lookup]; split <;> (try split) <;> simp) base hin), b0⟩, ⟨mg, bm, ob, hmgb, g1, hat _ _ g2 (by rw [hE]; simp only [List.lookup]; split <;> (try split) <;> (try split) <;> simp) base hin, g3, g4⟩⟩, ht⟩
  have hsq : ∀ (H : Hp) (b : Addr) (zs : List V), SqL (K w.params ++ E) H b zs → SqL (K w.params) H b zs := fun H b zs h => by
    rcases h with h | ⟨u, its, n, e, h1, h2, h3, h4⟩
    · exact .inl h
    · rw [look_app] at e
      cases hk : (K w.params).lookup b with
      | some v =>
        rw [hk] at e
        cases e
        exact .inr ⟨_, its, n, hk, h1, h2, h3, h4⟩
      | none =>
        rw [hk] at e
        exact absurd h3 ((hEin b u (by simpa using e)).2 its n)
  have hsp : ∀ vs H Q X, spLaw (K w.params ++ E) vs H Q X → spLaw (K w.params) vs H Q X := fun vs H Q X h => by
    obtain ⟨a, ns, h1, h2, h3⟩ := h
    exact ⟨a, ns, h1, hsq _ _ _ h2, h3⟩
  refine law_call (K := K w.params ++ E) KX' G.T.g G.T.b G.T.builtins G.T.nolimit hg hobj hints (Nat.le_trans hlen hn2) hr (sp := spLaw (K w.params ++ E)) (CX := L2.CX l.prog w) (fun base hin hmgb => ?_) hb (fun H hO hS => ⟨a, ns, rfl, hS, Nat.le_trans hlen h63, hbits, fun _ => rfl⟩) fun H e s' => cx_none
  have f := hF base (kin base hin) hmgb (seer base hin hmgb)
  exact ⟨fun vs H Q X h => f.len vs H Q X (hsp _ _ _ _ h), fun A outer s H args us vs Q X hr he hb hv hs => f.run A outer s H args us vs Q X hr ⟨he.frames, ⟨kin base he.mod.kin, he.mod.glob, he.mod.blt, he.mod.nolimit⟩, he.bs, he.bsz, he.funs, he.frf, he.hok, he.bare⟩ hb hv (hsp _ _ _ _ hs)⟩
end
end DL
set_option linter.all false
set_option maxRecDepth 100000
/-! sorted of a tuple of ints -/
namespace DL
open PySem PySem.Spec PyProof.Rows L2
section
variable {X : Cx} {T : Tb}
/-- tuple(xs), a new tuple that has no dict -/
theorem call_tupleP : CallR X (.type "tuple") (fun xs H Q => ∃ p ys, xs = [.ref p] ∧ SqL X.K H p ys ∧ ∀ l o, o.dict = none → H l = none → Q (.ref l) (upd H l (.frz o (.tup ys)))) := by
  intro pins s σ H xs us Q I r h
  obtain ⟨p, ys, rfl, hq, q⟩ := h
  obtain ⟨u, rfl, rx⟩ := vals1 r
  cases rx
  obtain ⟨its, r', pl, hz⟩ := I.list hq
  have hlen := r'.length
  refine call_tuple_list pl.isList (fun h' kp => ?_) (by simp only [List.size_toArray] <;> omega)
  have I1 : Inv X pins σ H { s with heap := h' } := I.kept (t' := s.toks) kp
  have I2 : Inv X pins σ (upd H h'.objs.size (.frz { cls := .type "tuple", data := .seq its.toArray } (.tup ys))) { s with heap := h'.push { cls := .type "tuple", data := .seq its.toArray } } :=
    I1.laid (t' := s.toks) (fun b o e => Heap.get?_push_of_some _ e) (Nat.le_refl _) (show ObjOk X.prog X.w _ _ _ (.frz _ (.tup ys)) from ⟨Heap.get?_push_size _ rfl, hz, its, r', IsTup.new _ _⟩)
  exact ⟨.ref h'.objs.size, _, I2, rfl, q _ _ rfl (I1.hok.fresh (Nat.le_refl _))⟩
def tuplePD : D → S → R D
  | .lst xs, s => .ok (.pt xs) s
  | _, _ => .stuck
theorem bi_tupleP : Bi1 X T (.type "tuple") .b1 .sh tuplePD := by
  refine ⟨_, call_tupleP (X := X), fun Γ g σ H st W Q x d H0 I r p => ?_⟩
  unfold tuplePD at p
  split at p
  · obtain ⟨ad, vs, e1, h1, _, h2⟩ := b_lst r
    subst e1
    refine ⟨ad, vs, rfl, .inl (.inl h1), fun l o ho hl => ?_⟩
    refine p _ _ g ⟨.new hl, rfl, fun i b hb => ?_⟩ (I.new hl) ?_
    · obtain ⟨o, e, _⟩ := I.wf.ot b (.inl ⟨i, hb⟩)
      rw [upd_ne (ne_of_none e hl)]
    · simp only [RpM, Rp]
      exact ⟨l, vs, o, rfl, upd_same, ho, h2.step I.wf (.new hl)⟩
  · exact p.elim
end
end DL
set_option linter.all false
set_option maxRecDepth 100000
/-! texts -/
namespace DL
open PySem PySem.Spec PyProof.Rows L2
section
variable {T : Tb} {X : Cx} {Γ Γ' : Fls} {e o : Expr} {f fo : S → R D} {pos p2 apos cpos : Pos}
/-! ### str(n), int(s) -/
def intSD : D → S → R D
  | .str a, s => (match PySem.intText? a with
    | some n => if a.length ≤ 640 then .ok (.int n) s else .stuck
    | none => .stuck)
  | _, _ => .stuck
theorem bi_intS : Bi1 X T (.type "int") .b1 .sh intSD := by
  refine ⟨_, call_int_str (X := X), fun Γ g σ H st W Q x d H0 I r p => ?_⟩
  unfold intSD at p
  split at p
  · split at p
    · rename_i n hn
      split at p
      · rename_i hz
        exact ⟨_, n, by rw [b_str r], hn, hz, post_v I p rm_int⟩
      · exact p.elim
    · exact p.elim
  · exact p.elim
/-! ### a sign in a text -/
/-! ### s[a:b] -/
def slSD : D → Option Int → Option Int → S → R D
  | .str z, lo, hi, s => if z.length ≤ sizeLine then .ok (.str (cutS z lo hi)) s else .stuck
  | _, _, _, _ => .stuck
def eSlS (f : S → R D) (fl fh : S → R (Option Int)) : S → R D := fun st => (f st).bind fun d s => (fl s).bind fun i s2 => (fh s2).bind fun j s3 => slSD d i j s3
theorem je_slS {lo hi : Option Expr} {fl fh : S → R (Option Int)} (ha : JE T X Γ e .b1 f) (hl : JO T X Γ lo fl) (hh : JO T X Γ hi fh) : JE T X Γ (.Subscript e (.Slice lo hi none p2) pos) .sh (eSlS f fl fh) := by
  refine ⟨fun W tk => PE.imp (pe_slice (sl_str (X := X)) (ha.run W tk) (hl.run W tk) (hh.run W tk)) fun σ H Q ⟨g, st, I, p⟩ => ?_⟩
  refine te_bind ipE I p fun d s1 x H1 g1 q1 I1 r1 p1 => to_bind ipE I1 p1 fun i s2 H2 g2 q2 I2 p2 => to_bind ipE I2 p2 fun j s3 H3 g3 q3 I3 p3 => ?_
  have r3 := (r1.step I1.wf I2.wf q2).step I2.wf I3.wf q3
  unfold slSD at p3
  split at p3
  · split at p3
    · rename_i hz
      exact ⟨_, b_str r3, hz, post_v I3 p3 rm_str⟩
    · exact p3.elim
  · exact p3.elim
/-! ### sep.join(xs), s.split(sep), s.index(t) -/
/-! ### for c in s -/
/-! ### s * k -/
/-! ### f-strings of three parts -/
/-! ### s.split(sep, k) -/
/-! ### o.append(e), o a cell that an expression gives -/
end
end DL
set_option linter.all false
set_option Elab.async false
set_option maxRecDepth 100000
set_option maxHeartbeats 4000000
namespace DL
open PySem PySem.Spec PySem.Calls PyProof.Rows L2
/-! ### an exception class whose __init__ is: super().__init__(x); self.f = x -/
structure SupC (K : PySem.W.Frag) (C : Addr) (fld : Str) (B newId initId : String) (bmB : List Value) : Prop where
  eb : ExcBaseFacts B newId initId bmB
  kx : PySem.W.KxsFacts B initId
  sf : StoreFacts B bmB "object.__setattr__" "object"
  xi : PySem.W.excInitIn K C bmB newId = true
  ov : PySem.W.excOver K C bmB = true
  sa : PySem.W.findIn K (.ref C) "__setattr__" = some (some (.builtin "object.__setattr__"))
  ta : PySem.W.takerIn K C fld = some none
  hd : PySem.W.hasDictIn K C = true
  sB : PySem.W.subIn K (.ref C) (.type B) = some true
  sC : PySem.W.mroIn K C (.ref C) = some true
  op : PySem.W.nsIn K cStatics "thirdparty.any" = some none
  su : PySem.W.ks_superIn K C C "__init__" = some (some (.builtin initId))
  ex : PySem.W.subIn K (.ref C) (.type "BaseException") = some true
  ty : PySem.W.typeIn K (.ref C) = some (.type "type")
  kp : PySem.W.keepIn K (.ref C) = true
section
variable {P : Program} {w : World} {A : Around} {K : PySem.W.Frag} {mg : Str → Option Value} {base : Heap} {C : Addr} {fld : Str} {B newId initId : String} {bmB : List Value}
/-- self.f = v, the first field -/
theorem sup_set {E : Value → Shared → Prop} {Q : Unit → Shared → Prop} {hp : Heap} {g : Array GenState} {d : Drawn} {t : Nat} {os : OsState} {e t1 : Addr} {v : Value} (Z : SupC K C fld B newId initId bmB) (X : K.In hp) (he : hp.get? e = some (PySem.W.excObj C t1 none .none))
    (hq : ∀ h' tk dx, (∀ b o, b ≠ e → hp.get? b = some o → h'.get? b = some o) → hp.objs.size ≤ dx → dx ≠ e → h'.get? e = some (PySem.W.excObj C t1 (some dx) .none) → h'.Ns1 dx (fun y => if y = fld then some v else none) → Q () ⟨h', g, d, tk, os⟩) :
    wpAny (model P w) A (setAttr (.ref e) fld v) Q E ⟨hp, g, d, t, os⟩ := by
  have Ie : PySem.W.InstAt hp e (PySem.W.excObj C t1 none .none) C none := ⟨he, rfl, rfl, trivial⟩
  have ene : e ≠ hp.objs.size := Nat.ne_of_lt (Heap.lt_size he)
  refine PySem.W.set_plain (od := none) X Ie Z.sa (PySem.W.osa_openX (od := none) (r := none) Z.sf X Ie Z.ov Z.ta fun b => ?_)
  obtain ⟨cd, hc, hd'⟩ := PySem.W.any_some Z.hd
  have he1 : (hp.push (PySem.W.dictOf [] 0)).get? e = some (PySem.W.excObj C t1 none .none) := Heap.get?_push_of_some _ he
  refine wpAny_bind (wpAny_pure (wpAny_bind (PySem.W.instanceDict_exc he (PySem.W.looks_clsIn X hc) hd' ?_)))
  show wpAny _ _ (Builtin.ObjectAttr.storeInDict hp.objs.size (.str fld t) fld v) _ _ _
  refine HandSPX.store_in_new ?_ fun h' tk' hn hs => ?_
  · exact ⟨_, #[], _, (Heap.get?_update_ne _ _ _ _ ene.symm).trans (Heap.get?_push_at rfl rfl), rfl, fun x hx => absurd hx (by simp), fun _ => rfl⟩
  · refine hq h' tk' hp.objs.size (fun b o hb ho => ?_) (Nat.le_refl _) ene.symm ?_ hn
    · exact (hs.2 b (Nat.ne_of_lt (Heap.lt_size ho))).trans ((Heap.get?_update_ne _ _ _ _ hb).trans (Heap.get?_push_of_some _ ho))
    · exact (hs.2 e ene).trans (Heap.get?_update_self _ he1 rfl)
variable {f cda cc : Addr} {nm qual : Str} {params : Arguments} {body : List Stmt} {scope : Scope} {dV kV doc pm ct oc ccl cl : Value} {an od cdd cld : Option Addr} {osl ccs csl : Array (Option Value)} {vs : Array Value} {file : Str} {tf : Tok} {cd : ClassData}
  {sf y : Str} {p0 p1 p2 p3 p4 p5 p6 p7 p8 p9 : Pos}
/-- the base of super().__init__ -/
theorem sup_node {E : Value → Shared → Prop} {Q : Value → Shared → Prop} {G h1 : Heap} {gs : Array GenState} {d : Drawn} {t : Nat} {os : OsState} {L e t0 : Addr} {m : Str → Option Value} {whole : Sem Value} {news : List (Addr × Obj)} {ar : Arg}
    (M : Mod K mg base) (bG : ∀ b o, base.get? b = some o → G.get? b = some o) (F : Fr G L h1 m) (N : News G L h1 news) (hm : (e, PySem.W.excObj C t0 none .none) ∈ news) (Z : SupC K C fld B newId initId bmB) (hsup : mg "super" = none)
    (lk : K.lookup f = some ⟨oc, od, .func (PySem.W.ksFn nm qual params body scope dV kV doc pm an (.ref cda) ct cc), osl⟩) (lc : K.lookup cda = some ⟨ccl, cdd, .fields vs, ccs⟩) (lv : vs[2]? = some (.str file tf)) (lf : (P.main.file == file) = true)
    (lx : K.lookup cc = some ⟨cl, cld, .cell (some (.ref C)), csl⟩) (lC : PySem.W.clsIn K C = some cd) (hp : (params.posonlyargs ++ params.args).head? = some ar) (hv : m ar.arg = some (.ref e))
    (k1 : scope.names.lookup ("super" : Str) = some .globalImplicit) (k2 : scope.names.lookup ("__class__" : Str) = some .free) (k3 : scope.names.lookup ar.arg = some .local) (k4 : scope.kind = .function) (top : (P.main.scope.names.lookup ("super" : Str)).isSome = false)
    (h : ∀ so h', Fr G L h' m → News G L h' ((so, PySem.W.ks_superObj C e C) :: news) → (∀ p ∈ news, p.1 < so) → Q (.ref so) ⟨h', gs, d, t, os⟩) :
    _root_.PySem.wpAt (model P w) A (.func body (PySem.W.ksEnv qual scope L f (.ref cda) cc)) (attributeBase (.Call (.Name "super" p0) [] [] p1) "__init__" (PySem.W.ksEnv qual scope L f (.ref cda) cc) whole) Q E ⟨h1, gs, d, t, os⟩ := by
  have kb : ∀ b o, base.get? b = some o → h1.get? b = some o := fun b o q => F.keep b o (bG b o q)
  have X : K.In h1 := M.kin.keeps kb
  obtain ⟨mb, bn, bb⟩ := M.blt
  have he := (N _ hm).1
  obtain ⟨oD, d1, d2⟩ : ∃ oD, h1.get? C = some oD ∧ oD.data = .cls cd := by
    have lC' := lC
    unfold PySem.W.clsIn at lC'
    split at lC'
    · rename_i c dd cd' sl ho
      cases lC'
      exact ⟨_, X _ _ ho, rfl⟩
    · cases lC'
  refine ks_wpAt_super_base (env := PySem.W.ksEnv qual scope L f (.ref cda) cc) (of := ⟨oc, od, .func (PySem.W.ksFn nm qual params body scope dV kV doc pm an (.ref cda) ct cc), osl⟩) k1 k2 (by decide) rfl (X _ _ lk) rfl hp rfl (X _ _ lc) rfl lv lf top ?_
  refine PySem.W.ks_loadName_global k4 k1 (loadGlobal_builtin (env := PySem.W.ksEnv qual scope L f (.ref cda) cc) (M.glob.keeps kb) hsup (bn.keeps kb) (v := .type "super") ((bb "super" (by decide)).trans (by decide +kernel)) ⟨rfl, ?_⟩)
  refine wpAny_loadName_free k4 k2 rfl ⟨_, X _ _ lx, rfl⟩ ?_
  refine wpAny_loadName_local k4 k3 F.ns hv ?_
  refine ks_wpAny_isType_cls d1 d2 ⟨rfl, ?_⟩
  refine ks_wpAny_call_super d1 d2 he rfl (fun c z => by cases z) (PySem.W.looks_mroIn X Z.sC) (fun h' z k => ?_)
  obtain ⟨F', N', l'⟩ := PySem.W.ks_newsPush (s := ⟨h1, gs, d, t, os⟩) F N rfl z k
  exact h _ _ F' N' l'
/-- the call of such an __init__ -/
theorem sup_init {R : Result → Shared → Prop} {hp : Heap} {gs : Array GenState} {d : Drawn} {t : Nat} {os : OsState} {e t0 : Addr} {v : Value} {ar : Arg}
    (M : Mod K mg base) (kb : ∀ b o, base.get? b = some o → hp.get? b = some o) (eb : base.get? e = none) (he : hp.get? e = some (PySem.W.excObj C t0 none .none)) (Z : SupC K C fld B newId initId bmB) (hsup : mg "super" = none)
    (lk : K.lookup f = some ⟨oc, od, .func (PySem.W.ksFn nm qual params body scope dV kV doc pm an (.ref cda) ct cc), osl⟩) (hcd : PySem.W.codeIn K (.ref cda) qual = true) (lc : K.lookup cda = some ⟨ccl, cdd, .fields vs, ccs⟩) (lv : vs[2]? = some (.str file tf)) (lf : (P.main.file == file) = true)
    (lx : K.lookup cc = some ⟨cl, cld, .cell (some (.ref C)), csl⟩) (lC : PySem.W.clsIn K C = some cd) (hpr : (params.posonlyargs ++ params.args).head? = some ar) (har : ar.arg = sf) (hyn : y ≠ sf)
    (k1 : scope.names.lookup ("super" : Str) = some .globalImplicit) (k2 : scope.names.lookup ("__class__" : Str) = some .free) (k3 : scope.names.lookup sf = some .local) (k3y : scope.names.lookup y = some .local) (k4 : scope.kind = .function) (k5 : scope.isCoroutine = false) (k6 : scope.isGenerator = false)
    (k7 : ∀ x ∈ scope.names, x.2 ≠ .cell) (top : (P.main.scope.names.lookup ("super" : Str)).isSome = false)
    (hb : body = [.Expr (.Call (.Attribute (.Call (.Name "super" p0) [] [] p1) "__init__" p2) [.Name y p3] [] p4) p5, .Assign [.Attribute (.Name sf p6) fld p7] (.Name y p8) p9])
    (hsd : (sf == ("__debug__" : Str)) = false) (hyd : (y == ("__debug__" : Str)) = false)
    (c1 : ∀ env : Env, env = PySem.W.ksEnv qual scope hp.objs.size f (.ref cda) cc → interactive env = false) (c2 : ∀ env : Env, env = PySem.W.ksEnv qual scope hp.objs.size f (.ref cda) cc → swapsWith (.Call (.Attribute (.Call (.Name "super" p0) [] [] p1) "__init__" p2) [.Name y p3] [] p4) none p5.line env = pure false)
    (c3 : ∀ env : Env, env = PySem.W.ksEnv qual scope hp.objs.size f (.ref cda) cc → swapsWith (.Name y p8) (some (.Attribute (.Name sf p6) fld p7)) p9.line env = pure false)
    (c4 : ∀ env : Env, env = PySem.W.ksEnv qual scope hp.objs.size f (.ref cda) cc → ∃ pl : Sem Bool, eval (.Call (.Attribute (.Call (.Name "super" p0) [] [] p1) "__init__" p2) [.Name y p3] [] p4) env = (do
      let ov ← attributeBase (.Call (.Name "super" p0) [] [] p1) "__init__" env (eval (.Call (.Name "super" p0) [] [] p1) env)
      standAt p2.atName
      let (f, first) ← holding [ov] (getMethod ov "__init__" pl)
      callWith p4 f first (backTo p4 (starEach [.Name y p3] env)) []))
    (c5 : ∀ env : Env, starEach [.Name y p3] env = (false, eval (.Name y p3) env) :: starEach [] env)
    (c6 : ∀ env : Env, (backTo p4 (starEach [] env)).any (·.1) = false) (c7 : ∀ env : Env, backTo p4 ((false, eval (.Name y p3) env) :: starEach [] env) = (false, eval (.Name y p3) env) :: [])
    (bnd : BindsTo ⟨hp, gs, d, t, os⟩ (PySem.W.ksFn nm qual params body scope dV kV doc pm an (.ref cda) ct cc) ⟨[.ref e, v], []⟩ [(sf, .ref e), (y, v)]) (hroom : A.depth < recursionLimit)
    (hq : ∀ h' tk dx t1, (∀ b o, b ≠ e → hp.get? b = some o → h'.get? b = some o) → hp.objs.size ≤ dx → dx ≠ e → h'.get? e = some (PySem.W.excObj C t1 (some dx) .none) → h'.Ns1 dx (fun y => if y = fld then some v else none) → R (.ok (.ret .none)) ⟨h', gs, d, tk, os⟩) :
    codeAny (model P w) A (.call (.ref f) ⟨[.ref e, v], []⟩) R ⟨hp, gs, d, t, os⟩ := by
  have X : K.In hp := M.kin.keeps kb
  have bG : ∀ b o, base.get? b = some o → (PySem.W.hideAll hp [e]).get? b = some o := fun b o q => PySem.W.hideAll_get [e] (kb b o q) (by
    intro z
    rw [List.mem_singleton.mp z, eb] at q
    cases q)
  have XG : K.In (PySem.W.hideAll hp [e]) := M.kin.keeps bG
  refine ks_codeAny_call_defAt (s := ⟨hp, gs, d, t, os⟩) (fd := PySem.W.ksFn nm qual params body scope dV kV doc pm an (.ref cda) ct cc) (body := body) (binds := [(sf, .ref e), (y, v)]) hroom (X _ _ lk) rfl (M.nolimit.keeps kb) (PySem.W.codeRec_of X hcd) rfl bnd k7 (fun z hz => ?_) (fun h1 hns hk => ?_) k5 k6 k4
  · rcases List.mem_cons.mp hz with rfl | hz
    · exact k3
    · rw [List.mem_singleton.mp hz]
      exact k3y
  show _root_.PySem.wpAt (model P w) (A.deeper (PySem.W.ksEnv qual scope hp.objs.size f (.ref cda) cc)) (.func body (PySem.W.ksEnv qual scope hp.objs.size f (.ref cda) cc)) (execs body (PySem.W.ksEnv qual scope hp.objs.size f (.ref cda) cc)) _ _ _
  generalize hen : PySem.W.ksEnv qual scope hp.objs.size f (.ref cda) cc = en
  have ke : en.scope = scope := by rw [← hen]
  have kl : en.locals = hp.objs.size := by rw [← hen]
  have F1 : Fr (PySem.W.hideAll hp [e]) hp.objs.size h1 (fun x => [(sf, Value.ref e), (y, v)].reverse.lookup x) := ⟨hns, fun b o q => hk b o (PySem.W.of_hideAll [e] q), Nat.le_of_eq (PySem.W.hideAll_size [e] hp)⟩
  have N1 : News (PySem.W.hideAll hp [e]) hp.objs.size h1 [(e, PySem.W.excObj C t0 none .none)] := fun p hp' => by
    rw [List.mem_singleton.mp hp']
    exact ⟨hk _ _ he, Nat.ne_of_lt (Heap.lt_size he), PySem.W.hideAll_none [e] (by simp)⟩
  have m1 : (fun x => [(sf, Value.ref e), (y, v)].reverse.lookup x) sf = some (.ref e) := by
    show List.lookup sf [(y, v), (sf, Value.ref e)] = _
    rw [List.lookup_cons]
    rw [show (sf == y) = false from by simpa using Ne.symm hyn]
    simp [List.lookup]
  have m2 : (fun x => [(sf, Value.ref e), (y, v)].reverse.lookup x) y = some v := by
    show List.lookup y [(y, v), (sf, Value.ref e)] = _
    simp [List.lookup]
  revert F1 N1 m1 m2
  generalize (fun x => [(sf, Value.ref e), (y, v)].reverse.lookup x) = m
  intro F1 N1 m1 m2
  have low : ∀ {h2 : Heap} {q : Addr} {o : Obj}, hp.get? q = some o → q ≠ e → Fr (PySem.W.hideAll hp [e]) hp.objs.size h2 m → h2.get? q = some o := fun {h2 q o} z ne F => F.keep q o (PySem.W.hideAll_get [e] z (by simpa using ne))
  have ld : ∀ {h2 : Heap} {n : Str} {u : Value} {t2 : Nat} {p : Pos} {QQ : Value → Shared → Prop} {EE : Value → Shared → Prop} {AA : Around}, Fr (PySem.W.hideAll hp [e]) hp.objs.size h2 m → m n = some u → scope.names.lookup n = some .local → (n == ("__debug__" : Str)) = false → QQ u ⟨h2, gs, d, t2, os⟩ → wpAny (model P w) AA (eval (.Name n p) en) QQ EE ⟨h2, gs, d, t2, os⟩ := by
    intro h2 n u t2 p QQ EE AA F mm kk nd q
    refine wpAny_Name (wpAny_loadName_local (m := m) (by rw [ke]; exact k4) (by show en.scope.names.lookup n = _; rw [ke]; exact kk) (by rw [kl]; exact F.ns) mm q) nd
  obtain ⟨pl, c4'⟩ := c4 en hen.symm
  rw [show execs body en = execs [.Expr (.Call (.Attribute (.Call (.Name "super" p0) [] [] p1) "__init__" p2) [.Name y p3] [] p4) p5, .Assign [.Attribute (.Name sf p6) fld p7] (.Name y p8) p9] en from by rw [hb]]
  refine ks_wpAt_execs_cons (ks_wpAt_Expr_any (ks_wpAt_MethodCall (pl := pl) ?_ c4') (c1 en hen.symm) (c2 en hen.symm))
  rw [← hen]
  refine sup_node (e := e) (t0 := t0) (ar := ar) M bG F1 N1 (by simp) Z hsup lk lc lv lf lx lC hpr (by rw [har]; exact m1) k1 k2 (by rw [har]; exact k3) k4 top fun so h2 F2 N2 l2 => ?_
  refine PySem.W.kxs_method (x := e) (ox := PySem.W.excObj C t0 none .none) (odx := none) Z.kx F2 XG N2 (List.mem_cons_self ..) (PySem.W.InstAt.of_exc0 N2 (by simp)) Z.op Z.su Z.sB (by decide) fun q h3 F3 N3 l3 => ?_
  rw [hen]
  refine PySem.W.kxs_callWith1 (i := initId) (x := e) N3 (List.mem_cons_self ..) ?_ (c5 en) (c6 en)
  rw [c5 en, c7 en]
  refine spliced_cons (ld F3 m2 k3y hyd (spliced_nil ⟨PySem.W.kxs_at N3 (List.mem_cons_self ..), ?_⟩))
  have q1 : q ≠ e := fun z => by
    have := l3 (e, PySem.W.excObj C t0 none .none) (by simp)
    rw [z] at this
    exact absurd this (Nat.lt_irrefl _)
  have q2 : so ≠ e := fun z => by
    have := l2 (e, PySem.W.excObj C t0 none .none) (by simp)
    rw [z] at this
    exact absurd this (Nat.lt_irrefl _)
  refine PySem.W.kxs_call (x := e) F3 XG N3 Z.eb Z.xi (List.mem_cons_self ..) (.tail q1 (.tail q2 (.head fun p hp => by simp at hp))) (by show 1 ≤ sizeLine; decide) fun t' h4 F4 N4 l4 => ?_
  have he4 : h4.get? e = some (PySem.W.excObj C t' none .none) := (N4 (e, PySem.W.excObj C t' none .none) (by simp)).1
  have X4 : K.In h4 := XG.keeps F4.keep
  refine ks_wpAt_execs_cons (ks_wpAt_Assign_Attr (wpAt_of_wpAny (ld F4 m2 k3y hyd (ld F4 m1 k3 hsd ?_))) (c3 en hen.symm))
  refine sup_set Z X4 he4 fun h5 tk dx k ds de e5 n5 => ?_
  refine wpAt_of_wpAny (wpAny_execs_nil ?_)
  have big : hp.objs.size ≤ h4.objs.size := by
    obtain ⟨oL, _, _, eL, _⟩ := F4.ns
    exact Nat.le_of_lt (Heap.lt_size eL)
  refine hq h5 _ dx t' (fun b o ne z => k b o ne (low z ne F4)) (Nat.le_trans big ds) de e5 n5
end
/-! ### making it: C(a) -/
def MkSup (C : Addr) (fld : Str) (ta : TA) : L2.St → Hp → XK → Prop := fun σ H Q => ta σ H fun vs H1 => ∃ y, vs = [y] ∧ ∀ dx, H1 dx = none → Q (.ref C) (some dx) (upd H1 dx (.xd [(fld, y)]))
/-- an __init__ that does it -/
def InitOk (P : Program) (K : PySem.W.Frag) (mg : Str → Option Value) (C f : Addr) (fld : Str) : Prop :=
  ∀ (w : World) (A : Around) (R : Result → Shared → Prop) (base hp : Heap) (gs : Array GenState) (d : Drawn) (t : Nat) (os : OsState) (e t0 : Addr) (v : Value), Mod K mg base → (∀ b o, base.get? b = some o → hp.get? b = some o) → base.get? e = none →
    hp.get? e = some (PySem.W.excObj C t0 none .none) → A.depth < recursionLimit →
    (∀ h' tk dx t1, (∀ b o, b ≠ e → hp.get? b = some o → h'.get? b = some o) → hp.objs.size ≤ dx → dx ≠ e → h'.get? e = some (PySem.W.excObj C t1 (some dx) .none) → h'.Ns1 dx (fun y => if y = fld then some v else none) → R (.ok (.ret .none)) ⟨h', gs, d, tk, os⟩) →
    codeAny (model P w) A (.call (.ref f) ⟨[.ref e, v], []⟩) R ⟨hp, gs, d, t, os⟩
section
variable {X : Cx} {a : Expr} {ta : TA} {x fld : Str} {C f : Addr} {B newId initId : String} {bmB : List Value} {p pos : Pos}
theorem exo_sup {P : Program} {w : World} {H : Hp} {h : Heap} {e t1 : Addr} {dd : Option Addr} (he : h.get? e = some (PySem.W.excObj C t1 dd .none)) : ObjOk P w H h e (exo e C dd) := exo_ok he
theorem pmk_sup (Z : SupC X.K C fld B newId initId bmB) (iC : PySem.W.findIn X.K (.ref C) "__init__" = some (some (.ref f))) (tI : PySem.W.typeIn X.K (.ref f) = some (.type "function")) (io : InitOk X.prog X.K X.mg C f fld) (hr : Room 1 X.A) (hg : Gl X x) (hm : X.mg x = some (.ref C))
    (ha : PA X [a] ta) (hdb : (x == ("__debug__" : Str)) = false) (he : starEach [a] X.env = (false, eval a X.env) :: starEach [] X.env) (hpl : (backTo pos (starEach [] X.env)).any (·.1) = false) : PMk X (.Call (.Name x p) [a] [] pos) (MkSup C fld ta) := by
  intro pins s σ H Q I h
  refine wpAny_Call_Name_kw (ld_glob I hg hm ?_ hdb)
  refine PySem.W.callWith_K (h₀ := X.base) I.ok.mod.kin Z.kp (thn (ha.run pos pins s σ H _ I h) fun us s1 hh => ?_) he hpl
  obtain ⟨vs, H1, I1, r1, y, ey, q1⟩ := hh
  subst ey
  refine ⟨I1.kIn, ?_⟩
  show wpAny _ _ (call (.ref C) us) _ _ _
  obtain ⟨v, rfl, rv⟩ : ∃ v, us = [v] ∧ RelV y v := by
    cases r1 with
    | cons rx rr => cases rr; exact ⟨_, rfl, rx⟩
  obtain ⟨hp, gs, dr, tk, os⟩ := s1
  obtain ⟨nm, N', qn, bs, bm, hdct, sn, sub, ab, col, dd, k0, k1, k2, k3, k5, hC, hT⟩ := PySem.W.excInit_of I1.kIn Z.xi
  have sz : hp.objs.size ≤ hp.objs.size + 1 := Nat.le_succ _
  have hn : H1 (hp.objs.size + 1) = none := I1.hok.fresh sz
  have up : ∀ b o, hp.get? b = some o → ((hp.push (PySem.W.kdv_tup [v])).push (HandSPX.excO C hp.objs.size)).get? b = some o := fun b o z => Heap.get?_push_of_some _ (Heap.get?_push_of_some _ z)
  have ge : ((hp.push (PySem.W.kdv_tup [v])).push (HandSPX.excO C hp.objs.size)).get? (hp.objs.size + 1) = some (PySem.W.excObj C hp.objs.size none .none) := by heap_get
  have I2 : Inv X pins σ (upd H1 (hp.objs.size + 1) (exo (hp.objs.size + 1) C none)) ⟨(hp.push (PySem.W.kdv_tup [v])).push (HandSPX.excO C hp.objs.size), gs, dr, tk, os⟩ :=
    I1.laid (t' := tk) (a := hp.objs.size + 1) (o := exo (hp.objs.size + 1) C none) (h' := (hp.push (PySem.W.kdv_tup [v])).push (HandSPX.excO C hp.objs.size)) up sz (exo_sup ge)
  have s2 : ((hp.push (PySem.W.kdv_tup [v])).push (HandSPX.excO C hp.objs.size)).objs.size = hp.objs.size + 2 := by rw [Heap.size_push, Heap.size_push]
  have bn : X.base.get? (hp.objs.size + 1) = none := by
    cases z : X.base.get? (hp.objs.size + 1) with
    | none => rfl
    | some o =>
      have := Heap.lt_size ((I1.bs _ _ z).1)
      exact absurd (show hp.objs.size + 1 < hp.objs.size from this) (by omega)
  refine wpAny_call (HandSPX.call_own Z.eb hT hC (PySem.W.looks_findIn I1.kIn iC) (fun self => PySem.W.bind_fn I1.kIn self tI) (by show 1 ≤ sizeLine; decide) (io X.w _ _ X.base _ gs dr tk os (hp.objs.size + 1) hp.objs.size v I1.ok.mod (fun b o z => up b o ((I1.bs b o z).1)) bn ge (hr.make C [v] []).depth ?_))
  intro h3 tk3 dx t1 kp ds de e3 n3
  refine ⟨rfl, ?_⟩
  have hd1 : H1 dx = none := I1.hok.fresh (Nat.le_trans (Nat.le_trans (Nat.le_add_right _ 2) (Nat.le_of_eq s2.symm)) ds)
  have eA : upd H1 (hp.objs.size + 1) (exo (hp.objs.size + 1) C none) (hp.objs.size + 1) = some (exo (hp.objs.size + 1) C none) := upd_same
  have ud : upd H1 (hp.objs.size + 1) (exo (hp.objs.size + 1) C none) dx = none := by rw [upd_ne de]; exact hd1
  have nd : ∀ {b : Addr} {o : Obj}, ((hp.push (PySem.W.kdv_tup [v])).push (HandSPX.excO C hp.objs.size)).get? b = some o → b ≠ dx := fun {b o} z => Nat.ne_of_lt (Nat.lt_of_lt_of_le (Heap.lt_size z) ds)
  have na : ∀ {b : Addr}, upd H1 (hp.objs.size + 1) (exo (hp.objs.size + 1) C none) b = none → b ≠ hp.objs.size + 1 := fun {b} n z => by
    rw [z, upd_same] at n
    cases n
  have U : Un (frs X.stack) [] (upd H1 (hp.objs.size + 1) (exo (hp.objs.size + 1) C none)) (upd (upd (upd H1 (hp.objs.size + 1) (exo (hp.objs.size + 1) C none)) dx (exd dx [(fld, y)])) (hp.objs.size + 1) (exo (hp.objs.size + 1) C (some dx))) ((hp.push (PySem.W.kdv_tup [v])).push (HandSPX.excO C hp.objs.size)) h3 := {
    keep := fun b o z n _ _ => kp b o (na n) z
    slot := fun b o z n _ _ => ⟨o.slots, kp b o (na n) z⟩
    free := fun b o z n _ => by rw [upd_ne (na n), upd_ne (nd z)]; exact n
    there := fun b o z _ => by
      by_cases hb : b = hp.objs.size + 1
      · exact ⟨_, by rw [hb]; exact e3⟩
      · exact ⟨o, kp b o hb z⟩
    tups := fun b xs z => by rw [upd_ne (at_ne eA z exo_tup), upd_ne (ne_of_none z ud)]; exact z
    frzs := fun b o u z => by rw [upd_ne (at_ne eA z exo_frz), upd_ne (ne_of_none z ud)]; exact z
    tbls := fun b ps z => ⟨#[], by rw [upd_ne (at_ne eA z exo_tbl), upd_ne (ne_of_none z ud), z]; simp⟩ }
  have hok3 : HOk X.prog X.w (upd (upd (upd H1 (hp.objs.size + 1) (exo (hp.objs.size + 1) C none)) dx (exd dx [(fld, y)])) (hp.objs.size + 1) (exo (hp.objs.size + 1) C (some dx))) h3 := fun b o z => by
    by_cases hb : b = hp.objs.size + 1
    · subst hb
      rw [upd_same] at z
      cases z
      exact exo_sup e3
    · rw [upd_ne hb] at z
      by_cases hd : b = dx
      · subst hd
        rw [upd_same] at z
        cases z
        exact exd_ok n3 (relO_put (fs := []) rv fun g => True.intro)
      · rw [upd_ne hd] at z
        exact (I2.hok b o z).stay (fun c u hc zz => kp c u (by
            rcases hc with hc | hc
            · rw [hc]; exact hb
            · exact at_ne eA hc exo_own) zz)
          (fun c hc => by rw [upd_ne (at_ne eA hc exo_own), upd_ne (ne_of_none hc ud)]; exact hc) (fun c xs hc => by rw [upd_ne (at_ne eA hc exo_tup), upd_ne (ne_of_none hc ud)]; exact hc)
  refine mk_end (fs := [(fld, y)]) (d1 := dr) (t1 := tk) (os1 := os) (g1 := gs) (raises_own Z.ex Z.ty) I1 sz up U hok3 rfl I1.bare upd_same (by rw [upd_ne de]; exact upd_same) hd1 ?_
  have ef : upd (del (upd (upd (upd H1 (hp.objs.size + 1) (exo (hp.objs.size + 1) C none)) dx (exd dx [(fld, y)])) (hp.objs.size + 1) (exo (hp.objs.size + 1) C (some dx))) (hp.objs.size + 1)) dx (.xd [(fld, y)]) = upd H1 dx (.xd [(fld, y)]) := by
    funext b
    by_cases hd : b = dx
    · rw [hd, upd_same, upd_same]
    · rw [upd_ne hd, upd_ne hd]
      by_cases hb : b = hp.objs.size + 1
      · rw [hb, del_same, hn]
      · rw [del_ne hb, upd_ne hb, upd_ne hd, upd_ne hb]
  rw [ef]
  exact q1 dx hd1
end
/-! ### raise C(a) -/
structure Exc1 (P : Program) (K : PySem.W.Frag) (T : Tb) (mg : Str → Option Value) (x : Str) (i : Nat) : Prop where
  ex : ∃ (C f : Addr) (fld : Str) (B newId initId : String) (bmB : List Value), T.exc i = some C ∧ T.fld i = [fld] ∧ mg x = some (.ref C) ∧ SupC K C fld B newId initId bmB ∧ PySem.W.findIn K (.ref C) "__init__" = some (some (.ref f)) ∧ PySem.W.typeIn K (.ref f) = some (.type "function") ∧ InitOk P K mg C f fld
def sRaiseF (i : Nat) (m : S → R D) : S → RS := fun s => (m s).then fun d s1 => .raise (.mk i [d]) s1
section
variable {T : Tb} {X : Cx} {Γ : Fls} {F : Fx} {a : Expr} {m : S → R D} {pos pos' : Pos}
theorem js_raiseF (i : Nat) {x : Str} {p : Pos} {j : Nat} (hc : X.calm = true) (h : Exc1 X.prog X.K T X.mg x i) (hr : Room j X.A) (hj : 1 ≤ j) (hg : Gl X x) (ha : JE T X Γ a .sh m) (hdb : (x == ("__debug__" : Str)) = false := by decide)
    (he : starEach [a] X.env = (false, eval a X.env) :: starEach [] X.env := by rfl) (hpl : (backTo pos' (starEach [] X.env)).any (·.1) = false := by rfl) : JS T X Γ F (.Raise (some (.Call (.Name x p) [a] [] pos')) none pos) (sRaiseF i m) := by
  obtain ⟨C, f, fld, B, newId, initId, bmB, hT, hF, hm, Z, iC, tI, io⟩ := h.ex
  refine ⟨fun W tk => PS.imp (L2.ps_raise hc tk (pmk_sup Z iC tI io (hr.mono hj) hg hm (pa_cons (ha.run W tk) pa_nil he) hdb he hpl)) fun E σ H ⟨Bs, g, st, I, p⟩ => ?_⟩
  refine te_then I.toSR p fun d s1 v H1 g1 q1 I1 r1 p1 => ?_
  refine ⟨v, rfl, fun dx hd => ?_⟩
  have st1 : Step g1 H1 g1 (upd H1 dx (.xd [(fld, v)])) := Step.new hd
  have I2 := I1.new (o := .xd [(fld, v)]) hd
  have r2 : Rp X.K T g1 (upd H1 dx (.xd [(fld, v)])) d v := Rp.step I1.wf st1 r1
  refine p1 _ _ σ _ _ (st1.trans (.frz I2.wf)) I2.frzAll ⟨C, hT, rfl, .inr ⟨by simp, dx, [v], rfl, ?_, ?_, ?_⟩⟩
  · rw [hF]
    exact upd_same
  · exact Rps.cons (Rp.step I2.wf (.frz I2.wf) r2) Rps.nil
  · rw [hF]
    rfl
end
end DL
set_option linter.all false
set_option Elab.async false
set_option maxRecDepth 100000
set_option maxHeartbeats 4000000
namespace DL
open PySem PySem.Spec PySem.Calls PyProof.Rows L2
open PySem.W (KitX InstAt Looks findObj looks_findIn looks_find looks_subIn)
/-! ### isinstance of a caught error that has a dict -/
section
variable {prog : Program} {w : World} {A : Around} {E : Value → Shared → Prop} {s : Shared} {K : PySem.W.Frag} {x D : Addr} {ox : Obj} {dd : Option Obj}
theorem fo_data {C : Addr} {n : Str} {u v : Value} (h1 : (PySem.W.clsIn K C).isSome = true) (h2 : PySem.W.findIn K (.ref C) n = some (some u)) (h3 : PySem.W.specialIn K u "__get__" = some (some v)) (h4 : PySem.W.takesIn K u = some true) : findObj K C dd n = some (.bind v u) := by
  obtain ⟨cd, h1⟩ := Option.isSome_iff_exists.mp h1
  unfold findObj
  rw [h1, Option.bind_some, h2, Option.bind_some]
  simp [h3, h4]
theorem kin_classD {Q : Option Value → Shared → Prop} (Z : ExcC K D) (X : K.In s.heap) (J : InstAt s.heap x ox D dd) (h : Q (some (.ref D)) { s with toks := s.toks + 1 }) : wpAny (model prog w) A (getAttr? (.ref x) "__class__") Q E s := by
  have fo : findObj K D dd "__class__" = some (.bind (.builtin "getset_descriptor.__get__") (.builtin "object.__class__")) := fo_data (by obtain ⟨cd, hc, _⟩ := PySem.W.any_some Z.hd; rw [hc]; rfl) Z.ha Z.hn Z.ht
  obtain ⟨hp, g, d, t, os⟩ := s
  have T0 := J.type (M := model prog w)
  have T1 := looks_findIn (M := model prog w) X Z.hg
  have T2 := looks_findIn (M := model prog w) X Z.hk
  have T3 := looks_find (M := model prog w) X J fo
  have sb : Looks (model prog w) hp (isInstance (.ref x) (.type "BaseException")) true := T0.andThen (looks_subIn X Z.hs)
  have b0 : (Value.builtin "BaseException.__getattribute__" == Value.builtin "object.__getattribute__") = false := by decide +kernel
  have b1 : (onTheHeap (Value.ref D) && Value.builtin "BaseException.__getattribute__" == Value.builtin "object.__getattribute__") = false := by rw [b0] <;> rfl
  have b2 : (false && onTheHeap (Value.builtin "BaseException.__getattribute__")) = false := by rfl
  unfold getAttr? getAttrBy? getAttrBy
  refine wpAny_bind (wpAny_mkText (wpAny_bind (wpAny_attempt (wpAny_holding (wpAny_bind (T0.at (wpAny_bind (T1.at ?_))))))))
  show wpAny _ _ (if (onTheHeap (Value.ref D) && Value.builtin "BaseException.__getattribute__" == Value.builtin "object.__getattribute__") = true then _ else _) _ _ _
  rw [b1, if_neg Bool.false_ne_true]; unfold getAttrByItsOwn hookBefore
  refine wpAny_bind ?_
  rw [if_pos (show onTheHeap (Value.ref D) = true by rfl)]
  refine T2.at (wpAny_bind (wpAny_attempt (wpAny_holding ?_)))
  unfold callGetattribute; rw [b2, if_neg Bool.false_ne_true]; unfold boundAndCalled
  rw [PySem.F.excAttr_ValueError.ga.bind (.ref x)]; refine wpAny_bind (wpAny_pure ?_)
  show wpAny _ _ (call (.builtin "BaseException.__getattribute__") [.ref x, .str "__class__" t]) _ _ _; refine wpAny_call (codeAny_call_builtin PySem.F.excAttr_ValueError.ga.plain PySem.F.entry_bexc_ga ?_)
  refine @PySem.W.check_slot (model prog w) _ _ ⟨hp, g, d, t + 1, os⟩ "BaseException.__getattribute__" "BaseException" "__getattribute__" (.ref x) [.str "__class__" t] [] _ (by decide +kernel) (by decide +kernel) sb (PySem.F.args_bexc_ga (.ref x) (.str "__class__" t)) ?_
  unfold Builtin.«object.__getattribute__»; refine wpAny_bind (wpAny_of_eq (a := ((Value.ref x : Value), [Value.str "__class__" t])) (by first | rfl | (simp only [slotArgs]; rfl)) ?_)
  refine wpAny_bind (wpAny_pure (wpAny_bind (T0.at (wpAny_bind (T3.at ?_)))))
  show wpAny _ _ (holding [Value.builtin "object.__class__"] (call (.builtin "getset_descriptor.__get__") [.builtin "object.__class__", .ref x, .ref D]) >>= ret) _ _ _
  refine wpAny_bind (wpAny_holding (wpAny_call (PySem.W.class_get (s := ⟨hp, g, d, t + 1, os⟩) (ox := ox) (od := dd) X J Z.hm (wpAny_pure ?_))))
  show wpAny _ _ (handedOut (.ref D)) _ _ _
  rw [PySem.W.handedOut_of (v := .ref D) rfl]
  first
    | exact wpAny_pure (wpAny_pure h)
    | exact wpAny_pure h
    | exact wpAny_pure (wpAny_bind (wpAny_pure (wpAny_pure h)))
theorem kitD (Z : ExcC K D) : KitX K (.ref x) (.ref D) (fun h => ∃ od, InstAt h x ox D (some od)) where
  ty := fun _ _ _ ⟨_, J⟩ => J.type
  it := fun _ _ X _ => by
    obtain ⟨cdD, hcD, _⟩ := PySem.W.any_some Z.hd
    unfold PySem.W.clsIn at hcD
    split at hcD
    case h_2 => cases hcD
    rename_i ho
    intro A' Q' E' s' k q
    unfold isType loadHead
    exact wpAny_bind (wpAny_loadPart (k _ _ (X _ _ ho)) (wpAny_pure q))
  ne := fun h tp dd its n sl X htp => by
    obtain ⟨cdD, hcD, _⟩ := PySem.W.any_some Z.hd
    refine Bool.eq_false_iff.mpr fun q => ?_
    obtain rfl : D = tp := Value.ref.inj (beq_iff_eq.mp q)
    unfold PySem.W.clsIn at hcD
    split at hcD
    case h_2 => cases hcD
    rename_i ho
    have z := (X _ _ ho).symm.trans htp
    cases z
  ca := fun X ⟨_, J⟩ k => kin_classD Z X J k
end
/-- isinstance(e, c), e the exception that the suite holds, with a dict at dd -/
def rIsF (K : PySem.W.Frag) (D a dd : Addr) : List V → Hp → VK → Prop := fun xs H Q => ∃ (c : V) (cv : Value) (b : Bool) (fs : List (Str × V)), xs = [.ref a, c] ∧ (∀ u, RelV c u → u = cv) ∧ PySem.W.kitOne K (.ref D) cv = some b ∧ H dd = some (.xd fs) ∧ Q (.bl b) H
theorem call_isF {X : Cx} {a D dd : Addr} {oe : Obj} {pn : List (Addr × Obj)} (Z : ExcC X.K D) (hz : Zc (.ref D) (some dd) oe) (hf : ∃ vs, oe.data = .fields vs) : CallR (X.suite a ((a, oe) :: pn)) (.builtin "isinstance") (rIsF X.K D a dd) := by
  intro pins s σ H xs us Q I r h
  obtain ⟨c, cv, b, fs, rfl, hcv, e, hd, q⟩ := h
  cases r with
  | cons rx rr =>
    cases rr with
    | cons rt rr =>
      cases rr
      cases rx
      obtain rfl := hcv _ rt
      obtain ⟨hget, _⟩ := I.pin (a, oe) (List.mem_append.mpr (.inl List.mem_cons_self))
      have hx : ObjOk X.prog X.w H s.heap dd (.xd fs) := I.hok dd _ hd
      obtain ⟨mA, hns, hr⟩ := hx
      obtain ⟨od, ho, hl⟩ := lookIn_ns hns
      obtain ⟨vs, hv⟩ := hf
      have J : InstAt s.heap a oe D (some od) := ⟨hget, hz.1, by unfold PySem.W.notCls; rw [hv] <;> rfl, by rw [hz.2]; exact ho⟩
      exact PySem.W.kia_one (kitD (ox := oe) Z) I.kIn ⟨od, J⟩ e (fun z => nomatch z) fun tk => ⟨.bl b, H, I.kept (t' := tk) fun _ _ z => z, rfl, q⟩
/-! ### except C as n: c = [txt, n.f, isinstance(n, t)] -/
def hSayF (cm : Nat → Bool) (i c : Nat) (txt : Str) (b : Bool) (r : Ex → S → RS) : Ex → S → RS := fun e s => if cm e.ix then (match e with
  | .mk _ [d] => if i < s.r.length then .next { s with r := ((s.r.set c (some (.lst [.str txt, d, .bl b])))).set i none } else .stuck
  | _ => .stuck) else r e s
def tSayF (K : PySem.W.Frag) (i c : Nat) (txt : Str) (b : Bool) (t : String) (fld : Str) (a : Addr) (cls : Value) (d : Option Addr) : TS := fun E σ H =>
  σ[i]? = some (some (.ref a)) ∧ ∃ (C dd : Addr) (fs : List (Str × V)) (v : V), cls = .ref C ∧ d = some dd ∧ H dd = some (.xd fs) ∧ fs.lookup fld = some v ∧ ExcC K C ∧ XfC K C ∧ PySem.W.findIn K (.ref C) fld = some none ∧ PySem.W.kitOne K (.ref C) (.type t) = some b ∧
    ∀ p, H p = none → E.nx (σ.set c (some (.ref p))) (upd H p (.lst [.str txt, v, .bl b]))
/-- what isinstance and the reading of a field tell of the caught ones -/
structure SayF (K : PySem.W.Frag) (T : Tb) (cm : Nat → Bool) (t : String) (b : Bool) (fld : Str) : Prop where
  ok : ∀ j C, T.exc j = some C → cm j = true → ExcC K C ∧ XfC K C ∧ PySem.W.findIn K (.ref C) fld = some none ∧ PySem.W.kitOne K (.ref C) (.type t) = some b ∧ T.fld j = [fld]
section
variable {T : Tb} {X : Cx} {F : Fx} {pos p1 p2 p3 p4 p5 p6 p7 q1 q2 : Pos} {r : Ex → S → RS} {hds : List ExceptHandler} {lp : Fls} {rm : Mo}
theorem su_sayF (i c : Nat) {n y tx xi fld : Str} {b : Bool} {t : String} {ki : Nat} {a : Addr} {oe : Obj} {cls : Value} {d : Option Addr} {pn : List (Addr × Obj)} (hN : X.N.Nodup) (hi : X.N[i]? = some n) (hv : Vis X.env.scope n) (hc : X.N[c]? = some y) (hx : Loc X.env.scope y) (hf : X.fn y = true ∨ X.env.scope.names.lookup y = some .local)
    (hd : (n == ("__debug__" : Str)) = false) (hcd : (n == ("__classdict__" : Str)) = false) (hx0 : xi = "isinstance") (hg : Gl X xi) (hm : X.mg xi = none) (hg' : Gl X (.ofString t)) (hm' : X.mg (.ofString t) = none) (hv' : bootBuiltins (.ofString t) = some (.type t)) (hn' : (.ofString t : Str) ≠ "__name__") (hdb : ((.ofString t : Str) == ("__debug__" : Str)) = false)
    (st1 : starEach [.Constant (.str tx) ki p1, .Attribute (.Name n q1) fld q2, .Call (.Name xi p2) [.Name n p3, .Name (.ofString t) p4] [] p5] X.env = (false, eval (.Constant (.str tx) ki p1) X.env) :: starEach [.Attribute (.Name n q1) fld q2, .Call (.Name xi p2) [.Name n p3, .Name (.ofString t) p4] [] p5] X.env)
    (st0 : starEach [.Attribute (.Name n q1) fld q2, .Call (.Name xi p2) [.Name n p3, .Name (.ofString t) p4] [] p5] X.env = (false, eval (.Attribute (.Name n q1) fld q2) X.env) :: starEach [.Call (.Name xi p2) [.Name n p3, .Name (.ofString t) p4] [] p5] X.env)
    (st2 : starEach [.Call (.Name xi p2) [.Name n p3, .Name (.ofString t) p4] [] p5] X.env = (false, eval (.Call (.Name xi p2) [.Name n p3, .Name (.ofString t) p4] [] p5) X.env) :: starEach [] X.env)
    (st3 : starEach [.Name n p3, .Name (.ofString t) p4] X.env = (false, eval (.Name n p3) X.env) :: starEach [.Name (.ofString t) p4] X.env) (st4 : starEach [.Name (.ofString t) p4] X.env = (false, eval (.Name (.ofString t) p4) X.env) :: starEach [] X.env)
    (hpl : (backTo p5 (starEach [.Name (.ofString t) p4] X.env)).any (·.1) = false) (hab : attributeBase (.Name n q1) fld X.env (eval (.Name n q1) X.env) = eval (.Name n q1) X.env)
    (hz : Zc cls d oe) (hv2 : ∃ vs, oe.data = .fields vs)
    (hsw : swapsWith (.List [.Constant (.str tx) ki p1, .Attribute (.Name n q1) fld q2, .Call (.Name xi p2) [.Name n p3, .Name (.ofString t) p4] [] p5] p6) (some (.Name y p7)) pos.line X.env = pure false) :
    PSs (X.suite a ((a, oe) :: pn)) [.Assign [.Name y p7] (.List [.Constant (.str tx) ki p1, .Attribute (.Name n q1) fld q2, .Call (.Name xi p2) [.Name n p3, .Name (.ofString t) p4] [] p5] p6) pos] (tSayF X.K i c tx b t fld a cls d) := by
  subst hx0
  refine ⟨fun pins s σ H E I h => ?_⟩
  obtain ⟨h1, C, dd, fs, v, rfl, rfl, hdd, hl, ec, xf, hno, kk, h4⟩ := h
  have e0 := call_isF (X := X) (a := a) (pn := pn) ec hz hv2
  have ea := pe_xf (X := X) (pn := pn) (pos := q2) xf hno hz hv2 (pe_var (X := X.suite a ((a, oe) :: pn)) (pos := q1) hi hv hd hcd) hab
  have e1 := pe_callB (X := X.suite a ((a, oe) :: pn)) (p := p2) (pos := p5) e0 hg hm (by decide +kernel) (pa_cons (pe_var (pos := p3) hi hv hd hcd) (pa_cons (pe_bltn (pos := p4) (v := .ty t) hg' hm' hv' rfl hn' hdb) pa_nil st4) st3) (by decide) (by decide) st3 hpl
  have e2 := ps_set (X := X.suite a ((a, oe) :: pn)) (pos := pos) (pos' := p7) hN hc hx (pe_lst (pos := p6) (pa_cons pe_str (pa_cons ea (pa_cons e1 pa_nil st2) st0) st1)) hsw hf
  refine (pss_one e2).run pins s σ H E I ?_
  refine ⟨_, h1, rfl, rfl, dd, fs, v, rfl, hdd, hl, ?_⟩
  refine ⟨_, h1, .ty t, .type t, b, fs, rfl, fun u hu => by cases hu; rfl, kk, hdd, by show 3 ≤ sizeLine; decide, fun p' hp => h4 p' hp⟩
theorem jh_sayF (i c : Nat) (b : Bool) (t : String) {x n y tx xi fld : Str} {ki : Nat} {cm : Nat → Bool} (C : Cat X T x cm) (Sa : SayF X.K T cm t b fld) (hr : JHs T X ⟨[], lp, rm⟩ hds r) (hN : X.N.Nodup) (hi : X.N[i]? = some n := by rfl) (hk : X.env.kindOf n = some .local := by rfl)
    (hv : Vis X.env.scope n := by first | exact Or.inl rfl | exact Or.inr (Or.inl rfl) | exact Or.inr (Or.inr rfl)) (hc : X.N[c]? = some y := by rfl) (hx : Loc X.env.scope y := by first | exact Or.inl rfl | exact Or.inr rfl) (hf : X.fn y = true ∨ X.env.scope.names.lookup y = some .local := by first | exact .inl rfl | exact .inr rfl | assumption)
    (hd : (n == ("__debug__" : Str)) = false := by decide) (hcd : (n == ("__classdict__" : Str)) = false := by decide) (hx0 : xi = "isinstance" := by rfl) (hg : Gl X xi := by rfl) (hm : X.mg xi = none := by first | rfl | assumption) (hg' : Gl X (.ofString t) := by rfl) (hm' : X.mg (.ofString t) = none := by first | rfl | assumption) (hv' : bootBuiltins (.ofString t) = some (.type t) := by decide +kernel)
    (hn' : (.ofString t : Str) ≠ "__name__" := by decide) (hdb : ((.ofString t : Str) == ("__debug__" : Str)) = false := by decide) (hic : i ≠ c := by decide)
    (st1 : starEach [.Constant (.str tx) ki p1, .Attribute (.Name n q1) fld q2, .Call (.Name xi p2) [.Name n p3, .Name (.ofString t) p4] [] p5] X.env = (false, eval (.Constant (.str tx) ki p1) X.env) :: starEach [.Attribute (.Name n q1) fld q2, .Call (.Name xi p2) [.Name n p3, .Name (.ofString t) p4] [] p5] X.env := by rfl)
    (st0 : starEach [.Attribute (.Name n q1) fld q2, .Call (.Name xi p2) [.Name n p3, .Name (.ofString t) p4] [] p5] X.env = (false, eval (.Attribute (.Name n q1) fld q2) X.env) :: starEach [.Call (.Name xi p2) [.Name n p3, .Name (.ofString t) p4] [] p5] X.env := by rfl)
    (st2 : starEach [.Call (.Name xi p2) [.Name n p3, .Name (.ofString t) p4] [] p5] X.env = (false, eval (.Call (.Name xi p2) [.Name n p3, .Name (.ofString t) p4] [] p5) X.env) :: starEach [] X.env := by rfl)
    (st3 : starEach [.Name n p3, .Name (.ofString t) p4] X.env = (false, eval (.Name n p3) X.env) :: starEach [.Name (.ofString t) p4] X.env := by rfl) (st4 : starEach [.Name (.ofString t) p4] X.env = (false, eval (.Name (.ofString t) p4) X.env) :: starEach [] X.env := by rfl)
    (hpl : (backTo p5 (starEach [.Name (.ofString t) p4] X.env)).any (·.1) = false := by rfl) (hab : attributeBase (.Name n q1) fld X.env (eval (.Name n q1) X.env) = eval (.Name n q1) X.env := by rfl)
    (hsw : swapsWith (.List [.Constant (.str tx) ki p1, .Attribute (.Name n q1) fld q2, .Call (.Name xi p2) [.Name n p3, .Name (.ofString t) p4] [] p5] p6) (some (.Name y p7)) pos.line X.env = pure false := by rfl) {np p8 : Pos} :
    JHs T X ⟨[], lp, rm⟩ (.ExceptHandler (some (.Name x np)) (some n) [.Assign [.Name y p7] (.List [.Constant (.str tx) ki p1, .Attribute (.Name n q1) fld q2, .Call (.Name xi p2) [.Name n p3, .Name (.ofString t) p4] [] p5] p6) pos] p8 :: hds) (hSayF cm i c tx b r) := by
  obtain ⟨l, cl, go⟩ := hr.ex
  refine ⟨_, .named C.nm hi hk (fun a oe cls d pn hz hv2 => su_sayF (b := b) i c hN hi hv hc hx hf hd hcd hx0 hg hm hg' hm' hv' hn' hdb st1 st0 st2 st3 st4 hpl hab hz hv2 hsw) cl, fun W B g σ H st e cls dd E I x p => ?_⟩
  cases e with
  | mk j fs =>
    have x' := x
    obtain ⟨C', hC, rfl, x2⟩ := x'
    unfold hSayF at p
    refine ⟨cm j, C.cm j C' hC, fun hb a ha => ?_, fun hb => ?_⟩
    · rw [show (Ex.mk j fs).ix = j from rfl, hb, if_pos rfl] at p
      match fs, x2, p with
      | [], _, p => exact p.elim
      | _ :: _ :: _, _, p => exact p.elim
      | [dv], x2, p =>
        obtain ⟨k1, k2, k3, k4, k5⟩ := Sa.ok j C' hC hb
        rcases x2 with ⟨ne, _⟩ | ⟨_, dx, vs, hdn, hxd, rs, _⟩
        · cases ne
        obtain ⟨v, w', rfl, rv, rw'⟩ := rs
        have ew : w' = [] := rw'
        subst ew
        rw [k5] at hxd
        dsimp only at p
        split at p
        case isFalse => exact p.elim
        rename_i li
        rw [← I.len] at li
        refine ⟨by simp [withName, li], C', dx, [(fld, v)], v, rfl, hdn, hxd, by simp [List.lookup], k1, k2, k3, k4, fun q hq => ?_⟩
        have I2 := (I.toSR.new (o := .lst [.str tx, v, .bl b]) hq).add upd_same (I.wf.noto hq)
        have st1 : Step g H (g.add q) (upd H q (.lst [.str tx, v, .bl b])) := (Step.new hq).add hq
        have I3 := I2.set (i := c) (d := .lst [.str tx, dv, .bl b]) (v := .ref q) rfl (by
          simp only [Rp]
          exact ⟨q, _, rfl, .inr rfl, upd_same, Rps.cons rp_str (Rps.cons (Rp.step I.wf st1 rv) (Rps.cons rp_bl Rps.nil))⟩)
        have I4 := I3.wipe (vs := [i]) fun _ _ => rfl
        refine p _ _ _ st1 ?_
        have es : ((withName (some i) a σ).set c (some (.ref q))).set i none = L2.wipe (σ.set c (some (.ref q))) [i] := by
          show ((σ.set i (some (.ref a))).set c (some (.ref q))).set i none = ((σ.set c (some (.ref q))).set i none)
          rw [List.set_comm _ _ hic, List.set_set, List.set_comm _ _ hic.symm]
        rw [es]
        exact I4
    · rw [show (Ex.mk j fs).ix = j from rfl, hb] at p
      exact go W B g σ H st _ _ dd E I x p
end
/-! ### makers of facts -/
end DL
set_option linter.all false
set_option Elab.async false
set_option maxRecDepth 100000
set_option maxHeartbeats 4000000
namespace DL
open PySem PySem.Spec PySem.Calls PyProof.Rows L2
/-! ### statements never come to -/
/-! ### own.remove(e), of ints -/
/-! ### tuple(range(n)): a tuple that has no dict -/
/-! ### facts of an exception with its own __init__ -/
def inSt : Stmt → Stmt
  | .ClassDef (body := b) .. => b.getD 0 (.Pass ⟨0, 0, 0, 0⟩)
  | s => s
section
variable {P : Program} {K : PySem.W.Frag} {T : Tb} {mg : Str → Option Value} {h : Heap} {x : Str}
theorem init_ok {C f cda cc : Addr} {fld : Str} {B newId initId : String} {bmB : List Value} {qual : Str} {st : Stmt} {kV doc pm ct oc ccl cl : Value} {an od cdd cld : Option Addr} {osl ccs csl : Array (Option Value)} {vs : Array Value} {file : Str} {tf : Tok} {cd : ClassData} {sf y : Str} {p0 p1 p2 p3 p4 p5 p6 p7 p8 p9 : Pos} {ar : Arg}
    (Z : SupC K C fld B newId initId bmB) (hsup : mg "super" = none)
    (lk : K.lookup f = some ⟨oc, od, .func (PySem.W.ksFn "__init__" qual (defArgs st) (defBody st) (defScope st) .none kV doc pm an (.ref cda) ct cc), osl⟩) (hcd : PySem.W.codeIn K (.ref cda) qual = true) (lc : K.lookup cda = some ⟨ccl, cdd, .fields vs, ccs⟩) (lv : vs[2]? = some (.str file tf)) (lf : (P.main.file == file) = true)
    (lx : K.lookup cc = some ⟨cl, cld, .cell (some (.ref C)), csl⟩) (lC : PySem.W.clsIn K C = some cd) (top : (P.main.scope.names.lookup ("super" : Str)).isSome = false)
    (hb : defBody st = [.Expr (.Call (.Attribute (.Call (.Name "super" p0) [] [] p1) "__init__" p2) [.Name y p3] [] p4) p5, .Assign [.Attribute (.Name sf p6) fld p7] (.Name y p8) p9])
    (hpr : ((defArgs st).posonlyargs ++ (defArgs st).args).head? = some ar := by rfl) (har : ar.arg = sf := by rfl) (hyn : y ≠ sf := by decide)
    (k1 : (defScope st).names.lookup ("super" : Str) = some .globalImplicit := by rfl) (k2 : (defScope st).names.lookup ("__class__" : Str) = some .free := by rfl) (k3 : (defScope st).names.lookup sf = some .local := by rfl) (k3y : (defScope st).names.lookup y = some .local := by rfl) (k4 : (defScope st).kind = .function := by rfl) (k5 : (defScope st).isCoroutine = false := by rfl) (k6 : (defScope st).isGenerator = false := by rfl)
    (k7 : ∀ x ∈ (defScope st).names, x.2 ≠ .cell := by decide +kernel)
    (hsd : (sf == ("__debug__" : Str)) = false := by decide) (hyd : (y == ("__debug__" : Str)) = false := by decide)
    (c1 : ∀ env : Env, env.scope = defScope st → interactive env = false := by intro env hh; unfold interactive; rw [hh] <;> rfl)
    (c2 : ∀ env : Env, swapsWith (.Call (.Attribute (.Call (.Name "super" p0) [] [] p1) "__init__" p2) [.Name y p3] [] p4) none p5.line env = pure false := by intro env; rfl)
    (c3 : ∀ env : Env, swapsWith (.Name y p8) (some (.Attribute (.Name sf p6) fld p7)) p9.line env = pure false := by intro env; rfl)
    (c4 : ∀ env : Env, ∃ pl : Sem Bool, eval (.Call (.Attribute (.Call (.Name "super" p0) [] [] p1) "__init__" p2) [.Name y p3] [] p4) env = (do
      let ov ← attributeBase (.Call (.Name "super" p0) [] [] p1) "__init__" env (eval (.Call (.Name "super" p0) [] [] p1) env)
      standAt p2.atName
      let (f, first) ← holding [ov] (getMethod ov "__init__" pl)
      callWith p4 f first (backTo p4 (starEach [.Name y p3] env)) []) := by intro env; exact ⟨_, rfl⟩)
    (c5 : ∀ env : Env, starEach [.Name y p3] env = (false, eval (.Name y p3) env) :: starEach [] env := by intro env; rfl)
    (c6 : ∀ env : Env, (backTo p4 (starEach [] env)).any (·.1) = false := by intro env; rfl) (c7 : ∀ env : Env, backTo p4 ((false, eval (.Name y p3) env) :: starEach [] env) = (false, eval (.Name y p3) env) :: [] := by intro env; rfl)
    (bnd : ∀ (s : Shared) (e : Addr) (v : Value), BindsTo s (PySem.W.ksFn "__init__" qual (defArgs st) (defBody st) (defScope st) .none kV doc pm an (.ref cda) ct cc) ⟨[.ref e, v], []⟩ [(sf, .ref e), (y, v)] := by intro s e v; exact .of_eq rfl) : InitOk P K mg C f fld :=
  fun w A R base hp gs d t os e t0 v M kb eb he hroom hq => sup_init M kb eb he Z hsup lk hcd lc lv lf lx lC hpr har hyn k1 k2 k3 k3y k4 k5 k6 k7 top hb hsd hyd (fun env q => c1 env (by rw [q])) (fun env _ => c2 env) (fun env _ => c3 env) (fun env _ => c4 env) c5 c6 c7 (bnd _ e v) hroom hq
theorem exc1_mk {C f : Addr} {fld : Str} {B newId initId : String} {bmB : List Value} {i : Nat} (X : K.In h) (G : h.Ns mainGlobals mg) (a : PySem.W.nsIn K mainGlobals x = some (some (.ref C))) (hT : T.exc i = some C) (hF : T.fld i = [fld]) (Z : SupC K C fld B newId initId bmB)
    (iC : PySem.W.findIn K (.ref C) "__init__" = some (some (.ref f))) (tI : PySem.W.typeIn K (.ref f) = some (.type "function")) (io : InitOk P K mg C f fld) : Exc1 P K T mg x i :=
  ⟨C, f, fld, B, newId, initId, bmB, hT, hF, PySem.W.mg_of X G a, Z, iC, tI, io⟩
end
end DL
set_option linter.all false
set_option Elab.async false
set_option maxRecDepth 100000
set_option maxHeartbeats 4000000
namespace DL
open PySem PySem.Spec PyProof.Rows L2
/-! ### comprehensions that walk over an own list: nothing writes into it meanwhile -/
structure WlkQ (K : PySem.W.Frag) (T : Tb) (g : Gh) (H : Hp) (J : It) (ds : List D) : Prop where
  go : ∀ i d g' H', QStep g H g' H' → WF g' H' → ds[i]? = some d → J.go i H'
  stop : ∀ g' H', QStep g H g' H' → WF g' H' → J.stop ds.length H'
  yld : ∀ i d g' H' x H'', QStep g H g' H' → WF g' H' → ds[i]? = some d → J.yld i H' x H'' → (H'' = H' ∧ Rp K T g' H' d x) ∨ (∃ p vs, H' p = none ∧ H'' = upd H' p (.tup vs) ∧ Rp K T g' H'' d x)
def PostIQ (K : PySem.W.Frag) (T : Tb) (Γ : Fls) (σ : L2.St) (g : Gh) (H : Hp) (W : WX) (Q : It → Hp → Prop) : R (List D) → Prop
  | .ok ds st => ∀ J H' g', QStep g H g' H' → SR K T Γ g' σ H' st → WlkQ K T g' H' J ds → Q J H'
  | .raise e st => PostX K T σ g H W e st
  | .stuck => False
def tiQ (K : PySem.W.Frag) (T : Tb) (Γ : Fls) (W : WX) (f : S → R (List D)) : TI := fun σ H R => ∃ g st, SR K T Γ g σ H st ∧ PostIQ K T Γ σ g H W R (f st)
structure JIQ (T : Tb) (X : Cx) (Γ : Fls) (tg e : Expr) (f : S → R (List D)) : Prop where
  run : ∀ W, Takes X W → PI X tg e (tiQ X.K T Γ W f)
theorem wlkQ_l {K : PySem.W.Frag} {T : Tb} {g : Gh} {H : Hp} {a : Addr} {vs : List V} {ds : List D} (wf : WF g H) (h : ∀ g' H', QStep g H g' H' → SqL K H' a vs) (r : Rps K T g H ds vs) : WlkQ K T g H (Itl K a) ds where
  go := fun i d g' H' s w e => by
    obtain ⟨v, q, _⟩ := r.get e
    exact ⟨vs, v, h g' H' s, q⟩
  stop := fun g' H' s w => ⟨vs, h g' H' s, by rw [r.length]; exact Nat.le_refl _⟩
  yld := fun i d g' H' x H'' s w e y => by
    obtain ⟨v, q, rv⟩ := r.get e
    obtain ⟨e1, y⟩ := y
    have := (y vs (h g' H' s)).symm.trans q
    cases this
    exact .inl ⟨e1, Rp.step wf s.toStep rv⟩
section
variable {T : Tb} {X : Cx} {Γ : Fls}
theorem ji_own (i : Nat) {tg : Expr} {x : Str} {pos : Pos} (hN : X.N[i]? = some x := by rfl) (hv : Vis X.env.scope x := by first | exact Or.inl rfl | exact Or.inr (Or.inl rfl) | exact Or.inr (Or.inr rfl)) (hd : (x == ("__debug__" : Str)) = false := by decide)
    (hcd : (x == ("__classdict__" : Str)) = false := by decide) (hf : fl Γ i = .o1 := by rfl) : JIQ T X Γ tg (.Name x pos) (i1 seqI (eVar i)) := by
  refine ⟨fun W tk => PI.imp (pi_seq (pe_var hN hv hd hcd)) fun σ H R ⟨g, st, I, p⟩ => ?_⟩
  unfold i1 eVar at p
  cases e : st.r.getD i none with
  | none =>
    rw [e] at p
    exact p.elim
  | some d =>
    rw [e] at p
    obtain ⟨v, h1, h2⟩ := I.slot e
    rw [hf] at h2
    obtain ⟨ad, vs, ds, e1, e2, e3, h3, h4⟩ := h2
    subst e1 e2
    refine ⟨_, h1, ad, rfl, .inl ⟨⟨vs, .inl (.inl h3)⟩, p _ H g (.refl g H) I (wlkQ_l I.wf (fun g' H' s => .inl (.inl ?_)) h4)⟩⟩
    rw [s.qo i ad (by rw [e3]; exact List.mem_cons_self)]
    exact h3
end
section
variable {T : Tb} {X : Cx} {Γ : Fls} {e a b c tg elt iter : Expr} {m m1 m2 m3 : Mo} {f f1 f2 f3 fe : S → R D} {pos p2 : Pos} {es rest ifs : List Expr} {k1 k2 ct : S → R Bool} {fs fi : S → R (List D)} {is : List Nat} {t : Tg}
theorem lcQ_inv {own : List (Str × Nat)} {W : WX} (tk : Takes X W) (hown : own.map (·.2) = t.vs) (hf : ∀ i ∈ t.vs, fl Γ i = .sh)
    {σ : L2.St} {H1 : Hp} {g1 : Gh} {ds : List D} {s1 : S} {J : It} {ys : List D} {mf : List Cell} (I1 : SR X.K T Γ g1 σ H1 s1) (wl : WlkQ X.K T g1 H1 J ds) (hz : ds.length ≤ sizeLine)
    (e : lcL t ct fe s1.r ds s1.m = some (ys, mf)) {Q : VK} (q : PostE X.K T Γ σ g1 H1 .f1 W Q (.ok (.lst ys) ⟨s1.r, mf⟩)) (Dd : Addr) (hD : H1 Dd = none) :
    ∃ Wi : Nat → Nat → Hp → Prop, (∃ m, Wi 0 m (upd H1 Dd (.lst []))) ∧ ∀ i m H, Wi i m H →
      (J.stop i H ∧ Q (.ref Dd) H) ∨ (J.go i H ∧ ∃ Nx : Hp → Prop, (∀ H', Nx H' → ∃ m', m' < m ∧ Wi (i + 1) m' H') ∧ ∀ x H', J.yld i H x H' → tgR X.K T t x (wipe σ (own.map (·.2))) H' fun σ2 H2 => wipe σ2 (own.map (·.2)) = wipe σ (own.map (·.2)) ∧ tt X.K T Γ (fun _ _ _ _ => False) ct σ2 H2 fun b H3 =>
        if b = true then te X.K T Γ .sh (fun _ _ _ _ => False) fe σ2 H3 fun y H4 => ∃ acc, H4 Dd = some (.lst acc) ∧ acc.length < sizeLine ∧ Nx (upd H4 Dd (.lst (acc ++ [y]))) else Nx H3) := by
  rw [hown]
  let Inv : Nat → Hp → Prop := fun i H => ∃ g mc acc vs rs, QStep g1 H1 g H ∧ SR X.K T Γ g σ H ⟨s1.r, mc⟩ ∧ Tmp g H Dd ∧ H Dd = some (.lst vs) ∧ Rps X.K T g H acc vs ∧ acc.length ≤ i ∧ lcL t ct fe s1.r (ds.drop i) mc = some (rs, mf) ∧ acc ++ rs = ys
  refine ⟨fun i m H => i ≤ ds.length ∧ m = ds.length - i ∧ Inv i H, ⟨ds.length, Nat.zero_le _, by simp, ?_⟩, ?_⟩
  · refine ⟨g1, s1.m, [], [], ys, ⟨.new hD, rfl, fun i b hb => ?_⟩, I1.new hD, ⟨⟨[], upd_same⟩, I1.wf.nota hD, I1.wf.noto hD⟩, upd_same, Rps.nil, Nat.le_refl _, by rw [List.drop_zero]; exact e, rfl⟩
    obtain ⟨o, eo, _⟩ := I1.wf.ot b (.inl ⟨i, hb⟩)
    rw [upd_ne (ne_of_none eo hD)]
  · rintro i m H ⟨hi, rfl, g, mc, acc, vs, rs, s, I, tm, eD, ra, hl, el, ey⟩
    by_cases hlt : i < ds.length
    · -- a turn
      have ed : ds.drop i = ds[i] :: ds.drop (i + 1) := (List.drop_eq_getElem_cons hlt)
      have eg : ds[i]? = some ds[i] := List.getElem?_eq_getElem hlt
      refine .inr ⟨wl.go i _ g H s I.wf eg, Inv (i + 1), fun H' h' => ⟨ds.length - (i + 1), by omega, hlt, rfl, h'⟩, fun x H' y => ?_⟩
      rw [ed] at el
      unfold lcL at el
      -- the item has come
      have hy : ∃ sH : QStep g1 H1 g H', SR X.K T Γ g σ H' ⟨s1.r, mc⟩ ∧ Tmp g H' Dd ∧ H' Dd = some (.lst vs) ∧ Rps X.K T g H' acc vs ∧ Rp X.K T g H' ds[i] x := by
        rcases wl.yld i _ g H x H' s I.wf eg y with ⟨e1, r⟩ | ⟨p, ws, hp, e1, r⟩
        · subst e1
          exact ⟨s, I, tm, eD, ra, r⟩
        · subst e1
          have st2 : Step g H g (upd H p (.tup ws)) := .new hp
          exact ⟨s.trans ⟨st2, rfl, fun i b hb => by
            obtain ⟨o, eo, _⟩ := I.wf.ot b (.inl ⟨i, hb⟩)
            rw [upd_ne (ne_of_none eo hp)]⟩, I.new hp, tm.step st2, by rw [upd_ne (ne_of_none eD hp)]; exact eD, ra.step I.wf st2, r⟩
      obtain ⟨s', I', tm', eD', ra', rx⟩ := hy
      cases ea : asgD t ds[i] ⟨wipeD s1.r t.vs, mc⟩ with
      | none => rw [ea] at el; cases el
      | some s2 =>
        rw [ea] at el
        simp only at el
        refine tgR_of (I'.wipe hf) rx hf ea fun σ2 I2 hw => ⟨?_, ?_⟩
        · rw [hw t.vs fun _ h => h, wipe_wipe σ t.vs t.vs fun _ h => h]
        · refine ⟨g, s2, I2, ?_⟩
          cases ec : ct s2 with
          | raise _ _ => rw [ec] at el; cases el
          | stuck => rw [ec] at el; cases el
          | ok b s3 =>
            rw [ec] at el
            intro H3 g3 q3 I3
            cases b with
            | false =>
              simp only at el
              rw [if_neg Bool.false_ne_true]
              have eD3 := q3.fr _ _ eD' tm'.no
              exact ⟨g3, s3.m, acc, vs, rs, s'.trans q3, I'.re (q3.toStep.sub I'.wf) I3.wf q3.qf q3.qo I3.me, tm'.step q3.toStep, eD3, ra'.step I'.wf q3.toStep, Nat.le_succ_of_le hl, el, ey⟩
            | true =>
              simp only at el
              rw [if_pos rfl]
              refine ⟨g3, s3, I3, ?_⟩
              cases ef : fe s3 with
              | raise _ _ => rw [ef] at el; cases el
              | stuck => rw [ef] at el; cases el
              | ok yd s4 =>
                rw [ef] at el
                simp only at el
                cases er : lcL t ct fe s1.r (ds.drop (i + 1)) s4.m with
                | none => rw [er] at el; cases el
                | some pr =>
                  rw [er] at el
                  obtain ⟨ys', m'⟩ := pr
                  simp only [Option.some.injEq, Prod.mk.injEq] at el
                  obtain ⟨el1, el2⟩ := el
                  subst el1 el2
                  intro v H4 g4 q4 I4 rv
                  have q34 := q3.trans q4
                  have eD4 := q34.fr _ _ eD' tm'.no
                  have tm4 := tm'.step q34.toStep
                  have ra4 := ra'.step I'.wf q34.toStep
                  refine ⟨vs, eD4, by rw [ra'.length]; omega, ?_⟩
                  refine ⟨g4, s4.m, acc ++ [yd], vs ++ [v], ys', tm4.q hD (s'.trans q34) I1.wf, tm4.sr (I'.re (q34.toStep.sub I'.wf) I4.wf q34.qf q34.qo I4.me), ⟨⟨_, upd_same⟩, tm4.na, tm4.no⟩, upd_same, (ra4.append (.one rv)).sub tm4.sub, by rw [List.length_append]; simp; omega, er, by rw [List.append_assoc]; exact ey⟩
    · have hi' : i = ds.length := by omega
      subst hi'
      refine .inl ⟨wl.stop g H s I.wf, ?_⟩
      rw [List.drop_length] at el
      simp only [lcL, Option.some.injEq, Prod.mk.injEq] at el
      obtain ⟨e1, e2⟩ := el
      subst e1 e2
      rw [List.append_nil] at ey
      subst ey
      exact q _ H g s I ⟨Dd, vs, rfl, eD, ⟨tm.na, tm.no, hD⟩, ra⟩
theorem je_lcQ {scope : Scope} (own : List (Str × Nat)) (hc : X.calm = true) (hN : X.N.Nodup) (hi : JIQ T X Γ tg iter fi) (ok : BlkOk X.N X.env.scope scope own)
    (hg : ∀ (s : Shared) (H : Hp) (C : Addr) (cl : List (Str × Addr)) (fp : List Addr), JG T (X.blk s H scope (compEnvC scope cl C X.env) fp) tg t) (ht : ∀ (s : Shared) (H : Hp) (C : Addr) (cl : List (Str × Addr)) (fp : List Addr), JTs T (X.blk s H scope (compEnvC scope cl C X.env) fp) Γ ifs ct)
    (he : ∀ (s : Shared) (H : Hp) (C : Addr) (cl : List (Str × Addr)) (fp : List Addr), JE T (X.blk s H scope (compEnvC scope cl C X.env) fp) Γ elt .sh fe) (hown : own.map (·.2) = t.vs := by rfl) (hf : ∀ i ∈ t.vs, fl Γ i = .sh := by decide) (hs : ∀ x, foldedSetIterable iter X.env x = pure x := by intro _; rfl) :
    JE T X Γ (.ListComp elt [⟨tg, iter, ifs, 0⟩] scope pos) .f1 (eLc fi t ct fe) := by
  refine ⟨fun W tk => PE.imp (pe_lc (g := tgR X.K T t) (tt := tt X.K T Γ (fun _ _ _ _ => False) ct) (te := te X.K T Γ .sh (fun _ _ _ _ => False) fe) hc hN (hi.run W tk) ok (fun s H C cl fp => (hg s H C cl fp).run) (fun s H C cl fp => (ht s H C cl fp).run _ takes0) (fun s H C cl fp => (he s H C cl fp).run _ takes0) hs) fun σ H Q ⟨g, st, I, p⟩ => ?_⟩
  refine ⟨g, st, I, ?_⟩
  unfold eLc at p
  cases e : fi st with
  | raise _ _ => rw [e] at p; exact p
  | stuck => rw [e] at p; exact p
  | ok ds s1 =>
    rw [e] at p
    intro J H1 g1 q1 I1 wl Dd hD
    simp only [R.bind] at p
    split at p
    · split at p
      · rename_i ys mf el
        exact lcQ_inv tk hown hf I1 wl (by assumption) el (p.shift q1) Dd hD
      · exact p.elim
    · exact p.elim
end
end DL
set_option linter.all false
set_option Elab.async false
set_option maxRecDepth 100000
set_option maxHeartbeats 2000000
namespace DL
open PySem PySem.Spec PyProof.Rows L2
/-! ### join of a cell -/
end DL
set_option linter.all false
set_option Elab.async false
set_option maxRecDepth 100000
set_option maxHeartbeats 4000000
namespace DL
open PySem PySem.Spec PyProof.Rows L2
/-! ### comprehensions with two fors -/
/-! inner walks that look at no heap -/
def WlkA (K : PySem.W.Frag) (T : Tb) (J : It) (ds : List D) : Prop := ∀ g H, Wlk K T g H J ds
def PostIA (K : PySem.W.Frag) (T : Tb) (Γ : Fls) (σ : L2.St) (g : Gh) (H : Hp) (W : WX) (Q : It → Hp → Prop) : R (List D) → Prop
  | .ok ds st => ∀ J H' g', QStep g H g' H' → SR K T Γ g' σ H' st → WlkA K T J ds → Q J H'
  | .raise e st => PostX K T σ g H W e st
  | .stuck => False
theorem PostIA.shift {K : PySem.W.Frag} {T : Tb} {Γ : Fls} {σ : L2.St} {g g' : Gh} {H H' : Hp} {W : WX} {Q : It → Hp → Prop} {r : R (List D)} (s : QStep g H g' H') (h : PostIA K T Γ σ g H W Q r) : PostIA K T Γ σ g' H' W Q r := by
  cases r with
  | ok d st => exact fun J H2 g2 s2 r2 p => h J H2 g2 (s.trans s2) r2 p
  | raise e st => exact PostX.shift s.toStep h
  | stuck => exact h
end DL
set_option linter.all false
set_option Elab.async false
set_option maxRecDepth 100000
set_option maxHeartbeats 4000000
namespace DL
open PySem PySem.Spec PySem.Calls PyProof.Rows L2
/-! ### two roads for one expression -/
section
variable {T : Tb} {X : Cx} {Γ : Fls} {e o a : Expr} {m : Mo} {f f1 f2 F fo : S → R D} {pos apos cpos p2 : Pos}
theorem JE.or (h1 : JE T X Γ e m f1) (h2 : JE T X Γ e m f2) (h : ∀ st, F st = f1 st ∨ F st = f2 st) : JE T X Γ e m F :=
  ⟨fun W tk => ⟨fun pins s σ H Q I ⟨g, st, I', p⟩ => (h st).elim (fun z => (h1.run W tk).run pins s σ H Q I ⟨g, st, I', z ▸ p⟩) fun z => (h2.run W tk).run pins s σ H Q I ⟨g, st, I', z ▸ p⟩⟩⟩
end
/-! ### a slice of a tuple, not the whole: a new tuple without a dict -/
/-! ### len(set(x)), of ints -/
end DL
set_option linter.all false
set_option Elab.async false
set_option maxRecDepth 100000
set_option maxHeartbeats 4000000
namespace DL
open PySem PySem.Spec PySem.Calls PyProof.Rows L2
/-! ### x = own.pop() -/
end DL
set_option linter.all false
set_option Elab.async false
set_option maxRecDepth 100000
set_option maxHeartbeats 4000000
namespace DL
open PySem PySem.Spec PySem.Calls PyProof.Rows L2
/-! ### d[k], own = v, [..] -/
end DL
set_option linter.all false
set_option Elab.async false
set_option maxRecDepth 100000
set_option maxHeartbeats 4000000
namespace DL
open PySem PySem.Spec PySem.Calls PyProof.Rows L2
/-! ### sorted(set(xs)), of tuples of ints of any lengths -/
/-! its meaning -/
end DL
set_option linter.all false
set_option Elab.async false
set_option maxRecDepth 100000
set_option maxHeartbeats 4000000
namespace DL
open PySem PySem.Spec PySem.Calls PyProof.Rows L2
/-! ### sorted(xs), min(xs) of data that are alike (tuples of tuples .. of ints) -/
def encD (d : D) : PyData := (toP d).getD .none
def encB (b : D × V) : PyData := encD b.1
theorem each_of {β : Type} {f : β → V} : ∀ {bs : List β} {us : List Value}, Vals (bs.map f) us → PySem.W.EachIs (fun (u : Value) (b : β) => RelV (f b) u) us bs
  | [], _, .nil => .nil
  | b :: bs, _, .cons h t => .cons h (each_of t)
theorem each_back {β : Type} {f : β → V} : ∀ {bs : List β} {us : List Value}, PySem.W.EachIs (fun (u : Value) (b : β) => RelV (f b) u) us bs → Vals (bs.map f) us
  | [], _, .nil => .nil
  | b :: bs, _, .cons h t => .cons h (each_back t)
theorem each_reads {X : Cx} {pins : List (Addr × Obj)} {σ : L2.St} {H : Hp} {s : Shared} (I : L2.Inv X pins σ H s) : ∀ {bs : List (D × V)} {us : List Value}, Vals (bs.map (·.2)) us → (∀ b ∈ bs, Dp X.K H b.2 (encB b)) → PySem.W.EachIs (fun (u : Value) (b : D × V) => ∃ as, Reads s.heap u (encB b) as) us bs
  | [], _, .nil, _ => .nil
  | b :: bs, _, .cons h t, hd => .cons (Dp.reads I _ _ _ (hd b List.mem_cons_self) h) (each_reads I t fun x hx => hd x (List.mem_cons_of_mem _ hx))
/-! meaning -/
def ltE (a b : D) : Bool := PySem.W.dataLt (encD a) (encD b)
def isTupP : PyData → Bool
  | .tuple (_ :: _) => true
  | _ => false
def okD (ds : List D) : Bool := (ds.all fun d => (toP d).isSome && isTupP (encD d) && decide ((encD d).depth ≤ 30)) && ds.all fun d => ds.all fun e => PySem.W.alike (encD d) (encD e)
theorem okD_parts {ds : List D} (h : okD ds = true) : (∀ d ∈ ds, toP d = some (encD d) ∧ (∃ x r, encD d = .tuple (x :: r)) ∧ (encD d).depth ≤ 30) ∧ ∀ d ∈ ds, ∀ e ∈ ds, PySem.W.alike (encD d) (encD e) = true := by
  unfold okD at h
  rw [Bool.and_eq_true, List.all_eq_true, List.all_eq_true] at h
  refine ⟨fun d hd => ?_, fun d hd e he => ?_⟩
  · have := h.1 d hd
    rw [Bool.and_eq_true, Bool.and_eq_true, decide_eq_true_eq] at this
    obtain ⟨⟨a, b⟩, c⟩ := this
    refine ⟨?_, ?_, c⟩
    · unfold encD
      cases q : toP d with
      | none => rw [q] at a; cases a
      | some p => rfl
    · cases q : encD d <;> rw [q] at b <;> try (cases b)
      rename_i xs
      cases xs with
      | nil => cases b
      | cons x r => exact ⟨x, r, rfl⟩
  · exact List.all_eq_true.1 (h.2 d hd) e he
theorem rps_zip {K : PySem.W.Frag} {T : Tb} {g : Gh} {H : Hp} : ∀ {ds : List D} {vs : List V}, Rps K T g H ds vs → (ds.zip vs).map (·.1) = ds ∧ (ds.zip vs).map (·.2) = vs ∧ ∀ b ∈ ds.zip vs, b.1 ∈ ds ∧ Rp K T g H b.1 b.2
  | [], vs, h => by
    simp only [Rps] at h
    subst h
    simp
  | d :: ds, vs, h => by
    simp only [Rps] at h
    obtain ⟨v, r, rfl, h1, h2⟩ := h
    obtain ⟨a, b, c⟩ := rps_zip h2
    refine ⟨by simp [a], by simp [b], fun x hx => ?_⟩
    rw [List.zip_cons_cons] at hx
    rcases List.mem_cons.1 hx with rfl | hx
    · exact ⟨List.mem_cons_self, h1⟩
    · exact ⟨List.mem_cons_of_mem _ (c x hx).1, (c x hx).2⟩
theorem rps_pairs {K : PySem.W.Frag} {T : Tb} {g : Gh} {H : Hp} : ∀ (l : List (D × V)), (∀ b ∈ l, Rp K T g H b.1 b.2) → Rps K T g H (l.map (·.1)) (l.map (·.2))
  | [], _ => Rps.nil
  | b :: l, h => Rps.cons (h b List.mem_cons_self) (rps_pairs l fun x hx => h x (List.mem_cons_of_mem _ hx))
end DL
set_option linter.all false
set_option Elab.async false
set_option maxRecDepth 100000
namespace DL
open PySem PySem.Spec PySem.Calls PyProof.Rows L2
/-! ### t + (e,): a new tuple without a dict -/
/-! ### tuples without a dict read as any, at every depth -/
mutual
def unD : D → D
  | .pt xs => .tup (unDs xs)
  | .tup xs => .tup (unDs xs)
  | .lst xs => .lst (unDs xs)
  | d => d
def unDs : List D → List D
  | [] => []
  | d :: ds => unD d :: unDs ds
end
mutual
theorem rp_unD {K : PySem.W.Frag} {T : Tb} {g : Gh} {H : Hp} : ∀ {d : D} {v : V}, Rp K T g H d v → Rp K T g H (unD d) v
  | .pt xs, v, h => by
    simp only [Rp, unD] at h ⊢
    obtain ⟨a, vs, o, e, q, _, r⟩ := h
    exact ⟨a, vs, e, .inl (.inr ⟨o, q⟩), rps_unD r⟩
  | .tup xs, v, h => by
    simp only [Rp, unD] at h ⊢
    obtain ⟨a, vs, e, q, r⟩ := h
    exact ⟨a, vs, e, q, rps_unD r⟩
  | .lst xs, v, h => by
    simp only [Rp, unD] at h ⊢
    obtain ⟨a, vs, e, q, w, r⟩ := h
    exact ⟨a, vs, e, q, w, rps_unD r⟩
  | .non, v, h => h
  | .bl _, v, h => h
  | .int _, v, h => h
  | .str _, v, h => h
  | .fn _, v, h => h
  | .ref _, v, h => h
  | .scr _, v, h => h
theorem rps_unD {K : PySem.W.Frag} {T : Tb} {g : Gh} {H : Hp} : ∀ {ds : List D} {vs : List V}, Rps K T g H ds vs → Rps K T g H (unDs ds) vs
  | [], vs, h => h
  | d :: ds, vs, h => by
    simp only [Rps, unDs] at h ⊢
    obtain ⟨v, r, e, h1, h2⟩ := h
    exact ⟨v, r, e, rp_unD h1, rps_unD h2⟩
end
def eUnD (f : S → R D) : S → R D := fun st => (f st).bind fun d s => .ok (unD d) s
section
variable {T : Tb} {X : Cx} {Γ : Fls} {e : Expr} {f : S → R D}
theorem je_unDm {m : Mo} (hk : ∀ {K : PySem.W.Frag} {g : Gh} {H0 H : Hp} {d : D} {v : V}, RpM K T g H0 H m d v → RpM K T g H0 H m (unD d) v) (h : JE T X Γ e m f) : JE T X Γ e m (eUnD f) := by
  refine ⟨fun W tk => PE.imp (h.run W tk) fun σ H Q ⟨g, st, I, p⟩ => ⟨g, st, I, ?_⟩⟩
  unfold eUnD at p
  cases hf : f st with
  | ok d s =>
    rw [hf] at p
    exact fun v H' g' q I' r => p v H' g' q I' (hk r)
  | raise e s =>
    rw [hf] at p
    exact p
  | stuck =>
    rw [hf] at p
    exact p
theorem je_unD (h : JE T X Γ e .sh f) : JE T X Γ e .sh (eUnD f) := je_unDm (fun r => rp_unD r) h
end
/-! ### x = [.. for .. for ..] on one line -/
end DL
set_option linter.all false
set_option Elab.async false
set_option maxRecDepth 100000
set_option maxHeartbeats 4000000
namespace DL
open PySem PySem.Spec PyProof.Rows L2
/-! ### dicts whose keys are tuples (of tuples) of whole numbers -/
mutual
def NkV (K : PySem.W.Frag) (H : Hp) : NestedKey → V → Prop
  | .num i, v => v = .int i
  | .tup ks, v => ∃ a vs, v = .ref a ∧ SqT K H a vs ∧ NkVs K H ks vs
  | .none, _ => False
  | .text _, _ => False
def NkVs (K : PySem.W.Frag) (H : Hp) : List NestedKey → List V → Prop
  | [], vs => vs = []
  | k :: ks, vs => ∃ v r, vs = v :: r ∧ NkV K H k v ∧ NkVs K H ks r
end
section
variable {K : PySem.W.Frag} {T : Tb} {g g' : Gh} {H H' : Hp}
mutual
theorem nk_of : ∀ (d : D) (v : V) (k : NestedKey), nkD d = some k → Rp K T g H d v → NkV K H k v
  | .int i, v, k, e, r => by
    simp only [nkD, Option.some.injEq] at e
    subst e
    simp only [Rp] at r
    simp only [NkV]
    exact r
  | .tup ds, v, k, e, r => by
    simp only [nkD] at e
    cases e2 : nkDs ds with
    | none => rw [e2] at e; cases e
    | some ks =>
      rw [e2] at e
      cases e
      simp only [Rp] at r
      obtain ⟨a, vs, ev, q, r⟩ := r
      simp only [NkV]
      exact ⟨a, vs, ev, q, nks_of ds vs ks e2 r⟩
  | .pt ds, v, k, e, r => by
    simp only [nkD] at e
    cases e2 : nkDs ds with
    | none => rw [e2] at e; cases e
    | some ks =>
      rw [e2] at e
      cases e
      simp only [Rp] at r
      obtain ⟨a, vs, o, ev, q, _, r⟩ := r
      simp only [NkV]
      exact ⟨a, vs, ev, .inl (.inr ⟨o, q⟩), nks_of ds vs ks e2 r⟩
  | .non, _, _, e, _ => by simp [nkD] at e
  | .bl _, _, _, e, _ => by simp [nkD] at e
  | .str _, _, _, e, _ => by simp [nkD] at e
  | .lst _, _, _, e, _ => by simp [nkD] at e
  | .fn _, _, _, e, _ => by simp [nkD] at e
  | .ref _, _, _, e, _ => by simp [nkD] at e
  | .scr _, _, _, e, _ => by simp [nkD] at e
theorem nks_of : ∀ (ds : List D) (vs : List V) (ks : List NestedKey), nkDs ds = some ks → Rps K T g H ds vs → NkVs K H ks vs
  | [], vs, ks, e, r => by
    simp only [nkDs, Option.some.injEq] at e
    subst e
    simp only [Rps] at r
    simp only [NkVs]
    exact r
  | d :: ds, vs, ks, e, r => by
    simp only [nkDs] at e
    cases e1 : nkD d with
    | none => rw [e1] at e; cases e
    | some k =>
      cases e2 : nkDs ds with
      | none => rw [e1, e2] at e; cases e
      | some kr =>
        rw [e1, e2] at e
        cases e
        simp only [Rps] at r
        obtain ⟨v, rr, ev, h1, h2⟩ := r
        simp only [NkVs]
        exact ⟨v, rr, ev, nk_of d v k e1 h1, nks_of ds rr kr e2 h2⟩
end
mutual
theorem hash_nk (w w' : World) : ∀ (k : NestedKey) (v : V), NkV K H k v → k.hash w = k.hash w'
  | .num i, _, _ => by simp only [NestedKey.hash]
  | .tup ks, v, h => by
    simp only [NkV] at h
    obtain ⟨a, vs, _, _, h⟩ := h
    simp only [NestedKey.hash]
    rw [hash_nks w w' ks vs h]
  | .none, _, h => by simp only [NkV] at h
  | .text _, _, h => by simp only [NkV] at h
theorem hash_nks (w w' : World) : ∀ (ks : List NestedKey) (vs : List V), NkVs K H ks vs → NestedKey.hashes w ks = NestedKey.hashes w' ks
  | [], _, _ => by simp only [NestedKey.hashes]
  | k :: ks, vs, h => by
    simp only [NkVs] at h
    obtain ⟨v, r, _, h1, h2⟩ := h
    simp only [NestedKey.hashes]
    rw [hash_nk w w' k v h1, hash_nks w w' ks r h2]
end
mutual
theorem nk_is {X : Cx} {pins : List (Addr × Obj)} {σ : L2.St} {s : Shared} (I : L2.Inv X pins σ H s) : ∀ (k : NestedKey) (v : V) (u : Value), NkV X.K H k v → RelV v u → NestedIs s.heap k u
  | .num i, v, u, h, r => by
    simp only [NkV] at h
    subst h
    obtain ⟨t, rfl⟩ := r
    exact .int i t
  | .tup ks, v, u, h, r => by
    simp only [NkV] at h
    obtain ⟨a, vs, rfl, q, h⟩ := h
    obtain rfl : u = Value.ref a := r
    obtain ⟨its, rv, ⟨o, ho, hc, n, hd⟩, _⟩ := I.tuple q
    exact .tup ho hc hd (by simpa using nks_is I ks vs its h rv)
  | .none, _, _, h, _ => by simp only [NkV] at h
  | .text _, _, _, h, _ => by simp only [NkV] at h
theorem nks_is {X : Cx} {pins : List (Addr × Obj)} {σ : L2.St} {s : Shared} (I : L2.Inv X pins σ H s) : ∀ (ks : List NestedKey) (vs : List V) (us : List Value), NkVs X.K H ks vs → Vals vs us → NestedAll s.heap ks us
  | [], vs, us, h, r => by
    simp only [NkVs] at h
    subst h
    cases r
    exact .nil
  | k :: ks, vs, us, h, r => by
    simp only [NkVs] at h
    obtain ⟨v, rr, rfl, h1, h2⟩ := h
    cases r with
    | cons r1 r2 => exact .cons (nk_is I k v _ h1 r1) (nks_is I ks rr _ h2 r2)
end
/-- the dict at a: keys with their tuples, values -/
structure DitH (K : PySem.W.Frag) (H : Hp) (a : Addr) (xs : List (NestedKey × Addr × Value)) : Prop where
  ext : H a = some (.ext (RawN a xs))
  lo : (a == sysModules) = false
  nd : (xs.map (·.1)).Nodup
  dp : ∀ x ∈ xs, x.1.depth ≤ 8
  ks : ∀ x ∈ xs, NkV K H x.1 (.ref x.2.1)
theorem DitH.at {X : Cx} {pins : List (Addr × Obj)} {σ : L2.St} {s : Shared} {a : Addr} {xs : List (NestedKey × Addr × Value)} (I : L2.Inv X pins σ H s) (h : DitH X.K H a xs) : s.heap.DictOfH (nestedKind X.prog X.w) a xs := by
  obtain ⟨⟨o, es, ep, e1, e2, e3, e4⟩, _⟩ := I.hok a _ h.ext
  exact ⟨o, es, ep, e1, e2, e3, e4 X.w, fun x hx => ⟨nk_is I _ _ _ (h.ks x hx) rfl, h.dp x hx⟩, h.nd⟩
/-- two lists, pair by pair -/
def DitR (K : PySem.W.Frag) (T : Tb) (g : Gh) (H : Hp) (kvs : List (D × D)) (xs : List (NestedKey × Addr × Value)) (vs : List V) : Prop :=
  kvs.map (fun kv => nkD kv.1) = xs.map (fun x => some x.1) ∧ Vals vs (xs.map (·.2.2)) ∧ Rps K T g H (kvs.map (·.1)) (xs.map fun x => V.ref x.2.1) ∧ Rps K T g H (kvs.map (·.2)) vs
theorem DitR.cons {kv : D × D} {x : NestedKey × Addr × Value} {v : V} {kvs : List (D × D)} {xs : List (NestedKey × Addr × Value)} {vs : List V} (h1 : nkD kv.1 = some x.1) (h2 : RelV v x.2.2) (h3 : Rp K T g H kv.1 (.ref x.2.1)) (h4 : Rp K T g H kv.2 v) (h : DitR K T g H kvs xs vs) : DitR K T g H (kv :: kvs) (x :: xs) (v :: vs) :=
  ⟨by simp [h1, h.1], .cons h2 h.2.1, .cons h3 h.2.2.1, .cons h4 h.2.2.2⟩
theorem DitR.inv {kv : D × D} {kvs : List (D × D)} {xs : List (NestedKey × Addr × Value)} {vs : List V} (h : DitR K T g H (kv :: kvs) xs vs) : ∃ x xs' v vs', xs = x :: xs' ∧ vs = v :: vs' ∧ nkD kv.1 = some x.1 ∧ RelV v x.2.2 ∧ Rp K T g H kv.1 (.ref x.2.1) ∧ Rp K T g H kv.2 v ∧ DitR K T g H kvs xs' vs' := by
  obtain ⟨h1, h2, h3, h4⟩ := h
  cases xs with
  | nil => simp at h1
  | cons x xs =>
    simp only [List.map_cons, List.cons.injEq] at h1
    cases h2 with
    | cons r t =>
      simp only [List.map_cons, Rps] at h3 h4
      obtain ⟨v3, r3, e3, h31, h32⟩ := h3
      obtain ⟨v4, r4, e4, h41, h42⟩ := h4
      cases e3
      cases e4
      exact ⟨x, xs, _, _, rfl, rfl, h1.1, r, h31, h41, h1.2, t, h32, h42⟩
theorem DitR.nil : DitR K T g H [] [] [] := ⟨rfl, .nil, Rps.nil, Rps.nil⟩
theorem DitR.sub (s : Sub g H g' H') {kvs : List (D × D)} {xs : List (NestedKey × Addr × Value)} {vs : List V} (h : DitR K T g H kvs xs vs) : DitR K T g' H' kvs xs vs := ⟨h.1, h.2.1, h.2.2.1.sub s, h.2.2.2.sub s⟩
theorem DitR.keys : ∀ {kvs : List (D × D)} {xs : List (NestedKey × Addr × Value)} {vs : List V}, DitR K T g H kvs xs vs → ∀ x ∈ xs, NkV K H x.1 (.ref x.2.1)
  | [], xs, vs, h, x, hx => by
    have := h.1
    cases xs with
    | nil => cases hx
    | cons _ _ => simp at this
  | kv :: kvs, xs, vs, h, x, hx => by
    obtain ⟨y, ys, v, vs', rfl, rfl, h1, _, h3, _, h5⟩ := h.inv
    rcases List.mem_cons.mp hx with e | hx
    · subst e
      exact nk_of _ _ _ h1 h3
    · exact DitR.keys h5 x hx
def mDit (s : S) (n : Nat) : Option (List (D × D)) := match s.m[n]? with
  | some (.dit kvs) => some kvs
  | _ => none
theorem dit_at {Γ : Fls} {σ : L2.St} {st : S} {n : Nat} {kvs : List (D × D)} {a : Addr} (I : SR K T Γ g σ H st) (h : mDit st n = some kvs) (ha : g.mu[n]? = some a) : ∃ xs vs, DitH K H a xs ∧ DitR K T g H kvs xs vs := by
  unfold mDit at h
  split at h
  · rename_i kvs' e
    cases h
    obtain ⟨xs, vs, q1, q2, q3, q4, q5, q6, q7, q8⟩ := I.me.at_ n _ a e ha
    have r : DitR K T g H kvs xs vs := ⟨q3, q6, q7, q8⟩
    exact ⟨xs, vs, ⟨q1, q2, q4, q5, r.keys⟩, r⟩
  · cases h
theorem cell_of {a : Addr} {kvs : List (D × D)} {xs : List (NestedKey × Addr × Value)} {vs : List V} (h : DitH K H a xs) (r : DitR K T g H kvs xs vs) : CellR K T g H a (.dit kvs) := ⟨xs, vs, h.ext, h.lo, r.1, h.nd, h.dp, r.2.1, r.2.2.1, r.2.2.2⟩
/-! what a dict gives, what a store makes of it -/
def isTp : D → Bool
  | .tup _ => true
  | .pt _ => true
  | _ => false
def keyT (d : D) : Option NestedKey := if isTp d then (match nkD d with
  | some k => if k.depth ≤ 8 then some k else none
  | none => none) else none
theorem keyT_of {d : D} {k : NestedKey} (h : keyT d = some k) : isTp d = true ∧ nkD d = some k ∧ k.depth ≤ 8 := by
  unfold keyT at h
  split at h
  · rename_i ht
    split at h
    · rename_i k' e
      split at h
      · rename_i hd
        cases h
        exact ⟨ht, e, hd⟩
      · cases h
    · cases h
  · cases h
theorem tp_ref {d : D} {v : V} (h : isTp d = true) (r : Rp K T g H d v) : ∃ b, v = .ref b := by
  cases d <;> simp [isTp] at h
  · simp only [Rp] at r
    obtain ⟨a, _, e, _⟩ := r
    exact ⟨a, e⟩
  · simp only [Rp] at r
    obtain ⟨a, _, _, e, _⟩ := r
    exact ⟨a, e⟩
def hitT (k : NestedKey) (kv : D × D) : Bool := match nkD kv.1 with
  | some k' => NestedKey.beq k' k
  | none => false
def valT (kvs : List (D × D)) (k : NestedKey) : Option D := (kvs.find? (hitT k)).map (·.2)
def putT (kvs : List (D × D)) (kd : D) (k : NestedKey) (v : D) : List (D × D) :=
  if kvs.any (hitT k) = true then kvs.map (fun kv => if hitT k kv = true then (kv.1, v) else kv) else kvs ++ [(kd, v)]
theorem hitT_eq {k : NestedKey} {kv : D × D} {x : NestedKey × Addr × Value} (h : nkD kv.1 = some x.1) : hitT k kv = decide (x.1 = k) := by
  unfold hitT
  rw [h, NestedKey.decide_eq]
theorem valT_at : ∀ {kvs : List (D × D)} {xs : List (NestedKey × Addr × Value)} {vs : List V} (k : NestedKey), DitR K T g H kvs xs vs → match valT kvs k with
    | some d => ∃ p v, atKey xs k = some p ∧ RelV v p.2 ∧ Rp K T g H d v
    | none => atKey xs k = none
  | [], xs, vs, k, h => by
    have := h.1
    cases xs with
    | nil => rfl
    | cons _ _ => simp at this
  | kv :: kvs, xs, vs, k, h => by
    obtain ⟨x, xs, v, vs, rfl, rfl, h1, h2, h3, h4, h5⟩ := h.inv
    have hh := hitT_eq (k := k) h1
    by_cases hk : x.1 = k
    · have e1 : valT (kv :: kvs) k = some kv.2 := by
        unfold valT
        rw [List.find?_cons, hh, decide_eq_true hk]
        rfl
      rw [e1]
      exact ⟨x.2, v, by simp [atKey, List.find?_cons, hk], h2, h4⟩
    · have e1 : valT (kv :: kvs) k = valT kvs k := by
        unfold valT
        rw [List.find?_cons, hh, decide_eq_false hk]
      have e2 : atKey (x :: xs) k = atKey xs k := by simp [atKey, List.find?_cons, hk]
      rw [e1, e2]
      exact valT_at k h5
theorem anyT : ∀ {kvs : List (D × D)} {xs : List (NestedKey × Addr × Value)} {vs : List V} (k : NestedKey), DitR K T g H kvs xs vs → kvs.any (hitT k) = (atKey xs k).isSome
  | [], xs, vs, k, h => by
    have := h.1
    cases xs with
    | nil => rfl
    | cons _ _ => simp at this
  | kv :: kvs, xs, vs, k, h => by
    obtain ⟨x, xs, v, vs, rfl, rfl, h1, _, _, _, h5⟩ := h.inv
    have hh := hitT_eq (k := k) h1
    rw [List.any_cons, hh, anyT k h5]
    by_cases hk : x.1 = k
    · simp [atKey, List.find?_cons, hk]
    · simp [atKey, List.find?_cons, hk]
theorem mapT {d : D} {v : V} {u : Value} (rv : RelV v u) (rd : Rp K T g H d v) : ∀ {kvs : List (D × D)} {xs : List (NestedKey × Addr × Value)} {vs : List V} (k : NestedKey), DitR K T g H kvs xs vs → ∃ vs', DitR K T g H (kvs.map fun kv => if hitT k kv = true then (kv.1, d) else kv) (xs.map (putAt k u)) vs'
  | [], xs, vs, k, h => by
    have := h.1
    cases xs with
    | nil => exact ⟨[], .nil⟩
    | cons _ _ => simp at this
  | kv :: kvs, xs, vs, k, h => by
    obtain ⟨x, xs, w, vs, rfl, rfl, h1, h2, h3, h4, h5⟩ := h.inv
    obtain ⟨vs', ih⟩ := mapT rv rd k h5
    have hh := hitT_eq (k := k) h1
    rw [List.map_cons, List.map_cons]
    by_cases hk : x.1 = k
    · refine ⟨v :: vs', ?_⟩
      rw [hh, decide_eq_true hk, if_pos rfl]
      unfold putAt
      rw [if_pos hk]
      exact .cons h1 rv h3 rd ih
    · refine ⟨w :: vs', ?_⟩
      rw [hh, decide_eq_false hk]
      unfold putAt
      rw [if_neg hk]
      exact .cons h1 h2 h3 h4 ih
theorem snocT {kd d : D} {k : NestedKey} {b : Addr} {v : V} {u : Value} (hk : nkD kd = some k) (rk : Rp K T g H kd (.ref b)) (rv : RelV v u) (rd : Rp K T g H d v) : ∀ {kvs : List (D × D)} {xs : List (NestedKey × Addr × Value)} {vs : List V}, DitR K T g H kvs xs vs → DitR K T g H (kvs ++ [(kd, d)]) (xs ++ [(k, b, u)]) (vs ++ [v])
  | [], xs, vs, h => by
    have h1 := h.1
    have h4 := h.2.2.2
    cases xs with
    | nil =>
      simp only [List.map_nil, Rps] at h4
      subst h4
      exact .cons hk rv rk rd .nil
    | cons _ _ => simp at h1
  | kv :: kvs, xs, vs, h => by
    obtain ⟨x, xs, w, vs, rfl, rfl, h1, h2, h3, h4, h5⟩ := h.inv
    exact .cons h1 h2 h3 h4 (snocT hk rk rv rd h5)
theorem putT_at {kd d : D} {k : NestedKey} {b : Addr} {v : V} {u : Value} {kvs : List (D × D)} {xs : List (NestedKey × Addr × Value)} {vs : List V} (hk : nkD kd = some k) (rk : Rp K T g H kd (.ref b)) (rv : RelV v u) (rd : Rp K T g H d v) (h : DitR K T g H kvs xs vs) : ∃ vs', DitR K T g H (putT kvs kd k d) (storedH xs k b u) vs' := by
  unfold putT storedH
  rw [anyT k h]
  split
  · exact mapT rv rd k h
  · exact ⟨_, snocT hk rk rv rd h⟩
theorem DitR.len {kvs : List (D × D)} {xs : List (NestedKey × Addr × Value)} {vs : List V} (h : DitR K T g H kvs xs vs) : kvs.length = xs.length := by
  have := congrArg List.length h.1
  simpa using this
/-- behind a store -/
theorem DitH.put {a b : Addr} {k : NestedKey} {u : Value} {xs : List (NestedKey × Addr × Value)} {φ : Heap → Prop} (h : DitH K H a xs) (hk : NkV K H k (.ref b)) (hd : k.depth ≤ 8) (hn : ((storedH xs k b u).map (·.1)).Nodup) (ht : ∀ c o, H c = some o → imo o = true → H' c = some o) (he : H' a = some (.ext (RawN a (storedH xs k b u)))) (up : ∀ c v, NkV K H c v → NkV K H' c v) : DitH K H' a (storedH xs k b u) := by
  have keys : ∀ x ∈ storedH xs k b u, x.1.depth ≤ 8 ∧ NkV K H x.1 (.ref x.2.1) := fun x hx => by
    unfold storedH at hx
    split at hx
    · obtain ⟨y, hy, e⟩ := List.mem_map.mp hx
      subst e
      unfold putAt
      split
      · exact ⟨h.dp y hy, h.ks y hy⟩
      · exact ⟨h.dp y hy, h.ks y hy⟩
    · rcases List.mem_append.mp hx with hx | hx
      · exact ⟨h.dp x hx, h.ks x hx⟩
      · rw [List.mem_singleton.mp hx]
        exact ⟨hd, hk⟩
  exact ⟨he, h.lo, hn, fun x hx => (keys x hx).1, fun x hx => up _ _ (keys x hx).2⟩
mutual
theorem NkV.sub (s : Sub g H g' H') : ∀ (k : NestedKey) (v : V), NkV K H k v → NkV K H' k v
  | .num i, v, h => by simpa [NkV] using h
  | .tup ks, v, h => by
    simp only [NkV] at h ⊢
    obtain ⟨a, vs, e, q, h⟩ := h
    exact ⟨a, vs, e, SqT.sub s q, NkVs.sub s ks vs h⟩
  | .none, _, h => by simp only [NkV] at h
  | .text _, _, h => by simp only [NkV] at h
theorem NkVs.sub (s : Sub g H g' H') : ∀ (ks : List NestedKey) (vs : List V), NkVs K H ks vs → NkVs K H' ks vs
  | [], vs, h => by simpa [NkVs] using h
  | k :: ks, vs, h => by
    simp only [NkVs] at h ⊢
    obtain ⟨v, r, e, h1, h2⟩ := h
    exact ⟨v, r, e, NkV.sub s k v h1, NkVs.sub s ks r h2⟩
end
theorem raw_of {X : Cx} {h : Heap} {a : Addr} {xs : List (NestedKey × Addr × Value)} (d : h.DictOfH (nestedKind X.prog X.w) a xs) (hk : ∀ x ∈ xs, NkV K H x.1 (.ref x.2.1)) : RawN a xs h := by
  obtain ⟨o, es, ep, e1, e2, e3, e4, _⟩ := d
  refine ⟨o, es, ep, e1, e2, e3, fun w => ?_⟩
  rw [e4]
  apply List.map_congr_left
  intro x hx
  show (⟨x.1.hash X.w, .ref x.2.1, x.2.2⟩ : DictEntry) = _
  rw [hash_nk X.w w x.1 _ (hk x hx)]
theorem raw_ok {P : Program} {w : World} {h : Heap} {a : Addr} {xs : List (NestedKey × Addr × Value)} {H : Hp} (r : RawN a xs h) : ObjOk P w H h a (.ext (RawN a xs)) := by
  obtain ⟨o, es, ep, e1, e2⟩ := id r
  exact ⟨r, ⟨o, e1⟩, fun h1 h2 ⟨o, es, ep, e1, e2⟩ hk => ⟨o, es, ep, hk o e1, e2⟩⟩
end
end DL
set_option linter.all false
set_option Elab.async false
set_option maxRecDepth 100000
set_option maxHeartbeats 4000000
namespace DL
open PySem PySem.Spec PyProof.Rows L2
section
variable {X : Cx} {o i e f value : Expr} {pos pos' apos cpos : Pos} {td ty tx tv : TE}
theorem room_in1 {X : Cx} (hu : X.A.units + 64 < cLine) : (nestedKind X.prog X.w).room X.A.in1 := by
  show X.A.units + 1 + 8 < cLine
  omega
def tNewN : TE := fun _ H Q => ∀ p, H p = none → (p == sysModules) = false → Q (.ref p) (upd H p (.ext (RawN p [])))
theorem pe_newN : PE X (.Dict [] [] pos) tNewN := ⟨fun pins s σ H Q I h =>
  wpAny_Dict_empty ⟨.ref s.heap.objs.size, _, I.laid (a := s.heap.objs.size) (o := .ext (RawN s.heap.objs.size [])) (t' := s.toks) (fun _ _ q => Heap.get?_push_of_some _ q) (Nat.le_refl _)
    (raw_ok ⟨_, #[], 0, Heap.get?_push_size _ rfl, ⟨rfl, rfl, rfl⟩, rfl, fun w => rfl⟩), rfl, h _ (I.hok.fresh (Nat.le_refl _)) (beq_eq_false_iff_ne.mpr (Nat.ne_of_gt I.big))⟩⟩
/-- d[k] -/
def tTGet (K : PySem.W.Frag) (td ty : TE) : TE := fun σ H Q => td σ H fun x H1 => ty σ H1 fun y H2 => ∃ a b xs k p v, x = .ref a ∧ y = .ref b ∧ DitH K H2 a xs ∧ NkV K H2 k (.ref b) ∧ k.depth ≤ 8 ∧ atKey xs k = some p ∧ RelV v p.2 ∧ Q v H2
theorem pe_tget (hu : X.A.units + 64 < cLine) (ho : PE X o td) (hi : PE X i ty) (hs : NoSl i) : PE X (.Subscript o i pos) (tTGet X.K td ty) := by
  refine ⟨fun pins s σ H Q I h => ?_⟩
  refine subD_of PySem.F.slot_dict_getitem.lookup hs (thn (ho.run pins s σ H _ I h) fun u s1 ⟨x, H1, I1, rx, q1⟩ => thn (hi.run pins s1 σ H1 _ I1 q1) fun iv s2 ⟨y, H2, I2, ry, a, b, xs, k, p, v, ex, ey, d, kv, kd, hp, rv, q2⟩ => ?_)
  subst ex ey
  obtain rfl : u = Value.ref a := rx
  obtain rfl : iv = Value.ref b := ry
  have dd := d.at I2
  exact ⟨dd.typeIs, wpAny_getItem_heap (room_in1 hu) ⟨nk_is I2 _ _ _ kv rfl, kd⟩ dd hp ⟨v, H2, I2.tok _, rv, q2⟩⟩
/-- d.get(k, x) -/
def tTGet2 (K : PySem.W.Frag) (td ty tx : TE) : TE := fun σ H Q => td σ H fun x H1 => ∃ a xs0, x = .ref a ∧ DitH K H1 a xs0 ∧ ty σ H1 fun y H2 => tx σ H2 fun z H3 => ∃ b xs k v, y = .ref b ∧ DitH K H3 a xs ∧ NkV K H3 k (.ref b) ∧ k.depth ≤ 8 ∧
  (match atKey xs k with
    | some p => RelV v p.2
    | none => v = z) ∧ Q v H3
theorem dit_plain {pins : List (Addr × Obj)} {σ : L2.St} {H : Hp} {s : Shared} {a : Addr} {xs : List (NestedKey × Addr × Value)} (I : L2.Inv X pins σ H s) (d : DitH X.K H a xs) : ∀ b, Value.ref a = .ref b → ∃ ob, s.heap.get? b = some ob ∧ ob.dict = none := fun b q => by
  cases q
  obtain ⟨ob, _, _, h1, h2, _⟩ := d.at I
  exact ⟨ob, h1, h2.2.1⟩
theorem pe_tget2 (hu : X.A.units + 64 < cLine) (ho : PE X o td) (he : PE X e ty) (hf : PE X f tx) (m : M2 X o "get" apos e f cpos) : PE X (.Call (.Attribute o "get" apos) [e, f] [] cpos) (tTGet2 X.K td ty tx) := by
  refine ⟨fun pins s σ H Q I h => ?_⟩
  refine wpAny_Call_method m.base m.few m.line PySem.F.plainAttrs_dict PySem.F.slot_dict_get PySem.F.type_dict_get (thn (ho.run pins s σ H _ I h) fun u s1 ⟨x, H1, I1, rx, a, xs0, ex, d, q1⟩ => ?_)
  subst ex
  obtain rfl : u = Value.ref a := rx
  refine ⟨(d.at I1).typeIs, dit_plain I1 d, ?_⟩
  rw [m.trees]
  refine Calls.callWith_builtin rfl (Calls.evalArgs_plain (Calls.spliced_cons (thn (he.run pins s1 σ H1 _ I1 q1) fun iv s2 ⟨y, H2, I2, ry, q2⟩ =>
    Calls.spliced_cons (thn (hf.run pins s2 σ H2 _ I2 q2) fun fv s3 ⟨z, H3, I3, rz, b, xs, k, v, ey, d3, kv, kd, hm, q3⟩ => Calls.spliced_nil ?_))))
  subst ey
  obtain rfl : iv = Value.ref b := ry
  have dd := d3.at I3
  refine call_meetsIn PySem.F.slot_dict_get dd.typeIs PySem.F.entry_dict_get (PySem.F.args_dict_get_3 _ _ _) (meetsH_dict_get_default (nestedKind X.prog X.w) a b d3.lo fv) ⟨room_in1 hu, k, xs, ⟨nk_is I3 _ _ _ kv rfl, kd⟩, dd, ?_⟩
  cases ek : atKey xs k with
  | some p =>
    rw [ek] at hm
    exact ⟨v, H3, I3.tok _, hm, q3⟩
  | none =>
    rw [ek] at hm
    subst hm
    exact ⟨v, H3, I3.tok _, rz, q3⟩
/-- d[k] = v -/
def sTPut (K : PySem.W.Frag) (td ty tv : TE) : TS := fun D σ H => tv σ H fun v H1 => td σ H1 fun x H2 => ty σ H2 fun y H3 => ∃ a b xs k, x = .ref a ∧ y = .ref b ∧ DitH K H3 a xs ∧ NkV K H3 k (.ref b) ∧ k.depth ≤ 8 ∧ xs.length < sizeLine ∧
  ∀ u, RelV v u → ((storedH xs k b u).map (·.1)).Nodup → D.nx σ (upd H3 a (.ext (RawN a (storedH xs k b u))))
theorem ps_tput (hu : X.A.units + 64 < cLine) (ho : PE X o td) (hi : PE X i ty) (hv : PE X value tv) (hs : swapsWith value (some (.Subscript o i pos')) pos.line X.env = pure false) :
    PS X (.Assign [.Subscript o i pos'] value pos) (sTPut X.K td ty tv) := by
  refine ⟨fun pins s σ H D I h => ?_⟩
  refine wpAny_Assign_Subscript (thn (hv.run pins s σ H _ I h) fun r s1 ⟨v, H1, I1, rv, q1⟩ => thn (ho.run pins s1 σ H1 _ I1 q1) fun u s2 ⟨x, H2, I2, rx, q2⟩ => thn (hi.run pins s2 σ H2 _ I2 q2) fun iv s3 ⟨y, H3, I3, ry, a, b, xs, k, ex, ey, d, kv, kd, hz, q3⟩ => ?_) hs
  subst ex ey
  obtain rfl : u = Value.ref a := rx
  obtain rfl : iv = Value.ref b := ry
  have dd := d.at I3
  refine wpAny_setItem_heap (hsz := Nat.le_of_lt hz) (room_in1 hu) ⟨nk_is I3 _ _ _ kv rfl, kd⟩ dd fun h' dd' hs' => ?_
  have hn : ((storedH xs k b r).map (·.1)).Nodup := by
    obtain ⟨_, _, _, _, _, _, _, _, hn⟩ := dd'
    exact hn
  have keys : ∀ x ∈ storedH xs k b r, NkV X.K H3 x.1 (.ref x.2.1) := fun x hx => by
    unfold storedH at hx
    split at hx
    · obtain ⟨y, hy, e⟩ := List.mem_map.mp hx
      subst e
      unfold putAt
      split
      · exact d.ks y hy
      · exact d.ks y hy
    · rcases List.mem_append.mp hx with hx | hx
      · exact d.ks x hx
      · rw [List.mem_singleton.mp hx]
        exact kv
  have raw := raw_of (X := X) dd' keys
  obtain ⟨o1, es1, ep1, ho1, _⟩ := id raw
  exact ⟨σ, _, d_write I3 (by rw [d.ext]; exact True.intro) hs' ⟨o1, ho1⟩ (raw_ok raw), q3 r rv hn⟩
end
section
variable {T : Tb} {X : Cx} {Γ Γ' : Fls} {F : Fx} {nx lp : Fls} {rm : Mo} {e a b c o i tg iter : Expr} {m m1 m2 m3 : Mo} {f f1 f2 f3 : S → R D} {pos p2 pos' apos cpos : Pos} {es : List Expr} {fs : S → R (List D)}
def eDit0 : S → R D := fun s => .ok (.ref s.m.length) { s with m := s.m ++ [.dit []] }
theorem je_dit0 : JE T X Γ (.Dict [] [] pos) .sh eDit0 := ⟨fun W tk => PE.imp pe_newN fun σ H Q ⟨g, st, I, p⟩ => fun q hq hl => post_cell (m := .sh) (c := .dit []) I hq rfl
  (cell_of (xs := []) ⟨upd_same, hl, List.nodup_nil, fun _ h => (nomatch h), fun _ h => (nomatch h)⟩ .nil) p⟩
/-- d[k] -/
def tixD : D → D → S → R D := fun d k s => match d, keyT k with
  | .ref n, some k => (match mDit s n with
    | some kvs => (match valT kvs k with
      | some v => .ok v s
      | none => .stuck)
    | none => .stuck)
  | _, _ => .stuck
theorem je_tix (hu : X.A.units + 64 < cLine) (ha : JE T X Γ a .b1 f1) (hb : JE T X Γ b .sh f2) (hs : NoSl b := by exact fun _ _ => rfl) : JE T X Γ (.Subscript a b pos) .sh (e2 tixD f1 f2) := by
  refine ⟨fun W tk => PE.imp (pe_tget hu (ha.run W tk) (hb.run W tk) hs) fun σ H Q ⟨g, st, I, p⟩ => ?_⟩
  refine te_bind ipE I p fun d1 s1 x H1 g1 q1 I1 r1 p1 => te_bind ipE I1 p1 fun d2 s2 y H2 g2 q2 I2 r2 p2 => ?_
  have r1' := r1.step I1.wf I2.wf q2
  unfold tixD at p2
  split at p2
  · rename_i n k ek
    split at p2
    · rename_i kvs em
      split at p2
      · rename_i v ev
        obtain ⟨ad, ex, hn⟩ := b_ref r1'
        subst ex
        obtain ⟨k1, k2, k3⟩ := keyT_of ek
        obtain ⟨bd, ey⟩ := tp_ref k1 r2
        subst ey
        obtain ⟨xs, vs, h1, h2⟩ := dit_at I2 em hn
        have z := valT_at k h2
        rw [ev] at z
        obtain ⟨pp, w, z1, z2, z3⟩ := z
        exact ⟨ad, bd, xs, k, pp, w, rfl, rfl, h1, nk_of _ _ _ k2 r2, k3, z1, z2, p2 _ H2 g2 (.refl g2 H2) I2 z3⟩
      · exact p2.elim
    · exact p2.elim
  · exact p2.elim
/-- d.get(k, x) -/
def tgetD : D → D → D → S → R D := fun d k x s => match d, keyT k with
  | .ref n, some k => (match mDit s n with
    | some kvs => .ok ((valT kvs k).getD x) s
    | none => .stuck)
  | _, _ => .stuck
def isDit (d : D) (s : S) : Bool := match d with
  | .ref n => (mDit s n).isSome
  | _ => false
def eGetT (f1 f2 f3 : S → R D) : S → R D := fun st => (f1 st).bind fun d s1 => if isDit d s1 then (f2 s1).bind fun k s2 => (f3 s2).bind fun x s3 => tgetD d k x s3 else .stuck
theorem je_getT (hu : X.A.units + 64 < cLine) (ha : JE T X Γ a .b1 f1) (hb : JE T X Γ b .sh f2) (hc : JE T X Γ c .sh f3)
    (mm : M2 X a "get" apos b c cpos := by exact ⟨rfl, rfl, rfl, rfl⟩) : JE T X Γ (.Call (.Attribute a "get" apos) [b, c] [] cpos) .sh (eGetT f1 f2 f3) := by
  refine ⟨fun W tk => PE.imp (pe_tget2 hu (ha.run W tk) (hb.run W tk) (hc.run W tk) mm) fun σ H Q ⟨g, st, I, p⟩ => ?_⟩
  refine te_bind ipE I p fun d1 s1 x H1 g1 q1 I1 r1 p1 => ?_
  split at p1
  case isFalse => exact p1.elim
  rename_i hd
  unfold isDit at hd
  split at hd
  case h_2 => cases hd
  rename_i n
  obtain ⟨kvs, ek⟩ := Option.isSome_iff_exists.mp hd
  obtain ⟨ad, ex, hn⟩ := b_ref r1
  subst ex
  obtain ⟨xs, vs, h1, h2⟩ := dit_at I1 ek hn
  refine ⟨ad, xs, rfl, h1, te_bind ipE I1 p1 fun d2 s2 y H2 g2 q2 I2 r2 p2 => te_bind ipE I2 p2 fun d3 s3 z H3 g3 q3 I3 r3 p3 => ?_⟩
  unfold tgetD at p3
  split at p3
  · rename_i n' k en ek2
    cases en
    split at p3
    · rename_i kvs' ek3
      have hn3 : g3.mu[n]? = some ad := by
        obtain ⟨t, ht⟩ := (q2.trans q3).mu
        rw [← ht, List.getElem?_append_left (List.getElem?_eq_some_iff.mp hn).1]
        exact hn
      obtain ⟨xs', vs', h1', h2'⟩ := dit_at I3 ek3 hn3
      have zz := valT_at k h2'
      obtain ⟨k1, k2, k3⟩ := keyT_of ek2
      have r2' := Rp.step I2.wf q3.toStep r2
      obtain ⟨bd, ey⟩ := tp_ref k1 r2
      subst ey
      cases ev : valT kvs' k with
      | none =>
        rw [ev] at zz p3
        refine ⟨bd, xs', k, z, rfl, h1', nk_of _ _ _ k2 r2', k3, ?_, p3 _ H3 g3 (.refl g3 H3) I3 r3⟩
        have zz' : atKey xs' k = none := zz
        rw [zz']
      | some v =>
        rw [ev] at zz p3
        obtain ⟨pp, w, z1, z2, z3⟩ := zz
        refine ⟨bd, xs', k, w, rfl, h1', nk_of _ _ _ k2 r2', k3, ?_, p3 _ H3 g3 (.refl g3 H3) I3 z3⟩
        rw [z1]
        exact z2
    · exact p3.elim
  · exact p3.elim
/-- d[k] = v -/
def sTput (fd fk fv : S → R D) : S → RS := fun s => (fv s).then fun v s1 => (fd s1).then fun d s2 => (fk s2).then fun k s3 => match d, keyT k with
  | .ref n, some kk => (match mDit s3 n with
    | some kvs => if kvs.length < sizeLine then .next { s3 with m := s3.m.set n (.dit (putT kvs k kk v)) } else .stuck
    | none => .stuck)
  | _, _ => .stuck
theorem js_tput (hu : X.A.units + 64 < cLine) (hd : JE T X Γ a .b1 f1) (hk : JE T X Γ b .sh f2) (hv : JE T X Γ c .sh f3) (hs : swapsWith c (some (.Subscript a b pos')) pos.line X.env = pure false := by rfl) : JS T X Γ ⟨Γ, lp, rm⟩ (.Assign [.Subscript a b pos'] c pos) (sTput f1 f2 f3) := by
  refine ⟨fun W tk => PS.imp (ps_tput hu (hd.run W tk) (hk.run W tk) (hv.run W tk) hs) fun E σ H ⟨B, g, st, I, p⟩ => ?_⟩
  refine te_then I.toSR p fun d1 s1 v H1 g1 q1 I1 r1 p1 => te_then I1 p1 fun d2 s2 x H2 g2 q2 I2 r2 p2 => te_then I2 p2 fun d3 s3 y H3 g3 q3 I3 r3 p3 => ?_
  split at p3
  case h_2 => exact p3.elim
  rename_i n k ek
  split at p3
  case h_2 => exact p3.elim
  rename_i kvs em
  split at p3
  case isFalse => exact p3.elim
  rename_i hz
  obtain ⟨ad, ex, hn⟩ := b_ref (r2.step I2.wf I3.wf q3)
  subst ex
  obtain ⟨k1, k2, k3⟩ := keyT_of ek
  obtain ⟨bd, ey⟩ := tp_ref k1 r3
  subst ey
  obtain ⟨xs, vs, h1, h2⟩ := dit_at I3 em hn
  have rv : Rp X.K T g3 H3 d1 v := (Rp.step I1.wf q2.toStep r1 |> Rp.step I2.wf q3.toStep)
  have kv := nk_of _ _ _ k2 r3
  refine ⟨ad, bd, xs, k, rfl, rfl, h1, kv, k3, by rw [← h2.len]; exact hz, fun u ru hnd => ?_⟩
  obtain ⟨vs', h3⟩ := putT_at k2 r3 ru rv h2
  have s0 : Sub g3 H3 g3 (upd H3 ad (.ext (RawN ad (storedH xs k bd u)))) := ⟨fun _ h => h, fun b o hA h => by
    rw [upd_ne fun z => I3.wf.ao b hA (by rw [z]; exact .inr (List.mem_of_getElem? hn))]
    exact h, fun b o h i => by
    rw [upd_ne fun z => ?_]
    · exact h
    · rw [z, h1.ext] at h
      cases h
      exact absurd i (by simp [imo]), List.prefix_refl _⟩
  have hD := h1.put (u := u) (φ := fun _ => True) kv k3 hnd s0.im upd_same (fun c w q => NkV.sub s0 c w q)
  obtain ⟨k1', k2'⟩ := I3.put (o' := .ext (RawN ad (storedH xs k bd u))) (c := .dit (putT kvs d3 k d1)) hn h1.ext rfl rfl (cell_of hD (h3.sub s0))
  exact p3 σ _ g3 k1' k2'
end
end DL
set_option linter.all false
set_option Elab.async false
set_option maxRecDepth 100000
set_option maxHeartbeats 4000000
namespace DL
open PySem PySem.Spec PySem.Calls PyProof.Rows L2
/-! ### sorted(d) of a dict with tuple keys -/
def rSortTd (K : PySem.W.Frag) : List V → Hp → VK → Prop := fun vs H Q => ∃ (a : Addr) (xs : List (NestedKey × Addr × Value)) (bs : List (D × V)), vs = [V.ref a] ∧ DitH K H a xs ∧ bs.map (·.2) = xs.map (fun x => V.ref x.2.1) ∧ xs.length ≤ sizeLine ∧ (∀ b ∈ bs, Dp K H b.2 (encB b)) ∧ PySem.W.AllAlike (bs.map encB) ∧ PySem.W.Sortable (bs.map encB) ∧ (∀ b ∈ bs, (encB b).depth ≤ 60) ∧
  ∀ p, H p = none → Q (.ref p) (upd H p (.lst ((bs.mergeSort (PySem.W.dataLe false encB)).map (·.2))))
theorem vals_refs : ∀ (xs : List (NestedKey × Addr × Value)), Vals (xs.map fun x => V.ref x.2.1) (xs.map fun x => Value.ref x.2.1)
  | [] => .nil
  | x :: xs => .cons rfl (vals_refs xs)
section
variable {X : Cx}
theorem src_of {a : Addr} {xs : List (NestedKey × Addr × Value)} {es : Array DictEntry} {ep : Nat} (lo : (a == sysModules) = false) (hx : ∀ i (hi : i < es.size), ∃ y, xs[i]? = some y ∧ es[i].key = .ref y.2.1 ∧ es[i].val = y.2.2) :
    PySem.W.KdlSrc X.prog X.w "dict" a a es.size (fun i v => ∃ y, xs[i]? = some y ∧ v = .ref y.2.1) (fun h => h.DictRaw a es ep) where
  type := fun _ hm => hm.typeIs
  there := fun _ hm => let ⟨o, ho, _⟩ := hm; ⟨Heap.lt_size ho, Heap.lt_size ho⟩
  keep := fun _ _ hm hk => hm.at fun o e => hk a (.inl rfl) o e
  notList := by decide
  notTuple := by decide
  hint := fun _ _ _ _ hm hq => PySem.W.kdl_hint_dict hm.typeIs hq
  iter := fun _ _ hh hm => ⟨_, _, (fun _ _ hq => wpAny_pyIter_dict_raw lo hm hq), Walks.keysH hh _ a (let ⟨o, ho, _⟩ := hm; Nat.ne_of_lt (Heap.lt_size ho)) es ep hx, ⟨⟨_, Heap.get?_push_size _ rfl, rfl, rfl⟩, hm.at fun o e => Heap.get?_push_of_some _ e⟩⟩
theorem cr_sortTd (hc : X.calm = true) (hu : X.A.units + 65 < cLine) : CallR X (.builtin "sorted") (rSortTd X.K) := by
  intro pins s σ H vs us Q I r h
  obtain ⟨a, xs, bs, rfl, hD, hb, hz, hd, hal, hk, hdp, q⟩ := h
  rw [Vals.ref1 r]
  obtain ⟨es, ep, hraw, hsz, hat⟩ := (hD.at I).raw
  have K := src_of (X := X) (ep := ep) hD.lo fun i hi => let ⟨y, h1, h2, h3, _⟩ := hat i hi; ⟨y, h1, h2, h3⟩
  have hh := I.ok.hd hc
  refine call_function_entry kind_sorted plain_sorted entry_sorted (args_sorted1 _) ?_
  unfold Builtin.«sorted»
  refine wpAny_bind (m := checkCount "sorted" 1 1 _) (wpAny_pure ?_)
  refine wpAny_bind (PySem.W.kdu_collect (A := X.A.in1) K hh hraw (by rw [hsz]; exact hz) fun h' tk acc hk' hacc => ?_)
  have hal' : acc.toList = xs.map fun x => Value.ref x.2.1 := by
    apply List.ext_getElem?
    intro i
    rw [Array.getElem?_toList, List.getElem?_map]
    by_cases hi : i < acc.size
    · have e1 : acc[i]? = some acc[i] := Array.getElem?_eq_getElem hi
      obtain ⟨y, h1, h2⟩ := hacc.2 i _ e1
      rw [e1, h1, h2]
      rfl
    · rw [Array.getElem?_eq_none (by omega), List.getElem?_eq_none (by rw [← hsz, ← hacc.1]; omega)]
      rfl
  have I1 : Inv X pins σ H { s with heap := h', toks := tk } := I.kept hk'
  have hv0 : Vals (bs.map (·.2)) acc.toList := by
    rw [hb, hal']
    exact vals_refs xs
  have hlen : acc.toList.length = bs.length := by rw [← hv0.length, List.length_map]
  have hlx : bs.length = xs.length := by
    have := congrArg List.length hb
    simpa using this
  refine wpAny_bind (wpAny_newList ?_ (by rw [hlen, hlx]; exact hz))
  have hS : (h'.push { cls := .type "list", data := .seq acc.toList.toArray }).get? h'.objs.size = some (seqObj "list" acc.toList.toArray 0) := Heap.get?_push_size _ rfl
  have hkeep : ∀ b o, h'.get? b = some o → (PySem.W.sortingHeap (h'.push { cls := .type "list", data := .seq acc.toList.toArray }) h'.objs.size acc.toList).get? b = some o := fun b o e =>
    PySem.W.sortingHeap_old (Nat.ne_of_lt (Heap.lt_size e)) (Heap.get?_push_of_some _ e)
  have er := (each_reads I1 hv0 hd).mono fun v b ⟨as, rd⟩ => (⟨as, PyProof.Rows.Reads.keeps hkeep rd⟩ : ∃ as, Reads (PySem.W.sortingHeap (h'.push { cls := .type "list", data := .seq acc.toList.toArray }) h'.objs.size acc.toList) v (encB b) as)
  have key : wpAny (model X.prog X.w) X.A.in1 (call (.builtin "list.sort") [.ref h'.objs.size]) (fun _ s' => ∃ x H', Inv X pins σ H' s' ∧ RelV x (.ref h'.objs.size) ∧ Q x H') (fun _ _ => False) { s with heap := h'.push { cls := .type "list", data := .seq acc.toList.toArray }, toks := tk } := by
    refine wpAny_call_entry slot_list_sort ⟨_, hS, rfl⟩ entry_list_sort (PySem.W.list_sort_vals (κ := PySem.W.dataKind (PySem.W.sortingHeap (h'.push { cls := .type "list", data := .seq acc.toList.toArray }) h'.objs.size acc.toList) (bs.map encB)) hS
      (PySem.W.SortsAt.data (s := { s with heap := PySem.W.sortingHeap (h'.push { cls := .type "list", data := .seq acc.toList.toArray }) h'.objs.size acc.toList, toks := tk }) (PySem.W.each_map (R := fun v d => ∃ as, Reads (PySem.W.sortingHeap (h'.push { cls := .type "list", data := .seq acc.toList.toArray }) h'.objs.size acc.toList) v d as) encB er) hal hk (PySem.W.bound_map fun b hb => by
        have := hdp b hb
        show X.A.units + 1 + 1 + (encB b).depth < cLine
        omega)) (by rw [hlen, hlx]; exact hz) ⟨.none, rfl, ?_⟩) (args_list_sort _)
    have he := each_back (PySem.W.sortVals_data false (each_of hv0) er hal)
    obtain ⟨out, hout⟩ : ∃ out, out = PySem.W.sortVals (PySem.W.dataKind (PySem.W.sortingHeap (h'.push { cls := .type "list", data := .seq acc.toList.toArray }) h'.objs.size acc.toList) (bs.map encB)) false acc.toList acc.toList := ⟨_, rfl⟩
    rw [← hout] at he ⊢
    obtain ⟨ep2, ho⟩ := sortedHeap_at (out := out.toArray) hS
    have hlen2 : ((bs.mergeSort (PySem.W.dataLe false encB)).map (·.2)).length ≤ sizeLine := by
      rw [List.length_map, List.length_mergeSort, hlx]
      exact hz
    exact ⟨.ref h'.objs.size, upd H h'.objs.size (.lst ((bs.mergeSort (PySem.W.dataLe false encB)).map (·.2))), I1.laid (t' := tk) (fun b o e => by
      rw [sortedHeap_old (Nat.ne_of_lt (Heap.lt_size e)) (by rw [size_push']; exact Nat.lt_succ_of_lt (Heap.lt_size e))]
      exact Heap.get?_push_of_some _ e) (Nat.le_refl _) ⟨hlen2, out, ep2, he, ho⟩, rfl, q _ (I1.hok.fresh (Nat.le_refl _))⟩
  refine wpAny_bind (wpAny_holding (wpAny_mono key (fun _ s' x => ?_) fun _ _ e => e.elim))
  exact wpAny_pure ⟨_, rfl, x⟩
end
end DL
set_option linter.all false
set_option Elab.async false
set_option maxRecDepth 100000
set_option maxHeartbeats 4000000
namespace DL
open PySem PySem.Spec PySem.Calls PyProof.Rows L2
/-! ### sorted(d), dict(pairs) for tuple keys -/
def sortTdD : D → S → R D
  | .ref n, s => (match mDit s n with
    | some kvs => if okD (kvs.map (·.1)) && decide (kvs.length ≤ sizeLine) then .ok (.lst ((kvs.map (·.1)).mergeSort fun a b => !ltE b a)) s else .stuck
    | none => .stuck)
  | _, _ => .stuck
section
variable {X : Cx} {T : Tb}
theorem bi_sortTd (hc : X.calm = true) (hu : X.A.units + 65 < cLine) : Bi1 X T (.builtin "sorted") .b1 .f1 sortTdD := by
  refine ⟨_, cr_sortTd hc hu, fun Γ g σ H st W Q x d H0 I r p => ?_⟩
  unfold sortTdD at p
  split at p
  · rename_i n
    split at p
    · rename_i kvs em
      split at p
      · rename_i hok
        simp only [Bool.and_eq_true, decide_eq_true_eq] at hok
        obtain ⟨hok, hz⟩ := hok
        obtain ⟨h1, h2⟩ := okD_parts hok
        obtain ⟨ad, rfl, hn⟩ := b_ref r
        obtain ⟨xs, vs0, hD, hR⟩ := dit_at I em hn
        have k2 := hR.2.2.1
        obtain ⟨vs, hvs⟩ : ∃ vs, vs = xs.map fun x => V.ref x.2.1 := ⟨_, rfl⟩
        rw [← hvs] at k2
        obtain ⟨ds, hds0⟩ : ∃ ds, ds = kvs.map (·.1) := ⟨_, rfl⟩
        rw [← hds0] at k2 h1 h2 p
        obtain ⟨z1, z2, z3⟩ := rps_zip k2
        have hmap : (ds.zip vs).map encB = ds.map encD := by
          have : (ds.zip vs).map encB = ((ds.zip vs).map (·.1)).map encD := by rw [List.map_map]; rfl
          rw [this, z1]
        have hds : (((ds.zip vs).mergeSort (PySem.W.dataLe false encB)).map (·.1)) = ds.mergeSort fun a b => !ltE b a := by
          rw [List.map_mergeSort (r := PySem.W.dataLe false encB) (f := fun x : D × V => x.1) (s := fun a b => !ltE b a) (fun a _ b _ => rfl), z1]
        refine ⟨ad, xs, ds.zip vs, rfl, hD, by rw [z2, hvs], by rw [← hR.len]; exact hz, fun b hb => dp_of (z3 b hb).2 (h1 b.1 (z3 b hb).1).1, ?_, ?_, fun b hb => by have := (h1 b.1 (z3 b hb).1).2.2; show (encD b.1).depth ≤ 60; omega, fun p' hp => ?_⟩
        · rw [hmap]
          intro q hq q' hq'
          obtain ⟨d1, m1, rfl⟩ := List.mem_map.1 hq
          obtain ⟨d2, m2, rfl⟩ := List.mem_map.1 hq'
          exact h2 d1 m1 d2 m2
        · rw [hmap]
          exact .inl fun q hq => by
            obtain ⟨d1, m1, rfl⟩ := List.mem_map.1 hq
            exact (h1 d1 m1).2.1
        · rw [← hds] at p
          refine post_lst I (rps_pairs _ fun b hb => (z3 b ?_).2) hp p
          exact (List.mergeSort_perm _ _).mem_iff.1 hb
      · exact p.elim
    · exact p.elim
  · exact p.elim
/-! dict(pairs) -/
def zipU (ps : List (NestedKey × Addr × V)) (us : List Value) : List (NestedKey × Addr × Value) := (ps.zip us).map fun z => (z.1.1, z.1.2.1, z.2)
def rDictT (K : PySem.W.Frag) : List V → Hp → VK → Prop := fun xs H Q => ∃ (a : Addr) (o : Obj) (ts : List Addr) (ps : List (NestedKey × Addr × V)), xs = [.ref a] ∧ H a = some (.frz o (.tup (ts.map V.ref))) ∧ o.dict = none ∧
  Paired (fun t (p : NestedKey × Addr × V) => SqT K H t [V.ref p.2.1, p.2.2]) ts ps ∧ (∀ p ∈ ps, NkV K H p.1 (.ref p.2.1) ∧ p.1.depth ≤ 8) ∧
  ∀ q us, H q = none → (q == sysModules) = false → Vals (ps.map (·.2.2)) us → ((storedAllH [] (zipU ps us)).map (·.1)).Nodup → Q (.ref q) (upd H q (.ext (RawN q (storedAllH [] (zipU ps us)))))
theorem pairsV {pins : List (Addr × Obj)} {σ : L2.St} {H : Hp} {s : Shared} (I : L2.Inv X pins σ H s) : ∀ {ts : List Addr} {ps : List (NestedKey × Addr × V)}, Paired (fun t (p : NestedKey × Addr × V) => SqT X.K H t [V.ref p.2.1, p.2.2]) ts ps →
    ts.length = ps.length ∧ ∃ us, Vals (ps.map (·.2.2)) us ∧ ∀ (j : Nat) (t : Addr) (p : NestedKey × Addr × V) (u : Value), ts[j]? = some t → ps[j]? = some p → us[j]? = some u → IsTup s.heap t #[Value.ref p.2.1, u]
  | _, _, .nil => ⟨rfl, [], .nil, fun j t p u e => by simp at e⟩
  | _, _, .cons (a := t0) (b := p0) h t => by
    obtain ⟨hl, us, rv, hp⟩ := pairsV I t
    obtain ⟨its, rv0, ht, _⟩ := I.tuple h
    obtain ⟨u1, u2, ei, r1, r2⟩ := vals2 rv0
    subst ei
    obtain rfl : u1 = Value.ref p0.2.1 := r1
    refine ⟨by simp [hl], u2 :: us, .cons r2 rv, fun j t p u e1 e2 e3 => ?_⟩
    cases j with
    | zero =>
      simp only [List.getElem?_cons_zero, Option.some.injEq] at e1 e2 e3
      subst e1 e2 e3
      exact ht
    | succ j => exact hp j t p u (by simpa using e1) (by simpa using e2) (by simpa using e3)
theorem call_dictT (hc : X.calm = true) (hu : X.A.units + 64 < cLine) : CallR X (.type "dict") (rDictT X.K) := by
  intro pins s σ H xs us Q I r q
  obtain ⟨a, o, ts, ps, rfl, ha, hod, hp, hk, q⟩ := q
  rw [Vals.ref1 r]
  obtain ⟨hl, vs, rv, ht⟩ := pairsV I hp
  have hvl : vs.length = ps.length := by rw [← rv.length, List.length_map]
  obtain ⟨hho, hz, its, rits, o', ho', hcls, n, hdat⟩ := I.hok a _ ha
  obtain rfl : o = o' := Option.some.inj (hho.symm.trans ho')
  have ei := refs_at rits
  subst ei
  rw [List.length_map] at hz
  obtain ⟨prs, hprs⟩ : ∃ prs : List (Value × Value), prs = (zipU ps vs).map fun x => (Value.ref x.2.1, x.2.2) := ⟨_, rfl⟩
  have hzl : (zipU ps vs).length = ps.length := by unfold zipU; rw [List.length_map, List.length_zip, hvl]; exact Nat.min_self _
  have hpl : prs.length = ps.length := by rw [hprs, List.length_map, hzl]
  have hzat : ∀ (j : Nat) (x : NestedKey × Addr × Value), (zipU ps vs)[j]? = some x → ∃ (p : NestedKey × Addr × V) (u : Value), ps[j]? = some p ∧ vs[j]? = some u ∧ x = (p.1, p.2.1, u) := fun j x e => by
    unfold zipU at e
    rw [List.getElem?_map] at e
    obtain ⟨⟨p, u⟩, e1, e2⟩ := Option.map_eq_some_iff.mp e
    obtain ⟨e3, e4⟩ := List.getElem?_zip_eq_some.mp e1
    exact ⟨p, u, e3, e4, e2.symm⟩
  have items : PairItems s.heap (ts.map Value.ref).toArray (fun j => ts.getD j 0) prs := by
    refine ⟨by simp [hpl, hl], fun j k v e => ?_⟩
    rw [hprs, List.getElem?_map] at e
    obtain ⟨x, e1, e2⟩ := Option.map_eq_some_iff.mp e
    obtain ⟨p, u, e3, e4, rfl⟩ := hzat j x e1
    cases e2
    have hj : j < ts.length := by rw [hl]; exact (List.getElem?_eq_some_iff.mp e3).1
    have et : ts[j]? = some ts[j] := List.getElem?_eq_getElem hj
    have eg : ts.getD j 0 = ts[j] := by rw [List.getD_eq_getElem?_getD, et]; rfl
    refine ⟨by simp [et, eg], .inl ?_⟩
    show s.heap.IsTuple (ts.getD j 0) #[Value.ref p.2.1, u]
    rw [eg]
    exact ht j _ p u et e3 e4
  have keys : ∀ x ∈ zipU ps vs, NkV X.K H x.1 (.ref x.2.1) ∧ x.1.depth ≤ 8 := fun x hx => by
    obtain ⟨j, e⟩ := List.mem_iff_getElem?.mp hx
    obtain ⟨p, u, e3, _, rfl⟩ := hzat j x e
    exact hk p (List.mem_of_getElem? e3)
  refine call_dict_pairsH (knd := nestedKind X.prog X.w) (ps := zipU ps vs) (PairArg.tuple a (ts.map Value.ref).toArray (fun j => ts.getD j 0) prs) (I.ok.hd hc) (by show X.A.units + 1 + 1 + 8 < cLine; omega) ⟨⟨o, n, hho, hcls, hod, hdat⟩, items⟩ ⟨by rw [hzl, hpl], fun i key v e => ?_⟩ (fun h' hk' x hx => ?_) (by rw [hpl, ← hl]; exact hz) fun h' tk hd' hk' => ?_
  · have e' : prs[i]? = some (key, v) := e
    rw [hprs, List.getElem?_map] at e'
    obtain ⟨x, e1, e2⟩ := Option.map_eq_some_iff.mp e'
    cases e2
    exact ⟨x.1, x.2.1, e1, rfl⟩
  · obtain ⟨k1, k2⟩ := keys x hx
    exact nestedKind_stays.stays (fun b ob _ _ e _ => hk' b ob (Nat.ne_of_lt (Heap.lt_size e)) (fun z => nomatch z) e) ⟨nk_is I _ _ _ k1 rfl, k2⟩
  · have keys2 : ∀ x ∈ storedAllH [] (zipU ps vs), NkV X.K H x.1 (.ref x.2.1) := storedAllH_keys (P := fun k b => NkV X.K H k (.ref b)) (fun _ h => nomatch h) fun x hx => (keys x hx).1
    have raw := raw_of (X := X) hd' keys2
    have hn : ((storedAllH [] (zipU ps vs)).map (·.1)).Nodup := by
      obtain ⟨_, _, _, _, _, _, _, _, hn⟩ := hd'
      exact hn
    exact ⟨.ref s.heap.objs.size, _, I.laid (t' := tk) (fun b ob e => hk' b ob (fun z => nomatch z) e) (Nat.le_refl _) (raw_ok raw), rfl, q _ vs (I.hok.fresh (Nat.le_refl _)) (beq_eq_false_iff_ne.mpr (Nat.ne_of_gt I.big)) rv hn⟩
end
end DL
set_option linter.all false
set_option Elab.async false
set_option maxRecDepth 100000
set_option maxHeartbeats 4000000
namespace DL
open PySem PySem.Spec PySem.Calls PyProof.Rows L2
def pairsT : List D → Option (List (D × NestedKey × D))
  | [] => some []
  | d :: ds => (match d with
    | .tup [k, v] => (match keyT k, pairsT ds with
      | some kk, some r => some ((k, kk, v) :: r)
      | _, _ => none)
    | _ => none)
def foldT (acc : List (D × D)) (prs : List (D × NestedKey × D)) : List (D × D) := prs.foldl (fun acc p => putT acc p.1 p.2.1 p.2.2) acc
def dictTD : D → S → R D := fun d s => match d with
  | .pt ds => (match pairsT (unDs ds) with
    | some prs => .ok (.ref s.m.length) { s with m := s.m ++ [.dit (foldT [] prs)] }
    | none => .stuck)
  | _ => .stuck
section
variable {K : PySem.W.Frag} {T : Tb} {g g' : Gh} {H H' : Hp}
def PRel (K : PySem.W.Frag) (T : Tb) (g : Gh) (H : Hp) (pr : D × NestedKey × D) (p : NestedKey × Addr × V) : Prop := pr.2.1 = p.1 ∧ nkD pr.1 = some p.1 ∧ p.1.depth ≤ 8 ∧ Rp K T g H pr.1 (.ref p.2.1) ∧ Rp K T g H pr.2.2 p.2.2
theorem pairsT_of : ∀ {ds : List D} {vs : List V} {prs : List (D × NestedKey × D)}, Rps K T g H ds vs → pairsT ds = some prs → ∃ (ts : List Addr) (ps : List (NestedKey × Addr × V)), vs = ts.map V.ref ∧ Paired (fun t (p : NestedKey × Addr × V) => SqT K H t [V.ref p.2.1, p.2.2]) ts ps ∧ Paired (PRel K T g H) prs ps
  | [], vs, prs, h, e => by
    simp only [Rps] at h
    subst h
    simp only [pairsT, Option.some.injEq] at e
    subst e
    exact ⟨[], [], rfl, .nil, .nil⟩
  | d :: ds, vs, prs, h, e => by
    simp only [Rps] at h
    obtain ⟨v, r, rfl, h1, h2⟩ := h
    simp only [pairsT] at e
    split at e
    · rename_i k w
      cases ek : keyT k with
      | none => rw [ek] at e; cases e
      | some kk =>
        cases er : pairsT ds with
        | none => rw [ek, er] at e; cases e
        | some rr =>
          rw [ek, er] at e
          cases e
          obtain ⟨ts, ps, rfl, hp, hr⟩ := pairsT_of h2 er
          simp only [Rp, Rps] at h1
          obtain ⟨t, us, rfl, hq, kv, r1, rfl, hk, wv, r2, rfl, hw, rfl⟩ := h1
          obtain ⟨k1, k2, k3⟩ := keyT_of ek
          obtain ⟨b, rfl⟩ := tp_ref k1 hk
          exact ⟨t :: ts, (kk, b, wv) :: ps, rfl, .cons hq hp, .cons ⟨rfl, k2, k3, hk, hw⟩ hr⟩
    · cases e
theorem foldT_at : ∀ (prs : List (D × NestedKey × D)) (ps : List (NestedKey × Addr × V)) (us : List Value) (acc : List (D × D)) (xs : List (NestedKey × Addr × Value)) (vs : List V), Paired (PRel K T g H) prs ps → Vals (ps.map (·.2.2)) us → DitR K T g H acc xs vs → ∃ vs', DitR K T g H (foldT acc prs) (storedAllH xs (zipU ps us)) vs'
  | [], [], us, acc, xs, vs, _, hv, h => by
    cases hv
    exact ⟨vs, h⟩
  | [], _ :: _, us, acc, xs, vs, hp, hv, h => nomatch hp
  | _ :: _, [], us, acc, xs, vs, hp, hv, h => nomatch hp
  | pr :: prs, p :: ps, [], acc, xs, vs, hp, hv, h => nomatch hv
  | pr :: prs, p :: ps, u :: us, acc, xs, vs, hp, hv, h => by
    cases hp with
    | cons hr t =>
      obtain ⟨e1, e2, e3, e4, e5⟩ := hr
      cases hv with
      | cons ru rt =>
        obtain ⟨vs1, h1⟩ := putT_at (kd := pr.1) (d := pr.2.2) (k := p.1) (b := p.2.1) (u := u) e2 e4 ru e5 h
        obtain ⟨vs2, h2⟩ := foldT_at prs ps us _ _ _ t rt h1
        refine ⟨vs2, ?_⟩
        rw [← e1] at h2
        have e : storedAllH xs (zipU (p :: ps) (u :: us)) = storedAllH (storedH xs pr.2.1 p.2.1 u) (zipU ps us) := by
          rw [e1]
          rfl
        rw [e]
        exact h2
theorem prel_keys : ∀ {prs : List (D × NestedKey × D)} {ps : List (NestedKey × Addr × V)}, Paired (PRel K T g H) prs ps → ∀ p ∈ ps, NkV K H p.1 (.ref p.2.1) ∧ p.1.depth ≤ 8
  | _, _, .nil, p, hp => nomatch hp
  | _, _, .cons hr t, p, hp => by
    rcases List.mem_cons.mp hp with e | hp
    · subst e
      exact ⟨nk_of _ _ _ hr.2.1 hr.2.2.2.1, hr.2.2.1⟩
    · exact prel_keys t p hp
theorem zipU_key : ∀ {ps : List (NestedKey × Addr × V)} {us : List Value}, ∀ x ∈ zipU ps us, ∃ p ∈ ps, x.1 = p.1 ∧ x.2.1 = p.2.1 := fun {ps us} x hx => by
  unfold zipU at hx
  obtain ⟨⟨p, u⟩, h1, rfl⟩ := List.mem_map.mp hx
  exact ⟨p, (List.of_mem_zip h1).1, rfl, rfl⟩
end
section
variable {T : Tb} {X : Cx} {Γ Γ' : Fls} {F : Fx} {nx lp : Fls} {rm : Mo} {e a b c o i tg iter : Expr} {m m1 m2 m3 : Mo} {f f1 f2 f3 : S → R D} {pos p2 pos' apos cpos : Pos} {es : List Expr} {fs : S → R (List D)}
theorem je_dictT (hu : X.A.units + 64 < cLine) (hc : X.calm = true) (hg : Gl X "dict") (hm : X.mg "dict" = none) (ha : JE T X Γ a .sh f) (hs : starEach [a] X.env = (false, eval a X.env) :: starEach [] X.env := by rfl) (hpl : (backTo pos (starEach [] X.env)).any (·.1) = false := by rfl) :
    JE T X Γ (.Call (.Name "dict" p2) [a] [] pos) .sh (e1 dictTD f) := by
  refine ⟨fun W tk => PE.imp (pe_callTy (call_dictT hc hu) hg hm (by decide +kernel) (pa_cons (ha.run W tk) pa_nil hs) (by decide) (by decide) hs hpl) fun σ H Q ⟨g, st, I, p⟩ => ?_⟩
  refine te_bind ipE I p fun d1 s1 x H1 g1 q1 I1 r1 p1 => ?_
  unfold dictTD at p1
  split at p1
  case h_2 => exact p1.elim
  rename_i ds
  split at p1
  case h_2 => exact p1.elim
  rename_i prs ep
  simp only [RpM, Rp] at r1
  obtain ⟨ad, vs, od, rfl, h1, ho, h2⟩ := r1
  obtain ⟨ts, ps, rfl, h3, h4⟩ := pairsT_of (rps_unD h2) ep
  refine ⟨ad, od, ts, ps, rfl, h1, ho, h3, prel_keys h4, fun p' us hp hlo hv hnd => ?_⟩
  obtain ⟨vs', h5⟩ := foldT_at prs ps us [] [] [] h4 hv .nil
  have hst : Step g1 H1 g1 (upd H1 p' (.ext (RawN p' (storedAllH [] (zipU ps us))))) := .new hp
  have su := hst.sub I1.wf
  have hk := storedAllH_keys (P := fun k b => k.depth ≤ 8 ∧ NkV X.K H1 k (.ref b)) (ps := zipU ps us) (xs := []) (fun _ h => nomatch h) fun x hx => by
    obtain ⟨p, hp', e1, e2⟩ := zipU_key x hx
    rw [e1, e2]
    exact ⟨(prel_keys h4 p hp').2, (prel_keys h4 p hp').1⟩
  exact post_cell (m := .sh) (c := .dit (foldT [] prs)) I1 hp rfl (cell_of (xs := storedAllH [] (zipU ps us)) ⟨upd_same, hlo, hnd, fun x hx => (hk x hx).1, fun x hx => NkV.sub (su) _ _ (hk x hx).2⟩ ((h5.sub su).sub .more)) p1
end
end DL
set_option linter.all false
set_option Elab.async false
set_option maxRecDepth 100000
set_option maxHeartbeats 4000000
namespace DL
open PySem PySem.Spec PySem.Calls PyProof.Rows L2
section
variable {T : Tb} {X : Cx} {Γ Γ' : Fls} {F : Fx} {nx lp : Fls} {rm : Mo} {e a b c o i tg iter : Expr} {m m1 m2 m3 : Mo} {f f1 f2 f3 : S → R D} {pos p2 pos' apos cpos : Pos} {es : List Expr} {fs : S → R (List D)} {ss : List Stmt}
/-- C(e).nm(): e raises -/
def eRaises (f : S → R D) : S → R D := fun st => (f st).bind fun _ _ => .stuck
def tNo (t : TE) : TE := fun σ H _ => t σ H fun _ _ => False
theorem pe_newNo {x nm : Str} {v : V} {u : Value} {t : TE} (hg : Gl X x) (hm : X.mg x = some u) (r : L2.RelV v u) (he : PE X a t) (hd : (x == ("__debug__" : Str)) = false := by decide)
    (hbase : attributeBase (.Call (.Name x p2) [a] [] pos) nm X.env (eval (.Call (.Name x p2) [a] [] pos) X.env) = eval (.Call (.Name x p2) [a] [] pos) X.env := by rfl)
    (ht : backTo pos (starEach [a] X.env) = [(false, eval a X.env)] := by rfl) :
    PE X (.Call (.Attribute (.Call (.Name x p2) [a] [] pos) nm apos) [] [] cpos) (tNo t) := by
  refine ⟨fun pins s σ H Q I h => ?_⟩
  rw [arm_eval_Call, hbase]
  refine wpAny_bind (wpAny_mono (Q := fun _ _ => False) ?_ (fun ov s₁ h₁ => h₁.elim) fun _ _ e => e)
  refine Call_Name ht ?_
  refine wpAny_mono ((L2.pe_glob hg hm r hd).run pins s σ H (fun y H' => H' = H) I rfl) (fun cv s1 ⟨y, H1, I1, _, eH⟩ => ?_) fun _ _ e => e
  subst eH
  unfold callWith
  refine wpAny_bind (wpAny_holding (evalArgs_plain (spliced_cons ?_)))
  refine wpAny_mono (he.run pins s1 σ H1 _ I1 h) (fun v s2 ⟨_, _, _, _, q⟩ => q.elim) fun _ _ e => e
theorem je_newNo {x nm : Str} {v : V} {u : Value} (hg : Gl X x) (hm : X.mg x = some u) (r : L2.RelV v u) (ha : JE T X Γ a m f) (hd : (x == ("__debug__" : Str)) = false := by decide)
    (hbase : attributeBase (.Call (.Name x p2) [a] [] pos) nm X.env (eval (.Call (.Name x p2) [a] [] pos) X.env) = eval (.Call (.Name x p2) [a] [] pos) X.env := by rfl)
    (ht : backTo pos (starEach [a] X.env) = [(false, eval a X.env)] := by rfl) :
    JE T X Γ (.Call (.Attribute (.Call (.Name x p2) [a] [] pos) nm apos) [] [] cpos) .sh (eRaises f) := by
  refine ⟨fun W tk => PE.imp (pe_newNo hg hm r (ha.run W tk) hd hbase ht) fun σ H Q ⟨g, st, I, p⟩ => ?_⟩
  exact te_bind ipE I p fun d1 s1 x H1 g1 q1 I1 r1 p1 => p1.elim
theorem je_newNoZ {x nm : Str} (hg : Gl X x) (hm : ∃ C : Addr, X.mg x = some (.ref C)) (ha : JE T X Γ a m f) (hd : (x == ("__debug__" : Str)) = false := by decide)
    (hbase : attributeBase (.Call (.Name x p2) [a] [] pos) nm X.env (eval (.Call (.Name x p2) [a] [] pos) X.env) = eval (.Call (.Name x p2) [a] [] pos) X.env := by rfl)
    (ht : backTo pos (starEach [a] X.env) = [(false, eval a X.env)] := by rfl) :
    JE T X Γ (.Call (.Attribute (.Call (.Name x p2) [a] [] pos) nm apos) [] [] cpos) .sh (eRaises f) :=
  let ⟨C, h⟩ := hm
  je_newNo (v := .ref C) hg h rfl ha hd hbase ht
end
end DL
set_option linter.all false
set_option Elab.async false
set_option maxRecDepth 100000
set_option maxHeartbeats 4000000
namespace DL
open PySem PySem.Spec PySem.Calls PyProof.Rows L2
/-! ### x < y of alike data -/
def rLtDt (K : PySem.W.Frag) : V → V → Hp → VK → Prop := fun x y H Q => ∃ p q, Dp K H x p ∧ Dp K H y q ∧ PySem.W.alike p q = true ∧ p ≠ .none ∧ p.depth ≤ 60 ∧ Q (.bl (PySem.W.dataLt p q)) H
section
variable {X : Cx} {T : Tb}
theorem op_ltDt (hu : X.A.units + 64 < cLine) : OpR X (compareOp .Lt) (rLtDt X.K) := by
  intro pins s σ H x y u v Q I rx ry h
  obtain ⟨p, q, hp, hq, hal, hn, hd, k⟩ := h
  obtain ⟨as, ra⟩ := Dp.reads I _ _ _ hp rx
  obtain ⟨bs, rb⟩ := Dp.reads I _ _ _ hq ry
  exact PySem.W.lt_data ra rb hal hn (by omega) ⟨.bl (PySem.W.dataLt p q), H, I, rfl, k⟩
def ltDt (d e : D) : Option Bool := match d, e with
  | .int i, .int j => some (ltB i j)
  | d, e => if (toP d).isSome && (toP e).isSome && isTupP (encD d) && decide ((encD d).depth ≤ 30) && PySem.W.alike (encD d) (encD e) then some (ltE d e) else none
theorem enc_some {d : D} (h : (toP d).isSome = true) : toP d = some (encD d) := by
  obtain ⟨p, hp⟩ := Option.isSome_iff_exists.mp h
  unfold encD
  rw [hp]
  rfl
theorem cmp_ltDt (hu : X.A.units + 64 < cLine) : CmpR X T .Lt .b1 .b1 ltDt := by
  refine ⟨_, op_ltDt (X := X) hu, fun Γ g σ H st Q x y d1 d2 H0 H1 k I r1 r2 e p => ?_⟩
  unfold ltDt at e
  split at e
  · rename_i i j
    cases e
    refine ⟨.int i, .int j, dp_b r1 rfl, dp_b r2 rfl, by simp [PySem.W.alike], by simp, by simp [PyData.depth], ?_⟩
    rw [PySem.W.dataLt_int, ← ltB_eq]
    exact p
  · split at e
    · rename_i hc
      cases e
      simp only [Bool.and_eq_true, decide_eq_true_eq] at hc
      obtain ⟨⟨⟨⟨h1, h2⟩, h3⟩, h4⟩, h5⟩ := hc
      refine ⟨encD d1, encD d2, dp_b r1 (enc_some h1), dp_b r2 (enc_some h2), h5, fun z => by rw [z] at h3; simp [isTupP] at h3, by omega, p⟩
    · cases e
end
end DL
set_option linter.all false
set_option Elab.async false
set_option maxRecDepth 100000
set_option maxHeartbeats 4000000
namespace DL
open PySem PySem.Spec PySem.Calls PyProof.Rows L2
/-! ### defs with defaults (numbers), called without the last arguments -/
section
variable {P : Program} {w : World} {K : PySem.W.Frag} {mg : Str → Option Value} {base : Heap} {T : Tb}
theorem fn_mkD {x qual : Str} {st : Stmt} {f : Addr} {fd : FuncData} {N ps : List Str} {k n : Nat} {rm : Mo} {q : S → RS} {Γ' : Fls} {dvs : List V} {kws : List (Str × V)} (F : FunD K x qual (defArgs st) (defBody st) (defScope st) dvs kws f fd) (Sc : FnScope N ps (defScope st)) (hps : ps.length = n) (hle : n ≤ N.length)
    (hb : ∀ (cdv : Value) (A : Around) (outer : List Env) (s : Shared) (H : Hp) (E : XK), Room k (A.deeper (envOfC qual (defScope st) s.heap.objs.size f cdv)) →
      PassesOwn (model P w) (cxOf (L2.CX P w) P w K mg base N qual (defScope st) f cdv A outer s H E).A (cxOf (L2.CX P w) P w K mg base N qual (defScope st) f cdv A outer s H E).env (cxOf (L2.CX P w) P w K mg base N qual (defScope st) f cdv A outer s H E).xe →
      JSs T (cxOf (L2.CX P w) P w K mg base N qual (defScope st) f cdv A outer s H E) [] ⟨Γ', [], rm⟩ (defBody st) q) :
    FnOk P w K mg base (L2.CX P w) (k + 1) f fd ps (spOf K T n rm (mkF N.length q)) := by
  refine F.ok (CX := L2.CX P w) Sc (fun vs H Q E h => ?_) (fun cdv A outer s H vs Q E hr h => ?_)
  · obtain ⟨ds, m, g, h1, _, _, h2, _⟩ := h
    rw [h2.length, h1, hps]
  · obtain ⟨ds, m, g, hl, wf, hfp, rps, mr, hq⟩ := h
    refine ⟨_, (hb cdv A outer s H E hr (passes_of rfl)).run (fun cls d _ H' => E cls d H') (takes_of rfl rfl rfl rfl), ?_⟩
    have len := rps.length
    have I : SR K T [] g (L2.start N vs) H ⟨ds.map some ++ List.replicate (N.length - ds.length) none, m⟩ := ⟨wf, by
      unfold L2.start
      simp only [List.length_append, List.length_map, List.length_replicate, len], fun i hi => by
      refine start_get N vs ds len i hi (fun v d => SlR K T g H i (fl [] i) v d) True.intro fun v d e1 e2 => ?_
      obtain ⟨v', e3, r⟩ := rps.get e2
      rw [e1] at e3
      cases e3
      exact r, mr⟩
    refine ⟨⟨g, H⟩, g, _, ⟨I, .refl g H, hfp⟩, ?_⟩
    unfold mkF at hq
    cases e : q ⟨ds.map some ++ List.replicate (N.length - ds.length) none, m⟩ with
    | next s' =>
      rw [e] at hq
      exact fun σ' H' g' s2 I2 => hq _ H' ⟨g'.A, fun _ => [], g'.mu⟩ (s2.trans .drop) I2.wf.drop (fun _ => rfl) I2.me.drop rm_non
    | ret d s' =>
      rw [e] at hq
      exact hq
    | raise ex s' =>
      rw [e] at hq
      exact fun cls dd σ' H' g' s2 I2 x => hq cls dd H' ⟨g'.A, fun _ => [], g'.mu⟩ (s2.trans .drop) I2.wf.drop (fun _ => rfl) I2.me.drop x.drop
    | brk _ => rw [e] at hq; exact hq.elim
    | cont _ => rw [e] at hq; exact hq.elim
    | stuck => rw [e] at hq; exact hq.elim
structure CalD (P : Program) (w : World) (K : PySem.W.Frag) (mg : Str → Option Value) (base : Heap) (T : Tb) (x : Str) (k n : Nat) (rm : Mo) (dds : List D) (mf : MF) : Prop where
  ex : ∃ f fd ps ds dvs, FnOk P w K mg base (L2.CX P w) k f fd ps (spOf K T n rm mf) ∧ mg x = some (.ref f) ∧ PySem.W.keepIn K (.ref f) = true ∧ Binds K fd ps ds ∧ Vals dvs ds ∧ ∀ g H, Rps K T g H dds dvs
theorem CalD.trim {x : Str} {k n : Nat} {rm : Mo} {dds : List D} {mf : MF} (C : CalD P w K mg base T x k n rm dds mf) (hm : rm = .sh ∨ rm = .f1 := by first | exact .inl rfl | exact .inr rfl) : CalD P w K mg base T x k n rm dds (trimF mf) := by
  obtain ⟨f, fd, ps, ds, dvs, F, r⟩ := C.ex
  exact ⟨f, fd, ps, ds, dvs, F.imp fun vs H Q E h => sp_trim hm h, r⟩
def FnFD (K : PySem.W.Frag) (mg : Str → Option Value) (T : Tb) (x : Str) (st : Stmt) (ps : List Str) (dds : List D) : Prop :=
  ∃ f fd dvs ds, FunD K x x (defArgs st) (defBody st) (defScope st) dvs [] f fd ∧ Binds K fd ps ds ∧ Vals dvs ds ∧ (∀ g H, Rps K T g H dds dvs) ∧ mg x = some (.ref f)
theorem fnFD_mk {h : Heap} {x : Str} {st : Stmt} {ps : List Str} {f T0 : Addr} {od an odT : Option Addr} {sl slT : Array (Option Value)} {oc kV dc pm cd ct ocT : Value} {i : Int} {tk nT n : Nat} (X : K.In h) (G : h.Ns mainGlobals mg) (a : PySem.W.nsIn K mainGlobals x = some (some (.ref f)))
    (l : K.lookup f = some ⟨oc, od, .func (PySem.W.fnOf x x (defArgs st) (defBody st) (defScope st) (.ref T0) kV dc pm an cd ct), sl⟩) (c : PySem.W.codeIn K cd x = true) (k : PySem.W.keepIn K (.ref f) = true)
    (lT : K.lookup T0 = some ⟨ocT, odT, .seq #[.int i tk] nT, slT⟩) (hn : n + 1 = ps.length)
    (hb : ∀ (T : Addr) (kV doc pm : Value) (an : Option Addr) (cdv ct : Value) (us its : List Value), us.length = n → its.length = 1 →
      ∃ k, bindArgs (PySem.W.fnOf x x (defArgs st) (defBody st) (defScope st) (.ref T) kV doc pm an cdv ct) ⟨us, []⟩ = seqItems? (.ref T) >>= k ∧ k (some its.toArray) = pure (ps.zip (us ++ its.drop 0))) : FnFD K mg T x st ps [.int i] := by
  have F : FunD K x x (defArgs st) (defBody st) (defScope st) [.int i] [] f _ := ⟨⟨oc, od, .ref T0, kV, dc, pm, an, cd, ct, sl, rfl, l, c, .inr ⟨by simp, T0, _, [.int i tk], nT, rfl, lT, rfl, .cons ⟨_, rfl⟩ .nil⟩, .inl rfl⟩, k⟩
  obtain ⟨ds, hv, hB⟩ := F.binds1 n 0 (by simp) (by simpa using hn) hb
  exact ⟨f, _, [.int i], ds, F, hB, by simpa using hv, fun g H => Rps.cons rp_int Rps.nil, PySem.W.mg_of X G a⟩
end
section
variable {T : Tb} {X : Cx} {Γ Γ' : Fls} {F : Fx} {e a b c tg iter : Expr} {m m1 m2 m3 : Mo} {f f1 f2 f3 : S → R D} {pos p2 pos' : Pos} {es rest : List Expr} {fs fi : S → R (List D)} {k n : Nat} {mf : MF}
def eCallD (n : Nat) (mf : MF) (dds : List D) (fs : S → R (List D)) : S → R D := fun st => (fs st).bind fun ds s => if (ds ++ dds).length = n then callR (mf (ds ++ dds) s.m) s else .stuck
theorem je_callD {x : Str} {p : Pos} {dds : List D} (C : CalD X.prog X.w X.K X.mg X.base T x k n m dds mf) {k0 : Nat} (hr : Room k0 X.A) (hk : k ≤ k0) (hg : Gl X x) (ha : JA T X Γ (e :: es) fs) (hm : m = .sh ∨ m = .f1 ∨ m = .f2 := by first | exact .inl rfl | exact .inr (.inl rfl) | exact .inr (.inr rfl)) (hdb : (x == ("__debug__" : Str)) = false := by decide)
    (he : starEach (e :: es) X.env = (false, eval e X.env) :: starEach es X.env := by rfl) (hpl : (backTo pos (starEach es X.env)).any (·.1) = false := by rfl) : JE T X Γ (.Call (.Name x p) (e :: es) [] pos) m (eCallD n mf dds fs) := by
  obtain ⟨fa, fd, ps, ds0, dvs, Fn, hmg, kp, hb, hv, hr2⟩ := C.ex
  refine ⟨fun W tk => PE.imp (pe_callSD (E := WE W) Fn (hr.mono hk) hg hmg kp hb hv (passAt tk) (ha.run W tk) hdb he hpl) fun σ H Q ⟨g, st, I, p⟩ => ?_⟩
  refine ta_bind ipE I p fun ds s1 vs H1 g1 q1 I1 r1 p1 => ?_
  split at p1
  · rename_i hl
    exact sp_of hm I1 (r1.append (hr2 _ _)) hl p1
  · exact p1.elim
end
end DL
set_option linter.all false
set_option Elab.async false
set_option maxRecDepth 100000
set_option maxHeartbeats 4000000
namespace DL
open PySem PySem.Spec PySem.Calls PyProof.Rows L2
/-! ### instances: attributes, stores, making, methods -/
end DL
set_option linter.all false
set_option Elab.async false
set_option maxRecDepth 100000
set_option maxHeartbeats 4000000
namespace DL
open PySem PySem.Spec PySem.Calls PyProof.Rows L2
/-! ### C(..): a new instance, then its __init__ -/
end DL
set_option linter.all false
set_option Elab.async false
set_option maxRecDepth 100000
set_option maxHeartbeats 4000000
namespace DL
open PySem PySem.Spec PySem.Calls PyProof.Rows L2
/-! ### dicts with tuple keys: k in d, {k: v}, len(d) -/
end DL
set_option linter.all false
set_option Elab.async false
set_option maxRecDepth 100000
set_option maxHeartbeats 4000000
namespace DL
open PySem PySem.Spec PySem.Calls PyProof.Rows L2
/-! ### what is known of a class and its methods at the module's top -/
end DL
set_option linter.all false
set_option Elab.async false
set_option maxRecDepth 100000
set_option maxHeartbeats 4000000
namespace DL
open PySem PySem.Spec PySem.Calls PyProof.Rows L2
/-! ### max of alike data, x <= y of alike data, a dict of the module (whole numbers to whole numbers) -/
end DL
set_option linter.all false
set_option Elab.async false
set_option maxRecDepth 100000
set_option maxHeartbeats 4000000
namespace DL
open PySem PySem.Spec PySem.Calls PyProof.Rows L2
end DL
set_option linter.all false
set_option Elab.async false
set_option maxRecDepth 100000
set_option maxHeartbeats 4000000
namespace DL
open PySem PySem.Spec PySem.Calls PyProof.Rows L2
/-! ### a op1 b op2 c; a dict display of three text keys -/
def eChain (o1 o2 : D → D → Option Bool) (f1 f2 f3 : S → R D) : S → R D := fun st => (f1 st).bind fun d1 s1 => (f2 s1).bind fun d2 s2 => match o1 d1 d2 with
  | some true => (f3 s2).bind fun d3 s3 => (match o2 d2 d3 with
    | some k => .ok (.bl k) s3
    | none => .stuck)
  | some false => .ok (.bl false) s2
  | none => .stuck
section
variable {T : Tb} {X : Cx} {Γ : Fls} {a b c : Expr} {f1 f2 f3 : S → R D} {pos : Pos}
theorem je_chain {op op' : CmpOp} {o1 o2 : D → D → Option Bool} (h1 : CmpR X T op .b1 .b1 o1) (h2 : CmpR X T op' .b1 .b1 o2) (ha : JE T X Γ a .b1 f1) (hb : JE T X Γ b .b1 f2) (hc : JE T X Γ c .b1 f3)
    (hm : lastMarks [op, op'] [b, c] = false := by with_unfolding_all rfl) : JE T X Γ (.Compare a [op, op'] [b, c] pos) .sh (eChain o1 o2 f1 f2 f3) := by
  obtain ⟨r1', ho1, key1⟩ := h1.ex
  obtain ⟨r2', ho2, key2⟩ := h2.ex
  refine ⟨fun W tk => PE.imp (pe_chain ho1 ho2 (ha.run W tk) (hb.run W tk) (hc.run W tk) hm) fun σ H Q ⟨g, st, I, p⟩ => ?_⟩
  refine te_bind ipE I p fun d1 s1 x H1 g1 q1 I1 r1 p1 => te_bind ipE I1 p1 fun d2 s2 y H2 g2 q2 I2 r2 p2 => ?_
  have r1s := r1.step I1.wf I2.wf q2
  split at p2
  · rename_i e1
    refine key1 Γ g2 σ H2 s2 _ x y d1 d2 H H1 true I2 r1s r2 e1 ⟨true, rfl, ?_⟩
    rw [if_pos rfl]
    refine te_bind ipE I2 p2 fun d3 s3 z H3 g3 q3 I3 r3 p3 => ?_
    split at p3
    · rename_i k e2
      exact key2 Γ g3 σ H3 s3 Q y z d2 d3 H1 H2 k I3 (r2.step I2.wf I3.wf q3) r3 e2 (post_v I3 p3 rm_bl)
    · exact p3.elim
  · rename_i e1
    refine key1 Γ g2 σ H2 s2 _ x y d1 d2 H H1 false I2 r1s r2 e1 ⟨false, rfl, ?_⟩
    rw [if_neg (by decide)]
    exact post_v I2 p2 rm_bl
  · exact p2.elim
end
end DL
set_option linter.all false
set_option Elab.async false
set_option maxRecDepth 100000
set_option maxHeartbeats 4000000
namespace DL
open PySem PySem.Spec PySem.Calls PyProof.Rows L2
/-! ### {k1: v1, k2: v2, k3: v3} -/
end DL
set_option linter.all false
set_option Elab.async false
set_option maxRecDepth 100000
set_option maxHeartbeats 4000000
namespace DL
open PySem PySem.Spec PySem.Calls PyProof.Rows L2
/-! ### sorted(set(xs)), of ints -/
end DL
set_option linter.all false
set_option Elab.async false
set_option maxRecDepth 100000
namespace DL
open PySem PySem.Spec PyProof.Rows L2
/-! ### sum(ints), sorted of texts that are all one, range(a, b) as an inner walk -/
end DL
set_option linter.all false
set_option Elab.async false
set_option maxRecDepth 100000
namespace DL
open PySem PySem.Spec PyProof.Rows L2
/-! ### a tuple as it is written, known to have no dict of its own -/
end DL
set_option linter.all false
set_option Elab.async false
set_option maxRecDepth 100000
namespace A12
open PySem PySem.Spec PyProof.Rows L2 DL
def topS (i : Nat) : Stmt := PySem.Challenge.pw_hingewebs_k12_values_and_letters_refused.main.body.getD i (.Pass ⟨0, 0, 0, 0⟩)
def d_MOST_LETTERS : D := (.int 5)
def d_MOST_TERMS : D := (.int 2000)
def d_ONE : D := (.tup [(.int 1), (.int 1)])
abbrev s__law_box : Stmt := topS 109
abbrev s__law_joins : Stmt := topS 114
abbrev s__law_take : Stmt := topS 110
abbrev s__law_kind_web : Stmt := topS 115
abbrev s_tupled : Stmt := topS 12
abbrev s_is_long : Stmt := topS 11
abbrev s_is_number : Stmt := topS 8
abbrev s_is_table : Stmt := topS 26
abbrev s_beside : Stmt := topS 27
abbrev s_part_from : Stmt := topS 28
abbrev s_whole_weights : Stmt := topS 31
abbrev s_lowest_ratio : Stmt := topS 29
abbrev s_sign : Stmt := topS 25
abbrev s_part_weights : Stmt := topS 30
abbrev s_weights_in : Stmt := topS 32
abbrev s_is_web : Stmt := topS 33
abbrev s_sure_web : Stmt := topS 34
abbrev s_new_value : Stmt := topS 44
abbrev s_turned_values : Stmt := topS 45
abbrev s_is_from : Stmt := topS 9
abbrev s_is_fraction : Stmt := topS 18
abbrev s_is_values_of : Stmt := topS 41
abbrev s_sure_values : Stmt := topS 42
abbrev s_sure_number : Stmt := topS 35
abbrev s_is_below : Stmt := topS 10
abbrev s_known_place : Stmt := topS 36
abbrev s_values_hinged : Stmt := topS 49
abbrev s_lowest : Stmt := topS 19
abbrev s_over : Stmt := topS 22
abbrev s_times : Stmt := topS 21
abbrev s_power : Stmt := topS 23
abbrev s_added : Stmt := topS 20
abbrev s_carried : Stmt := topS 83
abbrev s_turned_ratios : Stmt := topS 84
abbrev s_sure_ratios : Stmt := topS 86
abbrev s_ratios_hinged : Stmt := topS 87
abbrev s_sure_row : Stmt := topS 37
abbrev s_walked_values : Stmt := topS 46
abbrev s_known_row : Stmt := topS 38
abbrev s_values_after : Stmt := topS 50
abbrev s_new_values : Stmt := topS 51
abbrev s_hinge : Stmt := topS 39
abbrev s_ratios_after : Stmt := topS 88
abbrev s_walked_shades : Stmt := topS 95
abbrev s_unit_row : Stmt := topS 14
abbrev s_first_in : Stmt := topS 91
abbrev s_shades_after : Stmt := topS 102
abbrev s_goes_up : Stmt := topS 96
abbrev s_green_path : Stmt := topS 104
abbrev s_is_green_row : Stmt := topS 105
abbrev s_walked_sums : Stmt := topS 70
abbrev s_sums_after : Stmt := topS 79
abbrev s_gathered : Stmt := topS 57
abbrev s_plus : Stmt := topS 58
abbrev s_ascends : Stmt := topS 13
abbrev s_is_sum_of : Stmt := topS 56
abbrev s_sure_sum : Stmt := topS 72
abbrev s_sure_many : Stmt := topS 71
abbrev s_sum_added : Stmt := topS 75
abbrev s_shifted : Stmt := topS 59
abbrev s_multiplied : Stmt := topS 61
abbrev s_sum_times : Stmt := topS 76
abbrev s_quotient : Stmt := topS 63
abbrev s_sum_over : Stmt := topS 77
abbrev s__law_same : Stmt := topS 113
abbrev s__law_cells : Stmt := topS 111
abbrev s__law_of : Stmt := topS 112
abbrev s__law_bad_webs : Stmt := topS 118
abbrev s_product_of : Stmt := topS 43
abbrev s_ratio_at : Stmt := topS 82
abbrev s_ratios_of : Stmt := topS 85
abbrev s_even_values : Stmt := topS 48
abbrev s_are_whole : Stmt := topS 52
abbrev s_is_values : Stmt := topS 47
abbrev s_is_shades_of : Stmt := topS 92
abbrev s_is_shades : Stmt := topS 100
abbrev s_shaded : Stmt := topS 94
abbrev s_sure_shades : Stmt := topS 93
abbrev s_shades_hinged : Stmt := topS 101
abbrev s_green_in : Stmt := topS 97
abbrev s_is_full_row : Stmt := topS 106
abbrev s_full_row : Stmt := topS 107
abbrev s_first_shades : Stmt := topS 99
abbrev s_greens : Stmt := topS 103
abbrev s_value_of : Stmt := topS 65
abbrev s_sum_value : Stmt := topS 78
abbrev s_bottoms : Stmt := topS 80
abbrev s_letter_in : Stmt := topS 66
abbrev s_letter : Stmt := topS 74
abbrev s_is_letter_sum : Stmt := topS 73
abbrev s__law_heard : Stmt := topS 116
abbrev s__law_all_unfit : Stmt := topS 117
abbrev s_law : Stmt := topS 119
structure Fa (K : PySem.W.Frag) (mg : Str → Option Value) (T : Tb) (P : Program) (base : Heap) : Prop where
  seer : SeerP P base
  f__law_box : FnF K mg "_law_box" s__law_box ["script", "k"]
  f__law_joins : FnF K mg "_law_joins" s__law_joins ["word"]
  f__law_take : FnF K mg "_law_take" s__law_take ["tin", "below_so"]
  f__law_kind_web : FnF K mg "_law_kind_web" s__law_kind_web ["tin", "word"]
  f_tupled : FnF K mg "tupled" s_tupled ["value"]
  f_is_long : FnF K mg "is_long" s_is_long ["thing", "length"]
  f_is_number : FnF K mg "is_number" s_is_number ["thing"]
  f_is_table : FnF K mg "is_table" s_is_table ["thing"]
  f_beside : FnF K mg "beside" s_beside ["web", "place"]
  f_part_from : FnF K mg "part_from" s_part_from ["web", "first"]
  f_whole_weights : FnF K mg "whole_weights" s_whole_weights ["ratios"]
  f_lowest_ratio : FnF K mg "lowest_ratio" s_lowest_ratio ["top", "bottom"]
  f_sign : FnF K mg "sign" s_sign ["number"]
  f_part_weights : FnF K mg "part_weights" s_part_weights ["web", "first"]
  f_weights_in : FnF K mg "weights_in" s_weights_in ["web"]
  f_is_web : FnF K mg "is_web" s_is_web ["thing"]
  f_sure_web : FnF K mg "sure_web" s_sure_web ["web"]
  f_new_value : FnF K mg "new_value" s_new_value ["web", "values", "place"]
  f_turned_values : FnF K mg "turned_values" s_turned_values ["web", "values", "place"]
  f_is_from : FnF K mg "is_from" s_is_from ["thing", "least"]
  f_is_fraction : FnF K mg "is_fraction" s_is_fraction ["thing"]
  f_is_values_of : FnF K mg "is_values_of" s_is_values_of ["many", "thing"]
  f_sure_values : FnF K mg "sure_values" s_sure_values ["web", "values"]
  f_sure_number : FnF K mg "sure_number" s_sure_number ["place"]
  f_is_below : FnF K mg "is_below" s_is_below ["thing", "many"]
  f_known_place : FnF K mg "known_place" s_known_place ["web", "place"]
  f_values_hinged : FnF K mg "values_hinged" s_values_hinged ["web", "values", "place"]
  f_lowest : FnF K mg "lowest" s_lowest ["top", "bottom"]
  f_over : FnF K mg "over" s_over ["one", "other"]
  f_times : FnF K mg "times" s_times ["one", "other"]
  f_power : FnF K mg "power" s_power ["one", "many"]
  f_added : FnF K mg "added" s_added ["one", "other"]
  f_carried : FnF K mg "carried" s_carried ["ratio", "turned", "many"]
  f_turned_ratios : FnF K mg "turned_ratios" s_turned_ratios ["web", "ratios", "place"]
  f_sure_ratios : FnF K mg "sure_ratios" s_sure_ratios ["web", "ratios"]
  f_ratios_hinged : FnF K mg "ratios_hinged" s_ratios_hinged ["web", "ratios", "place"]
  f_sure_row : FnF K mg "sure_row" s_sure_row ["row"]
  f_walked_values : FnF K mg "walked_values" s_walked_values ["web", "values", "row"]
  f_known_row : FnF K mg "known_row" s_known_row ["web", "row"]
  f_values_after : FnF K mg "values_after" s_values_after ["web", "values", "row"]
  f_new_values : FnF K mg "new_values" s_new_values ["web", "values", "row"]
  f_hinge : FnF K mg "hinge" s_hinge ["web", "place"]
  f_ratios_after : FnF K mg "ratios_after" s_ratios_after ["web", "ratios", "row"]
  f_walked_shades : FnF K mg "walked_shades" s_walked_shades ["web", "shades", "row"]
  f_unit_row : FnF K mg "unit_row" s_unit_row ["many", "place"]
  f_first_in : FnF K mg "first_in" s_first_in ["many"]
  f_shades_after : FnF K mg "shades_after" s_shades_after ["web", "row"]
  f_goes_up : FnF K mg "goes_up" s_goes_up ["shade"]
  f_green_path : FnF K mg "green_path" s_green_path ["web", "row"]
  f_is_green_row : FnF K mg "is_green_row" s_is_green_row ["web", "row"]
  f_walked_sums : FnF K mg "walked_sums" s_walked_sums ["web", "row"]
  f_sums_after : FnF K mg "sums_after" s_sums_after ["web", "row"]
  f_gathered : FnF K mg "gathered" s_gathered ["table"]
  f_plus : FnFD K mg T "plus" s_plus ["one", "other", "many"] [.int 1]
  f_ascends : FnF K mg "ascends" s_ascends ["row"]
  f_is_sum_of : FnF K mg "is_sum_of" s_is_sum_of ["many", "thing"]
  f_sure_sum : FnF K mg "sure_sum" s_sure_sum ["many", "value"]
  f_sure_many : FnF K mg "sure_many" s_sure_many ["many"]
  f_sum_added : FnF K mg "sum_added" s_sum_added ["many", "one", "other"]
  f_shifted : FnF K mg "shifted" s_shifted ["powers", "other"]
  f_multiplied : FnF K mg "multiplied" s_multiplied ["one", "other"]
  f_sum_times : FnF K mg "sum_times" s_sum_times ["many", "one", "other"]
  f_quotient : FnF K mg "quotient" s_quotient ["one", "other"]
  f_sum_over : FnF K mg "sum_over" s_sum_over ["many", "one", "other"]
  f__law_same : FnF K mg "_law_same" s__law_same ["got", "due"]
  f__law_cells : FnF K mg "_law_cells" s__law_cells ["script", "most_so"]
  f__law_of : FnF K mg "_law_of" s__law_of ["tin", "goods_so"]
  f__law_bad_webs : FnF K mg "_law_bad_webs" s__law_bad_webs []
  f_product_of : FnF K mg "product_of" s_product_of ["values", "powers"]
  f_ratio_at : FnF K mg "ratio_at" s_ratio_at ["web", "values", "place"]
  f_ratios_of : FnF K mg "ratios_of" s_ratios_of ["web", "values"]
  f_even_values : FnF K mg "even_values" s_even_values ["many"]
  f_are_whole : FnF K mg "are_whole" s_are_whole ["values"]
  f_is_values : FnF K mg "is_values" s_is_values ["web", "thing"]
  f_is_shades_of : FnF K mg "is_shades_of" s_is_shades_of ["many", "thing"]
  f_is_shades : FnF K mg "is_shades" s_is_shades ["web", "thing"]
  f_shaded : FnF K mg "shaded" s_shaded ["web", "shades", "place"]
  f_sure_shades : FnF K mg "sure_shades" s_sure_shades ["many", "shades"]
  f_shades_hinged : FnF K mg "shades_hinged" s_shades_hinged ["web", "shades", "place"]
  f_green_in : FnF K mg "green_in" s_green_in ["shades"]
  f_is_full_row : FnF K mg "is_full_row" s_is_full_row ["web", "thing"]
  f_full_row : FnF K mg "full_row" s_full_row ["web"]
  f_first_shades : FnF K mg "first_shades" s_first_shades ["many"]
  f_greens : FnF K mg "greens" s_greens ["shades"]
  f_value_of : FnF K mg "value_of" s_value_of ["one", "values"]
  f_sum_value : FnF K mg "sum_value" s_sum_value ["many", "one", "values"]
  f_bottoms : FnF K mg "bottoms" s_bottoms ["many", "one"]
  f_letter_in : FnF K mg "letter_in" s_letter_in ["many", "letter"]
  f_letter : FnF K mg "letter" s_letter ["many", "number"]
  f_is_letter_sum : FnF K mg "is_letter_sum" s_is_letter_sum ["many", "thing"]
  f__law_heard : FnF K mg "_law_heard" s__law_heard ["door_so", "its"]
  f__law_all_unfit : FnF K mg "_law_all_unfit" s__law_all_unfit ["rows_so"]
  f_law : FnF K mg "law" s_law ["script"]
  t_values_hinged : ∃ f, mg "values_hinged" = some (.ref f) ∧ T.fn 0 = some f
  t_ratios_hinged : ∃ f, mg "ratios_hinged" = some (.ref f) ∧ T.fn 1 = some f
  t_values_after : ∃ f, mg "values_after" = some (.ref f) ∧ T.fn 2 = some f
  t_new_values : ∃ f, mg "new_values" = some (.ref f) ∧ T.fn 3 = some f
  t_ratios_after : ∃ f, mg "ratios_after" = some (.ref f) ∧ T.fn 4 = some f
  t_ratios_of : ∃ f, mg "ratios_of" = some (.ref f) ∧ T.fn 5 = some f
  t_even_values : ∃ f, mg "even_values" = some (.ref f) ∧ T.fn 6 = some f
  t_are_whole : ∃ f, mg "are_whole" = some (.ref f) ∧ T.fn 7 = some f
  t_is_values : ∃ f, mg "is_values" = some (.ref f) ∧ T.fn 8 = some f
  t_is_shades : ∃ f, mg "is_shades" = some (.ref f) ∧ T.fn 9 = some f
  t_shades_hinged : ∃ f, mg "shades_hinged" = some (.ref f) ∧ T.fn 10 = some f
  t_shades_after : ∃ f, mg "shades_after" = some (.ref f) ∧ T.fn 11 = some f
  t_is_green_row : ∃ f, mg "is_green_row" = some (.ref f) ∧ T.fn 12 = some f
  t_sums_after : ∃ f, mg "sums_after" = some (.ref f) ∧ T.fn 13 = some f
  t_is_full_row : ∃ f, mg "is_full_row" = some (.ref f) ∧ T.fn 14 = some f
  t_full_row : ∃ f, mg "full_row" = some (.ref f) ∧ T.fn 15 = some f
  t_first_shades : ∃ f, mg "first_shades" = some (.ref f) ∧ T.fn 16 = some f
  t_greens : ∃ f, mg "greens" = some (.ref f) ∧ T.fn 17 = some f
  t_sum_added : ∃ f, mg "sum_added" = some (.ref f) ∧ T.fn 18 = some f
  t_sum_times : ∃ f, mg "sum_times" = some (.ref f) ∧ T.fn 19 = some f
  t_sum_over : ∃ f, mg "sum_over" = some (.ref f) ∧ T.fn 20 = some f
  t_sum_value : ∃ f, mg "sum_value" = some (.ref f) ∧ T.fn 21 = some f
  t_bottoms : ∃ f, mg "bottoms" = some (.ref f) ∧ T.fn 22 = some f
  t_letter : ∃ f, mg "letter" = some (.ref f) ∧ T.fn 23 = some f
  t_is_letter_sum : ∃ f, mg "is_letter_sum" = some (.ref f) ∧ T.fn 24 = some f
  t_all : ∀ j f, T.fn j = some f → j < 25
  n_LookupError : mg "LookupError" = none
  n_ValueError : mg "ValueError" = none
  n_abs : mg "abs" = none
  n_all : mg "all" = none
  n_any : mg "any" = none
  n_bool : mg "bool" = none
  n_dict : mg "dict" = none
  n_enumerate : mg "enumerate" = none
  n_int : mg "int" = none
  n_isinstance : mg "isinstance" = none
  n_len : mg "len" = none
  n_list : mg "list" = none
  n_max : mg "max" = none
  n_min : mg "min" = none
  n_range : mg "range" = none
  n_sorted : mg "sorted" = none
  n_str : mg "str" = none
  n_super : mg "super" = none
  n_tuple : mg "tuple" = none
  n_zip : mg "zip" = none
  c_MOST_LETTERS : ConF K mg T "MOST_LETTERS" d_MOST_LETTERS
  c_MOST_TERMS : ConF K mg T "MOST_TERMS" d_MOST_TERMS
  c_ONE : ConF K mg T "ONE" d_ONE
  b_gcd : mg "gcd" = some (.builtin "math.gcd")
  w_Search : ∃ C : Addr, mg "Search" = some (.ref C)
  x_Unfit : Exc0 K T mg "Unfit" 0
  x_NoPlace : Exc1 P K T mg "NoPlace" 1
  x_CanNot : Exc0 K T mg "CanNot" 2
  x_TooMany : Exc0 K T mg "TooMany" 3
  k_CanNot : CatF K T mg "CanNot" (· == 2)
  k_NoPlace : CatF K T mg "NoPlace" (· == 1)
  k_TooMany : CatF K T mg "TooMany" (· == 3)
  k_Unfit : CatF K T mg "Unfit" (· == 0)
  k_BadText : CatF K T mg "BadText" (fun _ => false)
  s_NoPlace : SayF K T (· == 1) "LookupError" true "place"
  s_CanNot : SayR K T (· == 2) "ValueError" true
  s_TooMany : SayR K T (· == 3) "ValueError" true
  s_Unfit : SayR K T (· == 0) "ValueError" true
section
variable {P : Program} {w : World} {K : PySem.W.Frag} {mg : Str → Option Value} {base : Heap} {T : Tb}
def N__law_box : List Str := ["script", "k", "bit_so"]
theorem sc__law_box : FnScope N__law_box ["script", "k"] (defScope s__law_box) := ⟨rfl, rfl, rfl, by decide +kernel, rfl, by decide +kernel, by decide +kernel⟩
def q__law_box : S → RS :=
  (sSeq (sAsg (.one 2) (eIf (t2 (cmpB (iCmp ltB)) (eVar 1) (e1 lenD (eVar 0))) (e2 ixD (eVar 0) (eVar 1)) (eC (.int 0))))
    (sRet (eLst (aCons (e2 mulD (e1 absD (eVar 2)) (e1 intD (e2 (cmpD (iCmp fun i j => !ltB i j)) (e1 absD (eVar 2)) (e2 powD (eC (.int 10)) (eC (.int 18)))))) (aCons (e2 addD (e2 addD (e2 modD (e1 intD (eVar 2)) (eC (.int 2305843009213693951))) (e2 mulD (eC (.int 40961)) (eVar 1))) (eC (.int 9520012))) (aCons (eC (.int 0)) aNil))))))
def m__law_box : MF := mkF 3 q__law_box
set_option maxHeartbeats 0 in
theorem c__law_box (Z : Fa K mg T P base) : Cal P w K mg base T "_law_box" 1 2 .f1 m__law_box := by
  obtain ⟨f, fd, F, b, g⟩ := Z.f__law_box
  refine ⟨f, fd, ["script", "k"], fn_mk F sc__law_box rfl (by decide) (Γ' := []) (fun cdv A outer s H E hr hp => ?_), g, F.kp, b⟩
  have nd := sc__law_box.nd
  exact (jss_cons (js_set 2 nd (je_if (jt_cmp cmp_lt (je_b (je_var 1)) (je_b (je_bi bi_len rfl Z.n_len (je_b (je_var 0))))) (je_ix (je_b (je_var 0)) (je_b (je_var 1))) je_int))
    (jss_one (js_ret (je_lst (ja_cons (je_f (je_op bin_mul (je_b (je_bi bi_abs rfl Z.n_abs (je_b (je_var 2)))) (je_b (je_bty bi_int rfl Z.n_int (je_b (je_cmp cmp_ge (je_b (je_bi bi_abs rfl Z.n_abs (je_b (je_var 2)))) (je_b (je_op bin_pow (je_b je_int) (je_b je_int))))))))) (ja_cons (je_f (je_op bin_add (je_fb (je_op bin_add (je_b (je_op bin_mod (je_b (je_bty bi_int rfl Z.n_int (je_b (je_var 2)))) (je_b je_int))) (je_fb (je_op bin_mul (je_b je_int) (je_b (je_var 1)))))) (je_b je_int))) (ja_cons je_int ja_nil)))))))
def N__law_joins : List Str := ["word", "many_so", "joins_so", "k"]
theorem sc__law_joins : FnScope N__law_joins ["word"] (defScope s__law_joins) := ⟨rfl, rfl, rfl, by decide +kernel, rfl, by decide +kernel, by decide +kernel⟩
def q__law_joins : S → RS :=
  (sSeq (sAsg (.one 1) (e1 intSD (eSlS (eVar 0) (pSome (eC (.int 1))) pNone)))
    (sSeq (sAsgF 2 (eLc (iN rng1I (aCons (e2 subD (eVar 1) (eC (.int 1))) aNil)) (.one 3) tYesS (eLst (aCons (eVar 3) (aCons (e2 addD (eVar 3) (eC (.int 1))) (aCons (eC (.int 1)) (aCons (eC (.int 1)) aNil)))))))
    (sSeq (sIf (t2 (cmpB eqD) (e2 ixD (eVar 0) (eC (.int 0))) (eC (.str "b")))
    (sSetI 2 (e1 negD (eC (.int 1))) (eLst (aCons (e2 subD (eVar 1) (eC (.int 2))) (aCons (e2 subD (eVar 1) (eC (.int 1))) (aCons (eC (.int 1)) (aCons (eC (.int 2)) aNil))))))
    sNil)
    (sSeq (sIf (t2 (cmpB eqD) (e2 ixD (eVar 0) (eC (.int 0))) (eC (.str "c")))
    (sSetI 2 (e1 negD (eC (.int 1))) (eLst (aCons (e2 subD (eVar 1) (eC (.int 2))) (aCons (e2 subD (eVar 1) (eC (.int 1))) (aCons (eC (.int 2)) (aCons (eC (.int 1)) aNil))))))
    sNil)
    (sSeq (sIf (t2 (cmpB eqD) (e2 ixD (eVar 0) (eC (.int 0))) (eC (.str "d")))
    (sSetI 2 (e1 negD (eC (.int 1))) (eLst (aCons (e2 subD (eVar 1) (eC (.int 3))) (aCons (e2 subD (eVar 1) (eC (.int 1))) (aCons (eC (.int 1)) (aCons (eC (.int 1)) aNil))))))
    sNil)
    (sSeq (sIf (t2 (cmpB eqD) (eVar 0) (eC (.str "e6")))
    (sSetI 2 (e1 negD (eC (.int 1))) (eLst (aCons (eC (.int 2)) (aCons (eC (.int 5)) (aCons (eC (.int 1)) (aCons (eC (.int 1)) aNil))))))
    sNil)
    (sSeq (sIf (t2 (cmpB eqD) (eVar 0) (eC (.str "f4")))
    (sSetI 2 (eC (.int 1)) (eLst (aCons (eC (.int 1)) (aCons (eC (.int 2)) (aCons (eC (.int 1)) (aCons (eC (.int 2)) aNil))))))
    sNil)
    (sSeq (sIf (t2 (cmpB eqD) (eVar 0) (eC (.str "g2")))
    (sSetI 2 (eC (.int 0)) (eLst (aCons (eC (.int 0)) (aCons (eC (.int 1)) (aCons (eC (.int 1)) (aCons (eC (.int 3)) aNil))))))
    sNil)
    (sRet (eVar 2))))))))))
def m__law_joins : MF := mkF 4 q__law_joins
set_option maxHeartbeats 0 in
theorem c__law_joins (Z : Fa K mg T P base) : Cal P w K mg base T "_law_joins" 1 1 .sh m__law_joins := by
  obtain ⟨f, fd, F, b, g⟩ := Z.f__law_joins
  refine ⟨f, fd, ["word"], fn_mk F sc__law_joins rfl (by decide) (Γ' := []) (fun cdv A outer s H E hr hp => ?_), g, F.kp, b⟩
  have nd := sc__law_joins.nd
  exact (jss_cons (js_set 1 nd (je_bty bi_intS rfl Z.n_int (je_b (je_slS (je_b (je_var 0)) (jo_some (je_b je_int)) jo_none))))
    (jss_cons (js_setLc (Γ' := [.sh, .sh, .o1]) 2 [("k", 3)] rfl nd (ji_range1 rfl Z.n_range (ja_cons (je_op bin_sub (je_b (je_var 1)) (je_b je_int)) ja_nil)) (blk_of rfl) (fun _ _ _ _ _ => (jg_one 3 nd)) (fun _ _ _ _ _ => jts_nil) (fun _ _ _ _ _ => (je_f (je_lst (ja_cons (je_var 3) (ja_cons (je_f (je_op bin_add (je_b (je_var 3)) (je_b je_int))) (ja_cons je_int (ja_cons je_int ja_nil))))))) (sw_true rfl rfl rfl (by rfl)) (flf_of 4 (by decide) (by decide) (by decide) (by decide)))
    (jss_cons (js_if (jt_cmp (cmp_eq (hu64 hr)) (je_b (je_ix (je_b (je_var 0)) (je_b je_int))) (je_b je_str))
    (jss_one (js_setI 2 (je_f (je_lst (ja_cons (je_op bin_sub (je_b (je_var 1)) (je_b je_int)) (ja_cons (je_op bin_sub (je_b (je_var 1)) (je_b je_int)) (ja_cons je_int (ja_cons je_int ja_nil)))))) (je_b (je_un uni_neg (je_b je_int)))))
    jss_nil)
    (jss_cons (js_if (jt_cmp (cmp_eq (hu64 hr)) (je_b (je_ix (je_b (je_var 0)) (je_b je_int))) (je_b je_str))
    (jss_one (js_setI 2 (je_f (je_lst (ja_cons (je_op bin_sub (je_b (je_var 1)) (je_b je_int)) (ja_cons (je_op bin_sub (je_b (je_var 1)) (je_b je_int)) (ja_cons je_int (ja_cons je_int ja_nil)))))) (je_b (je_un uni_neg (je_b je_int)))))
    jss_nil)
    (jss_cons (js_if (jt_cmp (cmp_eq (hu64 hr)) (je_b (je_ix (je_b (je_var 0)) (je_b je_int))) (je_b je_str))
    (jss_one (js_setI 2 (je_f (je_lst (ja_cons (je_op bin_sub (je_b (je_var 1)) (je_b je_int)) (ja_cons (je_op bin_sub (je_b (je_var 1)) (je_b je_int)) (ja_cons je_int (ja_cons je_int ja_nil)))))) (je_b (je_un uni_neg (je_b je_int)))))
    jss_nil)
    (jss_cons (js_if (jt_cmp (cmp_eq (hu64 hr)) (je_b (je_var 0)) (je_b je_str))
    (jss_one (js_setI 2 (je_f (je_lst (ja_cons je_int (ja_cons je_int (ja_cons je_int (ja_cons je_int ja_nil)))))) (je_b (je_un uni_neg (je_b je_int)))))
    jss_nil)
    (jss_cons (js_if (jt_cmp (cmp_eq (hu64 hr)) (je_b (je_var 0)) (je_b je_str))
    (jss_one (js_setI 2 (je_f (je_lst (ja_cons je_int (ja_cons je_int (ja_cons je_int (ja_cons je_int ja_nil)))))) (je_b je_int)))
    jss_nil)
    (jss_cons (js_if (jt_cmp (cmp_eq (hu64 hr)) (je_b (je_var 0)) (je_b je_str))
    (jss_one (js_setI 2 (je_f (je_lst (ja_cons je_int (ja_cons je_int (ja_cons je_int (ja_cons je_int ja_nil)))))) (je_b je_int)))
    jss_nil)
    (jss_one (js_frz (Γ' := []) (fun i => i == 2) (flz_of 4 (by decide) (by decide) (by decide)) (js_ret (je_var 2))))))))))))
def N__law_take : List Str := ["tin", "below_so", "drawn_so", "once_so", "wide_so", "twice_so"]
theorem sc__law_take : FnScope N__law_take ["tin", "below_so"] (defScope s__law_take) := ⟨rfl, rfl, rfl, by decide +kernel, rfl, by decide +kernel, by decide +kernel⟩
def q__law_take : S → RS :=
  (sSeq (sIf (t2 (cmpB (iCmp fun i j => ltB j i)) (e2 ixD (eVar 0) (eC (.int 0))) (eC (.int 0)))
    (sSeq (sAsg (.one 2) (e2 modD (e1 intD (e2 ixD (eVar 0) (eC (.int 0)))) (eVar 1)))
    (sSeq (sSetM 0 (eC (.int 0)) (e2 fdivD (e2 ixD (eVar 0) (eC (.int 0))) (eVar 1)))
    (sRet (eVar 2))))
    sNil)
    (sSeq (sSetM 0 (eC (.int 2)) (e2 addD (e2 ixD (eVar 0) (eC (.int 2))) (eC (.int 1))))
    (sSeq (sAsg (.one 3) (e2 modD (e1 intD (e2 mulD (e2 addD (e2 ixD (eVar 0) (eC (.int 1))) (e2 mulD (eC (.int 48271)) (e2 ixD (eVar 0) (eC (.int 2))))) (e2 addD (eC (.int 40961)) (e2 ixD (eVar 0) (eC (.int 2)))))) (eC (.int 2147483647))))
    (sSeq (sAsg (.one 4) (e2 addD (e2 modD (e1 intD (eVar 3)) (eC (.int 40009))) (eC (.int 7))))
    (sSeq (sAsg (.one 5) (e2 modD (e1 intD (e2 mulD (e2 addD (e2 addD (eVar 3) (e2 ixD (eVar 0) (eC (.int 2)))) (e2 fdivD (e2 ixD (eVar 0) (eC (.int 1))) (eC (.int 1000003)))) (eVar 4))) (eC (.int 2147483629))))
    (sRet (e2 modD (e1 intD (e2 fdivD (e2 modD (e1 intD (e2 addD (e2 mulD (eVar 5) (eC (.int 48271))) (eVar 3))) (eC (.int 2147483587))) (eC (.int 64)))) (eVar 1))))))))
def m__law_take : MF := mkF 6 q__law_take
set_option maxHeartbeats 0 in
theorem c__law_take (Z : Fa K mg T P base) : Cal P w K mg base T "_law_take" 1 2 .sh m__law_take := by
  obtain ⟨f, fd, F, b, g⟩ := Z.f__law_take
  refine ⟨f, fd, ["tin", "below_so"], fn_mk F sc__law_take rfl (by decide) (Γ' := []) (fun cdv A outer s H E hr hp => ?_), g, F.kp, b⟩
  have nd := sc__law_take.nd
  exact (jss_cons (js_if (jt_cmp cmp_gt (je_b (je_ix (je_b (je_var 0)) (je_b je_int))) (je_b je_int))
    (jss_cons (js_set 2 nd (je_op bin_mod (je_b (je_bty bi_int rfl Z.n_int (je_b (je_ix (je_b (je_var 0)) (je_b je_int))))) (je_b (je_var 1))))
    (jss_cons (js_setM 0 (je_op bin_fdiv (je_b (je_ix (je_b (je_var 0)) (je_b je_int))) (je_b (je_var 1))) (je_b je_int))
    (jss_one (js_ret (je_var 2)))))
    jss_nil)
    (jss_cons (js_setM 0 (je_f (je_op bin_add (je_b (je_ix (je_b (je_var 0)) (je_b je_int))) (je_b je_int))) (je_b je_int))
    (jss_cons (js_set 3 nd (je_op bin_mod (je_b (je_bty bi_int rfl Z.n_int (je_fb (je_op bin_mul (je_fb (je_op bin_add (je_b (je_ix (je_b (je_var 0)) (je_b je_int))) (je_fb (je_op bin_mul (je_b je_int) (je_b (je_ix (je_b (je_var 0)) (je_b je_int))))))) (je_fb (je_op bin_add (je_b je_int) (je_b (je_ix (je_b (je_var 0)) (je_b je_int))))))))) (je_b je_int)))
    (jss_cons (js_set 4 nd (je_f (je_op bin_add (je_b (je_op bin_mod (je_b (je_bty bi_int rfl Z.n_int (je_b (je_var 3)))) (je_b je_int))) (je_b je_int))))
    (jss_cons (js_set 5 nd (je_op bin_mod (je_b (je_bty bi_int rfl Z.n_int (je_fb (je_op bin_mul (je_fb (je_op bin_add (je_fb (je_op bin_add (je_b (je_var 3)) (je_b (je_ix (je_b (je_var 0)) (je_b je_int))))) (je_b (je_op bin_fdiv (je_b (je_ix (je_b (je_var 0)) (je_b je_int))) (je_b je_int))))) (je_b (je_var 4)))))) (je_b je_int)))
    (jss_one (js_ret (je_op bin_mod (je_b (je_bty bi_int rfl Z.n_int (je_b (je_op bin_fdiv (je_b (je_op bin_mod (je_b (je_bty bi_int rfl Z.n_int (je_fb (je_op bin_add (je_fb (je_op bin_mul (je_b (je_var 5)) (je_b je_int))) (je_b (je_var 3)))))) (je_b je_int))) (je_b je_int))))) (je_b (je_var 1))))))))))
def N__law_kind_web : List Str := ["tin", "word", "many_so", "rows_so", "own", "near", "far", "there", "back", "sign_so", "row_so"]
theorem sc__law_kind_web : FnScope N__law_kind_web ["tin", "word"] (defScope s__law_kind_web) := ⟨rfl, rfl, rfl, by decide +kernel, rfl, by decide +kernel, by decide +kernel⟩
def q__law_kind_web_b1 : S → RS :=
  (sSeq (sAsg (.one 9) (e2 subD (eC (.int 1)) (e2 mulD (eC (.int 2)) (eCallN 2 m__law_take (aCons (eVar 0) (aCons (eC (.int 2)) aNil))))))
    (sSetR2 (e2 ixD (eVar 3) (eVar 5)) (eVar 6) (e2 ixD (eVar 3) (eVar 6)) (eVar 5) (e2 mulD (eVar 9) (eVar 7)) (e2 subD (eC (.int 0)) (e2 mulD (eVar 9) (eVar 8)))))
def q__law_kind_web : S → RS :=
  (sSeq (sAsg (.one 2) (e1 intSD (eSlS (eVar 1) (pSome (eC (.int 1))) pNone)))
    (sSeq (sAsgF 3 (eLc (iN rng1I (aCons (eVar 2) aNil)) (.one 4) tYesS (eCell (e2 mulD (eLst (aCons (eC (.int 0)) aNil)) (eVar 2)))))
    (sSeq (sFor (i1 seqI (eCallN 1 m__law_joins (aCons (eVar 1) aNil))) (.manyL [5, 6, 7, 8])
    q__law_kind_web_b1)
    (sRet (e1 tupleC (eLc (i1 seqI (eVar 3)) (.one 10) tYesS (e1 tupleC (eVar 10))))))))
def m__law_kind_web : MF := mkF 11 q__law_kind_web
set_option maxHeartbeats 0 in
theorem c__law_kind_web (Z : Fa K mg T P base) : Cal P w K mg base T "_law_kind_web" 2 2 .sh m__law_kind_web := by
  obtain ⟨f, fd, F, b, g⟩ := Z.f__law_kind_web
  refine ⟨f, fd, ["tin", "word"], fn_mk F sc__law_kind_web rfl (by decide) (Γ' := []) (fun cdv A outer s H E hr hp => ?_), g, F.kp, b⟩
  have nd := sc__law_kind_web.nd
  exact (jss_cons (js_set 2 nd (je_bty bi_intS rfl Z.n_int (je_b (je_slS (je_b (je_var 1)) (jo_some (je_b je_int)) jo_none))))
    (jss_cons (js_setLc (Γ' := [.sh, .sh, .sh, .o1]) 3 [("own", 4)] rfl nd (ji_range1 rfl Z.n_range (ja_cons (je_var 2) ja_nil)) (blk_of rfl) (fun _ _ _ _ _ => (jg_one 4 nd)) (fun _ _ _ _ _ => jts_nil) (fun _ _ _ _ _ => (je_cell (je_op bin_mul (je_fb (je_lst (ja_cons je_int ja_nil))) (je_b (je_var 2))))) (sw_true rfl rfl rfl (by rfl)) (flf_of 11 (by decide) (by decide) (by decide) (by decide)))
    (jss_cons (js_for hp rfl (ji_seq (je_call (c__law_joins Z) hr (by omega) rfl (ja_cons (je_var 1) ja_nil))) (jg_manyL rfl (jgs_cons 5 nd (jgs_cons 6 nd (jgs_cons 7 nd (jgs_cons 8 nd jgs_nil)))))
    (jss_cons (js_set 9 nd (je_op bin_sub (je_b je_int) (je_fb (je_op bin_mul (je_b je_int) (je_b (je_call (c__law_take Z) hr (by omega) rfl (ja_cons (je_var 0) (ja_cons je_int ja_nil))))))))
    (jss_one (js_setR2 rfl (je_f (je_op bin_mul (je_b (je_var 9)) (je_b (je_var 7)))) (je_op bin_sub (je_b je_int) (je_fb (je_op bin_mul (je_b (je_var 9)) (je_b (je_var 8))))) (je_ix (je_varB 3) (je_b (je_var 5))) (je_b (je_var 6)) (je_ix (je_varB 3) (je_b (je_var 6))) (je_b (je_var 5))))))
    (jss_one (js_ret (je_bty bi_tupleC rfl Z.n_tuple (je_fb (je_lcQ [("row_so", 10)] rfl nd (ji_own 3) (blk_of rfl) (fun _ _ _ _ _ => (jg_one 10 nd)) (fun _ _ _ _ _ => jts_nil) (fun _ _ _ _ _ => (je_bty bi_tupleC rfl Z.n_tuple (je_b (je_var 10))))))))))))
def N_tupled : List Str := ["value", "own"]
theorem sc_tupled : FnScope N_tupled ["value"] (defScope s_tupled) := ⟨rfl, rfl, rfl, by decide +kernel, rfl, by decide +kernel, by decide +kernel⟩
def q_tupled (self : MF) : S → RS :=
  (sRet (eIf (tTru (e1 (isi2D .list .tuple) (eVar 0))) (e1 tupleD (eLc (i1 seqI (eVar 0)) (.one 1) tYesS (eCallN 1 self (aCons (eVar 1) aNil)))) (eVar 0)))
def m_tupled : Nat → MF
  | 0 => fun _ _ => .stuck
  | n + 1 => mkF 2 (q_tupled (m_tupled n))
set_option maxHeartbeats 0 in
theorem c_tupled (Z : Fa K mg T P base) : ∀ n, Cal P w K mg base T "tupled" (n + 1) 1 .sh (m_tupled n)
  | 0 => let ⟨f, fd, F, b, g⟩ := Z.f_tupled; ⟨f, fd, ["value"], fn_never, g, F.kp, b⟩
  | n + 1 => by
    have ih := c_tupled Z n
    obtain ⟨f, fd, F, b, g⟩ := Z.f_tupled
    refine ⟨f, fd, ["value"], fn_mk F sc_tupled rfl (by decide) (Γ' := []) (fun cdv A outer s H E hr hp => ?_), g, F.kp, b⟩
    have nd := sc_tupled.nd
    exact (jss_one (js_ret (je_if (jt_tru (je_b (je_isi2 .list .tuple rfl Z.n_isinstance rfl Z.n_list rfl Z.n_tuple (je_b (je_var 0))))) (je_bty bi_tuple rfl Z.n_tuple (je_fb (je_lc [("own", 1)] rfl nd (ji_seq (je_var 0)) (blk_of rfl) (fun _ _ _ _ _ => (jg_one 1 nd)) (fun _ _ _ _ _ => jts_nil) (fun _ _ _ _ _ => (je_call ih hr (by omega) rfl (ja_cons (je_var 1) ja_nil)))))) (je_var 0))))
def q_tupledP (self : MF) : S → RS :=
  (sRet (eIf (tTru (e1 (isi2D .list .tuple) (eVar 0))) (e1 tuplePD (eLc (i1 seqI (eVar 0)) (.one 1) tYesS (eCallN 1 self (aCons (eVar 1) aNil)))) (eVar 0)))
def m_tupledP : MF := mkF 2 (q_tupledP (m_tupled 5))
set_option maxHeartbeats 0 in
theorem c_tupledP (Z : Fa K mg T P base) : Cal P w K mg base T "tupled" 7 1 .sh m_tupledP := by
  have ih := c_tupled (P := P) (w := w) Z 5
  obtain ⟨f, fd, F, b, g⟩ := Z.f_tupled
  refine ⟨f, fd, ["value"], fn_mk F sc_tupled rfl (by decide) (Γ' := []) (fun cdv A outer s H E hr hp => ?_), g, F.kp, b⟩
  have nd := sc_tupled.nd
  exact (jss_one (js_ret (je_if (jt_tru (je_b (je_isi2 .list .tuple rfl Z.n_isinstance rfl Z.n_list rfl Z.n_tuple (je_b (je_var 0))))) (je_bty bi_tupleP rfl Z.n_tuple (je_fb (je_lc [("own", 1)] rfl nd (ji_seq (je_var 0)) (blk_of rfl) (fun _ _ _ _ _ => (jg_one 1 nd)) (fun _ _ _ _ _ => jts_nil) (fun _ _ _ _ _ => (je_call ih hr (by omega) rfl (ja_cons (je_var 1) ja_nil)))))) (je_var 0))))
def N_is_long : List Str := ["thing", "length"]
theorem sc_is_long : FnScope N_is_long ["thing", "length"] (defScope s_is_long) := ⟨rfl, rfl, rfl, by decide +kernel, rfl, by decide +kernel, by decide +kernel⟩
def q_is_long : S → RS :=
  (sRet (eAndB (e1 (isiD .tuple) (eVar 0)) (e2 (cmpD eqD) (e1 lenD (eVar 0)) (eVar 1))))
def m_is_long : MF := mkF 2 q_is_long
set_option maxHeartbeats 0 in
theorem c_is_long (Z : Fa K mg T P base) : Cal P w K mg base T "is_long" 1 2 .sh m_is_long := by
  obtain ⟨f, fd, F, b, g⟩ := Z.f_is_long
  refine ⟨f, fd, ["thing", "length"], fn_mk F sc_is_long rfl (by decide) (Γ' := []) (fun cdv A outer s H E hr hp => ?_), g, F.kp, b⟩
  have nd := sc_is_long.nd
  exact (jss_one (js_ret (je_and (je_b (je_isi .tuple rfl Z.n_isinstance rfl Z.n_tuple (je_b (je_var 0)))) (je_one (je_cmp (cmp_eq (hu64 hr)) (je_b (je_bi bi_len rfl Z.n_len (je_b (je_var 0)))) (je_b (je_var 1)))))))
def N_is_number : List Str := ["thing"]
theorem sc_is_number : FnScope N_is_number ["thing"] (defScope s_is_number) := ⟨rfl, rfl, rfl, by decide +kernel, rfl, by decide +kernel, by decide +kernel⟩
def q_is_number : S → RS :=
  (sRet (eAndB (e1 (isiD .int) (eVar 0)) (eNotB (e1 (isiD .bool) (eVar 0)))))
def m_is_number : MF := mkF 1 q_is_number
set_option maxHeartbeats 0 in
theorem c_is_number (Z : Fa K mg T P base) : Cal P w K mg base T "is_number" 1 1 .sh m_is_number := by
  obtain ⟨f, fd, F, b, g⟩ := Z.f_is_number
  refine ⟨f, fd, ["thing"], fn_mk F sc_is_number rfl (by decide) (Γ' := []) (fun cdv A outer s H E hr hp => ?_), g, F.kp, b⟩
  have nd := sc_is_number.nd
  exact (jss_one (js_ret (je_and (je_b (je_isi .int rfl Z.n_isinstance rfl Z.n_int (je_b (je_var 0)))) (je_one (je_not (je_b (je_isi .bool rfl Z.n_isinstance rfl Z.n_bool (je_b (je_var 0)))))))))
def N_is_table : List Str := ["thing", "own", "row"]
theorem sc_is_table : FnScope N_is_table ["thing"] (defScope s_is_table) := ⟨rfl, rfl, rfl, by decide +kernel, rfl, by decide +kernel, by decide +kernel⟩
def q_is_table : S → RS :=
  (sSeq (sIf (tOrS (tNotS (tTru (e1 (isiD .tuple) (eVar 0)))) (t2 (cmpB eqD) (eVar 0) (eTup aNil)))
    (sRet (eC (.bl false)))
    sNil)
    (sRet (e1 allD (eLc (i1 seqI (eVar 0)) (.one 2) tYesS (eAndB (eCallN 2 m_is_long (aCons (eVar 2) (aCons (e1 lenD (eVar 0)) aNil))) (e1 allD (eLc (i1 seqI (eVar 2)) (.one 1) tYesS (eCallN 1 m_is_number (aCons (eVar 1) aNil)))))))))
def m_is_table : MF := mkF 3 q_is_table
set_option maxHeartbeats 0 in
theorem c_is_table (Z : Fa K mg T P base) : Cal P w K mg base T "is_table" 2 1 .sh m_is_table := by
  obtain ⟨f, fd, F, b, g⟩ := Z.f_is_table
  refine ⟨f, fd, ["thing"], fn_mk F sc_is_table rfl (by decide) (Γ' := []) (fun cdv A outer s H E hr hp => ?_), g, F.kp, b⟩
  have nd := sc_is_table.nd
  exact (jss_cons (js_if (jw_pt (jw_or (jt_not (jt_tru (je_b (je_isi .tuple rfl Z.n_isinstance rfl Z.n_tuple (je_b (je_var 0)))))) (jw_or1 (jt_cmp (cmp_eq (hu64 hr)) (je_b (je_var 0)) (je_b (je_tup ja_nil))))))
    (jss_one (js_ret je_bl))
    jss_nil)
    (jss_one (js_ret (je_bi (bi_all rfl) rfl Z.n_all (je_fb (je_lc [("row", 2)] rfl nd (ji_seq (je_var 0)) (blk_of rfl) (fun _ _ _ _ _ => (jg_one 2 nd)) (fun _ _ _ _ _ => jts_nil) (fun _ _ _ _ _ => (je_and (je_b (je_call (c_is_long Z) hr (by omega) rfl (ja_cons (je_var 2) (ja_cons (je_bi bi_len rfl Z.n_len (je_b (je_var 0))) ja_nil)))) (je_one (je_bi (bi_all rfl) rfl Z.n_all (je_fb (je_lc [("own", 1)] rfl nd (ji_seq (je_var 2)) (blk_of rfl) (fun _ _ _ _ _ => (jg_one 1 nd)) (fun _ _ _ _ _ => jts_nil) (fun _ _ _ _ _ => (je_call (c_is_number Z) hr (by omega) rfl (ja_cons (je_var 1) ja_nil)))))))))))))))
def N_beside : List Str := ["web", "place", "far", "own"]
theorem sc_beside : FnScope N_beside ["web", "place"] (defScope s_beside) := ⟨rfl, rfl, rfl, by decide +kernel, rfl, by decide +kernel, by decide +kernel⟩
def q_beside : S → RS :=
  (sRet (eLc (iEnumB (aCons (e2 ixD (eVar 0) (eVar 1)) aNil)) (.many [2, 3]) (t2 (cmpB neD) (eVar 3) (eC (.int 0))) (eVar 2)))
def m_beside : MF := mkF 4 q_beside
set_option maxHeartbeats 0 in
theorem c_beside (Z : Fa K mg T P base) : Cal P w K mg base T "beside" 1 2 .sh m_beside := by
  obtain ⟨f, fd, F, b, g⟩ := Z.f_beside
  refine ⟨f, fd, ["web", "place"], fn_mk F sc_beside rfl (by decide) (Γ' := []) (fun cdv A outer s H E hr hp => ?_), g, F.kp, b⟩
  have nd := sc_beside.nd
  exact (jss_one (js_ret (je_f (je_lc [("far", 2), ("own", 3)] rfl nd (ji_enumB rfl Z.n_enumerate (ja_cons (je_ix (je_b (je_var 0)) (je_b (je_var 1))) ja_nil)) (blk_of rfl) (fun _ _ _ _ _ => (jg_many rfl (jgs_cons 2 nd (jgs_cons 3 nd jgs_nil)))) (fun _ _ _ _ _ => (jts_one (jt_cmp (cmp_ne (hu64 hr)) (je_b (je_var 3)) (je_b je_int)))) (fun _ _ _ _ _ => (je_var 2))))))
def fuel_part_from : S → Nat := fun _ => 64
def N_part_from : List Str := ["web", "first", "found", "at", "far"]
theorem sc_part_from : FnScope N_part_from ["web", "first"] (defScope s_part_from) := ⟨rfl, rfl, rfl, by decide +kernel, rfl, by decide +kernel, by decide +kernel⟩
def q_part_from_b1 : S → RS :=
  (sSeq (sAsg (.one 2) (e2 addD (eVar 2) (eLc (i1 seqI (eCallN 2 m_beside (aCons (eVar 0) (aCons (e2 ixD (eVar 2) (eVar 3)) aNil)))) (.one 4) (t2 (cmpB notinD) (eVar 4) (eVar 2)) (eVar 4))))
    (sAug augD 3 (eC (.int 1))))
def q_part_from : S → RS :=
  (sSeq (sAsg (.many [2, 3]) (eTup (aCons (eLst (aCons (eVar 1) aNil)) (aCons (eC (.int 0)) aNil))))
    (sSeq (sWhile fuel_part_from (t2 (cmpB (iCmp ltB)) (eVar 3) (e1 lenD (eVar 2)))
    q_part_from_b1)
    (sRet (eVar 2))))
def m_part_from : MF := mkF 5 q_part_from
set_option maxHeartbeats 0 in
theorem c_part_from (Z : Fa K mg T P base) : Cal P w K mg base T "part_from" 2 2 .sh m_part_from := by
  obtain ⟨f, fd, F, b, g⟩ := Z.f_part_from
  refine ⟨f, fd, ["web", "first"], fn_mk F sc_part_from rfl (by decide) (Γ' := []) (fun cdv A outer s H E hr hp => ?_), g, F.kp, b⟩
  have nd := sc_part_from.nd
  exact (jss_cons (js_asgT (je_tup (ja_cons (je_f (je_lst (ja_cons (je_var 1) ja_nil))) (ja_cons je_int ja_nil))) (jg_many rfl (jgs_cons 2 nd (jgs_cons 3 nd jgs_nil))))
    (jss_cons (js_while fuel_part_from hp (jt_cmp cmp_lt (je_b (je_var 3)) (je_b (je_bi bi_len rfl Z.n_len (je_b (je_var 2)))))
    (jss_cons (js_set 2 nd (je_f (je_op bin_add (je_b (je_var 2)) (je_fb (je_lc [("far", 4)] rfl nd (ji_seq (je_call (c_beside Z) hr (by omega) rfl (ja_cons (je_var 0) (ja_cons (je_ix (je_b (je_var 2)) (je_b (je_var 3))) ja_nil)))) (blk_of rfl) (fun _ _ _ _ _ => (jg_one 4 nd)) (fun _ _ _ _ _ => (jts_one (jt_cmp (cmp_notin (hu65 hr)) (je_b (je_var 4)) (je_b (je_var 2))))) (fun _ _ _ _ _ => (je_var 4)))))))
    (jss_one (js_augAdd 3 nd (je_b je_int)))))
    (jss_one (js_ret (je_var 2)))))
def N_whole_weights : List Str := ["ratios", "wide", "top", "bottom", "found", "place", "own", "shared"]
theorem sc_whole_weights : FnScope N_whole_weights ["ratios"] (defScope s_whole_weights) := ⟨rfl, rfl, rfl, by decide +kernel, rfl, by decide +kernel, by decide +kernel⟩
def q_whole_weights_b1 : S → RS :=
  (sAsg (.one 1) (e2 fdivD (e2 mulD (eVar 1) (eVar 3)) (eBi gcdD (aCons (eVar 1) (aCons (eVar 3) aNil)))))
def q_whole_weights_b2 : S → RS :=
  (sAsg (.one 7) (eBi gcdD (aCons (eVar 7) (aCons (eVar 6) aNil))))
def q_whole_weights : S → RS :=
  (sSeq (sAsg (.one 1) (eC (.int 1)))
    (sSeq (sLock 0 (sFor (iDic valsV (eVar 0)) (.many [2, 3])
    q_whole_weights_b1))
    (sSeq (sAsg (.one 4) (e1 dictD (eLock 0 (eLc (iDic itemsV (eVar 0)) (.many [5, 6]) tYesS (eTup (aCons (eVar 5) (aCons (e2 fdivD (e2 mulD (e2 ixD (eVar 6) (eC (.int 0))) (eVar 1)) (e2 ixD (eVar 6) (eC (.int 1)))) aNil)))))))
    (sSeq (sAsg (.one 7) (eC (.int 0)))
    (sSeq (sLock 4 (sFor (iDic valsV (eVar 4)) (.one 6)
    q_whole_weights_b2))
    (sRet (e1 dictD (eLock 4 (eLc (iDic itemsV (eVar 4)) (.many [5, 6]) tYesS (eTup (aCons (eVar 5) (aCons (e2 fdivD (eVar 6) (eVar 7)) aNil))))))))))))
def m_whole_weights : MF := mkF 8 q_whole_weights
set_option maxHeartbeats 0 in
theorem c_whole_weights (Z : Fa K mg T P base) : Cal P w K mg base T "whole_weights" 1 1 .sh m_whole_weights := by
  obtain ⟨f, fd, F, b, g⟩ := Z.f_whole_weights
  refine ⟨f, fd, ["ratios"], fn_mk F sc_whole_weights rfl (by decide) (Γ' := []) (fun cdv A outer s H E hr hp => ?_), g, F.kp, b⟩
  have nd := sc_whole_weights.nd
  exact (jss_cons (js_set 1 nd je_int)
    (jss_cons (js_lock 0 (js_for hp rfl (ji_vals (je_b (je_var 0))) (jg_many rfl (jgs_cons 2 nd (jgs_cons 3 nd jgs_nil)))
    (jss_one (js_set 1 nd (je_op bin_fdiv (je_fb (je_op bin_mul (je_b (je_var 1)) (je_b (je_var 3)))) (je_b (je_biM bi_gcd rfl Z.b_gcd (ja_cons (je_var 1) (ja_cons (je_var 3) ja_nil)))))))))
    (jss_cons (js_set 4 nd (je_dictP rfl rfl Z.n_dict (je_fb (je_lock 0 (je_lc [("place", 5), ("own", 6)] rfl nd (ji_items (je_b (je_var 0))) (blk_of rfl) (fun _ _ _ _ _ => (jg_many rfl (jgs_cons 5 nd (jgs_cons 6 nd jgs_nil)))) (fun _ _ _ _ _ => jts_nil) (fun _ _ _ _ _ => (je_tup (ja_cons (je_var 5) (ja_cons (je_op bin_fdiv (je_fb (je_op bin_mul (je_b (je_ix (je_b (je_var 6)) (je_b je_int))) (je_b (je_var 1)))) (je_b (je_ix (je_b (je_var 6)) (je_b je_int)))) ja_nil)))))))))
    (jss_cons (js_set 7 nd je_int)
    (jss_cons (js_lock 4 (js_for hp rfl (ji_vals (je_b (je_var 4))) (jg_one 6 nd)
    (jss_one (js_set 7 nd (je_biM bi_gcd rfl Z.b_gcd (ja_cons (je_var 7) (ja_cons (je_var 6) ja_nil)))))))
    (jss_one (js_ret (je_dictP rfl rfl Z.n_dict (je_fb (je_lock 4 (je_lc [("place", 5), ("own", 6)] rfl nd (ji_items (je_b (je_var 4))) (blk_of rfl) (fun _ _ _ _ _ => (jg_many rfl (jgs_cons 5 nd (jgs_cons 6 nd jgs_nil)))) (fun _ _ _ _ _ => jts_nil) (fun _ _ _ _ _ => (je_tup (ja_cons (je_var 5) (ja_cons (je_op bin_fdiv (je_b (je_var 6)) (je_b (je_var 7))) ja_nil)))))))))))))))
def N_lowest_ratio : List Str := ["top", "bottom", "shared"]
theorem sc_lowest_ratio : FnScope N_lowest_ratio ["top", "bottom"] (defScope s_lowest_ratio) := ⟨rfl, rfl, rfl, by decide +kernel, rfl, by decide +kernel, by decide +kernel⟩
def q_lowest_ratio : S → RS :=
  (sSeq (sAsg (.one 2) (eBi gcdD (aCons (eVar 0) (aCons (eVar 1) aNil))))
    (sRet (eTup (aCons (e2 fdivD (eVar 0) (eVar 2)) (aCons (e2 fdivD (eVar 1) (eVar 2)) aNil)))))
def m_lowest_ratio : MF := mkF 3 q_lowest_ratio
set_option maxHeartbeats 0 in
theorem c_lowest_ratio (Z : Fa K mg T P base) : Cal P w K mg base T "lowest_ratio" 1 2 .sh m_lowest_ratio := by
  obtain ⟨f, fd, F, b, g⟩ := Z.f_lowest_ratio
  refine ⟨f, fd, ["top", "bottom"], fn_mk F sc_lowest_ratio rfl (by decide) (Γ' := []) (fun cdv A outer s H E hr hp => ?_), g, F.kp, b⟩
  have nd := sc_lowest_ratio.nd
  exact (jss_cons (js_set 2 nd (je_biM bi_gcd rfl Z.b_gcd (ja_cons (je_var 0) (ja_cons (je_var 1) ja_nil))))
    (jss_one (js_ret (je_tup (ja_cons (je_op bin_fdiv (je_b (je_var 0)) (je_b (je_var 2))) (ja_cons (je_op bin_fdiv (je_b (je_var 1)) (je_b (je_var 2))) ja_nil))))))
def N_sign : List Str := ["number"]
theorem sc_sign : FnScope N_sign ["number"] (defScope s_sign) := ⟨rfl, rfl, rfl, by decide +kernel, rfl, by decide +kernel, by decide +kernel⟩
def q_sign : S → RS :=
  (sRet (e2 subD (e2 (cmpD (iCmp fun i j => ltB j i)) (eVar 0) (eC (.int 0))) (e2 (cmpD (iCmp ltB)) (eVar 0) (eC (.int 0)))))
def m_sign : MF := mkF 1 q_sign
set_option maxHeartbeats 0 in
theorem c_sign (Z : Fa K mg T P base) : Cal P w K mg base T "sign" 1 1 .sh m_sign := by
  obtain ⟨f, fd, F, b, g⟩ := Z.f_sign
  refine ⟨f, fd, ["number"], fn_mk F sc_sign rfl (by decide) (Γ' := []) (fun cdv A outer s H E hr hp => ?_), g, F.kp, b⟩
  have nd := sc_sign.nd
  exact (jss_one (js_ret (je_op bin_sub (je_b (je_cmp cmp_gt (je_b (je_var 0)) (je_b je_int))) (je_b (je_cmp cmp_lt (je_b (je_var 0)) (je_b je_int))))))
def N_part_weights : List Str := ["web", "first", "ratios", "place", "far", "top", "bottom", "own"]
theorem sc_part_weights : FnScope N_part_weights ["web", "first"] (defScope s_part_weights) := ⟨rfl, rfl, rfl, by decide +kernel, rfl, by decide +kernel, by decide +kernel⟩
def q_part_weights_b1 : S → RS :=
  (sSeq (sIf (t2 (cmpB neD) (eCallN 1 m_sign (aCons (e2 ixD (e2 ixD (eVar 0) (eVar 3)) (eVar 4)) aNil)) (e2 subD (eC (.int 0)) (eCallN 1 m_sign (aCons (e2 ixD (e2 ixD (eVar 0) (eVar 4)) (eVar 3)) aNil))))
    (sRet (eC .non))
    sNil)
    (sSeq (sAsg (.many [5, 6]) (e2 dixD (eVar 2) (eVar 3)))
    (sSeq (sAsg (.one 7) (eCallN 2 m_lowest_ratio (aCons (e2 mulD (eVar 5) (e1 absD (e2 ixD (e2 ixD (eVar 0) (eVar 3)) (eVar 4)))) (aCons (e2 mulD (eVar 6) (e1 absD (e2 ixD (e2 ixD (eVar 0) (eVar 4)) (eVar 3)))) aNil))))
    (sSeq (sIf (t2 (cmpB neD) (eGet (eVar 2) (eVar 4) (eVar 7)) (eVar 7))
    (sRet (eC .non))
    sNil)
    (sDput (eVar 2) (eVar 4) (eVar 7))))))
def q_part_weights_b2 : S → RS :=
  (sFor (i1 seqI (eCallN 2 m_beside (aCons (eVar 0) (aCons (eVar 3) aNil)))) (.one 4)
    q_part_weights_b1)
def q_part_weights : S → RS :=
  (sSeq (sAsg (.one 2) (eDic1 (eVar 1) (eTup (aCons (eC (.int 1)) (aCons (eC (.int 1)) aNil)))))
    (sSeq (sFor (i1 seqI (eCallN 2 m_part_from (aCons (eVar 0) (aCons (eVar 1) aNil)))) (.one 3)
    q_part_weights_b2)
    (sRet (eCallN 1 m_whole_weights (aCons (eVar 2) aNil)))))
def m_part_weights : MF := mkF 8 q_part_weights
set_option maxHeartbeats 0 in
theorem c_part_weights (Z : Fa K mg T P base) : Cal P w K mg base T "part_weights" 3 2 .sh m_part_weights := by
  obtain ⟨f, fd, F, b, g⟩ := Z.f_part_weights
  refine ⟨f, fd, ["web", "first"], fn_mk F sc_part_weights rfl (by decide) (Γ' := []) (fun cdv A outer s H E hr hp => ?_), g, F.kp, b⟩
  have nd := sc_part_weights.nd
  exact (jss_cons (js_set 2 nd (je_dic1 (je_var 1) (je_tup (ja_cons je_int (ja_cons je_int ja_nil)))))
    (jss_cons (js_for hp rfl (ji_seq (je_call (c_part_from Z) hr (by omega) rfl (ja_cons (je_var 0) (ja_cons (je_var 1) ja_nil)))) (jg_one 3 nd)
    (jss_one (js_for hp rfl (ji_seq (je_call (c_beside Z) hr (by omega) rfl (ja_cons (je_var 0) (ja_cons (je_var 3) ja_nil)))) (jg_one 4 nd)
    (jss_cons (js_if (jt_cmp (cmp_ne (hu64 hr)) (je_b (je_call (c_sign Z) hr (by omega) rfl (ja_cons (je_ix (je_b (je_ix (je_b (je_var 0)) (je_b (je_var 3)))) (je_b (je_var 4))) ja_nil))) (je_b (je_op bin_sub (je_b je_int) (je_b (je_call (c_sign Z) hr (by omega) rfl (ja_cons (je_ix (je_b (je_ix (je_b (je_var 0)) (je_b (je_var 4)))) (je_b (je_var 3))) ja_nil))))))
    (jss_one (js_ret je_non))
    jss_nil)
    (jss_cons (js_asgT (je_dix (hu64 hr) (je_b (je_var 2)) (je_b (je_var 3))) (jg_many rfl (jgs_cons 5 nd (jgs_cons 6 nd jgs_nil))))
    (jss_cons (js_set 7 nd (je_call (c_lowest_ratio Z) hr (by omega) rfl (ja_cons (je_f (je_op bin_mul (je_b (je_var 5)) (je_b (je_bi bi_abs rfl Z.n_abs (je_b (je_ix (je_b (je_ix (je_b (je_var 0)) (je_b (je_var 3)))) (je_b (je_var 4)))))))) (ja_cons (je_f (je_op bin_mul (je_b (je_var 6)) (je_b (je_bi bi_abs rfl Z.n_abs (je_b (je_ix (je_b (je_ix (je_b (je_var 0)) (je_b (je_var 4)))) (je_b (je_var 3)))))))) ja_nil))))
    (jss_cons (js_if (jt_cmp (cmp_ne (hu64 hr)) (je_b (je_dget (hu64 hr) (je_b (je_var 2)) (je_var 4) (je_var 7))) (je_b (je_var 7)))
    (jss_one (js_ret je_non))
    jss_nil)
    (jss_one (js_dput (hu64 hr) (je_b (je_var 2)) (je_b (je_var 4)) (je_var 7))))))))))
    (jss_one (js_ret (je_call (c_whole_weights Z) hr (by omega) rfl (ja_cons (je_var 2) ja_nil))))))
def N_weights_in : List Str := ["web", "found", "place", "far", "own"]
theorem sc_weights_in : FnScope N_weights_in ["web"] (defScope s_weights_in) := ⟨rfl, rfl, rfl, by decide +kernel, rfl, by decide +kernel, by decide +kernel⟩
def q_weights_in_b1 : S → RS :=
  (sSeq (sIf (tOrS (tTru (e1 anyD (eLc (iN rng1I (aCons (e1 lenD (eVar 0)) aNil)) (.one 3) tYesS (eAndB (e2 (cmpD neD) (e2 ixD (e2 ixD (eVar 0) (eVar 3)) (eVar 2)) (eC (.int 0))) (e2 (cmpD eqD) (e2 ixD (e2 ixD (eVar 0) (eVar 2)) (eVar 3)) (eC (.int 0))))))) (t2 (cmpB neD) (e2 ixD (e2 ixD (eVar 0) (eVar 2)) (eVar 2)) (eC (.int 0))))
    (sRet (eC .non))
    sNil)
    (sIf (toB (e2 (dinD true) (eVar 2) (eVar 1)))
    (sSeq (sAsg (.one 4) (eCallN 2 m_part_weights (aCons (eVar 0) (aCons (eVar 2) aNil))))
    (sSeq (sIf (t2 (cmpB isND) (eVar 4) (eC .non))
    (sRet (eC .non))
    sNil)
    (sUpd (eVar 1) (eVar 4))))
    sNil))
def q_weights_in : S → RS :=
  (sSeq (sAsg (.one 1) eDic0)
    (sSeq (sFor (iN rng1I (aCons (e1 lenD (eVar 0)) aNil)) (.one 2)
    q_weights_in_b1)
    (sRet (e1 tupleD (eLc (iN rng1I (aCons (e1 lenD (eVar 0)) aNil)) (.one 2) tYesS (e2 dixD (eVar 1) (eVar 2)))))))
def m_weights_in : MF := mkF 5 q_weights_in
set_option maxHeartbeats 0 in
theorem c_weights_in (Z : Fa K mg T P base) : Cal P w K mg base T "weights_in" 4 1 .sh m_weights_in := by
  obtain ⟨f, fd, F, b, g⟩ := Z.f_weights_in
  refine ⟨f, fd, ["web"], fn_mk F sc_weights_in rfl (by decide) (Γ' := []) (fun cdv A outer s H E hr hp => ?_), g, F.kp, b⟩
  have nd := sc_weights_in.nd
  exact (jss_cons (js_set 1 nd je_dic0)
    (jss_cons (js_for hp rfl (ji_range1 rfl Z.n_range (ja_cons (je_bi bi_len rfl Z.n_len (je_b (je_var 0))) ja_nil)) (jg_one 2 nd)
    (jss_cons (js_if (jw_pt (jw_or (jt_tru (je_b (je_bi (bi_any rfl) rfl Z.n_any (je_fb (je_lc [("far", 3)] rfl nd (ji_range1 rfl Z.n_range (ja_cons (je_bi bi_len rfl Z.n_len (je_b (je_var 0))) ja_nil)) (blk_of rfl) (fun _ _ _ _ _ => (jg_one 3 nd)) (fun _ _ _ _ _ => jts_nil) (fun _ _ _ _ _ => (je_and (je_b (je_cmp (cmp_ne (hu64 hr)) (je_b (je_ix (je_b (je_ix (je_b (je_var 0)) (je_b (je_var 3)))) (je_b (je_var 2)))) (je_b je_int))) (je_one (je_cmp (cmp_eq (hu64 hr)) (je_b (je_ix (je_b (je_ix (je_b (je_var 0)) (je_b (je_var 2)))) (je_b (je_var 3)))) (je_b je_int)))))))))) (jw_or1 (jt_cmp (cmp_ne (hu64 hr)) (je_b (je_ix (je_b (je_ix (je_b (je_var 0)) (je_b (je_var 2)))) (je_b (je_var 2)))) (je_b je_int)))))
    (jss_one (js_ret je_non))
    jss_nil)
    (jss_one (js_if (jt_dnin (hu64 hr) (je_b (je_var 2)) (je_b (je_var 1)))
    (jss_cons (js_set 4 nd (je_call (c_part_weights Z) hr (by omega) rfl (ja_cons (je_var 0) (ja_cons (je_var 2) ja_nil))))
    (jss_cons (js_if (jt_cmp cmp_isN (je_b (je_var 4)) (je_b je_non))
    (jss_one (js_ret je_non))
    jss_nil)
    (jss_one (js_upd (je_b (je_var 1)) (je_var 4)))))
    jss_nil))))
    (jss_one (js_ret (je_bty bi_tuple rfl Z.n_tuple (je_fb (je_lc [("place", 2)] rfl nd (ji_range1 rfl Z.n_range (ja_cons (je_bi bi_len rfl Z.n_len (je_b (je_var 0))) ja_nil)) (blk_of rfl) (fun _ _ _ _ _ => (jg_one 2 nd)) (fun _ _ _ _ _ => jts_nil) (fun _ _ _ _ _ => (je_dix (hu64 hr) (je_b (je_var 1)) (je_b (je_var 2)))))))))))
def N_is_web : List Str := ["thing"]
theorem sc_is_web : FnScope N_is_web ["thing"] (defScope s_is_web) := ⟨rfl, rfl, rfl, by decide +kernel, rfl, by decide +kernel, by decide +kernel⟩
def q_is_web : S → RS :=
  (sRet (eAndB (eCallN 1 m_is_table (aCons (eVar 0) aNil)) (e2 (cmpD notND) (eCallN 1 (trimF m_weights_in) (aCons (eVar 0) aNil)) (eC .non))))
def m_is_web : MF := mkF 1 q_is_web
set_option maxHeartbeats 0 in
theorem c_is_web (Z : Fa K mg T P base) : Cal P w K mg base T "is_web" 5 1 .sh m_is_web := by
  obtain ⟨f, fd, F, b, g⟩ := Z.f_is_web
  refine ⟨f, fd, ["thing"], fn_mk F sc_is_web rfl (by decide) (Γ' := []) (fun cdv A outer s H E hr hp => ?_), g, F.kp, b⟩
  have nd := sc_is_web.nd
  exact (jss_one (js_ret (je_and (je_b (je_call (c_is_table Z) hr (by omega) rfl (ja_cons (je_var 0) ja_nil))) (je_one (je_cmp cmp_notN (je_b (je_call (Cal.trim (c_weights_in Z)) hr (by omega) rfl (ja_cons (je_var 0) ja_nil))) (je_b je_non))))))
def N_sure_web : List Str := ["web", "own"]
theorem sc_sure_web : FnScope N_sure_web ["web"] (defScope s_sure_web) := ⟨rfl, rfl, rfl, by decide +kernel, rfl, by decide +kernel, by decide +kernel⟩
def q_sure_web : S → RS :=
  (sSeq (sAsg (.one 1) (eCallN 1 (m_tupled 6) (aCons (eVar 0) aNil)))
    (sSeq (sIf (tNotS (tTru (eCallN 1 m_is_web (aCons (eVar 1) aNil))))
    (sRaise 0)
    sNil)
    (sRet (eVar 1))))
def m_sure_web : MF := mkF 2 q_sure_web
set_option maxHeartbeats 0 in
theorem c_sure_web (Z : Fa K mg T P base) : Cal P w K mg base T "sure_web" 8 1 .sh m_sure_web := by
  obtain ⟨f, fd, F, b, g⟩ := Z.f_sure_web
  refine ⟨f, fd, ["web"], fn_mk F sc_sure_web rfl (by decide) (Γ' := []) (fun cdv A outer s H E hr hp => ?_), g, F.kp, b⟩
  have nd := sc_sure_web.nd
  exact (jss_cons (js_set 1 nd (je_call (c_tupled Z 6) hr (by omega) rfl (ja_cons (je_var 0) ja_nil)))
    (jss_cons (js_if (jt_not (jt_tru (je_b (je_call (c_is_web Z) hr (by omega) rfl (ja_cons (je_var 1) ja_nil)))))
    (jss_one (js_raise 0 rfl Z.x_Unfit rfl))
    jss_nil)
    (jss_one (js_ret (je_var 1)))))
def m_new_value : MF := fun _ _ => .stuck
theorem c_new_value (Z : Fa K mg T P base) : Cal P w K mg base T "new_value" 1 3 .sh m_new_value :=
  let ⟨f, fd, F, b, g⟩ := Z.f_new_value; ⟨f, fd, ["web", "values", "place"], fn_never, g, F.kp, b⟩
def N_turned_values : List Str := ["web", "values", "place"]
theorem sc_turned_values : FnScope N_turned_values ["web", "values", "place"] (defScope s_turned_values) := ⟨rfl, rfl, rfl, by decide +kernel, rfl, by decide +kernel, by decide +kernel⟩
def q_turned_values : S → RS :=
  (sRet (e2 addD (e2 addD (eSl (eVar 1) pNone (pSome (eVar 2))) (eTup (aCons (eCallN 3 m_new_value (aCons (eVar 0) (aCons (eVar 1) (aCons (eVar 2) aNil)))) aNil))) (eSl (eVar 1) (pSome (e2 addD (eVar 2) (eC (.int 1)))) pNone)))
def m_turned_values : MF := mkF 3 q_turned_values
set_option maxHeartbeats 0 in
theorem c_turned_values (Z : Fa K mg T P base) : Cal P w K mg base T "turned_values" 2 3 .sh m_turned_values := by
  obtain ⟨f, fd, F, b, g⟩ := Z.f_turned_values
  refine ⟨f, fd, ["web", "values", "place"], fn_mk F sc_turned_values rfl (by decide) (Γ' := []) (fun cdv A outer s H E hr hp => ?_), g, F.kp, b⟩
  have nd := sc_turned_values.nd
  exact (jss_one (js_ret (je_f (je_op bin_add (je_fb (je_op bin_add (je_fb (je_sl (je_b (je_var 1)) jo_none (jo_some (je_b (je_var 2))))) (je_b (je_tup (ja_cons (je_call (c_new_value Z) hr (by omega) rfl (ja_cons (je_var 0) (ja_cons (je_var 1) (ja_cons (je_var 2) ja_nil)))) ja_nil))))) (je_fb (je_sl (je_b (je_var 1)) (jo_some (je_fb (je_op bin_add (je_b (je_var 2)) (je_b je_int)))) jo_none))))))
def N_is_from : List Str := ["thing", "least"]
theorem sc_is_from : FnScope N_is_from ["thing", "least"] (defScope s_is_from) := ⟨rfl, rfl, rfl, by decide +kernel, rfl, by decide +kernel, by decide +kernel⟩
def q_is_from : S → RS :=
  (sRet (eAndB (eCallN 1 m_is_number (aCons (eVar 0) aNil)) (e2 (cmpD (iCmp fun i j => !ltB i j)) (eVar 0) (eVar 1))))
def m_is_from : MF := mkF 2 q_is_from
set_option maxHeartbeats 0 in
theorem c_is_from (Z : Fa K mg T P base) : Cal P w K mg base T "is_from" 2 2 .sh m_is_from := by
  obtain ⟨f, fd, F, b, g⟩ := Z.f_is_from
  refine ⟨f, fd, ["thing", "least"], fn_mk F sc_is_from rfl (by decide) (Γ' := []) (fun cdv A outer s H E hr hp => ?_), g, F.kp, b⟩
  have nd := sc_is_from.nd
  exact (jss_one (js_ret (je_and (je_b (je_call (c_is_number Z) hr (by omega) rfl (ja_cons (je_var 0) ja_nil))) (je_one (je_cmp cmp_ge (je_b (je_var 0)) (je_b (je_var 1)))))))
def N_is_fraction : List Str := ["thing"]
theorem sc_is_fraction : FnScope N_is_fraction ["thing"] (defScope s_is_fraction) := ⟨rfl, rfl, rfl, by decide +kernel, rfl, by decide +kernel, by decide +kernel⟩
def q_is_fraction : S → RS :=
  (sSeq (sIf (tOrS (tNotS (tTru (eCallN 2 m_is_long (aCons (eVar 0) (aCons (eC (.int 2)) aNil))))) (tOrS (tNotS (tTru (eCallN 1 m_is_number (aCons (e2 ixD (eVar 0) (eC (.int 0))) aNil)))) (tNotS (tTru (eCallN 2 m_is_from (aCons (e2 ixD (eVar 0) (eC (.int 1))) (aCons (eC (.int 1)) aNil)))))))
    (sRet (eC (.bl false)))
    sNil)
    (sRet (e2 (cmpD eqD) (eBi gcdD (aCons (e2 ixD (eVar 0) (eC (.int 0))) (aCons (e2 ixD (eVar 0) (eC (.int 1))) aNil))) (eC (.int 1)))))
def m_is_fraction : MF := mkF 1 q_is_fraction
set_option maxHeartbeats 0 in
theorem c_is_fraction (Z : Fa K mg T P base) : Cal P w K mg base T "is_fraction" 3 1 .sh m_is_fraction := by
  obtain ⟨f, fd, F, b, g⟩ := Z.f_is_fraction
  refine ⟨f, fd, ["thing"], fn_mk F sc_is_fraction rfl (by decide) (Γ' := []) (fun cdv A outer s H E hr hp => ?_), g, F.kp, b⟩
  have nd := sc_is_fraction.nd
  exact (jss_cons (js_if (jw_pt (jw_or (jt_not (jt_tru (je_b (je_call (c_is_long Z) hr (by omega) rfl (ja_cons (je_var 0) (ja_cons je_int ja_nil)))))) (jw_or (jt_not (jt_tru (je_b (je_call (c_is_number Z) hr (by omega) rfl (ja_cons (je_ix (je_b (je_var 0)) (je_b je_int)) ja_nil))))) (jw_or1 (jt_not (jt_tru (je_b (je_call (c_is_from Z) hr (by omega) rfl (ja_cons (je_ix (je_b (je_var 0)) (je_b je_int)) (ja_cons je_int ja_nil))))))))))
    (jss_one (js_ret je_bl))
    jss_nil)
    (jss_one (js_ret (je_cmp (cmp_eq (hu64 hr)) (je_b (je_biM bi_gcd rfl Z.b_gcd (ja_cons (je_ix (je_b (je_var 0)) (je_b je_int)) (ja_cons (je_ix (je_b (je_var 0)) (je_b je_int)) ja_nil)))) (je_b je_int)))))
def N_is_values_of : List Str := ["many", "thing", "own"]
theorem sc_is_values_of : FnScope N_is_values_of ["many", "thing"] (defScope s_is_values_of) := ⟨rfl, rfl, rfl, by decide +kernel, rfl, by decide +kernel, by decide +kernel⟩
def q_is_values_of : S → RS :=
  (sRet (eAndB (eCallN 2 m_is_long (aCons (eVar 1) (aCons (eVar 0) aNil))) (e1 allD (eLc (i1 seqI (eVar 1)) (.one 2) tYesS (eAndB (eCallN 1 m_is_fraction (aCons (eVar 2) aNil)) (e2 (cmpD (iCmp fun i j => ltB j i)) (e2 ixD (eVar 2) (eC (.int 0))) (eC (.int 0))))))))
def m_is_values_of : MF := mkF 3 q_is_values_of
set_option maxHeartbeats 0 in
theorem c_is_values_of (Z : Fa K mg T P base) : Cal P w K mg base T "is_values_of" 4 2 .sh m_is_values_of := by
  obtain ⟨f, fd, F, b, g⟩ := Z.f_is_values_of
  refine ⟨f, fd, ["many", "thing"], fn_mk F sc_is_values_of rfl (by decide) (Γ' := []) (fun cdv A outer s H E hr hp => ?_), g, F.kp, b⟩
  have nd := sc_is_values_of.nd
  exact (jss_one (js_ret (je_and (je_b (je_call (c_is_long Z) hr (by omega) rfl (ja_cons (je_var 1) (ja_cons (je_var 0) ja_nil)))) (je_one (je_bi (bi_all rfl) rfl Z.n_all (je_fb (je_lc [("own", 2)] rfl nd (ji_seq (je_var 1)) (blk_of rfl) (fun _ _ _ _ _ => (jg_one 2 nd)) (fun _ _ _ _ _ => jts_nil) (fun _ _ _ _ _ => (je_and (je_b (je_call (c_is_fraction Z) hr (by omega) rfl (ja_cons (je_var 2) ja_nil))) (je_one (je_cmp cmp_gt (je_b (je_ix (je_b (je_var 2)) (je_b je_int))) (je_b je_int))))))))))))
def N_sure_values : List Str := ["web", "values", "own"]
theorem sc_sure_values : FnScope N_sure_values ["web", "values"] (defScope s_sure_values) := ⟨rfl, rfl, rfl, by decide +kernel, rfl, by decide +kernel, by decide +kernel⟩
def q_sure_values : S → RS :=
  (sSeq (sAsg (.one 2) (eCallN 1 (m_tupled 6) (aCons (eVar 1) aNil)))
    (sSeq (sIf (tNotS (tTru (eCallN 2 m_is_values_of (aCons (e1 lenD (eVar 0)) (aCons (eVar 2) aNil)))))
    (sRaise 0)
    sNil)
    (sRet (eVar 2))))
def m_sure_values : MF := mkF 3 q_sure_values
set_option maxHeartbeats 0 in
theorem c_sure_values (Z : Fa K mg T P base) : Cal P w K mg base T "sure_values" 8 2 .sh m_sure_values := by
  obtain ⟨f, fd, F, b, g⟩ := Z.f_sure_values
  refine ⟨f, fd, ["web", "values"], fn_mk F sc_sure_values rfl (by decide) (Γ' := []) (fun cdv A outer s H E hr hp => ?_), g, F.kp, b⟩
  have nd := sc_sure_values.nd
  exact (jss_cons (js_set 2 nd (je_call (c_tupled Z 6) hr (by omega) rfl (ja_cons (je_var 1) ja_nil)))
    (jss_cons (js_if (jt_not (jt_tru (je_b (je_call (c_is_values_of Z) hr (by omega) rfl (ja_cons (je_bi bi_len rfl Z.n_len (je_b (je_var 0))) (ja_cons (je_var 2) ja_nil))))))
    (jss_one (js_raise 0 rfl Z.x_Unfit rfl))
    jss_nil)
    (jss_one (js_ret (je_var 2)))))
def N_sure_number : List Str := ["place"]
theorem sc_sure_number : FnScope N_sure_number ["place"] (defScope s_sure_number) := ⟨rfl, rfl, rfl, by decide +kernel, rfl, by decide +kernel, by decide +kernel⟩
def q_sure_number : S → RS :=
  (sSeq (sIf (tNotS (tTru (eCallN 1 m_is_number (aCons (eVar 0) aNil))))
    (sRaise 0)
    sNil)
    (sRet (eVar 0)))
def m_sure_number : MF := mkF 1 q_sure_number
set_option maxHeartbeats 0 in
theorem c_sure_number (Z : Fa K mg T P base) : Cal P w K mg base T "sure_number" 2 1 .sh m_sure_number := by
  obtain ⟨f, fd, F, b, g⟩ := Z.f_sure_number
  refine ⟨f, fd, ["place"], fn_mk F sc_sure_number rfl (by decide) (Γ' := []) (fun cdv A outer s H E hr hp => ?_), g, F.kp, b⟩
  have nd := sc_sure_number.nd
  exact (jss_cons (js_if (jt_not (jt_tru (je_b (je_call (c_is_number Z) hr (by omega) rfl (ja_cons (je_var 0) ja_nil)))))
    (jss_one (js_raise 0 rfl Z.x_Unfit rfl))
    jss_nil)
    (jss_one (js_ret (je_var 0))))
def N_is_below : List Str := ["thing", "many"]
theorem sc_is_below : FnScope N_is_below ["thing", "many"] (defScope s_is_below) := ⟨rfl, rfl, rfl, by decide +kernel, rfl, by decide +kernel, by decide +kernel⟩
def q_is_below : S → RS :=
  (sRet (eAndB (eCallN 2 m_is_from (aCons (eVar 0) (aCons (eC (.int 0)) aNil))) (e2 (cmpD (iCmp ltB)) (eVar 0) (eVar 1))))
def m_is_below : MF := mkF 2 q_is_below
set_option maxHeartbeats 0 in
theorem c_is_below (Z : Fa K mg T P base) : Cal P w K mg base T "is_below" 3 2 .sh m_is_below := by
  obtain ⟨f, fd, F, b, g⟩ := Z.f_is_below
  refine ⟨f, fd, ["thing", "many"], fn_mk F sc_is_below rfl (by decide) (Γ' := []) (fun cdv A outer s H E hr hp => ?_), g, F.kp, b⟩
  have nd := sc_is_below.nd
  exact (jss_one (js_ret (je_and (je_b (je_call (c_is_from Z) hr (by omega) rfl (ja_cons (je_var 0) (ja_cons je_int ja_nil)))) (je_one (je_cmp cmp_lt (je_b (je_var 0)) (je_b (je_var 1)))))))
def N_known_place : List Str := ["web", "place"]
theorem sc_known_place : FnScope N_known_place ["web", "place"] (defScope s_known_place) := ⟨rfl, rfl, rfl, by decide +kernel, rfl, by decide +kernel, by decide +kernel⟩
def q_known_place : S → RS :=
  (sSeq (sIf (tNotS (tTru (eCallN 2 m_is_below (aCons (eVar 1) (aCons (e1 lenD (eVar 0)) aNil)))))
    (sRaiseF 1 (eVar 1))
    sNil)
    (sRet (eVar 1)))
def m_known_place : MF := mkF 2 q_known_place
set_option maxHeartbeats 0 in
theorem c_known_place (Z : Fa K mg T P base) : Cal P w K mg base T "known_place" 4 2 .sh m_known_place := by
  obtain ⟨f, fd, F, b, g⟩ := Z.f_known_place
  refine ⟨f, fd, ["web", "place"], fn_mk F sc_known_place rfl (by decide) (Γ' := []) (fun cdv A outer s H E hr hp => ?_), g, F.kp, b⟩
  have nd := sc_known_place.nd
  exact (jss_cons (js_if (jt_not (jt_tru (je_b (je_call (c_is_below Z) hr (by omega) rfl (ja_cons (je_var 1) (ja_cons (je_bi bi_len rfl Z.n_len (je_b (je_var 0))) ja_nil))))))
    (jss_one (js_raiseF 1 rfl Z.x_NoPlace hr (by omega) rfl (je_var 1)))
    jss_nil)
    (jss_one (js_ret (je_var 1))))
def N_values_hinged : List Str := ["web", "values", "place", "own", "told", "spot"]
theorem sc_values_hinged : FnScope N_values_hinged ["web", "values", "place"] (defScope s_values_hinged) := ⟨rfl, rfl, rfl, by decide +kernel, rfl, by decide +kernel, by decide +kernel⟩
def q_values_hinged : S → RS :=
  (sSeq (sAsg (.one 3) (eCallN 1 (trimF m_sure_web) (aCons (eVar 0) aNil)))
    (sSeq (sPar 4 5 (eCallN 2 m_sure_values (aCons (eVar 3) (aCons (eVar 1) aNil))) (eCallN 1 m_sure_number (aCons (eVar 2) aNil)))
    (sRet (eCallN 3 m_turned_values (aCons (eVar 3) (aCons (eVar 4) (aCons (eCallN 2 m_known_place (aCons (eVar 3) (aCons (eVar 5) aNil))) aNil)))))))
def m_values_hinged : MF := mkF 6 q_values_hinged
set_option maxHeartbeats 0 in
theorem c_values_hinged (Z : Fa K mg T P base) : Cal P w K mg base T "values_hinged" 9 3 .sh m_values_hinged := by
  obtain ⟨f, fd, F, b, g⟩ := Z.f_values_hinged
  refine ⟨f, fd, ["web", "values", "place"], fn_mk F sc_values_hinged rfl (by decide) (Γ' := []) (fun cdv A outer s H E hr hp => ?_), g, F.kp, b⟩
  have nd := sc_values_hinged.nd
  exact (jss_cons (js_set 3 nd (je_call (Cal.trim (c_sure_web Z)) hr (by omega) rfl (ja_cons (je_var 0) ja_nil)))
    (jss_cons (js_par 4 5 rfl nd (je_call (c_sure_values Z) hr (by omega) rfl (ja_cons (je_var 3) (ja_cons (je_var 1) ja_nil))) (je_call (c_sure_number Z) hr (by omega) rfl (ja_cons (je_var 2) ja_nil)))
    (jss_one (js_ret (je_call (c_turned_values Z) hr (by omega) rfl (ja_cons (je_var 3) (ja_cons (je_var 4) (ja_cons (je_call (c_known_place Z) hr (by omega) rfl (ja_cons (je_var 3) (ja_cons (je_var 5) ja_nil))) ja_nil))))))))
def N_lowest : List Str := ["top", "bottom", "shared"]
theorem sc_lowest : FnScope N_lowest ["top", "bottom"] (defScope s_lowest) := ⟨rfl, rfl, rfl, by decide +kernel, rfl, by decide +kernel, by decide +kernel⟩
def q_lowest : S → RS :=
  (sSeq (sAsg (.one 2) (e2 mulD (eBi gcdD (aCons (eVar 0) (aCons (eVar 1) aNil))) (eIf (t2 (cmpB (iCmp fun i j => ltB j i)) (eVar 1) (eC (.int 0))) (eC (.int 1)) (e1 negD (eC (.int 1))))))
    (sRet (eTup (aCons (e2 fdivD (eVar 0) (eVar 2)) (aCons (e2 fdivD (eVar 1) (eVar 2)) aNil)))))
def m_lowest : MF := mkF 3 q_lowest
set_option maxHeartbeats 0 in
theorem c_lowest (Z : Fa K mg T P base) : Cal P w K mg base T "lowest" 1 2 .sh m_lowest := by
  obtain ⟨f, fd, F, b, g⟩ := Z.f_lowest
  refine ⟨f, fd, ["top", "bottom"], fn_mk F sc_lowest rfl (by decide) (Γ' := []) (fun cdv A outer s H E hr hp => ?_), g, F.kp, b⟩
  have nd := sc_lowest.nd
  exact (jss_cons (js_set 2 nd (je_f (je_op bin_mul (je_b (je_biM bi_gcd rfl Z.b_gcd (ja_cons (je_var 0) (ja_cons (je_var 1) ja_nil)))) (je_b (je_if (jt_cmp cmp_gt (je_b (je_var 1)) (je_b je_int)) je_int (je_un uni_neg (je_b je_int)))))))
    (jss_one (js_ret (je_tup (ja_cons (je_op bin_fdiv (je_b (je_var 0)) (je_b (je_var 2))) (ja_cons (je_op bin_fdiv (je_b (je_var 1)) (je_b (je_var 2))) ja_nil))))))
def N_over : List Str := ["one", "other"]
theorem sc_over : FnScope N_over ["one", "other"] (defScope s_over) := ⟨rfl, rfl, rfl, by decide +kernel, rfl, by decide +kernel, by decide +kernel⟩
def q_over : S → RS :=
  (sRet (eCallN 2 m_lowest (aCons (e2 mulD (e2 ixD (eVar 0) (eC (.int 0))) (e2 ixD (eVar 1) (eC (.int 1)))) (aCons (e2 mulD (e2 ixD (eVar 0) (eC (.int 1))) (e2 ixD (eVar 1) (eC (.int 0)))) aNil))))
def m_over : MF := mkF 2 q_over
set_option maxHeartbeats 0 in
theorem c_over (Z : Fa K mg T P base) : Cal P w K mg base T "over" 2 2 .sh m_over := by
  obtain ⟨f, fd, F, b, g⟩ := Z.f_over
  refine ⟨f, fd, ["one", "other"], fn_mk F sc_over rfl (by decide) (Γ' := []) (fun cdv A outer s H E hr hp => ?_), g, F.kp, b⟩
  have nd := sc_over.nd
  exact (jss_one (js_ret (je_call (c_lowest Z) hr (by omega) rfl (ja_cons (je_f (je_op bin_mul (je_b (je_ix (je_b (je_var 0)) (je_b je_int))) (je_b (je_ix (je_b (je_var 1)) (je_b je_int))))) (ja_cons (je_f (je_op bin_mul (je_b (je_ix (je_b (je_var 0)) (je_b je_int))) (je_b (je_ix (je_b (je_var 1)) (je_b je_int))))) ja_nil)))))
def N_times : List Str := ["one", "other"]
theorem sc_times : FnScope N_times ["one", "other"] (defScope s_times) := ⟨rfl, rfl, rfl, by decide +kernel, rfl, by decide +kernel, by decide +kernel⟩
def q_times : S → RS :=
  (sRet (eCallN 2 m_lowest (aCons (e2 mulD (e2 ixD (eVar 0) (eC (.int 0))) (e2 ixD (eVar 1) (eC (.int 0)))) (aCons (e2 mulD (e2 ixD (eVar 0) (eC (.int 1))) (e2 ixD (eVar 1) (eC (.int 1)))) aNil))))
def m_times : MF := mkF 2 q_times
set_option maxHeartbeats 0 in
theorem c_times (Z : Fa K mg T P base) : Cal P w K mg base T "times" 2 2 .sh m_times := by
  obtain ⟨f, fd, F, b, g⟩ := Z.f_times
  refine ⟨f, fd, ["one", "other"], fn_mk F sc_times rfl (by decide) (Γ' := []) (fun cdv A outer s H E hr hp => ?_), g, F.kp, b⟩
  have nd := sc_times.nd
  exact (jss_one (js_ret (je_call (c_lowest Z) hr (by omega) rfl (ja_cons (je_f (je_op bin_mul (je_b (je_ix (je_b (je_var 0)) (je_b je_int))) (je_b (je_ix (je_b (je_var 1)) (je_b je_int))))) (ja_cons (je_f (je_op bin_mul (je_b (je_ix (je_b (je_var 0)) (je_b je_int))) (je_b (je_ix (je_b (je_var 1)) (je_b je_int))))) ja_nil)))))
def N_power : List Str := ["one", "many", "top", "bottom", "lap"]
theorem sc_power : FnScope N_power ["one", "many"] (defScope s_power) := ⟨rfl, rfl, rfl, by decide +kernel, rfl, by decide +kernel, by decide +kernel⟩
def q_power_b1 : S → RS :=
  (sPar 2 3 (e2 mulD (eVar 2) (e2 ixD (eVar 0) (eC (.int 0)))) (e2 mulD (eVar 3) (e2 ixD (eVar 0) (eC (.int 1)))))
def q_power : S → RS :=
  (sSeq (sAsg (.many [2, 3]) (eTup (aCons (eC (.int 1)) (aCons (eC (.int 1)) aNil))))
    (sSeq (sFor (iN rng1I (aCons (eVar 1) aNil)) (.one 4)
    q_power_b1)
    (sRet (eTup (aCons (eVar 2) (aCons (eVar 3) aNil))))))
def m_power : MF := mkF 5 q_power
set_option maxHeartbeats 0 in
theorem c_power (Z : Fa K mg T P base) : Cal P w K mg base T "power" 1 2 .sh m_power := by
  obtain ⟨f, fd, F, b, g⟩ := Z.f_power
  refine ⟨f, fd, ["one", "many"], fn_mk F sc_power rfl (by decide) (Γ' := []) (fun cdv A outer s H E hr hp => ?_), g, F.kp, b⟩
  have nd := sc_power.nd
  exact (jss_cons (js_asgT (je_tup (ja_cons je_int (ja_cons je_int ja_nil))) (jg_many rfl (jgs_cons 2 nd (jgs_cons 3 nd jgs_nil))))
    (jss_cons (js_for hp rfl (ji_range1 rfl Z.n_range (ja_cons (je_var 1) ja_nil)) (jg_one 4 nd)
    (jss_one (js_par 2 3 rfl nd (je_f (je_op bin_mul (je_b (je_var 2)) (je_b (je_ix (je_b (je_var 0)) (je_b je_int))))) (je_f (je_op bin_mul (je_b (je_var 3)) (je_b (je_ix (je_b (je_var 0)) (je_b je_int))))))))
    (jss_one (js_ret (je_tup (ja_cons (je_var 2) (ja_cons (je_var 3) ja_nil)))))))
def N_added : List Str := ["one", "other"]
theorem sc_added : FnScope N_added ["one", "other"] (defScope s_added) := ⟨rfl, rfl, rfl, by decide +kernel, rfl, by decide +kernel, by decide +kernel⟩
def q_added : S → RS :=
  (sRet (eCallN 2 m_lowest (aCons (e2 addD (e2 mulD (e2 ixD (eVar 0) (eC (.int 0))) (e2 ixD (eVar 1) (eC (.int 1)))) (e2 mulD (e2 ixD (eVar 1) (eC (.int 0))) (e2 ixD (eVar 0) (eC (.int 1))))) (aCons (e2 mulD (e2 ixD (eVar 0) (eC (.int 1))) (e2 ixD (eVar 1) (eC (.int 1)))) aNil))))
def m_added : MF := mkF 2 q_added
set_option maxHeartbeats 0 in
theorem c_added (Z : Fa K mg T P base) : Cal P w K mg base T "added" 2 2 .sh m_added := by
  obtain ⟨f, fd, F, b, g⟩ := Z.f_added
  refine ⟨f, fd, ["one", "other"], fn_mk F sc_added rfl (by decide) (Γ' := []) (fun cdv A outer s H E hr hp => ?_), g, F.kp, b⟩
  have nd := sc_added.nd
  exact (jss_one (js_ret (je_call (c_lowest Z) hr (by omega) rfl (ja_cons (je_f (je_op bin_add (je_fb (je_op bin_mul (je_b (je_ix (je_b (je_var 0)) (je_b je_int))) (je_b (je_ix (je_b (je_var 1)) (je_b je_int))))) (je_fb (je_op bin_mul (je_b (je_ix (je_b (je_var 1)) (je_b je_int))) (je_b (je_ix (je_b (je_var 0)) (je_b je_int))))))) (ja_cons (je_f (je_op bin_mul (je_b (je_ix (je_b (je_var 0)) (je_b je_int))) (je_b (je_ix (je_b (je_var 1)) (je_b je_int))))) ja_nil)))))
def N_carried : List Str := ["ratio", "turned", "many", "below"]
theorem sc_carried : FnScope N_carried ["ratio", "turned", "many"] (defScope s_carried) := ⟨rfl, rfl, rfl, by decide +kernel, rfl, by decide +kernel, by decide +kernel⟩
def q_carried : S → RS :=
  (sSeq (sIf (t2 (cmpB (iCmp fun i j => !ltB i j)) (eVar 2) (eC (.int 0)))
    (sSeq (sAsg (.one 3) (eCallN 2 m_power (aCons (eCallN 2 m_added (aCons (eC d_ONE) (aCons (eCallN 2 m_over (aCons (eC d_ONE) (aCons (eVar 1) aNil))) aNil))) (aCons (eVar 2) aNil))))
    (sRet (eCallN 2 m_over (aCons (eVar 0) (aCons (eVar 3) aNil)))))
    sNil)
    (sRet (eCallN 2 m_times (aCons (eVar 0) (aCons (eCallN 2 m_power (aCons (eCallN 2 m_added (aCons (eC d_ONE) (aCons (eVar 1) aNil))) (aCons (e2 subD (eC (.int 0)) (eVar 2)) aNil))) aNil)))))
def m_carried : MF := mkF 4 q_carried
set_option maxHeartbeats 0 in
theorem c_carried (Z : Fa K mg T P base) : Cal P w K mg base T "carried" 3 3 .sh m_carried := by
  obtain ⟨f, fd, F, b, g⟩ := Z.f_carried
  refine ⟨f, fd, ["ratio", "turned", "many"], fn_mk F sc_carried rfl (by decide) (Γ' := []) (fun cdv A outer s H E hr hp => ?_), g, F.kp, b⟩
  have nd := sc_carried.nd
  exact (jss_cons (js_if (jt_cmp cmp_ge (je_b (je_var 2)) (je_b je_int))
    (jss_cons (js_set 3 nd (je_call (c_power Z) hr (by omega) rfl (ja_cons (je_call (c_added Z) hr (by omega) rfl (ja_cons (je_conZ d_ONE rfl Z.c_ONE) (ja_cons (je_call (c_over Z) hr (by omega) rfl (ja_cons (je_conZ d_ONE rfl Z.c_ONE) (ja_cons (je_var 1) ja_nil))) ja_nil))) (ja_cons (je_var 2) ja_nil))))
    (jss_one (js_ret (je_call (c_over Z) hr (by omega) rfl (ja_cons (je_var 0) (ja_cons (je_var 3) ja_nil))))))
    jss_nil)
    (jss_one (js_ret (je_call (c_times Z) hr (by omega) rfl (ja_cons (je_var 0) (ja_cons (je_call (c_power Z) hr (by omega) rfl (ja_cons (je_call (c_added Z) hr (by omega) rfl (ja_cons (je_conZ d_ONE rfl Z.c_ONE) (ja_cons (je_var 1) ja_nil))) (ja_cons (je_op bin_sub (je_b je_int) (je_b (je_var 2))) ja_nil))) ja_nil))))))
def N_turned_ratios : List Str := ["web", "ratios", "place", "own", "far", "ratio"]
theorem sc_turned_ratios : FnScope N_turned_ratios ["web", "ratios", "place"] (defScope s_turned_ratios) := ⟨rfl, rfl, rfl, by decide +kernel, rfl, by decide +kernel, by decide +kernel⟩
def q_turned_ratios : S → RS :=
  (sSeq (sAsg (.one 3) (e2 ixD (eVar 1) (eVar 2)))
    (sRet (e1 tupleD (eLc (iEnumB (aCons (eVar 1) aNil)) (.many [4, 5]) tYesS (eIf (t2 (cmpB eqD) (eVar 4) (eVar 2)) (eCallN 2 m_over (aCons (eC d_ONE) (aCons (eVar 3) aNil))) (eCallN 3 m_carried (aCons (eVar 5) (aCons (eVar 3) (aCons (e2 ixD (e2 ixD (eVar 0) (eVar 2)) (eVar 4)) aNil)))))))))
def m_turned_ratios : MF := mkF 6 q_turned_ratios
set_option maxHeartbeats 0 in
theorem c_turned_ratios (Z : Fa K mg T P base) : Cal P w K mg base T "turned_ratios" 4 3 .sh m_turned_ratios := by
  obtain ⟨f, fd, F, b, g⟩ := Z.f_turned_ratios
  refine ⟨f, fd, ["web", "ratios", "place"], fn_mk F sc_turned_ratios rfl (by decide) (Γ' := []) (fun cdv A outer s H E hr hp => ?_), g, F.kp, b⟩
  have nd := sc_turned_ratios.nd
  exact (jss_cons (js_set 3 nd (je_ix (je_b (je_var 1)) (je_b (je_var 2))))
    (jss_one (js_ret (je_bty bi_tuple rfl Z.n_tuple (je_fb (je_lc [("far", 4), ("ratio", 5)] rfl nd (ji_enumB rfl Z.n_enumerate (ja_cons (je_var 1) ja_nil)) (blk_of rfl) (fun _ _ _ _ _ => (jg_many rfl (jgs_cons 4 nd (jgs_cons 5 nd jgs_nil)))) (fun _ _ _ _ _ => jts_nil) (fun _ _ _ _ _ => (je_if (jt_cmp (cmp_eq (hu64 hr)) (je_b (je_var 4)) (je_b (je_var 2))) (je_call (c_over Z) hr (by omega) rfl (ja_cons (je_conZ d_ONE rfl Z.c_ONE) (ja_cons (je_var 3) ja_nil))) (je_call (c_carried Z) hr (by omega) rfl (ja_cons (je_var 5) (ja_cons (je_var 3) (ja_cons (je_ix (je_b (je_ix (je_b (je_var 0)) (je_b (je_var 2)))) (je_b (je_var 4))) ja_nil))))))))))))
def N_sure_ratios : List Str := ["web", "ratios", "own"]
theorem sc_sure_ratios : FnScope N_sure_ratios ["web", "ratios"] (defScope s_sure_ratios) := ⟨rfl, rfl, rfl, by decide +kernel, rfl, by decide +kernel, by decide +kernel⟩
def q_sure_ratios : S → RS :=
  (sSeq (sAsg (.one 2) (eCallN 1 (m_tupled 6) (aCons (eVar 1) aNil)))
    (sSeq (sIf (tNotS (tTru (eCallN 2 m_is_values_of (aCons (e1 lenD (eVar 0)) (aCons (eVar 2) aNil)))))
    (sRaise 0)
    sNil)
    (sRet (eVar 2))))
def m_sure_ratios : MF := mkF 3 q_sure_ratios
set_option maxHeartbeats 0 in
theorem c_sure_ratios (Z : Fa K mg T P base) : Cal P w K mg base T "sure_ratios" 8 2 .sh m_sure_ratios := by
  obtain ⟨f, fd, F, b, g⟩ := Z.f_sure_ratios
  refine ⟨f, fd, ["web", "ratios"], fn_mk F sc_sure_ratios rfl (by decide) (Γ' := []) (fun cdv A outer s H E hr hp => ?_), g, F.kp, b⟩
  have nd := sc_sure_ratios.nd
  exact (jss_cons (js_set 2 nd (je_call (c_tupled Z 6) hr (by omega) rfl (ja_cons (je_var 1) ja_nil)))
    (jss_cons (js_if (jt_not (jt_tru (je_b (je_call (c_is_values_of Z) hr (by omega) rfl (ja_cons (je_bi bi_len rfl Z.n_len (je_b (je_var 0))) (ja_cons (je_var 2) ja_nil))))))
    (jss_one (js_raise 0 rfl Z.x_Unfit rfl))
    jss_nil)
    (jss_one (js_ret (je_var 2)))))
def N_ratios_hinged : List Str := ["web", "ratios", "place", "own", "told", "spot"]
theorem sc_ratios_hinged : FnScope N_ratios_hinged ["web", "ratios", "place"] (defScope s_ratios_hinged) := ⟨rfl, rfl, rfl, by decide +kernel, rfl, by decide +kernel, by decide +kernel⟩
def q_ratios_hinged : S → RS :=
  (sSeq (sAsg (.one 3) (eCallN 1 (trimF m_sure_web) (aCons (eVar 0) aNil)))
    (sSeq (sPar 4 5 (eCallN 2 m_sure_ratios (aCons (eVar 3) (aCons (eVar 1) aNil))) (eCallN 1 m_sure_number (aCons (eVar 2) aNil)))
    (sRet (eCallN 3 m_turned_ratios (aCons (eVar 3) (aCons (eVar 4) (aCons (eCallN 2 m_known_place (aCons (eVar 3) (aCons (eVar 5) aNil))) aNil)))))))
def m_ratios_hinged : MF := mkF 6 q_ratios_hinged
set_option maxHeartbeats 0 in
theorem c_ratios_hinged (Z : Fa K mg T P base) : Cal P w K mg base T "ratios_hinged" 9 3 .sh m_ratios_hinged := by
  obtain ⟨f, fd, F, b, g⟩ := Z.f_ratios_hinged
  refine ⟨f, fd, ["web", "ratios", "place"], fn_mk F sc_ratios_hinged rfl (by decide) (Γ' := []) (fun cdv A outer s H E hr hp => ?_), g, F.kp, b⟩
  have nd := sc_ratios_hinged.nd
  exact (jss_cons (js_set 3 nd (je_call (Cal.trim (c_sure_web Z)) hr (by omega) rfl (ja_cons (je_var 0) ja_nil)))
    (jss_cons (js_par 4 5 rfl nd (je_call (c_sure_ratios Z) hr (by omega) rfl (ja_cons (je_var 3) (ja_cons (je_var 1) ja_nil))) (je_call (c_sure_number Z) hr (by omega) rfl (ja_cons (je_var 2) ja_nil)))
    (jss_one (js_ret (je_call (c_turned_ratios Z) hr (by omega) rfl (ja_cons (je_var 3) (ja_cons (je_var 4) (ja_cons (je_call (c_known_place Z) hr (by omega) rfl (ja_cons (je_var 3) (ja_cons (je_var 5) ja_nil))) ja_nil))))))))
def N_sure_row : List Str := ["row", "own", "place"]
theorem sc_sure_row : FnScope N_sure_row ["row"] (defScope s_sure_row) := ⟨rfl, rfl, rfl, by decide +kernel, rfl, by decide +kernel, by decide +kernel⟩
def q_sure_row : S → RS :=
  (sSeq (sAsg (.one 1) (eCallN 1 (m_tupled 6) (aCons (eVar 0) aNil)))
    (sSeq (sIf (tOrS (tNotS (tTru (e1 (isiD .tuple) (eVar 1)))) (tNotS (tTru (e1 allD (eLc (i1 seqI (eVar 1)) (.one 2) tYesS (eCallN 1 m_is_number (aCons (eVar 2) aNil)))))))
    (sRaise 0)
    sNil)
    (sRet (eVar 1))))
def m_sure_row : MF := mkF 3 q_sure_row
set_option maxHeartbeats 0 in
theorem c_sure_row (Z : Fa K mg T P base) : Cal P w K mg base T "sure_row" 8 1 .sh m_sure_row := by
  obtain ⟨f, fd, F, b, g⟩ := Z.f_sure_row
  refine ⟨f, fd, ["row"], fn_mk F sc_sure_row rfl (by decide) (Γ' := []) (fun cdv A outer s H E hr hp => ?_), g, F.kp, b⟩
  have nd := sc_sure_row.nd
  exact (jss_cons (js_set 1 nd (je_call (c_tupled Z 6) hr (by omega) rfl (ja_cons (je_var 0) ja_nil)))
    (jss_cons (js_if (jw_pt (jw_or (jt_not (jt_tru (je_b (je_isi .tuple rfl Z.n_isinstance rfl Z.n_tuple (je_b (je_var 1)))))) (jw_or1 (jt_not (jt_tru (je_b (je_bi (bi_all rfl) rfl Z.n_all (je_fb (je_lc [("place", 2)] rfl nd (ji_seq (je_var 1)) (blk_of rfl) (fun _ _ _ _ _ => (jg_one 2 nd)) (fun _ _ _ _ _ => jts_nil) (fun _ _ _ _ _ => (je_call (c_is_number Z) hr (by omega) rfl (ja_cons (je_var 2) ja_nil))))))))))))
    (jss_one (js_raise 0 rfl Z.x_Unfit rfl))
    jss_nil)
    (jss_one (js_ret (je_var 1)))))
def m_walked_values : MF := fun _ _ => .stuck
theorem c_walked_values (Z : Fa K mg T P base) : Cal P w K mg base T "walked_values" 1 3 .sh m_walked_values :=
  let ⟨f, fd, F, b, g⟩ := Z.f_walked_values; ⟨f, fd, ["web", "values", "row"], fn_never, g, F.kp, b⟩
def N_known_row : List Str := ["web", "row", "place"]
theorem sc_known_row : FnScope N_known_row ["web", "row"] (defScope s_known_row) := ⟨rfl, rfl, rfl, by decide +kernel, rfl, by decide +kernel, by decide +kernel⟩
def q_known_row_b1 : S → RS :=
  (sDrop (eCallN 2 m_known_place (aCons (eVar 0) (aCons (eVar 2) aNil))))
def q_known_row_r1 : S → RS :=
  (sRet (eVar 1))
def q_known_row : S → RS :=
  (sSeq (sFor (i1 seqI (eVar 1)) (.one 2)
    q_known_row_b1)
    q_known_row_r1)
def m_known_row : MF := mkF 3 q_known_row
set_option maxHeartbeats 0 in
theorem c_known_row (Z : Fa K mg T P base) : Cal P w K mg base T "known_row" 5 2 .sh m_known_row := by
  obtain ⟨f, fd, F, b, g⟩ := Z.f_known_row
  refine ⟨f, fd, ["web", "row"], fn_mk F sc_known_row rfl (by decide) (Γ' := []) (fun cdv A outer s H E hr hp => ?_), g, F.kp, b⟩
  have nd := sc_known_row.nd
  exact (jss_cons (js_for hp rfl (ji_seq (je_var 1)) (jg_one 2 nd)
    (jss_one (js_expr (je_call (c_known_place Z) hr (by omega) rfl (ja_cons (je_var 0) (ja_cons (je_var 2) ja_nil))))))
    (jss_one (js_ret (je_var 1))))
def N_values_after : List Str := ["web", "values", "row", "own", "told", "places"]
theorem sc_values_after : FnScope N_values_after ["web", "values", "row"] (defScope s_values_after) := ⟨rfl, rfl, rfl, by decide +kernel, rfl, by decide +kernel, by decide +kernel⟩
def q_values_after : S → RS :=
  (sSeq (sAsg (.one 3) (eCallN 1 (trimF m_sure_web) (aCons (eVar 0) aNil)))
    (sSeq (sPar 4 5 (eCallN 2 m_sure_values (aCons (eVar 3) (aCons (eVar 1) aNil))) (eCallN 1 m_sure_row (aCons (eVar 2) aNil)))
    (sRet (e2 ixD (e2 ixD (eCallN 3 m_walked_values (aCons (eVar 3) (aCons (eVar 4) (aCons (eCallN 2 m_known_row (aCons (eVar 3) (aCons (eVar 5) aNil))) aNil)))) (e1 negD (eC (.int 1)))) (eC (.int 1))))))
def m_values_after : MF := mkF 6 q_values_after
set_option maxHeartbeats 0 in
theorem c_values_after (Z : Fa K mg T P base) : Cal P w K mg base T "values_after" 9 3 .sh m_values_after := by
  obtain ⟨f, fd, F, b, g⟩ := Z.f_values_after
  refine ⟨f, fd, ["web", "values", "row"], fn_mk F sc_values_after rfl (by decide) (Γ' := []) (fun cdv A outer s H E hr hp => ?_), g, F.kp, b⟩
  have nd := sc_values_after.nd
  exact (jss_cons (js_set 3 nd (je_call (Cal.trim (c_sure_web Z)) hr (by omega) rfl (ja_cons (je_var 0) ja_nil)))
    (jss_cons (js_par 4 5 rfl nd (je_call (c_sure_values Z) hr (by omega) rfl (ja_cons (je_var 3) (ja_cons (je_var 1) ja_nil))) (je_call (c_sure_row Z) hr (by omega) rfl (ja_cons (je_var 2) ja_nil)))
    (jss_one (js_ret (je_ix (je_b (je_ix (je_b (je_call (c_walked_values Z) hr (by omega) rfl (ja_cons (je_var 3) (ja_cons (je_var 4) (ja_cons (je_call (c_known_row Z) hr (by omega) rfl (ja_cons (je_var 3) (ja_cons (je_var 5) ja_nil))) ja_nil))))) (je_b (je_un uni_neg (je_b je_int))))) (je_b je_int))))))
def N_new_values : List Str := ["web", "values", "row", "own", "told", "places", "stands", "stand", "place"]
theorem sc_new_values : FnScope N_new_values ["web", "values", "row"] (defScope s_new_values) := ⟨rfl, rfl, rfl, by decide +kernel, rfl, by decide +kernel, by decide +kernel⟩
def q_new_values : S → RS :=
  (sSeq (sAsg (.one 3) (eCallN 1 (trimF m_sure_web) (aCons (eVar 0) aNil)))
    (sSeq (sPar 4 5 (eCallN 2 m_sure_values (aCons (eVar 3) (aCons (eVar 1) aNil))) (eCallN 1 m_sure_row (aCons (eVar 2) aNil)))
    (sSeq (sAsg (.one 6) (eCallN 3 m_walked_values (aCons (eVar 3) (aCons (eVar 4) (aCons (eCallN 2 m_known_row (aCons (eVar 3) (aCons (eVar 5) aNil))) aNil)))))
    (sRet (eLc (iZipB (aCons (eSl (eVar 6) (pSome (eC (.int 1))) pNone) (aCons (eVar 5) aNil))) (.many [7, 8]) tYesS (e2 ixD (e2 ixD (eVar 7) (eC (.int 1))) (eVar 8)))))))
def m_new_values : MF := mkF 9 q_new_values
set_option maxHeartbeats 0 in
theorem c_new_values (Z : Fa K mg T P base) : Cal P w K mg base T "new_values" 9 3 .sh m_new_values := by
  obtain ⟨f, fd, F, b, g⟩ := Z.f_new_values
  refine ⟨f, fd, ["web", "values", "row"], fn_mk F sc_new_values rfl (by decide) (Γ' := []) (fun cdv A outer s H E hr hp => ?_), g, F.kp, b⟩
  have nd := sc_new_values.nd
  exact (jss_cons (js_set 3 nd (je_call (Cal.trim (c_sure_web Z)) hr (by omega) rfl (ja_cons (je_var 0) ja_nil)))
    (jss_cons (js_par 4 5 rfl nd (je_call (c_sure_values Z) hr (by omega) rfl (ja_cons (je_var 3) (ja_cons (je_var 1) ja_nil))) (je_call (c_sure_row Z) hr (by omega) rfl (ja_cons (je_var 2) ja_nil)))
    (jss_cons (js_set 6 nd (je_call (c_walked_values Z) hr (by omega) rfl (ja_cons (je_var 3) (ja_cons (je_var 4) (ja_cons (je_call (c_known_row Z) hr (by omega) rfl (ja_cons (je_var 3) (ja_cons (je_var 5) ja_nil))) ja_nil)))))
    (jss_one (js_ret (je_f (je_lc [("stand", 7), ("place", 8)] rfl nd (ji_zipB rfl Z.n_zip (ja_cons (je_f (je_sl (je_b (je_var 6)) (jo_some (je_b je_int)) jo_none)) (ja_cons (je_var 5) ja_nil))) (blk_of rfl) (fun _ _ _ _ _ => (jg_many rfl (jgs_cons 7 nd (jgs_cons 8 nd jgs_nil)))) (fun _ _ _ _ _ => jts_nil) (fun _ _ _ _ _ => (je_ix (je_b (je_ix (je_b (je_var 7)) (je_b je_int))) (je_b (je_var 8)))))))))))
def N_hinge : List Str := ["web", "place", "found", "near", "row", "into", "far", "own"]
theorem sc_hinge : FnScope N_hinge ["web", "place"] (defScope s_hinge) := ⟨rfl, rfl, rfl, by decide +kernel, rfl, by decide +kernel, by decide +kernel⟩
def q_hinge_b1 : S → RS :=
  (sSeq (sAsg (.one 5) (e2 ixD (eVar 4) (eVar 1)))
    (sApp 2 (e1 tupleD (eLc (iEnumB (aCons (eVar 4) aNil)) (.many [6, 7]) tYesS (eIf (t2 (cmpB inD) (eVar 1) (eTup (aCons (eVar 3) (aCons (eVar 6) aNil)))) (e2 subD (eC (.int 0)) (eVar 7)) (e2 addD (eVar 7) (e2 fdivD (e2 addD (e2 mulD (e1 absD (eVar 5)) (e2 ixD (e2 ixD (eVar 0) (eVar 1)) (eVar 6))) (e2 mulD (eVar 5) (e1 absD (e2 ixD (e2 ixD (eVar 0) (eVar 1)) (eVar 6))))) (eC (.int 2)))))))))
def q_hinge : S → RS :=
  (sSeq (sAsgF 2 (eLst aNil))
    (sSeq (sFor (iEnumB (aCons (eVar 0) aNil)) (.many [3, 4])
    q_hinge_b1)
    (sRet (e1 tupleD (eVar 2)))))
def m_hinge : MF := mkF 8 q_hinge
set_option maxHeartbeats 0 in
theorem c_hinge (Z : Fa K mg T P base) : Cal P w K mg base T "hinge" 1 2 .sh m_hinge := by
  obtain ⟨f, fd, F, b, g⟩ := Z.f_hinge
  refine ⟨f, fd, ["web", "place"], fn_mk F sc_hinge rfl (by decide) (Γ' := []) (fun cdv A outer s H E hr hp => ?_), g, F.kp, b⟩
  have nd := sc_hinge.nd
  exact (jss_cons (js_setF (Γ' := [.sh, .sh, .o1]) 2 nd (je_lst ja_nil) (hΓ := flf_of 8 (by decide) (by decide) (by decide) (by decide)))
    (jss_cons (js_for hp rfl (ji_enumB rfl Z.n_enumerate (ja_cons (je_var 0) ja_nil)) (jg_many rfl (jgs_cons 3 nd (jgs_cons 4 nd jgs_nil)))
    (jss_cons (js_set 5 nd (je_ix (je_b (je_var 4)) (je_b (je_var 1))))
    (jss_one (js_app 2 (je_bty bi_tuple rfl Z.n_tuple (je_fb (je_lc [("far", 6), ("own", 7)] rfl nd (ji_enumB rfl Z.n_enumerate (ja_cons (je_var 4) ja_nil)) (blk_of rfl) (fun _ _ _ _ _ => (jg_many rfl (jgs_cons 6 nd (jgs_cons 7 nd jgs_nil)))) (fun _ _ _ _ _ => jts_nil) (fun _ _ _ _ _ => (je_if (jt_cmp (cmp_in (hu65 hr)) (je_b (je_var 1)) (je_b (je_tup (ja_cons (je_var 3) (ja_cons (je_var 6) ja_nil))))) (je_op bin_sub (je_b je_int) (je_b (je_var 7))) (je_f (je_op bin_add (je_b (je_var 7)) (je_b (je_op bin_fdiv (je_fb (je_op bin_add (je_fb (je_op bin_mul (je_b (je_bi bi_abs rfl Z.n_abs (je_b (je_var 5)))) (je_b (je_ix (je_b (je_ix (je_b (je_var 0)) (je_b (je_var 1)))) (je_b (je_var 6)))))) (je_fb (je_op bin_mul (je_b (je_var 5)) (je_b (je_bi bi_abs rfl Z.n_abs (je_b (je_ix (je_b (je_ix (je_b (je_var 0)) (je_b (je_var 1)))) (je_b (je_var 6)))))))))) (je_b je_int))))))))))))))
    (jss_one (js_ret (je_bty bi_tuple rfl Z.n_tuple (je_varB 2))))))
def N_ratios_after : List Str := ["web", "ratios", "row", "now", "told", "places", "place"]
theorem sc_ratios_after : FnScope N_ratios_after ["web", "ratios", "row"] (defScope s_ratios_after) := ⟨rfl, rfl, rfl, by decide +kernel, rfl, by decide +kernel, by decide +kernel⟩
def q_ratios_after_b1 : S → RS :=
  (sPar 3 4 (eCallN 2 m_hinge (aCons (eVar 3) (aCons (eVar 6) aNil))) (eCallN 3 m_turned_ratios (aCons (eVar 3) (aCons (eVar 4) (aCons (eVar 6) aNil)))))
def q_ratios_after : S → RS :=
  (sSeq (sAsg (.one 3) (eCallN 1 (trimF m_sure_web) (aCons (eVar 0) aNil)))
    (sSeq (sPar 4 5 (eCallN 2 m_sure_ratios (aCons (eVar 3) (aCons (eVar 1) aNil))) (eCallN 1 m_sure_row (aCons (eVar 2) aNil)))
    (sSeq (sFor (i1 seqI (eCallN 2 m_known_row (aCons (eVar 3) (aCons (eVar 5) aNil)))) (.one 6)
    q_ratios_after_b1)
    (sRet (eVar 4)))))
def m_ratios_after : MF := mkF 7 q_ratios_after
set_option maxHeartbeats 0 in
theorem c_ratios_after (Z : Fa K mg T P base) : Cal P w K mg base T "ratios_after" 9 3 .sh m_ratios_after := by
  obtain ⟨f, fd, F, b, g⟩ := Z.f_ratios_after
  refine ⟨f, fd, ["web", "ratios", "row"], fn_mk F sc_ratios_after rfl (by decide) (Γ' := []) (fun cdv A outer s H E hr hp => ?_), g, F.kp, b⟩
  have nd := sc_ratios_after.nd
  exact (jss_cons (js_set 3 nd (je_call (Cal.trim (c_sure_web Z)) hr (by omega) rfl (ja_cons (je_var 0) ja_nil)))
    (jss_cons (js_par 4 5 rfl nd (je_call (c_sure_ratios Z) hr (by omega) rfl (ja_cons (je_var 3) (ja_cons (je_var 1) ja_nil))) (je_call (c_sure_row Z) hr (by omega) rfl (ja_cons (je_var 2) ja_nil)))
    (jss_cons (js_for hp rfl (ji_seq (je_call (c_known_row Z) hr (by omega) rfl (ja_cons (je_var 3) (ja_cons (je_var 5) ja_nil)))) (jg_one 6 nd)
    (jss_one (js_par 3 4 rfl nd (je_call (c_hinge Z) hr (by omega) rfl (ja_cons (je_var 3) (ja_cons (je_var 6) ja_nil))) (je_call (c_turned_ratios Z) hr (by omega) rfl (ja_cons (je_var 3) (ja_cons (je_var 4) (ja_cons (je_var 6) ja_nil)))))))
    (jss_one (js_ret (je_var 4))))))
def m_walked_shades : MF := fun _ _ => .stuck
theorem c_walked_shades (Z : Fa K mg T P base) : Cal P w K mg base T "walked_shades" 1 3 .sh m_walked_shades :=
  let ⟨f, fd, F, b, g⟩ := Z.f_walked_shades; ⟨f, fd, ["web", "shades", "row"], fn_never, g, F.kp, b⟩
def N_unit_row : List Str := ["many", "place", "k"]
theorem sc_unit_row : FnScope N_unit_row ["many", "place"] (defScope s_unit_row) := ⟨rfl, rfl, rfl, by decide +kernel, rfl, by decide +kernel, by decide +kernel⟩
def q_unit_row : S → RS :=
  (sRet (e1 tupleD (eLc (iN rng1I (aCons (eVar 0) aNil)) (.one 2) tYesS (e1 intD (e2 (cmpD eqD) (eVar 2) (eVar 1))))))
def m_unit_row : MF := mkF 3 q_unit_row
set_option maxHeartbeats 0 in
theorem c_unit_row (Z : Fa K mg T P base) : Cal P w K mg base T "unit_row" 1 2 .sh m_unit_row := by
  obtain ⟨f, fd, F, b, g⟩ := Z.f_unit_row
  refine ⟨f, fd, ["many", "place"], fn_mk F sc_unit_row rfl (by decide) (Γ' := []) (fun cdv A outer s H E hr hp => ?_), g, F.kp, b⟩
  have nd := sc_unit_row.nd
  exact (jss_one (js_ret (je_bty bi_tuple rfl Z.n_tuple (je_fb (je_lc [("k", 2)] rfl nd (ji_range1 rfl Z.n_range (ja_cons (je_var 0) ja_nil)) (blk_of rfl) (fun _ _ _ _ _ => (jg_one 2 nd)) (fun _ _ _ _ _ => jts_nil) (fun _ _ _ _ _ => (je_bty bi_int rfl Z.n_int (je_b (je_cmp (cmp_eq (hu64 hr)) (je_b (je_var 2)) (je_b (je_var 1)))))))))))
def N_first_in : List Str := ["many", "place"]
theorem sc_first_in : FnScope N_first_in ["many"] (defScope s_first_in) := ⟨rfl, rfl, rfl, by decide +kernel, rfl, by decide +kernel, by decide +kernel⟩
def q_first_in : S → RS :=
  (sRet (e1 tupleD (eLc (iN rng1I (aCons (eVar 0) aNil)) (.one 1) tYesS (eCallN 2 m_unit_row (aCons (eVar 0) (aCons (eVar 1) aNil))))))
def m_first_in : MF := mkF 2 q_first_in
set_option maxHeartbeats 0 in
theorem c_first_in (Z : Fa K mg T P base) : Cal P w K mg base T "first_in" 2 1 .sh m_first_in := by
  obtain ⟨f, fd, F, b, g⟩ := Z.f_first_in
  refine ⟨f, fd, ["many"], fn_mk F sc_first_in rfl (by decide) (Γ' := []) (fun cdv A outer s H E hr hp => ?_), g, F.kp, b⟩
  have nd := sc_first_in.nd
  exact (jss_one (js_ret (je_bty bi_tuple rfl Z.n_tuple (je_fb (je_lc [("place", 1)] rfl nd (ji_range1 rfl Z.n_range (ja_cons (je_var 0) ja_nil)) (blk_of rfl) (fun _ _ _ _ _ => (jg_one 1 nd)) (fun _ _ _ _ _ => jts_nil) (fun _ _ _ _ _ => (je_call (c_unit_row Z) hr (by omega) rfl (ja_cons (je_var 0) (ja_cons (je_var 1) ja_nil)))))))))
def N_shades_after : List Str := ["web", "row", "own", "places"]
theorem sc_shades_after : FnScope N_shades_after ["web", "row"] (defScope s_shades_after) := ⟨rfl, rfl, rfl, by decide +kernel, rfl, by decide +kernel, by decide +kernel⟩
def q_shades_after : S → RS :=
  (sSeq (sPar 2 3 (eCallN 1 (trimF m_sure_web) (aCons (eVar 0) aNil)) (eCallN 1 m_sure_row (aCons (eVar 1) aNil)))
    (sRet (e2 ixD (e2 ixD (eCallN 3 m_walked_shades (aCons (eVar 2) (aCons (eCallN 1 m_first_in (aCons (e1 lenD (eVar 2)) aNil)) (aCons (eCallN 2 m_known_row (aCons (eVar 2) (aCons (eVar 3) aNil))) aNil)))) (e1 negD (eC (.int 1)))) (eC (.int 1)))))
def m_shades_after : MF := mkF 4 q_shades_after
set_option maxHeartbeats 0 in
theorem c_shades_after (Z : Fa K mg T P base) : Cal P w K mg base T "shades_after" 9 2 .sh m_shades_after := by
  obtain ⟨f, fd, F, b, g⟩ := Z.f_shades_after
  refine ⟨f, fd, ["web", "row"], fn_mk F sc_shades_after rfl (by decide) (Γ' := []) (fun cdv A outer s H E hr hp => ?_), g, F.kp, b⟩
  have nd := sc_shades_after.nd
  exact (jss_cons (js_par 2 3 rfl nd (je_call (Cal.trim (c_sure_web Z)) hr (by omega) rfl (ja_cons (je_var 0) ja_nil)) (je_call (c_sure_row Z) hr (by omega) rfl (ja_cons (je_var 1) ja_nil)))
    (jss_one (js_ret (je_ix (je_b (je_ix (je_b (je_call (c_walked_shades Z) hr (by omega) rfl (ja_cons (je_var 2) (ja_cons (je_call (c_first_in Z) hr (by omega) rfl (ja_cons (je_bi bi_len rfl Z.n_len (je_b (je_var 2))) ja_nil)) (ja_cons (je_call (c_known_row Z) hr (by omega) rfl (ja_cons (je_var 2) (ja_cons (je_var 3) ja_nil))) ja_nil))))) (je_b (je_un uni_neg (je_b je_int))))) (je_b je_int)))))
def N_goes_up : List Str := ["shade", "own"]
theorem sc_goes_up : FnScope N_goes_up ["shade"] (defScope s_goes_up) := ⟨rfl, rfl, rfl, by decide +kernel, rfl, by decide +kernel, by decide +kernel⟩
def q_goes_up : S → RS :=
  (sRet (e1 allD (eLc (i1 seqI (eVar 0)) (.one 1) tYesS (e2 (cmpD (iCmp fun i j => !ltB i j)) (eVar 1) (eC (.int 0))))))
def m_goes_up : MF := mkF 2 q_goes_up
set_option maxHeartbeats 0 in
theorem c_goes_up (Z : Fa K mg T P base) : Cal P w K mg base T "goes_up" 1 1 .sh m_goes_up := by
  obtain ⟨f, fd, F, b, g⟩ := Z.f_goes_up
  refine ⟨f, fd, ["shade"], fn_mk F sc_goes_up rfl (by decide) (Γ' := []) (fun cdv A outer s H E hr hp => ?_), g, F.kp, b⟩
  have nd := sc_goes_up.nd
  exact (jss_one (js_ret (je_bi (bi_all rfl) rfl Z.n_all (je_fb (je_lc [("own", 1)] rfl nd (ji_seq (je_var 0)) (blk_of rfl) (fun _ _ _ _ _ => (jg_one 1 nd)) (fun _ _ _ _ _ => jts_nil) (fun _ _ _ _ _ => (je_cmp cmp_ge (je_b (je_var 1)) (je_b je_int))))))))
def N_green_path : List Str := ["web", "row", "stands", "stand", "place"]
theorem sc_green_path : FnScope N_green_path ["web", "row"] (defScope s_green_path) := ⟨rfl, rfl, rfl, by decide +kernel, rfl, by decide +kernel, by decide +kernel⟩
def q_green_path : S → RS :=
  (sSeq (sAsg (.one 2) (eCallN 3 m_walked_shades (aCons (eVar 0) (aCons (eCallN 1 m_first_in (aCons (e1 lenD (eVar 0)) aNil)) (aCons (eVar 1) aNil)))))
    (sRet (e1 allD (eLc (iZipB (aCons (eVar 2) (aCons (eVar 1) aNil))) (.many [3, 4]) tYesS (eCallN 1 m_goes_up (aCons (e2 ixD (e2 ixD (eVar 3) (eC (.int 1))) (eVar 4)) aNil))))))
def m_green_path : MF := mkF 5 q_green_path
set_option maxHeartbeats 0 in
theorem c_green_path (Z : Fa K mg T P base) : Cal P w K mg base T "green_path" 3 2 .sh m_green_path := by
  obtain ⟨f, fd, F, b, g⟩ := Z.f_green_path
  refine ⟨f, fd, ["web", "row"], fn_mk F sc_green_path rfl (by decide) (Γ' := []) (fun cdv A outer s H E hr hp => ?_), g, F.kp, b⟩
  have nd := sc_green_path.nd
  exact (jss_cons (js_set 2 nd (je_call (c_walked_shades Z) hr (by omega) rfl (ja_cons (je_var 0) (ja_cons (je_call (c_first_in Z) hr (by omega) rfl (ja_cons (je_bi bi_len rfl Z.n_len (je_b (je_var 0))) ja_nil)) (ja_cons (je_var 1) ja_nil)))))
    (jss_one (js_ret (je_bi (bi_all rfl) rfl Z.n_all (je_fb (je_lc [("stand", 3), ("place", 4)] rfl nd (ji_zipB rfl Z.n_zip (ja_cons (je_var 2) (ja_cons (je_var 1) ja_nil))) (blk_of rfl) (fun _ _ _ _ _ => (jg_many rfl (jgs_cons 3 nd (jgs_cons 4 nd jgs_nil)))) (fun _ _ _ _ _ => jts_nil) (fun _ _ _ _ _ => (je_call (c_goes_up Z) hr (by omega) rfl (ja_cons (je_ix (je_b (je_ix (je_b (je_var 3)) (je_b je_int))) (je_b (je_var 4))) ja_nil)))))))))
def N_is_green_row : List Str := ["web", "row", "own", "places"]
theorem sc_is_green_row : FnScope N_is_green_row ["web", "row"] (defScope s_is_green_row) := ⟨rfl, rfl, rfl, by decide +kernel, rfl, by decide +kernel, by decide +kernel⟩
def q_is_green_row : S → RS :=
  (sSeq (sPar 2 3 (eCallN 1 (trimF m_sure_web) (aCons (eVar 0) aNil)) (eCallN 1 m_sure_row (aCons (eVar 1) aNil)))
    (sRet (eCallN 2 m_green_path (aCons (eVar 2) (aCons (eCallN 2 m_known_row (aCons (eVar 2) (aCons (eVar 3) aNil))) aNil)))))
def m_is_green_row : MF := mkF 4 q_is_green_row
set_option maxHeartbeats 0 in
theorem c_is_green_row (Z : Fa K mg T P base) : Cal P w K mg base T "is_green_row" 9 2 .sh m_is_green_row := by
  obtain ⟨f, fd, F, b, g⟩ := Z.f_is_green_row
  refine ⟨f, fd, ["web", "row"], fn_mk F sc_is_green_row rfl (by decide) (Γ' := []) (fun cdv A outer s H E hr hp => ?_), g, F.kp, b⟩
  have nd := sc_is_green_row.nd
  exact (jss_cons (js_par 2 3 rfl nd (je_call (Cal.trim (c_sure_web Z)) hr (by omega) rfl (ja_cons (je_var 0) ja_nil)) (je_call (c_sure_row Z) hr (by omega) rfl (ja_cons (je_var 1) ja_nil)))
    (jss_one (js_ret (je_call (c_green_path Z) hr (by omega) rfl (ja_cons (je_var 2) (ja_cons (je_call (c_known_row Z) hr (by omega) rfl (ja_cons (je_var 2) (ja_cons (je_var 3) ja_nil))) ja_nil))))))
def m_walked_sums : MF := fun _ _ => .stuck
theorem c_walked_sums (Z : Fa K mg T P base) : Cal P w K mg base T "walked_sums" 1 2 .sh m_walked_sums :=
  let ⟨f, fd, F, b, g⟩ := Z.f_walked_sums; ⟨f, fd, ["web", "row"], fn_never, g, F.kp, b⟩
def N_sums_after : List Str := ["web", "row", "own", "places"]
theorem sc_sums_after : FnScope N_sums_after ["web", "row"] (defScope s_sums_after) := ⟨rfl, rfl, rfl, by decide +kernel, rfl, by decide +kernel, by decide +kernel⟩
def q_sums_after : S → RS :=
  (sSeq (sPar 2 3 (eCallN 1 (trimF m_sure_web) (aCons (eVar 0) aNil)) (eCallN 1 m_sure_row (aCons (eVar 1) aNil)))
    (sSeq (sDrop (eCallN 2 m_known_row (aCons (eVar 2) (aCons (eVar 3) aNil))))
    (sSeq (sIf (t2 (cmpB (iCmp fun i j => ltB j i)) (e1 lenD (eVar 2)) (eC d_MOST_LETTERS))
    (sRaise 3)
    sNil)
    (sRet (eCallN 2 m_walked_sums (aCons (eVar 2) (aCons (eVar 3) aNil)))))))
def m_sums_after : MF := mkF 4 q_sums_after
set_option maxHeartbeats 0 in
theorem c_sums_after (Z : Fa K mg T P base) : Cal P w K mg base T "sums_after" 9 2 .sh m_sums_after := by
  obtain ⟨f, fd, F, b, g⟩ := Z.f_sums_after
  refine ⟨f, fd, ["web", "row"], fn_mk F sc_sums_after rfl (by decide) (Γ' := []) (fun cdv A outer s H E hr hp => ?_), g, F.kp, b⟩
  have nd := sc_sums_after.nd
  exact (jss_cons (js_par 2 3 rfl nd (je_call (Cal.trim (c_sure_web Z)) hr (by omega) rfl (ja_cons (je_var 0) ja_nil)) (je_call (c_sure_row Z) hr (by omega) rfl (ja_cons (je_var 1) ja_nil)))
    (jss_cons (js_expr (je_call (c_known_row Z) hr (by omega) rfl (ja_cons (je_var 2) (ja_cons (je_var 3) ja_nil))))
    (jss_cons (js_if (jt_cmp cmp_gt (je_b (je_bi bi_len rfl Z.n_len (je_b (je_var 2)))) (je_b (je_conZ d_MOST_LETTERS rfl Z.c_MOST_LETTERS)))
    (jss_one (js_raise 3 rfl Z.x_TooMany rfl))
    jss_nil)
    (jss_one (js_ret (je_call (c_walked_sums Z) hr (by omega) rfl (ja_cons (je_var 2) (ja_cons (je_var 3) ja_nil))))))))
def N_gathered : List Str := ["table", "found", "powers"]
theorem sc_gathered : FnScope N_gathered ["table"] (defScope s_gathered) := ⟨rfl, rfl, rfl, by decide +kernel, rfl, by decide +kernel, by decide +kernel⟩
def q_gathered : S → RS :=
  (sSeq (sAsg (.one 1) (e1 tupleD (eLc (i1 seqI (e1 sortTdD (eVar 0))) (.one 2) (t2 (cmpB neD) (e2 tixD (eVar 0) (eVar 2)) (eC (.int 0))) (eTup (aCons (eVar 2) (aCons (e2 tixD (eVar 0) (eVar 2)) aNil))))))
    (sSeq (sIf (t2 (cmpB (iCmp fun i j => ltB j i)) (e1 lenD (eVar 1)) (eC d_MOST_TERMS))
    (sRaise 3)
    sNil)
    (sRet (eVar 1))))
def m_gathered : MF := mkF 3 q_gathered
set_option maxHeartbeats 0 in
theorem c_gathered (Z : Fa K mg T P base) : Cal P w K mg base T "gathered" 1 1 .sh m_gathered := by
  obtain ⟨f, fd, F, b, g⟩ := Z.f_gathered
  refine ⟨f, fd, ["table"], fn_mk F sc_gathered rfl (by decide) (Γ' := []) (fun cdv A outer s H E hr hp => ?_), g, F.kp, b⟩
  have nd := sc_gathered.nd
  exact (jss_cons (js_set 1 nd (je_bty bi_tuple rfl Z.n_tuple (je_fb (je_lc [("powers", 2)] rfl nd (ji_seq (je_f (je_bi (bi_sortTd rfl (hu65 hr)) rfl Z.n_sorted (je_b (je_var 0))))) (blk_of rfl) (fun _ _ _ _ _ => (jg_one 2 nd)) (fun _ _ _ _ _ => (jts_one (jt_cmp (cmp_ne (hu64 hr)) (je_b (je_tix (hu64 hr) (je_b (je_var 0)) (je_var 2))) (je_b je_int)))) (fun _ _ _ _ _ => (je_tup (ja_cons (je_var 2) (ja_cons (je_tix (hu64 hr) (je_b (je_var 0)) (je_var 2)) ja_nil))))))))
    (jss_cons (js_if (jt_cmp cmp_gt (je_b (je_bi bi_len rfl Z.n_len (je_b (je_var 1)))) (je_b (je_conZ d_MOST_TERMS rfl Z.c_MOST_TERMS)))
    (jss_one (js_raise 3 rfl Z.x_TooMany rfl))
    jss_nil)
    (jss_one (js_ret (je_var 1)))))
def N_plus : List Str := ["one", "other", "many", "table", "powers", "number"]
theorem sc_plus : FnScope N_plus ["one", "other", "many"] (defScope s_plus) := ⟨rfl, rfl, rfl, by decide +kernel, rfl, by decide +kernel, by decide +kernel⟩
def q_plus_b1 : S → RS :=
  (sTput (eVar 3) (eVar 4) (e2 addD (eGetT (eVar 3) (eVar 4) (eC (.int 0))) (e2 mulD (eVar 2) (eVar 5))))
def q_plus : S → RS :=
  (sSeq (sAsg (.one 3) (e1 dictTD (eVar 0)))
    (sSeq (sFor (i1 seqI (eUnD (eVar 1))) (.many [4, 5])
    q_plus_b1)
    (sRet (eCallN 1 m_gathered (aCons (eVar 3) aNil)))))
def m_plus : MF := mkF 6 q_plus
set_option maxHeartbeats 0 in
theorem c_plus (Z : Fa K mg T P base) : CalD P w K mg base T "plus" 2 3 .sh [.int 1] m_plus := by
  obtain ⟨f, fd, dvs, ds, F, b, hv, hrr, g⟩ := Z.f_plus
  refine ⟨f, fd, ["one", "other", "many"], ds, dvs, fn_mkD F sc_plus rfl (by decide) (Γ' := []) (fun cdv A outer s H E hr hp => ?_), g, F.kp, b, hv, hrr⟩
  have nd := sc_plus.nd
  exact (jss_cons (js_set 3 nd (je_dictT (hu64 hr) rfl rfl Z.n_dict (je_var 0)))
    (jss_cons (js_for hp rfl (ji_seq (je_unD (je_var 1))) (jg_many rfl (jgs_cons 4 nd (jgs_cons 5 nd jgs_nil)))
    (jss_one (js_tput (hu64 hr) (je_b (je_var 3)) (je_var 4) (je_f (je_op bin_add (je_b (je_getT (hu64 hr) (je_b (je_var 3)) (je_var 4) je_int)) (je_fb (je_op bin_mul (je_b (je_var 2)) (je_b (je_var 5)))))))))
    (jss_one (js_ret (je_call (c_gathered Z) hr (by omega) rfl (ja_cons (je_var 3) ja_nil))))))
def N_ascends : List Str := ["row", "k"]
theorem sc_ascends : FnScope N_ascends ["row"] (defScope s_ascends) := ⟨rfl, rfl, rfl, by decide +kernel, rfl, by decide +kernel, by decide +kernel⟩
def q_ascends : S → RS :=
  (sRet (e1 allD (eLc (iN rng1I (aCons (e2 subD (e1 lenD (eVar 0)) (eC (.int 1))) aNil)) (.one 1) tYesS (e2 (cmpD ltDt) (e2 ixD (eVar 0) (eVar 1)) (e2 ixD (eVar 0) (e2 addD (eVar 1) (eC (.int 1))))))))
def m_ascends : MF := mkF 2 q_ascends
set_option maxHeartbeats 0 in
theorem c_ascends (Z : Fa K mg T P base) : Cal P w K mg base T "ascends" 1 1 .sh m_ascends := by
  obtain ⟨f, fd, F, b, g⟩ := Z.f_ascends
  refine ⟨f, fd, ["row"], fn_mk F sc_ascends rfl (by decide) (Γ' := []) (fun cdv A outer s H E hr hp => ?_), g, F.kp, b⟩
  have nd := sc_ascends.nd
  exact (jss_one (js_ret (je_bi (bi_all rfl) rfl Z.n_all (je_fb (je_lc [("k", 1)] rfl nd (ji_range1 rfl Z.n_range (ja_cons (je_op bin_sub (je_b (je_bi bi_len rfl Z.n_len (je_b (je_var 0)))) (je_b je_int)) ja_nil)) (blk_of rfl) (fun _ _ _ _ _ => (jg_one 1 nd)) (fun _ _ _ _ _ => jts_nil) (fun _ _ _ _ _ => (je_cmp (cmp_ltDt (hu64 hr)) (je_b (je_ix (je_b (je_var 0)) (je_b (je_var 1)))) (je_b (je_ix (je_b (je_var 0)) (je_fb (je_op bin_add (je_b (je_var 1)) (je_b je_int))))))))))))
def N_is_sum_of : List Str := ["many", "thing", "term", "own"]
theorem sc_is_sum_of : FnScope N_is_sum_of ["many", "thing"] (defScope s_is_sum_of) := ⟨rfl, rfl, rfl, by decide +kernel, rfl, by decide +kernel, by decide +kernel⟩
def q_is_sum_of : S → RS :=
  (sSeq (sIf (tOrS (tNotS (tTru (e1 (isiD .tuple) (eVar 1)))) (tNotS (tTru (e1 allD (eLc (i1 seqI (eVar 1)) (.one 2) tYesS (eAndB (eCallN 2 m_is_long (aCons (eVar 2) (aCons (eC (.int 2)) aNil))) (eCallN 2 m_is_long (aCons (e2 ixD (eVar 2) (eC (.int 0))) (aCons (eVar 0) aNil)))))))))
    (sRet (eC (.bl false)))
    sNil)
    (sSeq (sIf (tNotS (tTru (e1 allD (eLc (i1 seqI (eVar 1)) (.one 2) tYesS (eAndB (eCallN 1 m_is_number (aCons (e2 ixD (eVar 2) (eC (.int 1))) aNil)) (eAndB (e2 (cmpD neD) (e2 ixD (eVar 2) (eC (.int 1))) (eC (.int 0))) (e1 allD (eLc (i1 seqI (e2 ixD (eVar 2) (eC (.int 0)))) (.one 3) tYesS (eCallN 1 m_is_number (aCons (eVar 3) aNil))))))))))
    (sRet (eC (.bl false)))
    sNil)
    (sRet (eCallN 1 m_ascends (aCons (eLc (i1 seqI (eVar 1)) (.one 2) tYesS (e2 ixD (eVar 2) (eC (.int 0)))) aNil)))))
def m_is_sum_of : MF := mkF 4 q_is_sum_of
set_option maxHeartbeats 0 in
theorem c_is_sum_of (Z : Fa K mg T P base) : Cal P w K mg base T "is_sum_of" 2 2 .sh m_is_sum_of := by
  obtain ⟨f, fd, F, b, g⟩ := Z.f_is_sum_of
  refine ⟨f, fd, ["many", "thing"], fn_mk F sc_is_sum_of rfl (by decide) (Γ' := []) (fun cdv A outer s H E hr hp => ?_), g, F.kp, b⟩
  have nd := sc_is_sum_of.nd
  exact (jss_cons (js_if (jw_pt (jw_or (jt_not (jt_tru (je_b (je_isi .tuple rfl Z.n_isinstance rfl Z.n_tuple (je_b (je_var 1)))))) (jw_or1 (jt_not (jt_tru (je_b (je_bi (bi_all rfl) rfl Z.n_all (je_fb (je_lc [("term", 2)] rfl nd (ji_seq (je_var 1)) (blk_of rfl) (fun _ _ _ _ _ => (jg_one 2 nd)) (fun _ _ _ _ _ => jts_nil) (fun _ _ _ _ _ => (je_and (je_b (je_call (c_is_long Z) hr (by omega) rfl (ja_cons (je_var 2) (ja_cons je_int ja_nil)))) (je_one (je_call (c_is_long Z) hr (by omega) rfl (ja_cons (je_ix (je_b (je_var 2)) (je_b je_int)) (ja_cons (je_var 0) ja_nil)))))))))))))))
    (jss_one (js_ret je_bl))
    jss_nil)
    (jss_cons (js_if (jt_not (jt_tru (je_b (je_bi (bi_all rfl) rfl Z.n_all (je_fb (je_lc [("term", 2)] rfl nd (ji_seq (je_var 1)) (blk_of rfl) (fun _ _ _ _ _ => (jg_one 2 nd)) (fun _ _ _ _ _ => jts_nil) (fun _ _ _ _ _ => (je_and (je_b (je_call (c_is_number Z) hr (by omega) rfl (ja_cons (je_ix (je_b (je_var 2)) (je_b je_int)) ja_nil))) (je_and (je_b (je_cmp (cmp_ne (hu64 hr)) (je_b (je_ix (je_b (je_var 2)) (je_b je_int))) (je_b je_int))) (je_one (je_bi (bi_all rfl) rfl Z.n_all (je_fb (je_lc [("own", 3)] rfl nd (ji_seq (je_ix (je_b (je_var 2)) (je_b je_int))) (blk_of rfl) (fun _ _ _ _ _ => (jg_one 3 nd)) (fun _ _ _ _ _ => jts_nil) (fun _ _ _ _ _ => (je_call (c_is_number Z) hr (by omega) rfl (ja_cons (je_var 3) ja_nil))))))))))))))))
    (jss_one (js_ret je_bl))
    jss_nil)
    (jss_one (js_ret (je_call (c_ascends Z) hr (by omega) rfl (ja_cons (je_f (je_lc [("term", 2)] rfl nd (ji_seq (je_var 1)) (blk_of rfl) (fun _ _ _ _ _ => (jg_one 2 nd)) (fun _ _ _ _ _ => jts_nil) (fun _ _ _ _ _ => (je_ix (je_b (je_var 2)) (je_b je_int))))) ja_nil))))))
def N_sure_sum : List Str := ["many", "value", "own"]
theorem sc_sure_sum : FnScope N_sure_sum ["many", "value"] (defScope s_sure_sum) := ⟨rfl, rfl, rfl, by decide +kernel, rfl, by decide +kernel, by decide +kernel⟩
def q_sure_sum : S → RS :=
  (sSeq (sAsg (.one 2) (eCallN 1 m_tupledP (aCons (eVar 1) aNil)))
    (sSeq (sIf (tNotS (tTru (eCallN 2 m_is_sum_of (aCons (eVar 0) (aCons (eUnD (eVar 2)) aNil)))))
    (sRaise 0)
    sNil)
    (sRet (eVar 2))))
def m_sure_sum : MF := mkF 3 q_sure_sum
set_option maxHeartbeats 0 in
theorem c_sure_sum (Z : Fa K mg T P base) : Cal P w K mg base T "sure_sum" 8 2 .sh m_sure_sum := by
  obtain ⟨f, fd, F, b, g⟩ := Z.f_sure_sum
  refine ⟨f, fd, ["many", "value"], fn_mk F sc_sure_sum rfl (by decide) (Γ' := []) (fun cdv A outer s H E hr hp => ?_), g, F.kp, b⟩
  have nd := sc_sure_sum.nd
  exact (jss_cons (js_set 2 nd (je_call (c_tupledP Z) hr (by omega) rfl (ja_cons (je_var 1) ja_nil)))
    (jss_cons (js_if (jt_not (jt_tru (je_b (je_call (c_is_sum_of Z) hr (by omega) rfl (ja_cons (je_var 0) (ja_cons (je_unD (je_var 2)) ja_nil))))))
    (jss_one (js_raise 0 rfl Z.x_Unfit rfl))
    jss_nil)
    (jss_one (js_ret (je_var 2)))))
def N_sure_many : List Str := ["many"]
theorem sc_sure_many : FnScope N_sure_many ["many"] (defScope s_sure_many) := ⟨rfl, rfl, rfl, by decide +kernel, rfl, by decide +kernel, by decide +kernel⟩
def q_sure_many : S → RS :=
  (sSeq (sIf (tNotS (tTru (eCallN 2 m_is_from (aCons (eVar 0) (aCons (eC (.int 1)) aNil)))))
    (sRaise 0)
    sNil)
    (sRet (eVar 0)))
def m_sure_many : MF := mkF 1 q_sure_many
set_option maxHeartbeats 0 in
theorem c_sure_many (Z : Fa K mg T P base) : Cal P w K mg base T "sure_many" 3 1 .sh m_sure_many := by
  obtain ⟨f, fd, F, b, g⟩ := Z.f_sure_many
  refine ⟨f, fd, ["many"], fn_mk F sc_sure_many rfl (by decide) (Γ' := []) (fun cdv A outer s H E hr hp => ?_), g, F.kp, b⟩
  have nd := sc_sure_many.nd
  exact (jss_cons (js_if (jt_not (jt_tru (je_b (je_call (c_is_from Z) hr (by omega) rfl (ja_cons (je_var 0) (ja_cons je_int ja_nil))))))
    (jss_one (js_raise 0 rfl Z.x_Unfit rfl))
    jss_nil)
    (jss_one (js_ret (je_var 0))))
def N_sum_added : List Str := ["many", "one", "other"]
theorem sc_sum_added : FnScope N_sum_added ["many", "one", "other"] (defScope s_sum_added) := ⟨rfl, rfl, rfl, by decide +kernel, rfl, by decide +kernel, by decide +kernel⟩
def q_sum_added : S → RS :=
  (sRet (eCallD 3 (trimF m_plus) [.int 1] (aCons (eCallN 2 m_sure_sum (aCons (eCallN 1 m_sure_many (aCons (eVar 0) aNil)) (aCons (eVar 1) aNil))) (aCons (eCallN 2 m_sure_sum (aCons (eVar 0) (aCons (eVar 2) aNil))) aNil))))
def m_sum_added : MF := mkF 3 q_sum_added
set_option maxHeartbeats 0 in
theorem c_sum_added (Z : Fa K mg T P base) : Cal P w K mg base T "sum_added" 9 3 .sh m_sum_added := by
  obtain ⟨f, fd, F, b, g⟩ := Z.f_sum_added
  refine ⟨f, fd, ["many", "one", "other"], fn_mk F sc_sum_added rfl (by decide) (Γ' := []) (fun cdv A outer s H E hr hp => ?_), g, F.kp, b⟩
  have nd := sc_sum_added.nd
  exact (jss_one (js_ret (je_callD (CalD.trim (c_plus Z)) hr (by omega) rfl (ja_cons (je_call (c_sure_sum Z) hr (by omega) rfl (ja_cons (je_call (c_sure_many Z) hr (by omega) rfl (ja_cons (je_var 0) ja_nil)) (ja_cons (je_var 1) ja_nil))) (ja_cons (je_call (c_sure_sum Z) hr (by omega) rfl (ja_cons (je_var 0) (ja_cons (je_var 2) ja_nil))) ja_nil)))))
def N_shifted : List Str := ["powers", "other", "own", "more"]
theorem sc_shifted : FnScope N_shifted ["powers", "other"] (defScope s_shifted) := ⟨rfl, rfl, rfl, by decide +kernel, rfl, by decide +kernel, by decide +kernel⟩
def q_shifted : S → RS :=
  (sRet (e1 tupleD (eLc (iZipB (aCons (eVar 0) (aCons (eVar 1) aNil))) (.many [2, 3]) tYesS (e2 addD (eVar 2) (eVar 3)))))
def m_shifted : MF := mkF 4 q_shifted
set_option maxHeartbeats 0 in
theorem c_shifted (Z : Fa K mg T P base) : Cal P w K mg base T "shifted" 1 2 .sh m_shifted := by
  obtain ⟨f, fd, F, b, g⟩ := Z.f_shifted
  refine ⟨f, fd, ["powers", "other"], fn_mk F sc_shifted rfl (by decide) (Γ' := []) (fun cdv A outer s H E hr hp => ?_), g, F.kp, b⟩
  have nd := sc_shifted.nd
  exact (jss_one (js_ret (je_bty bi_tuple rfl Z.n_tuple (je_fb (je_lc [("own", 2), ("more", 3)] rfl nd (ji_zipB rfl Z.n_zip (ja_cons (je_var 0) (ja_cons (je_var 1) ja_nil))) (blk_of rfl) (fun _ _ _ _ _ => (jg_many rfl (jgs_cons 2 nd (jgs_cons 3 nd jgs_nil)))) (fun _ _ _ _ _ => jts_nil) (fun _ _ _ _ _ => (je_f (je_op bin_add (je_b (je_var 2)) (je_b (je_var 3))))))))))
def N_multiplied : List Str := ["one", "other", "table", "near", "number", "far", "own", "powers"]
theorem sc_multiplied : FnScope N_multiplied ["one", "other"] (defScope s_multiplied) := ⟨rfl, rfl, rfl, by decide +kernel, rfl, by decide +kernel, by decide +kernel⟩
def q_multiplied_b1 : S → RS :=
  (sSeq (sAsg (.one 7) (eCallN 2 m_shifted (aCons (eVar 3) (aCons (eVar 5) aNil))))
    (sTput (eVar 2) (eVar 7) (e2 addD (eGetT (eVar 2) (eVar 7) (eC (.int 0))) (e2 mulD (eVar 4) (eVar 6)))))
def q_multiplied_b2 : S → RS :=
  (sFor (i1 seqI (eUnD (eVar 1))) (.many [5, 6])
    q_multiplied_b1)
def q_multiplied : S → RS :=
  (sSeq (sAsg (.one 2) eDit0)
    (sSeq (sFor (i1 seqI (eUnD (eVar 0))) (.many [3, 4])
    q_multiplied_b2)
    (sRet (eCallN 1 m_gathered (aCons (eVar 2) aNil)))))
def m_multiplied : MF := mkF 8 q_multiplied
set_option maxHeartbeats 0 in
theorem c_multiplied (Z : Fa K mg T P base) : Cal P w K mg base T "multiplied" 2 2 .sh m_multiplied := by
  obtain ⟨f, fd, F, b, g⟩ := Z.f_multiplied
  refine ⟨f, fd, ["one", "other"], fn_mk F sc_multiplied rfl (by decide) (Γ' := []) (fun cdv A outer s H E hr hp => ?_), g, F.kp, b⟩
  have nd := sc_multiplied.nd
  exact (jss_cons (js_set 2 nd je_dit0)
    (jss_cons (js_for hp rfl (ji_seq (je_unD (je_var 0))) (jg_many rfl (jgs_cons 3 nd (jgs_cons 4 nd jgs_nil)))
    (jss_one (js_for hp rfl (ji_seq (je_unD (je_var 1))) (jg_many rfl (jgs_cons 5 nd (jgs_cons 6 nd jgs_nil)))
    (jss_cons (js_set 7 nd (je_call (c_shifted Z) hr (by omega) rfl (ja_cons (je_var 3) (ja_cons (je_var 5) ja_nil))))
    (jss_one (js_tput (hu64 hr) (je_b (je_var 2)) (je_var 7) (je_f (je_op bin_add (je_b (je_getT (hu64 hr) (je_b (je_var 2)) (je_var 7) je_int)) (je_fb (je_op bin_mul (je_b (je_var 4)) (je_b (je_var 6))))))))))))
    (jss_one (js_ret (je_call (c_gathered Z) hr (by omega) rfl (ja_cons (je_var 2) ja_nil))))))
def N_sum_times : List Str := ["many", "one", "other"]
theorem sc_sum_times : FnScope N_sum_times ["many", "one", "other"] (defScope s_sum_times) := ⟨rfl, rfl, rfl, by decide +kernel, rfl, by decide +kernel, by decide +kernel⟩
def q_sum_times : S → RS :=
  (sRet (eCallN 2 (trimF m_multiplied) (aCons (eCallN 2 m_sure_sum (aCons (eCallN 1 m_sure_many (aCons (eVar 0) aNil)) (aCons (eVar 1) aNil))) (aCons (eCallN 2 m_sure_sum (aCons (eVar 0) (aCons (eVar 2) aNil))) aNil))))
def m_sum_times : MF := mkF 3 q_sum_times
set_option maxHeartbeats 0 in
theorem c_sum_times (Z : Fa K mg T P base) : Cal P w K mg base T "sum_times" 9 3 .sh m_sum_times := by
  obtain ⟨f, fd, F, b, g⟩ := Z.f_sum_times
  refine ⟨f, fd, ["many", "one", "other"], fn_mk F sc_sum_times rfl (by decide) (Γ' := []) (fun cdv A outer s H E hr hp => ?_), g, F.kp, b⟩
  have nd := sc_sum_times.nd
  exact (jss_one (js_ret (je_call (Cal.trim (c_multiplied Z)) hr (by omega) rfl (ja_cons (je_call (c_sure_sum Z) hr (by omega) rfl (ja_cons (je_call (c_sure_many Z) hr (by omega) rfl (ja_cons (je_var 0) ja_nil)) (ja_cons (je_var 1) ja_nil))) (ja_cons (je_call (c_sure_sum Z) hr (by omega) rfl (ja_cons (je_var 0) (ja_cons (je_var 2) ja_nil))) ja_nil)))))
def m_quotient : MF := fun _ _ => .stuck
theorem c_quotient (Z : Fa K mg T P base) : Cal P w K mg base T "quotient" 1 2 .sh m_quotient :=
  let ⟨f, fd, F, b, g⟩ := Z.f_quotient; ⟨f, fd, ["one", "other"], fn_never, g, F.kp, b⟩
def N_sum_over : List Str := ["many", "one", "other", "near", "far", "found"]
theorem sc_sum_over : FnScope N_sum_over ["many", "one", "other"] (defScope s_sum_over) := ⟨rfl, rfl, rfl, by decide +kernel, rfl, by decide +kernel, by decide +kernel⟩
def q_sum_over : S → RS :=
  (sSeq (sPar 3 4 (eCallN 2 m_sure_sum (aCons (eCallN 1 m_sure_many (aCons (eVar 0) aNil)) (aCons (eVar 1) aNil))) (eCallN 2 m_sure_sum (aCons (eVar 0) (aCons (eVar 2) aNil))))
    (sSeq (sAsg (.one 5) (eIf (t2 (cmpB eqD) (eUnD (eVar 4)) (eTup aNil)) (eC .non) (eCallN 2 m_quotient (aCons (eUnD (eVar 3)) (aCons (eUnD (eVar 4)) aNil)))))
    (sSeq (sIf (t2 (cmpB isND) (eVar 5) (eC .non))
    (sRaise 2)
    sNil)
    (sRet (eVar 5)))))
def m_sum_over : MF := mkF 6 q_sum_over
set_option maxHeartbeats 0 in
theorem c_sum_over (Z : Fa K mg T P base) : Cal P w K mg base T "sum_over" 9 3 .sh m_sum_over := by
  obtain ⟨f, fd, F, b, g⟩ := Z.f_sum_over
  refine ⟨f, fd, ["many", "one", "other"], fn_mk F sc_sum_over rfl (by decide) (Γ' := []) (fun cdv A outer s H E hr hp => ?_), g, F.kp, b⟩
  have nd := sc_sum_over.nd
  exact (jss_cons (js_par 3 4 rfl nd (je_call (c_sure_sum Z) hr (by omega) rfl (ja_cons (je_call (c_sure_many Z) hr (by omega) rfl (ja_cons (je_var 0) ja_nil)) (ja_cons (je_var 1) ja_nil))) (je_call (c_sure_sum Z) hr (by omega) rfl (ja_cons (je_var 0) (ja_cons (je_var 2) ja_nil))))
    (jss_cons (js_set 5 nd (je_if (jt_cmp (cmp_eq (hu64 hr)) (je_b (je_unD (je_var 4))) (je_b (je_tup ja_nil))) je_non (je_call (c_quotient Z) hr (by omega) rfl (ja_cons (je_unD (je_var 3)) (ja_cons (je_unD (je_var 4)) ja_nil)))))
    (jss_cons (js_if (jt_cmp cmp_isN (je_b (je_var 5)) (je_b je_non))
    (jss_one (js_raise 2 rfl Z.x_CanNot rfl))
    jss_nil)
    (jss_one (js_ret (je_var 5))))))
def N__law_same : List Str := ["got", "due", "mine", "its"]
theorem sc__law_same : FnScope N__law_same ["got", "due"] (defScope s__law_same) := ⟨rfl, rfl, rfl, by decide +kernel, rfl, by decide +kernel, by decide +kernel⟩
def q__law_same (self : MF) : S → RS :=
  (sSeq (sIf (tTru (e1 (isi2D .list .tuple) (eVar 1)))
    (sSeq (sIf (tOrS (t2 (cmpB neD) (e1 (isiD .list) (eVar 0)) (e1 (isiD .list) (eVar 1))) (t2 (cmpB neD) (e1 (isiD .tuple) (eVar 0)) (e1 (isiD .tuple) (eVar 1))))
    (sRet (eC (.bl false)))
    sNil)
    (sRet (eAndB (e2 (cmpD eqD) (e1 lenD (eVar 0)) (e1 lenD (eVar 1))) (e1 allD (eLc (iZipB (aCons (eVar 0) (aCons (eVar 1) aNil))) (.many [2, 3]) tYesS (eCallN 2 self (aCons (eVar 2) (aCons (eVar 3) aNil))))))))
    sNil)
    (sSeq (sIf (t2 (cmpB isND) (eVar 1) (eC .non))
    (sRet (e2 (cmpD isND) (eVar 0) (eC .non)))
    sNil)
    (sSeq (sIf (tTru (e1 (isi2D .bool .str) (eVar 1)))
    (sRet (eAndB (e2 (cmpD eqD) (e1 (isiD .bool) (eVar 0)) (e1 (isiD .bool) (eVar 1))) (eAndB (e2 (cmpD eqD) (e1 (isiD .str) (eVar 0)) (e1 (isiD .str) (eVar 1))) (e2 (cmpD eqD) (eVar 0) (eVar 1)))))
    sNil)
    (sRet (eAndB (e1 (isiD .int) (eVar 0)) (eAndB (eNotB (e1 (isiD .bool) (eVar 0))) (e2 (cmpD eqD) (eVar 0) (eVar 1))))))))
def m__law_same : Nat → MF
  | 0 => fun _ _ => .stuck
  | n + 1 => mkF 4 (q__law_same (m__law_same n))
set_option maxHeartbeats 0 in
theorem c__law_same (Z : Fa K mg T P base) : ∀ n, Cal P w K mg base T "_law_same" (n + 1) 2 .sh (m__law_same n)
  | 0 => let ⟨f, fd, F, b, g⟩ := Z.f__law_same; ⟨f, fd, ["got", "due"], fn_never, g, F.kp, b⟩
  | n + 1 => by
    have ih := c__law_same Z n
    obtain ⟨f, fd, F, b, g⟩ := Z.f__law_same
    refine ⟨f, fd, ["got", "due"], fn_mk F sc__law_same rfl (by decide) (Γ' := []) (fun cdv A outer s H E hr hp => ?_), g, F.kp, b⟩
    have nd := sc__law_same.nd
    exact (jss_cons (js_if (jt_tru (je_b (je_isi2 .list .tuple rfl Z.n_isinstance rfl Z.n_list rfl Z.n_tuple (je_b (je_var 1)))))
    (jss_cons (js_if (jw_pt (jw_or (jt_cmp (cmp_ne (hu64 hr)) (je_b (je_isi .list rfl Z.n_isinstance rfl Z.n_list (je_b (je_var 0)))) (je_b (je_isi .list rfl Z.n_isinstance rfl Z.n_list (je_b (je_var 1))))) (jw_or1 (jt_cmp (cmp_ne (hu64 hr)) (je_b (je_isi .tuple rfl Z.n_isinstance rfl Z.n_tuple (je_b (je_var 0)))) (je_b (je_isi .tuple rfl Z.n_isinstance rfl Z.n_tuple (je_b (je_var 1))))))))
    (jss_one (js_ret je_bl))
    jss_nil)
    (jss_one (js_ret (je_and (je_b (je_cmp (cmp_eq (hu64 hr)) (je_b (je_bi bi_len rfl Z.n_len (je_b (je_var 0)))) (je_b (je_bi bi_len rfl Z.n_len (je_b (je_var 1)))))) (je_one (je_bi (bi_all rfl) rfl Z.n_all (je_fb (je_lc [("mine", 2), ("its", 3)] rfl nd (ji_zipB rfl Z.n_zip (ja_cons (je_var 0) (ja_cons (je_var 1) ja_nil))) (blk_of rfl) (fun _ _ _ _ _ => (jg_many rfl (jgs_cons 2 nd (jgs_cons 3 nd jgs_nil)))) (fun _ _ _ _ _ => jts_nil) (fun _ _ _ _ _ => (je_call ih hr (by omega) rfl (ja_cons (je_var 2) (ja_cons (je_var 3) ja_nil))))))))))))
    jss_nil)
    (jss_cons (js_if (jt_cmp cmp_isN (je_b (je_var 1)) (je_b je_non))
    (jss_one (js_ret (je_cmp cmp_isN (je_b (je_var 0)) (je_b je_non))))
    jss_nil)
    (jss_cons (js_if (jt_tru (je_b (je_isi2 .bool .str rfl Z.n_isinstance rfl Z.n_bool rfl Z.n_str (je_b (je_var 1)))))
    (jss_one (js_ret (je_and (je_b (je_cmp (cmp_eq (hu64 hr)) (je_b (je_isi .bool rfl Z.n_isinstance rfl Z.n_bool (je_b (je_var 0)))) (je_b (je_isi .bool rfl Z.n_isinstance rfl Z.n_bool (je_b (je_var 1)))))) (je_and (je_b (je_cmp (cmp_eq (hu64 hr)) (je_b (je_isi .str rfl Z.n_isinstance rfl Z.n_str (je_b (je_var 0)))) (je_b (je_isi .str rfl Z.n_isinstance rfl Z.n_str (je_b (je_var 1)))))) (je_one (je_cmp (cmp_eq (hu64 hr)) (je_b (je_var 0)) (je_b (je_var 1))))))))
    jss_nil)
    (jss_one (js_ret (je_and (je_b (je_isi .int rfl Z.n_isinstance rfl Z.n_int (je_b (je_var 0)))) (je_and (je_b (je_not (je_b (je_isi .bool rfl Z.n_isinstance rfl Z.n_bool (je_b (je_var 0)))))) (je_one (je_cmp (cmp_eq (hu64 hr)) (je_b (je_var 0)) (je_b (je_var 1)))))))))))
def N__law_cells : List Str := ["script", "most_so", "cells_so", "k", "bit_so", "at_so"]
theorem sc__law_cells : FnScope N__law_cells ["script", "most_so"] (defScope s__law_cells) := ⟨rfl, rfl, rfl, by decide +kernel, rfl, by decide +kernel, by decide +kernel⟩
def q__law_cells_b1 : S → RS :=
  (sSeq (sAsg (.one 5) (e2 modD (e1 intD (eVar 3)) (eVar 1)))
    (sSetI 2 (eVar 5) (e2 addD (e2 ixD (eVar 2) (eVar 5)) (e2 mulD (eVar 4) (e2 addD (eVar 3) (eC (.int 2)))))))
def q__law_cells : S → RS :=
  (sSeq (sAsgF 2 (eOrV (e1 listD (eSl (eVar 0) pNone (pSome (eVar 1)))) (eLst (aCons (eC (.int 0)) aNil))))
    (sSeq (sFor (iEnumB (aCons (eSl (eVar 0) (pSome (eVar 1)) (pSome (eC (.int 63)))) aNil)) (.many [3, 4])
    q__law_cells_b1)
    (sRet (eVar 2))))
def m__law_cells : MF := mkF 6 q__law_cells
set_option maxHeartbeats 0 in
theorem c__law_cells (Z : Fa K mg T P base) : Cal P w K mg base T "_law_cells" 1 2 .sh m__law_cells := by
  obtain ⟨f, fd, F, b, g⟩ := Z.f__law_cells
  refine ⟨f, fd, ["script", "most_so"], fn_mk F sc__law_cells rfl (by decide) (Γ' := []) (fun cdv A outer s H E hr hp => ?_), g, F.kp, b⟩
  have nd := sc__law_cells.nd
  exact (jss_cons (js_setF (Γ' := [.sh, .sh, .o1]) 2 nd (je_orV (by simp) (je_bty bi_list rfl Z.n_list (je_fb (je_sl (je_b (je_var 0)) jo_none (jo_some (je_b (je_var 1)))))) (je_one (je_lst (ja_cons je_int ja_nil)))) (hΓ := flf_of 6 (by decide) (by decide) (by decide) (by decide)))
    (jss_cons (js_for hp rfl (ji_enumB rfl Z.n_enumerate (ja_cons (je_f (je_sl (je_b (je_var 0)) (jo_some (je_b (je_var 1))) (jo_some (je_b je_int)))) ja_nil)) (jg_many rfl (jgs_cons 3 nd (jgs_cons 4 nd jgs_nil)))
    (jss_cons (js_set 5 nd (je_op bin_mod (je_b (je_bty bi_int rfl Z.n_int (je_b (je_var 3)))) (je_b (je_var 1))))
    (jss_one (js_setI 2 (je_f (je_op bin_add (je_b (je_ix (je_varB 2) (je_b (je_var 5)))) (je_fb (je_op bin_mul (je_b (je_var 4)) (je_fb (je_op bin_add (je_b (je_var 3)) (je_b je_int))))))) (je_b (je_var 5))))))
    (jss_one (js_frz (Γ' := []) (fun i => i == 2) (flz_of 6 (by decide) (by decide) (by decide)) (js_ret (je_var 2))))))
def N__law_of : List Str := ["tin", "goods_so"]
theorem sc__law_of : FnScope N__law_of ["tin", "goods_so"] (defScope s__law_of) := ⟨rfl, rfl, rfl, by decide +kernel, rfl, by decide +kernel, by decide +kernel⟩
def q__law_of : S → RS :=
  (sRet (e2 ixD (eVar 1) (eCallN 2 m__law_take (aCons (eVar 0) (aCons (e1 lenD (eVar 1)) aNil)))))
def m__law_of : MF := mkF 2 q__law_of
set_option maxHeartbeats 0 in
theorem c__law_of (Z : Fa K mg T P base) : Cal P w K mg base T "_law_of" 2 2 .sh m__law_of := by
  obtain ⟨f, fd, F, b, g⟩ := Z.f__law_of
  refine ⟨f, fd, ["tin", "goods_so"], fn_mk F sc__law_of rfl (by decide) (Γ' := []) (fun cdv A outer s H E hr hp => ?_), g, F.kp, b⟩
  have nd := sc__law_of.nd
  exact (jss_one (js_ret (je_ix (je_b (je_var 1)) (je_b (je_call (c__law_take Z) hr (by omega) rfl (ja_cons (je_var 0) (ja_cons (je_bi bi_len rfl Z.n_len (je_b (je_var 1))) ja_nil)))))))
def N__law_bad_webs : List Str := []
theorem sc__law_bad_webs : FnScope N__law_bad_webs [] (defScope s__law_bad_webs) := ⟨rfl, rfl, rfl, by decide +kernel, rfl, by decide +kernel, by decide +kernel⟩
def q__law_bad_webs : S → RS :=
  (sRet (eLst (aCons (eC .non) (aCons (eC (.int 3)) (aCons (eC (.str "0")) (aCons (eTup aNil) (aCons (eTup (aCons (eC (.int 0)) aNil)) (aCons (eTup (aCons (eTup (aCons (eC (.int 0)) (aCons (eC (.int 1)) aNil))) aNil)) (aCons (eTup (aCons (eTup (aCons (eC (.int 0)) (aCons (eC (.int 1)) aNil))) (aCons (eTup (aCons (eC (.int 1)) (aCons (eC (.int 0)) aNil))) aNil))) (aCons (eTup (aCons (eTup (aCons (eC (.int 1)) aNil)) aNil)) (aCons (eTup (aCons (eTup (aCons (eC (.int 0)) (aCons (eC (.int 1)) aNil))) (aCons (eTup (aCons (eC (.int 0)) (aCons (eC (.int 0)) aNil))) aNil))) (aCons (eTup (aCons (eTup (aCons (eC (.int 0)) (aCons (eC (.int 1)) aNil))) (aCons (eTup (aCons (e1 negD (eC (.int 1))) (aCons (eC (.int 1)) aNil))) aNil))) (aCons (eTup (aCons (eTup (aCons (eC (.int 0)) (aCons (eC (.bl true)) aNil))) (aCons (eTup (aCons (e1 negD (eC (.int 1))) (aCons (eC (.int 0)) aNil))) aNil))) (aCons (eTup (aCons (eTup (aCons (eC (.int 0)) (aCons (eC (.int 1)) (aCons (eC (.int 0)) aNil)))) (aCons (eTup (aCons (e1 negD (eC (.int 1))) (aCons (eC (.int 0)) aNil))) aNil))) (aCons (eTup (aCons (eTup (aCons (eC (.int 0)) (aCons (eC (.int 1)) (aCons (e1 negD (eC (.int 1))) aNil)))) (aCons (eTup (aCons (e1 negD (eC (.int 1))) (aCons (eC (.int 0)) (aCons (eC (.int 2)) aNil)))) (aCons (eTup (aCons (eC (.int 1)) (aCons (e1 negD (eC (.int 1))) (aCons (eC (.int 0)) aNil)))) aNil)))) aNil)))))))))))))))
def m__law_bad_webs : MF := mkF 0 q__law_bad_webs
set_option maxHeartbeats 0 in
theorem c__law_bad_webs (Z : Fa K mg T P base) : Cal P w K mg base T "_law_bad_webs" 1 0 .sh m__law_bad_webs := by
  obtain ⟨f, fd, F, b, g⟩ := Z.f__law_bad_webs
  refine ⟨f, fd, [], fn_mk F sc__law_bad_webs rfl (by decide) (Γ' := []) (fun cdv A outer s H E hr hp => ?_), g, F.kp, b⟩
  have nd := sc__law_bad_webs.nd
  exact (jss_one (js_ret (je_f (je_lst (ja_cons je_non (ja_cons je_int (ja_cons je_str (ja_cons (je_tup ja_nil) (ja_cons (je_tup (ja_cons je_int ja_nil)) (ja_cons (je_tup (ja_cons (je_tup (ja_cons je_int (ja_cons je_int ja_nil))) ja_nil)) (ja_cons (je_tup (ja_cons (je_tup (ja_cons je_int (ja_cons je_int ja_nil))) (ja_cons (je_tup (ja_cons je_int (ja_cons je_int ja_nil))) ja_nil))) (ja_cons (je_tup (ja_cons (je_tup (ja_cons je_int ja_nil)) ja_nil)) (ja_cons (je_tup (ja_cons (je_tup (ja_cons je_int (ja_cons je_int ja_nil))) (ja_cons (je_tup (ja_cons je_int (ja_cons je_int ja_nil))) ja_nil))) (ja_cons (je_tup (ja_cons (je_tup (ja_cons je_int (ja_cons je_int ja_nil))) (ja_cons (je_tup (ja_cons (je_un uni_neg (je_b je_int)) (ja_cons je_int ja_nil))) ja_nil))) (ja_cons (je_tup (ja_cons (je_tup (ja_cons je_int (ja_cons je_bl ja_nil))) (ja_cons (je_tup (ja_cons (je_un uni_neg (je_b je_int)) (ja_cons je_int ja_nil))) ja_nil))) (ja_cons (je_tup (ja_cons (je_tup (ja_cons je_int (ja_cons je_int (ja_cons je_int ja_nil)))) (ja_cons (je_tup (ja_cons (je_un uni_neg (je_b je_int)) (ja_cons je_int ja_nil))) ja_nil))) (ja_cons (je_tup (ja_cons (je_tup (ja_cons je_int (ja_cons je_int (ja_cons (je_un uni_neg (je_b je_int)) ja_nil)))) (ja_cons (je_tup (ja_cons (je_un uni_neg (je_b je_int)) (ja_cons je_int (ja_cons je_int ja_nil)))) (ja_cons (je_tup (ja_cons je_int (ja_cons (je_un uni_neg (je_b je_int)) (ja_cons je_int ja_nil)))) ja_nil)))) ja_nil)))))))))))))))))
def N_product_of : List Str := ["values", "powers", "found", "own", "many"]
theorem sc_product_of : FnScope N_product_of ["values", "powers"] (defScope s_product_of) := ⟨rfl, rfl, rfl, by decide +kernel, rfl, by decide +kernel, by decide +kernel⟩
def q_product_of_b1 : S → RS :=
  (sAsg (.one 2) (eCallN 2 m_times (aCons (eVar 2) (aCons (eCallN 2 m_power (aCons (eVar 3) (aCons (eVar 4) aNil))) aNil))))
def q_product_of : S → RS :=
  (sSeq (sAsg (.one 2) (eC d_ONE))
    (sSeq (sFor (iZipB (aCons (eVar 0) (aCons (eVar 1) aNil))) (.many [3, 4])
    q_product_of_b1)
    (sRet (eVar 2))))
def m_product_of : MF := mkF 5 q_product_of
set_option maxHeartbeats 0 in
theorem c_product_of (Z : Fa K mg T P base) : Cal P w K mg base T "product_of" 3 2 .sh m_product_of := by
  obtain ⟨f, fd, F, b, g⟩ := Z.f_product_of
  refine ⟨f, fd, ["values", "powers"], fn_mk F sc_product_of rfl (by decide) (Γ' := []) (fun cdv A outer s H E hr hp => ?_), g, F.kp, b⟩
  have nd := sc_product_of.nd
  exact (jss_cons (js_set 2 nd (je_conZ d_ONE rfl Z.c_ONE))
    (jss_cons (js_for hp rfl (ji_zipB rfl Z.n_zip (ja_cons (je_var 0) (ja_cons (je_var 1) ja_nil))) (jg_many rfl (jgs_cons 3 nd (jgs_cons 4 nd jgs_nil)))
    (jss_one (js_set 2 nd (je_call (c_times Z) hr (by omega) rfl (ja_cons (je_var 2) (ja_cons (je_call (c_power Z) hr (by omega) rfl (ja_cons (je_var 3) (ja_cons (je_var 4) ja_nil))) ja_nil))))))
    (jss_one (js_ret (je_var 2)))))
def N_ratio_at : List Str := ["web", "values", "place", "into", "row", "out"]
theorem sc_ratio_at : FnScope N_ratio_at ["web", "values", "place"] (defScope s_ratio_at) := ⟨rfl, rfl, rfl, by decide +kernel, rfl, by decide +kernel, by decide +kernel⟩
def q_ratio_at : S → RS :=
  (sSeq (sAsgF 3 (eLc (i1 seqI (eVar 0)) (.one 4) tYesS (eBi max2D (aCons (eC (.int 0)) (aCons (e2 ixD (eVar 4) (eVar 2)) aNil)))))
    (sSeq (sAsgF 5 (eLc (i1 seqI (eVar 0)) (.one 4) tYesS (eBi max2D (aCons (eC (.int 0)) (aCons (e2 subD (eC (.int 0)) (e2 ixD (eVar 4) (eVar 2))) aNil)))))
    (sRet (eCallN 2 m_over (aCons (eCallB 2 m_product_of (aCons (eVar 1) (aCons (eVar 3) aNil))) (aCons (eCallB 2 m_product_of (aCons (eVar 1) (aCons (eVar 5) aNil))) aNil))))))
def m_ratio_at : MF := mkF 6 q_ratio_at
set_option maxHeartbeats 0 in
theorem c_ratio_at (Z : Fa K mg T P base) : Cal P w K mg base T "ratio_at" 4 3 .sh m_ratio_at := by
  obtain ⟨f, fd, F, b, g⟩ := Z.f_ratio_at
  refine ⟨f, fd, ["web", "values", "place"], fn_mk F sc_ratio_at rfl (by decide) (Γ' := []) (fun cdv A outer s H E hr hp => ?_), g, F.kp, b⟩
  have nd := sc_ratio_at.nd
  exact (jss_cons (js_setLc (Γ' := [.sh, .sh, .sh, .o1]) 3 [("row", 4)] rfl nd (ji_seq (je_var 0)) (blk_of rfl) (fun _ _ _ _ _ => (jg_one 4 nd)) (fun _ _ _ _ _ => jts_nil) (fun _ _ _ _ _ => (je_biN (bi_max2 rfl) rfl Z.n_max (ja_cons je_int (ja_cons (je_ix (je_b (je_var 4)) (je_b (je_var 2))) ja_nil)))) (sw_true rfl rfl rfl (by rfl)) (flf_of 6 (by decide) (by decide) (by decide) (by decide)))
    (jss_cons (js_setLc (Γ' := [.sh, .sh, .sh, .o1, .sh, .o1]) 5 [("row", 4)] rfl nd (ji_seq (je_var 0)) (blk_of rfl) (fun _ _ _ _ _ => (jg_one 4 nd)) (fun _ _ _ _ _ => jts_nil) (fun _ _ _ _ _ => (je_biN (bi_max2 rfl) rfl Z.n_max (ja_cons je_int (ja_cons (je_op bin_sub (je_b je_int) (je_b (je_ix (je_b (je_var 4)) (je_b (je_var 2))))) ja_nil)))) (sw_true rfl rfl rfl (by rfl)) (flf_of 6 (by decide) (by decide) (by decide) (by decide)))
    (jss_one (js_ret (je_call (c_over Z) hr (by omega) rfl (ja_cons (je_callB (c_product_of Z) hr (by omega) rfl (jb_cons (je_b (je_var 1)) (jb_cons (je_varB 3) jb_nil))) (ja_cons (je_callB (c_product_of Z) hr (by omega) rfl (jb_cons (je_b (je_var 1)) (jb_cons (je_varB 5) jb_nil))) ja_nil)))))))
def N_ratios_of : List Str := ["web", "values", "own", "told", "place"]
theorem sc_ratios_of : FnScope N_ratios_of ["web", "values"] (defScope s_ratios_of) := ⟨rfl, rfl, rfl, by decide +kernel, rfl, by decide +kernel, by decide +kernel⟩
def q_ratios_of : S → RS :=
  (sSeq (sAsg (.one 2) (eCallN 1 (trimF m_sure_web) (aCons (eVar 0) aNil)))
    (sSeq (sAsg (.one 3) (eCallN 2 m_sure_values (aCons (eVar 2) (aCons (eVar 1) aNil))))
    (sRet (e1 tupleD (eLc (iN rng1I (aCons (e1 lenD (eVar 2)) aNil)) (.one 4) tYesS (eCallN 3 m_ratio_at (aCons (eVar 2) (aCons (eVar 3) (aCons (eVar 4) aNil)))))))))
def m_ratios_of : MF := mkF 5 q_ratios_of
set_option maxHeartbeats 0 in
theorem c_ratios_of (Z : Fa K mg T P base) : Cal P w K mg base T "ratios_of" 9 2 .sh m_ratios_of := by
  obtain ⟨f, fd, F, b, g⟩ := Z.f_ratios_of
  refine ⟨f, fd, ["web", "values"], fn_mk F sc_ratios_of rfl (by decide) (Γ' := []) (fun cdv A outer s H E hr hp => ?_), g, F.kp, b⟩
  have nd := sc_ratios_of.nd
  exact (jss_cons (js_set 2 nd (je_call (Cal.trim (c_sure_web Z)) hr (by omega) rfl (ja_cons (je_var 0) ja_nil)))
    (jss_cons (js_set 3 nd (je_call (c_sure_values Z) hr (by omega) rfl (ja_cons (je_var 2) (ja_cons (je_var 1) ja_nil))))
    (jss_one (js_ret (je_bty bi_tuple rfl Z.n_tuple (je_fb (je_lc [("place", 4)] rfl nd (ji_range1 rfl Z.n_range (ja_cons (je_bi bi_len rfl Z.n_len (je_b (je_var 2))) ja_nil)) (blk_of rfl) (fun _ _ _ _ _ => (jg_one 4 nd)) (fun _ _ _ _ _ => jts_nil) (fun _ _ _ _ _ => (je_call (c_ratio_at Z) hr (by omega) rfl (ja_cons (je_var 2) (ja_cons (je_var 3) (ja_cons (je_var 4) ja_nil))))))))))))
def N_even_values : List Str := ["many"]
theorem sc_even_values : FnScope N_even_values ["many"] (defScope s_even_values) := ⟨rfl, rfl, rfl, by decide +kernel, rfl, by decide +kernel, by decide +kernel⟩
def q_even_values : S → RS :=
  (sSeq (sIf (tNotS (tTru (eCallN 2 m_is_from (aCons (eVar 0) (aCons (eC (.int 1)) aNil)))))
    (sRaise 0)
    sNil)
    (sRet (e2 mulE (eTup (aCons (eC d_ONE) aNil)) (eVar 0))))
def m_even_values : MF := mkF 1 q_even_values
set_option maxHeartbeats 0 in
theorem c_even_values (Z : Fa K mg T P base) : Cal P w K mg base T "even_values" 3 1 .sh m_even_values := by
  obtain ⟨f, fd, F, b, g⟩ := Z.f_even_values
  refine ⟨f, fd, ["many"], fn_mk F sc_even_values rfl (by decide) (Γ' := []) (fun cdv A outer s H E hr hp => ?_), g, F.kp, b⟩
  have nd := sc_even_values.nd
  exact (jss_cons (js_if (jt_not (jt_tru (je_b (je_call (c_is_from Z) hr (by omega) rfl (ja_cons (je_var 0) (ja_cons je_int ja_nil))))))
    (jss_one (js_raise 0 rfl Z.x_Unfit rfl))
    jss_nil)
    (jss_one (js_ret (je_f (je_op bin_mulE (je_b (je_tup (ja_cons (je_conZ d_ONE rfl Z.c_ONE) ja_nil))) (je_b (je_var 0)))))))
def N_are_whole : List Str := ["values", "own", "told"]
theorem sc_are_whole : FnScope N_are_whole ["values"] (defScope s_are_whole) := ⟨rfl, rfl, rfl, by decide +kernel, rfl, by decide +kernel, by decide +kernel⟩
def q_are_whole : S → RS :=
  (sSeq (sAsg (.one 1) (eCallN 1 (m_tupled 6) (aCons (eVar 0) aNil)))
    (sSeq (sIf (tOrS (tNotS (tTru (e1 (isiD .tuple) (eVar 1)))) (tNotS (tTru (eCallN 2 m_is_values_of (aCons (e1 lenD (eVar 1)) (aCons (eVar 1) aNil))))))
    (sRaise 0)
    sNil)
    (sRet (e1 allD (eLc (i1 seqI (eVar 1)) (.one 2) tYesS (e2 (cmpD eqD) (e2 ixD (eVar 2) (eC (.int 1))) (eC (.int 1))))))))
def m_are_whole : MF := mkF 3 q_are_whole
set_option maxHeartbeats 0 in
theorem c_are_whole (Z : Fa K mg T P base) : Cal P w K mg base T "are_whole" 8 1 .sh m_are_whole := by
  obtain ⟨f, fd, F, b, g⟩ := Z.f_are_whole
  refine ⟨f, fd, ["values"], fn_mk F sc_are_whole rfl (by decide) (Γ' := []) (fun cdv A outer s H E hr hp => ?_), g, F.kp, b⟩
  have nd := sc_are_whole.nd
  exact (jss_cons (js_set 1 nd (je_call (c_tupled Z 6) hr (by omega) rfl (ja_cons (je_var 0) ja_nil)))
    (jss_cons (js_if (jw_pt (jw_or (jt_not (jt_tru (je_b (je_isi .tuple rfl Z.n_isinstance rfl Z.n_tuple (je_b (je_var 1)))))) (jw_or1 (jt_not (jt_tru (je_b (je_call (c_is_values_of Z) hr (by omega) rfl (ja_cons (je_bi bi_len rfl Z.n_len (je_b (je_var 1))) (ja_cons (je_var 1) ja_nil)))))))))
    (jss_one (js_raise 0 rfl Z.x_Unfit rfl))
    jss_nil)
    (jss_one (js_ret (je_bi (bi_all rfl) rfl Z.n_all (je_fb (je_lc [("told", 2)] rfl nd (ji_seq (je_var 1)) (blk_of rfl) (fun _ _ _ _ _ => (jg_one 2 nd)) (fun _ _ _ _ _ => jts_nil) (fun _ _ _ _ _ => (je_cmp (cmp_eq (hu64 hr)) (je_b (je_ix (je_b (je_var 2)) (je_b je_int))) (je_b je_int))))))))))
def N_is_values : List Str := ["web", "thing"]
theorem sc_is_values : FnScope N_is_values ["web", "thing"] (defScope s_is_values) := ⟨rfl, rfl, rfl, by decide +kernel, rfl, by decide +kernel, by decide +kernel⟩
def q_is_values : S → RS :=
  (sRet (eCallN 2 m_is_values_of (aCons (e1 lenD (eCallN 1 (trimF m_sure_web) (aCons (eVar 0) aNil))) (aCons (eVar 1) aNil))))
def m_is_values : MF := mkF 2 q_is_values
set_option maxHeartbeats 0 in
theorem c_is_values (Z : Fa K mg T P base) : Cal P w K mg base T "is_values" 9 2 .sh m_is_values := by
  obtain ⟨f, fd, F, b, g⟩ := Z.f_is_values
  refine ⟨f, fd, ["web", "thing"], fn_mk F sc_is_values rfl (by decide) (Γ' := []) (fun cdv A outer s H E hr hp => ?_), g, F.kp, b⟩
  have nd := sc_is_values.nd
  exact (jss_one (js_ret (je_call (c_is_values_of Z) hr (by omega) rfl (ja_cons (je_bi bi_len rfl Z.n_len (je_b (je_call (Cal.trim (c_sure_web Z)) hr (by omega) rfl (ja_cons (je_var 0) ja_nil)))) (ja_cons (je_var 1) ja_nil)))))
def N_is_shades_of : List Str := ["many", "thing", "own", "row"]
theorem sc_is_shades_of : FnScope N_is_shades_of ["many", "thing"] (defScope s_is_shades_of) := ⟨rfl, rfl, rfl, by decide +kernel, rfl, by decide +kernel, by decide +kernel⟩
def q_is_shades_of : S → RS :=
  (sRet (eAndB (eCallN 2 m_is_long (aCons (eVar 1) (aCons (eVar 0) aNil))) (e1 allD (eLc (i1 seqI (eVar 1)) (.one 3) tYesS (eAndB (eCallN 2 m_is_long (aCons (eVar 3) (aCons (eVar 0) aNil))) (e1 allD (eLc (i1 seqI (eVar 3)) (.one 2) tYesS (eCallN 1 m_is_number (aCons (eVar 2) aNil)))))))))
def m_is_shades_of : MF := mkF 4 q_is_shades_of
set_option maxHeartbeats 0 in
theorem c_is_shades_of (Z : Fa K mg T P base) : Cal P w K mg base T "is_shades_of" 2 2 .sh m_is_shades_of := by
  obtain ⟨f, fd, F, b, g⟩ := Z.f_is_shades_of
  refine ⟨f, fd, ["many", "thing"], fn_mk F sc_is_shades_of rfl (by decide) (Γ' := []) (fun cdv A outer s H E hr hp => ?_), g, F.kp, b⟩
  have nd := sc_is_shades_of.nd
  exact (jss_one (js_ret (je_and (je_b (je_call (c_is_long Z) hr (by omega) rfl (ja_cons (je_var 1) (ja_cons (je_var 0) ja_nil)))) (je_one (je_bi (bi_all rfl) rfl Z.n_all (je_fb (je_lc [("row", 3)] rfl nd (ji_seq (je_var 1)) (blk_of rfl) (fun _ _ _ _ _ => (jg_one 3 nd)) (fun _ _ _ _ _ => jts_nil) (fun _ _ _ _ _ => (je_and (je_b (je_call (c_is_long Z) hr (by omega) rfl (ja_cons (je_var 3) (ja_cons (je_var 0) ja_nil)))) (je_one (je_bi (bi_all rfl) rfl Z.n_all (je_fb (je_lc [("own", 2)] rfl nd (ji_seq (je_var 3)) (blk_of rfl) (fun _ _ _ _ _ => (jg_one 2 nd)) (fun _ _ _ _ _ => jts_nil) (fun _ _ _ _ _ => (je_call (c_is_number Z) hr (by omega) rfl (ja_cons (je_var 2) ja_nil))))))))))))))))
def N_is_shades : List Str := ["web", "thing"]
theorem sc_is_shades : FnScope N_is_shades ["web", "thing"] (defScope s_is_shades) := ⟨rfl, rfl, rfl, by decide +kernel, rfl, by decide +kernel, by decide +kernel⟩
def q_is_shades : S → RS :=
  (sRet (eCallN 2 m_is_shades_of (aCons (e1 lenD (eCallN 1 (trimF m_sure_web) (aCons (eVar 0) aNil))) (aCons (eVar 1) aNil))))
def m_is_shades : MF := mkF 2 q_is_shades
set_option maxHeartbeats 0 in
theorem c_is_shades (Z : Fa K mg T P base) : Cal P w K mg base T "is_shades" 9 2 .sh m_is_shades := by
  obtain ⟨f, fd, F, b, g⟩ := Z.f_is_shades
  refine ⟨f, fd, ["web", "thing"], fn_mk F sc_is_shades rfl (by decide) (Γ' := []) (fun cdv A outer s H E hr hp => ?_), g, F.kp, b⟩
  have nd := sc_is_shades.nd
  exact (jss_one (js_ret (je_call (c_is_shades_of Z) hr (by omega) rfl (ja_cons (je_bi bi_len rfl Z.n_len (je_b (je_call (Cal.trim (c_sure_web Z)) hr (by omega) rfl (ja_cons (je_var 0) ja_nil)))) (ja_cons (je_var 1) ja_nil)))))
def m_shaded : MF := fun _ _ => .stuck
theorem c_shaded (Z : Fa K mg T P base) : Cal P w K mg base T "shaded" 1 3 .sh m_shaded :=
  let ⟨f, fd, F, b, g⟩ := Z.f_shaded; ⟨f, fd, ["web", "shades", "place"], fn_never, g, F.kp, b⟩
def N_sure_shades : List Str := ["many", "shades", "own"]
theorem sc_sure_shades : FnScope N_sure_shades ["many", "shades"] (defScope s_sure_shades) := ⟨rfl, rfl, rfl, by decide +kernel, rfl, by decide +kernel, by decide +kernel⟩
def q_sure_shades : S → RS :=
  (sSeq (sAsg (.one 2) (eCallN 1 (m_tupled 6) (aCons (eVar 1) aNil)))
    (sSeq (sIf (tNotS (tTru (eCallN 2 m_is_shades_of (aCons (eVar 0) (aCons (eVar 2) aNil)))))
    (sRaise 0)
    sNil)
    (sRet (eVar 2))))
def m_sure_shades : MF := mkF 3 q_sure_shades
set_option maxHeartbeats 0 in
theorem c_sure_shades (Z : Fa K mg T P base) : Cal P w K mg base T "sure_shades" 8 2 .sh m_sure_shades := by
  obtain ⟨f, fd, F, b, g⟩ := Z.f_sure_shades
  refine ⟨f, fd, ["many", "shades"], fn_mk F sc_sure_shades rfl (by decide) (Γ' := []) (fun cdv A outer s H E hr hp => ?_), g, F.kp, b⟩
  have nd := sc_sure_shades.nd
  exact (jss_cons (js_set 2 nd (je_call (c_tupled Z 6) hr (by omega) rfl (ja_cons (je_var 1) ja_nil)))
    (jss_cons (js_if (jt_not (jt_tru (je_b (je_call (c_is_shades_of Z) hr (by omega) rfl (ja_cons (je_var 0) (ja_cons (je_var 2) ja_nil))))))
    (jss_one (js_raise 0 rfl Z.x_Unfit rfl))
    jss_nil)
    (jss_one (js_ret (je_var 2)))))
def N_shades_hinged : List Str := ["web", "shades", "place", "own", "told", "spot"]
theorem sc_shades_hinged : FnScope N_shades_hinged ["web", "shades", "place"] (defScope s_shades_hinged) := ⟨rfl, rfl, rfl, by decide +kernel, rfl, by decide +kernel, by decide +kernel⟩
def q_shades_hinged : S → RS :=
  (sSeq (sAsg (.one 3) (eCallN 1 (trimF m_sure_web) (aCons (eVar 0) aNil)))
    (sSeq (sPar 4 5 (eCallN 2 m_sure_shades (aCons (e1 lenD (eVar 3)) (aCons (eVar 1) aNil))) (eCallN 1 m_sure_number (aCons (eVar 2) aNil)))
    (sRet (eCallN 3 m_shaded (aCons (eVar 3) (aCons (eVar 4) (aCons (eCallN 2 m_known_place (aCons (eVar 3) (aCons (eVar 5) aNil))) aNil)))))))
def m_shades_hinged : MF := mkF 6 q_shades_hinged
set_option maxHeartbeats 0 in
theorem c_shades_hinged (Z : Fa K mg T P base) : Cal P w K mg base T "shades_hinged" 9 3 .sh m_shades_hinged := by
  obtain ⟨f, fd, F, b, g⟩ := Z.f_shades_hinged
  refine ⟨f, fd, ["web", "shades", "place"], fn_mk F sc_shades_hinged rfl (by decide) (Γ' := []) (fun cdv A outer s H E hr hp => ?_), g, F.kp, b⟩
  have nd := sc_shades_hinged.nd
  exact (jss_cons (js_set 3 nd (je_call (Cal.trim (c_sure_web Z)) hr (by omega) rfl (ja_cons (je_var 0) ja_nil)))
    (jss_cons (js_par 4 5 rfl nd (je_call (c_sure_shades Z) hr (by omega) rfl (ja_cons (je_bi bi_len rfl Z.n_len (je_b (je_var 3))) (ja_cons (je_var 1) ja_nil))) (je_call (c_sure_number Z) hr (by omega) rfl (ja_cons (je_var 2) ja_nil)))
    (jss_one (js_ret (je_call (c_shaded Z) hr (by omega) rfl (ja_cons (je_var 3) (ja_cons (je_var 4) (ja_cons (je_call (c_known_place Z) hr (by omega) rfl (ja_cons (je_var 3) (ja_cons (je_var 5) ja_nil))) ja_nil))))))))
def N_green_in : List Str := ["shades", "place", "shade"]
theorem sc_green_in : FnScope N_green_in ["shades"] (defScope s_green_in) := ⟨rfl, rfl, rfl, by decide +kernel, rfl, by decide +kernel, by decide +kernel⟩
def q_green_in : S → RS :=
  (sRet (e1 tupleD (eLc (iEnumB (aCons (eVar 0) aNil)) (.many [1, 2]) (tTru (eCallN 1 m_goes_up (aCons (eVar 2) aNil))) (eVar 1))))
def m_green_in : MF := mkF 3 q_green_in
set_option maxHeartbeats 0 in
theorem c_green_in (Z : Fa K mg T P base) : Cal P w K mg base T "green_in" 2 1 .sh m_green_in := by
  obtain ⟨f, fd, F, b, g⟩ := Z.f_green_in
  refine ⟨f, fd, ["shades"], fn_mk F sc_green_in rfl (by decide) (Γ' := []) (fun cdv A outer s H E hr hp => ?_), g, F.kp, b⟩
  have nd := sc_green_in.nd
  exact (jss_one (js_ret (je_bty bi_tuple rfl Z.n_tuple (je_fb (je_lc [("place", 1), ("shade", 2)] rfl nd (ji_enumB rfl Z.n_enumerate (ja_cons (je_var 0) ja_nil)) (blk_of rfl) (fun _ _ _ _ _ => (jg_many rfl (jgs_cons 1 nd (jgs_cons 2 nd jgs_nil)))) (fun _ _ _ _ _ => (jts_one (jt_tru (je_b (je_call (c_goes_up Z) hr (by omega) rfl (ja_cons (je_var 2) ja_nil)))))) (fun _ _ _ _ _ => (je_var 1)))))))
def N_is_full_row : List Str := ["web", "thing", "own", "place", "last"]
theorem sc_is_full_row : FnScope N_is_full_row ["web", "thing"] (defScope s_is_full_row) := ⟨rfl, rfl, rfl, by decide +kernel, rfl, by decide +kernel, by decide +kernel⟩
def q_is_full_row : S → RS :=
  (sSeq (sAsg (.one 2) (eCallN 1 (trimF m_sure_web) (aCons (eVar 0) aNil)))
    (sSeq (sIf (tOrS (tNotS (tTru (e1 (isiD .tuple) (eVar 1)))) (tNotS (tTru (e1 allD (eLc (i1 seqI (eVar 1)) (.one 3) tYesS (eAndB (eCallN 1 m_is_number (aCons (eVar 3) aNil)) (eChain (iCmp fun i j => !ltB j i) (iCmp ltB) (eC (.int 0)) (eVar 3) (e1 lenD (eVar 2)))))))))
    (sRet (eC (.bl false)))
    sNil)
    (sSeq (sAsg (.one 4) (e2 ixD (e2 ixD (eCallN 3 m_walked_shades (aCons (eVar 2) (aCons (eCallN 1 m_first_in (aCons (e1 lenD (eVar 2)) aNil)) (aCons (eVar 1) aNil)))) (e1 negD (eC (.int 1)))) (eC (.int 1))))
    (sRet (eAndB (eCallN 2 m_green_path (aCons (eVar 2) (aCons (eVar 1) aNil))) (e2 (cmpD eqD) (eCallN 1 m_green_in (aCons (eVar 4) aNil)) (eTup aNil)))))))
def m_is_full_row : MF := mkF 5 q_is_full_row
set_option maxHeartbeats 0 in
theorem c_is_full_row (Z : Fa K mg T P base) : Cal P w K mg base T "is_full_row" 9 2 .sh m_is_full_row := by
  obtain ⟨f, fd, F, b, g⟩ := Z.f_is_full_row
  refine ⟨f, fd, ["web", "thing"], fn_mk F sc_is_full_row rfl (by decide) (Γ' := []) (fun cdv A outer s H E hr hp => ?_), g, F.kp, b⟩
  have nd := sc_is_full_row.nd
  exact (jss_cons (js_set 2 nd (je_call (Cal.trim (c_sure_web Z)) hr (by omega) rfl (ja_cons (je_var 0) ja_nil)))
    (jss_cons (js_if (jw_pt (jw_or (jt_not (jt_tru (je_b (je_isi .tuple rfl Z.n_isinstance rfl Z.n_tuple (je_b (je_var 1)))))) (jw_or1 (jt_not (jt_tru (je_b (je_bi (bi_all rfl) rfl Z.n_all (je_fb (je_lc [("place", 3)] rfl nd (ji_seq (je_var 1)) (blk_of rfl) (fun _ _ _ _ _ => (jg_one 3 nd)) (fun _ _ _ _ _ => jts_nil) (fun _ _ _ _ _ => (je_and (je_b (je_call (c_is_number Z) hr (by omega) rfl (ja_cons (je_var 3) ja_nil))) (je_one (je_chain cmp_le cmp_lt (je_b je_int) (je_b (je_var 3)) (je_b (je_bi bi_len rfl Z.n_len (je_b (je_var 2)))))))))))))))))
    (jss_one (js_ret je_bl))
    jss_nil)
    (jss_cons (js_set 4 nd (je_ix (je_b (je_ix (je_b (je_call (c_walked_shades Z) hr (by omega) rfl (ja_cons (je_var 2) (ja_cons (je_call (c_first_in Z) hr (by omega) rfl (ja_cons (je_bi bi_len rfl Z.n_len (je_b (je_var 2))) ja_nil)) (ja_cons (je_var 1) ja_nil))))) (je_b (je_un uni_neg (je_b je_int))))) (je_b je_int)))
    (jss_one (js_ret (je_and (je_b (je_call (c_green_path Z) hr (by omega) rfl (ja_cons (je_var 2) (ja_cons (je_var 1) ja_nil)))) (je_one (je_cmp (cmp_eq (hu64 hr)) (je_b (je_call (c_green_in Z) hr (by omega) rfl (ja_cons (je_var 4) ja_nil))) (je_b (je_tup ja_nil))))))))))
def N_full_row : List Str := ["web", "found"]
theorem sc_full_row : FnScope N_full_row ["web"] (defScope s_full_row) := ⟨rfl, rfl, rfl, by decide +kernel, rfl, by decide +kernel, by decide +kernel⟩
def q_full_row : S → RS :=
  (sSeq (sAsg (.one 1) (eRaises (eCallN 1 (trimF m_sure_web) (aCons (eVar 0) aNil))))
    (sSeq (sIf (t2 (cmpB isND) (eVar 1) (eC .non))
    (sRaise 2)
    sNil)
    (sRet (eVar 1))))
def m_full_row : MF := mkF 2 q_full_row
set_option maxHeartbeats 0 in
theorem c_full_row (Z : Fa K mg T P base) : Cal P w K mg base T "full_row" 9 1 .sh m_full_row := by
  obtain ⟨f, fd, F, b, g⟩ := Z.f_full_row
  refine ⟨f, fd, ["web"], fn_mk F sc_full_row rfl (by decide) (Γ' := []) (fun cdv A outer s H E hr hp => ?_), g, F.kp, b⟩
  have nd := sc_full_row.nd
  exact (jss_cons (js_set 1 nd (je_newNoZ rfl Z.w_Search (je_call (Cal.trim (c_sure_web Z)) hr (by omega) rfl (ja_cons (je_var 0) ja_nil))))
    (jss_cons (js_if (jt_cmp cmp_isN (je_b (je_var 1)) (je_b je_non))
    (jss_one (js_raise 2 rfl Z.x_CanNot rfl))
    jss_nil)
    (jss_one (js_ret (je_var 1)))))
def N_first_shades : List Str := ["many"]
theorem sc_first_shades : FnScope N_first_shades ["many"] (defScope s_first_shades) := ⟨rfl, rfl, rfl, by decide +kernel, rfl, by decide +kernel, by decide +kernel⟩
def q_first_shades : S → RS :=
  (sSeq (sIf (tNotS (tTru (eCallN 2 m_is_from (aCons (eVar 0) (aCons (eC (.int 1)) aNil)))))
    (sRaise 0)
    sNil)
    (sRet (eCallN 1 m_first_in (aCons (eVar 0) aNil))))
def m_first_shades : MF := mkF 1 q_first_shades
set_option maxHeartbeats 0 in
theorem c_first_shades (Z : Fa K mg T P base) : Cal P w K mg base T "first_shades" 3 1 .sh m_first_shades := by
  obtain ⟨f, fd, F, b, g⟩ := Z.f_first_shades
  refine ⟨f, fd, ["many"], fn_mk F sc_first_shades rfl (by decide) (Γ' := []) (fun cdv A outer s H E hr hp => ?_), g, F.kp, b⟩
  have nd := sc_first_shades.nd
  exact (jss_cons (js_if (jt_not (jt_tru (je_b (je_call (c_is_from Z) hr (by omega) rfl (ja_cons (je_var 0) (ja_cons je_int ja_nil))))))
    (jss_one (js_raise 0 rfl Z.x_Unfit rfl))
    jss_nil)
    (jss_one (js_ret (je_call (c_first_in Z) hr (by omega) rfl (ja_cons (je_var 0) ja_nil)))))
def N_greens : List Str := ["shades", "own"]
theorem sc_greens : FnScope N_greens ["shades"] (defScope s_greens) := ⟨rfl, rfl, rfl, by decide +kernel, rfl, by decide +kernel, by decide +kernel⟩
def q_greens : S → RS :=
  (sSeq (sAsg (.one 1) (eCallN 1 (m_tupled 6) (aCons (eVar 0) aNil)))
    (sSeq (sIf (tOrS (tNotS (tTru (e1 (isiD .tuple) (eVar 1)))) (tOrS (t2 (cmpB eqD) (eVar 1) (eTup aNil)) (tNotS (tTru (eCallN 2 m_is_shades_of (aCons (e1 lenD (eVar 1)) (aCons (eVar 1) aNil)))))))
    (sRaise 0)
    sNil)
    (sRet (eCallN 1 m_green_in (aCons (eVar 1) aNil)))))
def m_greens : MF := mkF 2 q_greens
set_option maxHeartbeats 0 in
theorem c_greens (Z : Fa K mg T P base) : Cal P w K mg base T "greens" 8 1 .sh m_greens := by
  obtain ⟨f, fd, F, b, g⟩ := Z.f_greens
  refine ⟨f, fd, ["shades"], fn_mk F sc_greens rfl (by decide) (Γ' := []) (fun cdv A outer s H E hr hp => ?_), g, F.kp, b⟩
  have nd := sc_greens.nd
  exact (jss_cons (js_set 1 nd (je_call (c_tupled Z 6) hr (by omega) rfl (ja_cons (je_var 0) ja_nil)))
    (jss_cons (js_if (jw_pt (jw_or (jt_not (jt_tru (je_b (je_isi .tuple rfl Z.n_isinstance rfl Z.n_tuple (je_b (je_var 1)))))) (jw_or (jt_cmp (cmp_eq (hu64 hr)) (je_b (je_var 1)) (je_b (je_tup ja_nil))) (jw_or1 (jt_not (jt_tru (je_b (je_call (c_is_shades_of Z) hr (by omega) rfl (ja_cons (je_bi bi_len rfl Z.n_len (je_b (je_var 1))) (ja_cons (je_var 1) ja_nil))))))))))
    (jss_one (js_raise 0 rfl Z.x_Unfit rfl))
    jss_nil)
    (jss_one (js_ret (je_call (c_green_in Z) hr (by omega) rfl (ja_cons (je_var 1) ja_nil))))))
def m_value_of : MF := fun _ _ => .stuck
theorem c_value_of (Z : Fa K mg T P base) : Cal P w K mg base T "value_of" 1 2 .sh m_value_of :=
  let ⟨f, fd, F, b, g⟩ := Z.f_value_of; ⟨f, fd, ["one", "values"], fn_never, g, F.kp, b⟩
def N_sum_value : List Str := ["many", "one", "values", "own", "told"]
theorem sc_sum_value : FnScope N_sum_value ["many", "one", "values"] (defScope s_sum_value) := ⟨rfl, rfl, rfl, by decide +kernel, rfl, by decide +kernel, by decide +kernel⟩
def q_sum_value : S → RS :=
  (sSeq (sPar 3 4 (eCallN 2 m_sure_sum (aCons (eCallN 1 m_sure_many (aCons (eVar 0) aNil)) (aCons (eVar 1) aNil))) (eCallN 1 (m_tupled 6) (aCons (eVar 2) aNil)))
    (sSeq (sIf (tNotS (tTru (eCallN 2 m_is_values_of (aCons (eVar 0) (aCons (eVar 4) aNil)))))
    (sRaise 0)
    sNil)
    (sRet (eCallN 2 m_value_of (aCons (eUnD (eVar 3)) (aCons (eVar 4) aNil))))))
def m_sum_value : MF := mkF 5 q_sum_value
set_option maxHeartbeats 0 in
theorem c_sum_value (Z : Fa K mg T P base) : Cal P w K mg base T "sum_value" 9 3 .sh m_sum_value := by
  obtain ⟨f, fd, F, b, g⟩ := Z.f_sum_value
  refine ⟨f, fd, ["many", "one", "values"], fn_mk F sc_sum_value rfl (by decide) (Γ' := []) (fun cdv A outer s H E hr hp => ?_), g, F.kp, b⟩
  have nd := sc_sum_value.nd
  exact (jss_cons (js_par 3 4 rfl nd (je_call (c_sure_sum Z) hr (by omega) rfl (ja_cons (je_call (c_sure_many Z) hr (by omega) rfl (ja_cons (je_var 0) ja_nil)) (ja_cons (je_var 1) ja_nil))) (je_call (c_tupled Z 6) hr (by omega) rfl (ja_cons (je_var 2) ja_nil)))
    (jss_cons (js_if (jt_not (jt_tru (je_b (je_call (c_is_values_of Z) hr (by omega) rfl (ja_cons (je_var 0) (ja_cons (je_var 4) ja_nil))))))
    (jss_one (js_raise 0 rfl Z.x_Unfit rfl))
    jss_nil)
    (jss_one (js_ret (je_call (c_value_of Z) hr (by omega) rfl (ja_cons (je_unD (je_var 3)) (ja_cons (je_var 4) ja_nil)))))))
def N_bottoms : List Str := ["many", "one", "own", "powers", "number", "place"]
theorem sc_bottoms : FnScope N_bottoms ["many", "one"] (defScope s_bottoms) := ⟨rfl, rfl, rfl, by decide +kernel, rfl, by decide +kernel, by decide +kernel⟩
def q_bottoms : S → RS :=
  (sSeq (sAsg (.one 2) (eCallN 2 m_sure_sum (aCons (eCallN 1 m_sure_many (aCons (eVar 0) aNil)) (aCons (eVar 1) aNil))))
    (sSeq (sIf (t2 (cmpB eqD) (eUnD (eVar 2)) (eTup aNil))
    (sRaise 2)
    sNil)
    (sRet (e1 tupleD (eLc (iN rng1I (aCons (eVar 0) aNil)) (.one 5) tYesS (e2 subD (eC (.int 0)) (e1 min1D (eLc (i1 seqI (eUnD (eVar 2))) (.many [3, 4]) tYesS (e2 ixD (eVar 3) (eVar 5))))))))))
def m_bottoms : MF := mkF 6 q_bottoms
set_option maxHeartbeats 0 in
theorem c_bottoms (Z : Fa K mg T P base) : Cal P w K mg base T "bottoms" 9 2 .sh m_bottoms := by
  obtain ⟨f, fd, F, b, g⟩ := Z.f_bottoms
  refine ⟨f, fd, ["many", "one"], fn_mk F sc_bottoms rfl (by decide) (Γ' := []) (fun cdv A outer s H E hr hp => ?_), g, F.kp, b⟩
  have nd := sc_bottoms.nd
  exact (jss_cons (js_set 2 nd (je_call (c_sure_sum Z) hr (by omega) rfl (ja_cons (je_call (c_sure_many Z) hr (by omega) rfl (ja_cons (je_var 0) ja_nil)) (ja_cons (je_var 1) ja_nil))))
    (jss_cons (js_if (jt_cmp (cmp_eq (hu64 hr)) (je_b (je_unD (je_var 2))) (je_b (je_tup ja_nil)))
    (jss_one (js_raise 2 rfl Z.x_CanNot rfl))
    jss_nil)
    (jss_one (js_ret (je_bty bi_tuple rfl Z.n_tuple (je_fb (je_lc [("place", 5)] rfl nd (ji_range1 rfl Z.n_range (ja_cons (je_var 0) ja_nil)) (blk_of rfl) (fun _ _ _ _ _ => (jg_one 5 nd)) (fun _ _ _ _ _ => jts_nil) (fun _ _ _ _ _ => (je_op bin_sub (je_b je_int) (je_b (je_bi (bi_min1 (hu65 hr) rfl) rfl Z.n_min (je_fb (je_lc [("powers", 3), ("number", 4)] rfl nd (ji_seq (je_unD (je_var 2))) (blk_of rfl) (fun _ _ _ _ _ => (jg_many rfl (jgs_cons 3 nd (jgs_cons 4 nd jgs_nil)))) (fun _ _ _ _ _ => jts_nil) (fun _ _ _ _ _ => (je_ix (je_b (je_var 3)) (je_b (je_var 5)))))))))))))))))
def N_letter_in : List Str := ["many", "letter"]
theorem sc_letter_in : FnScope N_letter_in ["many", "letter"] (defScope s_letter_in) := ⟨rfl, rfl, rfl, by decide +kernel, rfl, by decide +kernel, by decide +kernel⟩
def q_letter_in : S → RS :=
  (sRet (eTup (aCons (eTup (aCons (eCallN 2 m_unit_row (aCons (eVar 0) (aCons (eVar 1) aNil))) (aCons (eC (.int 1)) aNil))) aNil)))
def m_letter_in : MF := mkF 2 q_letter_in
set_option maxHeartbeats 0 in
theorem c_letter_in (Z : Fa K mg T P base) : Cal P w K mg base T "letter_in" 2 2 .sh m_letter_in := by
  obtain ⟨f, fd, F, b, g⟩ := Z.f_letter_in
  refine ⟨f, fd, ["many", "letter"], fn_mk F sc_letter_in rfl (by decide) (Γ' := []) (fun cdv A outer s H E hr hp => ?_), g, F.kp, b⟩
  have nd := sc_letter_in.nd
  exact (jss_one (js_ret (je_tup (ja_cons (je_tup (ja_cons (je_call (c_unit_row Z) hr (by omega) rfl (ja_cons (je_var 0) (ja_cons (je_var 1) ja_nil))) (ja_cons je_int ja_nil))) ja_nil))))
def N_letter : List Str := ["many", "number"]
theorem sc_letter : FnScope N_letter ["many", "number"] (defScope s_letter) := ⟨rfl, rfl, rfl, by decide +kernel, rfl, by decide +kernel, by decide +kernel⟩
def q_letter : S → RS :=
  (sSeq (sIf (tNotS (tTru (eCallN 2 m_is_below (aCons (eVar 1) (aCons (eCallN 1 m_sure_many (aCons (eVar 0) aNil)) aNil)))))
    (sRaise 0)
    sNil)
    (sRet (eCallN 2 m_letter_in (aCons (eVar 0) (aCons (eVar 1) aNil)))))
def m_letter : MF := mkF 2 q_letter
set_option maxHeartbeats 0 in
theorem c_letter (Z : Fa K mg T P base) : Cal P w K mg base T "letter" 4 2 .sh m_letter := by
  obtain ⟨f, fd, F, b, g⟩ := Z.f_letter
  refine ⟨f, fd, ["many", "number"], fn_mk F sc_letter rfl (by decide) (Γ' := []) (fun cdv A outer s H E hr hp => ?_), g, F.kp, b⟩
  have nd := sc_letter.nd
  exact (jss_cons (js_if (jt_not (jt_tru (je_b (je_call (c_is_below Z) hr (by omega) rfl (ja_cons (je_var 1) (ja_cons (je_call (c_sure_many Z) hr (by omega) rfl (ja_cons (je_var 0) ja_nil)) ja_nil))))))
    (jss_one (js_raise 0 rfl Z.x_Unfit rfl))
    jss_nil)
    (jss_one (js_ret (je_call (c_letter_in Z) hr (by omega) rfl (ja_cons (je_var 0) (ja_cons (je_var 1) ja_nil))))))
def N_is_letter_sum : List Str := ["many", "thing"]
theorem sc_is_letter_sum : FnScope N_is_letter_sum ["many", "thing"] (defScope s_is_letter_sum) := ⟨rfl, rfl, rfl, by decide +kernel, rfl, by decide +kernel, by decide +kernel⟩
def q_is_letter_sum : S → RS :=
  (sRet (eCallN 2 m_is_sum_of (aCons (eCallN 1 m_sure_many (aCons (eVar 0) aNil)) (aCons (eVar 1) aNil))))
def m_is_letter_sum : MF := mkF 2 q_is_letter_sum
set_option maxHeartbeats 0 in
theorem c_is_letter_sum (Z : Fa K mg T P base) : Cal P w K mg base T "is_letter_sum" 4 2 .sh m_is_letter_sum := by
  obtain ⟨f, fd, F, b, g⟩ := Z.f_is_letter_sum
  refine ⟨f, fd, ["many", "thing"], fn_mk F sc_is_letter_sum rfl (by decide) (Γ' := []) (fun cdv A outer s H E hr hp => ?_), g, F.kp, b⟩
  have nd := sc_is_letter_sum.nd
  exact (jss_one (js_ret (je_call (c_is_sum_of Z) hr (by omega) rfl (ja_cons (je_call (c_sure_many Z) hr (by omega) rfl (ja_cons (je_var 0) ja_nil)) (ja_cons (je_var 1) ja_nil)))))
def arV : Nat → Nat
  | 0 => 3
  | 1 => 3
  | 2 => 3
  | 3 => 3
  | 4 => 3
  | 5 => 2
  | 6 => 1
  | 7 => 1
  | 8 => 2
  | 9 => 2
  | 10 => 3
  | 11 => 2
  | 12 => 2
  | 13 => 2
  | 14 => 2
  | 15 => 1
  | 16 => 1
  | 17 => 1
  | 18 => 3
  | 19 => 3
  | 20 => 3
  | 21 => 3
  | 22 => 2
  | 23 => 2
  | 24 => 2
  | _ => 1
def mfV : Nat → MF
  | 0 => m_values_hinged
  | 1 => m_ratios_hinged
  | 2 => m_values_after
  | 3 => m_new_values
  | 4 => m_ratios_after
  | 5 => m_ratios_of
  | 6 => m_even_values
  | 7 => m_are_whole
  | 8 => m_is_values
  | 9 => m_is_shades
  | 10 => m_shades_hinged
  | 11 => m_shades_after
  | 12 => m_is_green_row
  | 13 => m_sums_after
  | 14 => m_is_full_row
  | 15 => m_full_row
  | 16 => m_first_shades
  | 17 => m_greens
  | 18 => m_sum_added
  | 19 => m_sum_times
  | 20 => m_sum_over
  | 21 => m_sum_value
  | 22 => m_bottoms
  | 23 => m_letter
  | _ => m_is_letter_sum
def N__law_heard : List Str := ["door_so", "its", "caught", "told_so", "slip_a", "slip_b", "slip_c", "slip_d", "slip_e"]
theorem sc__law_heard : FnScope N__law_heard ["door_so", "its"] (defScope s__law_heard) := ⟨rfl, rfl, rfl, by decide +kernel, rfl, by decide +kernel, by decide +kernel⟩
def q__law_heard : S → RS :=
  (sSeq (sAsg (.many [2, 3]) (eTup (aCons (eC .non) (aCons (eC .non) aNil))))
    (sSeq (sTry (sIf (t2 (cmpB (iCmp ltB)) (e1 lenD (eVar 1)) (eC (.int 3)))
    (sAsg (.one 3) (eIf (t2 (cmpB eqD) (e1 lenD (eVar 1)) (eC (.int 0))) (fun _ => .stuck) (eIf (t2 (cmpB eqD) (e1 lenD (eVar 1)) (eC (.int 1))) (eCallV 0 arV mfV (aCons (e2 ixD (eVar 1) (eC (.int 0))) aNil)) (eCallV 0 arV mfV (aCons (e2 ixD (eVar 1) (eC (.int 0))) (aCons (e2 ixD (eVar 1) (eC (.int 1))) aNil))))))
    (sAsg (.one 3) (eIf (t2 (cmpB eqD) (e1 lenD (eVar 1)) (eC (.int 3))) (eCallV 0 arV mfV (aCons (e2 ixD (eVar 1) (eC (.int 0))) (aCons (e2 ixD (eVar 1) (eC (.int 1))) (aCons (e2 ixD (eVar 1) (eC (.int 2))) aNil)))) (eCallV 0 arV mfV (aCons (e2 ixD (eVar 1) (eC (.int 0))) (aCons (e2 ixD (eVar 1) (eC (.int 1))) (aCons (e2 ixD (eVar 1) (eC (.int 2))) (aCons (e2 ixD (eVar 1) (eC (.int 3))) aNil))))))))
    (hSay (· == 0) 4 2 "Unfit" true (hSayF (· == 1) 5 2 "NoPlace" true (hSay (· == 2) 6 2 "CanNot" true (hSay (· == 3) 7 2 "TooMany" true hNil)))))
    (sRet (eIf (t2 (cmpB isND) (eVar 2) (eC .non)) (eLst (aCons (eC (.str "told")) (aCons (eVar 3) aNil))) (eVar 2)))))
def m__law_heard : MF := mkF 9 q__law_heard
set_option maxHeartbeats 0 in
theorem c__law_heard (Z : Fa K mg T P base) (V : Tab P w K mg base T 70 arV mfV) : Cal P w K mg base T "_law_heard" 71 2 .sh m__law_heard := by
  obtain ⟨f, fd, F, b, g⟩ := Z.f__law_heard
  refine ⟨f, fd, ["door_so", "its"], fn_mk F sc__law_heard rfl (by decide) (Γ' := []) (fun cdv A outer s H E hr hp => ?_), g, F.kp, b⟩
  have nd := sc__law_heard.nd
  exact (jss_cons (js_asgT (je_tup (ja_cons je_non (ja_cons je_non ja_nil))) (jg_many rfl (jgs_cons 2 nd (jgs_cons 3 nd jgs_nil))))
    (jss_cons (js_try rfl rfl nd (fun _ _ hp => (jss_one (js_if (jt_cmp cmp_lt (je_b (je_bi bi_len rfl Z.n_len (je_b (je_var 1)))) (je_b je_int))
    (jss_one (js_set 3 nd (je_if (jt_cmp (cmp_eq (hu64 hr)) (je_b (je_bi bi_len rfl Z.n_len (je_b (je_var 1)))) (je_b je_int)) je_never (je_if (jt_cmp (cmp_eq (hu64 hr)) (je_b (je_bi bi_len rfl Z.n_len (je_b (je_var 1)))) (je_b je_int)) (je_callV 0 V hr (by omega) (ja_cons (je_ix (je_b (je_var 1)) (je_b je_int)) ja_nil)) (je_callV 0 V hr (by omega) (ja_cons (je_ix (je_b (je_var 1)) (je_b je_int)) (ja_cons (je_ix (je_b (je_var 1)) (je_b je_int)) ja_nil)))))))
    (jss_one (js_set 3 nd (je_if (jt_cmp (cmp_eq (hu64 hr)) (je_b (je_bi bi_len rfl Z.n_len (je_b (je_var 1)))) (je_b je_int)) (je_callV 0 V hr (by omega) (ja_cons (je_ix (je_b (je_var 1)) (je_b je_int)) (ja_cons (je_ix (je_b (je_var 1)) (je_b je_int)) (ja_cons (je_ix (je_b (je_var 1)) (je_b je_int)) ja_nil)))) (je_callV 0 V hr (by omega) (ja_cons (je_ix (je_b (je_var 1)) (je_b je_int)) (ja_cons (je_ix (je_b (je_var 1)) (je_b je_int)) (ja_cons (je_ix (je_b (je_var 1)) (je_b je_int)) (ja_cons (je_ix (je_b (je_var 1)) (je_b je_int)) ja_nil)))))))))))
    (jh_say 4 2 true "ValueError" (Classical.choice (cat_of Z.k_Unfit (by rfl) (by decide))) Z.s_Unfit (jh_sayF 5 2 true "LookupError" (Classical.choice (cat_of Z.k_NoPlace (by rfl) (by decide))) Z.s_NoPlace (jh_say 6 2 true "ValueError" (Classical.choice (cat_of Z.k_CanNot (by rfl) (by decide))) Z.s_CanNot (jh_say 7 2 true "ValueError" (Classical.choice (cat_of Z.k_TooMany (by rfl) (by decide))) Z.s_TooMany (jh_not 8 (Classical.choice (cat_of Z.k_BadText (by rfl) (by decide))) jh_nil rfl) nd (hm := Z.n_isinstance) (hm' := Z.n_ValueError)) nd (hm := Z.n_isinstance) (hm' := Z.n_ValueError)) nd (hm := Z.n_isinstance) (hm' := Z.n_LookupError)) nd (hm := Z.n_isinstance) (hm' := Z.n_ValueError)))
    (jss_one (js_ret (je_if (jt_cmp cmp_isN (je_b (je_var 2)) (je_b je_non)) (je_f (je_lst (ja_cons je_str (ja_cons (je_var 3) ja_nil)))) (je_var 2))))))
def N__law_all_unfit : List Str := ["rows_so", "door_so", "goods_so", "at_so", "bads_so", "own"]
theorem sc__law_all_unfit : FnScope N__law_all_unfit ["rows_so"] (defScope s__law_all_unfit) := ⟨rfl, rfl, rfl, by decide +kernel, rfl, by decide +kernel, by decide +kernel⟩
def q__law_all_unfit_b1 : S → RS :=
  (sIf (tNotS (tTru (eCallN 2 (m__law_same 8) (aCons (eCallN 2 m__law_heard (aCons (eVar 1) (aCons (e2 addD (e2 addD (eSl (eVar 2) pNone (pSome (eVar 3))) (eLst (aCons (eVar 5) aNil))) (eSl (eVar 2) (pSome (e2 addD (eVar 3) (eC (.int 1)))) pNone)) aNil))) (aCons (eLst (aCons (eC (.str "Unfit")) (aCons (eC (.bl true)) aNil))) aNil)))))
    (sRet (eC (.bl false)))
    sNil)
def q__law_all_unfit_b2 : S → RS :=
  (sFor (i1 seqI (eVar 4)) (.one 5)
    q__law_all_unfit_b1)
def q__law_all_unfit_r1 : S → RS :=
  (sRet (eC (.bl true)))
def q__law_all_unfit : S → RS :=
  (sSeq (sFor (i1 seqI (eVar 0)) (.manyL [1, 2, 3, 4])
    q__law_all_unfit_b2)
    q__law_all_unfit_r1)
def m__law_all_unfit : MF := mkF 6 q__law_all_unfit
set_option maxHeartbeats 0 in
theorem c__law_all_unfit (Z : Fa K mg T P base) (V : Tab P w K mg base T 70 arV mfV) : Cal P w K mg base T "_law_all_unfit" 72 1 .sh m__law_all_unfit := by
  obtain ⟨f, fd, F, b, g⟩ := Z.f__law_all_unfit
  refine ⟨f, fd, ["rows_so"], fn_mk F sc__law_all_unfit rfl (by decide) (Γ' := []) (fun cdv A outer s H E hr hp => ?_), g, F.kp, b⟩
  have nd := sc__law_all_unfit.nd
  exact (jss_cons (js_for hp rfl (ji_seq (je_var 0)) (jg_manyL rfl (jgs_cons 1 nd (jgs_cons 2 nd (jgs_cons 3 nd (jgs_cons 4 nd jgs_nil)))))
    (jss_one (js_for hp rfl (ji_seq (je_var 4)) (jg_one 5 nd)
    (jss_one (js_if (jt_not (jt_tru (je_b (je_call (c__law_same Z 8) hr (by omega) rfl (ja_cons (je_call (c__law_heard Z V) hr (by omega) rfl (ja_cons (je_var 1) (ja_cons (je_f (je_op bin_add (je_fb (je_op bin_add (je_fb (je_sl (je_b (je_var 2)) jo_none (jo_some (je_b (je_var 3))))) (je_fb (je_lst (ja_cons (je_var 5) ja_nil))))) (je_fb (je_sl (je_b (je_var 2)) (jo_some (je_fb (je_op bin_add (je_b (je_var 3)) (je_b je_int)))) jo_none)))) ja_nil))) (ja_cons (je_f (je_lst (ja_cons je_str (ja_cons je_bl ja_nil)))) ja_nil))))))
    (jss_one (js_ret je_bl))
    jss_nil)))))
    (jss_one (js_ret je_bl)))
def N_law : List Str := ["script", "tin", "web_so", "webs_so", "ones_so", "units_so", "places_so", "ways_so", "wrong_so", "rows_so", "own", "shades_so", "sums_so", "manies_so", "one", "far_so", "six_so", "got", "due", "wide_so", "k", "steep_so"]
theorem sc_law : FnScope N_law ["script"] (defScope s_law) := ⟨rfl, rfl, rfl, by decide +kernel, rfl, by decide +kernel, by decide +kernel⟩
def q_law_b1 : S → RS :=
  (sAsg (.one 9) (e2 addD (eVar 9) (eLst (aCons (eLst (aCons (eVar 10) (aCons (eLst (aCons (eVar 2) (aCons (eVar 4) (aCons (eC (.int 0)) aNil)))) (aCons (eC (.int 0)) (aCons (eVar 3) aNil))))) (aCons (eLst (aCons (eVar 10) (aCons (eLst (aCons (eVar 2) (aCons (eVar 4) (aCons (eC (.int 0)) aNil)))) (aCons (eC (.int 1)) (aCons (eVar 8) aNil))))) (aCons (eLst (aCons (eVar 10) (aCons (eLst (aCons (eVar 2) (aCons (eVar 4) (aCons (eC (.int 0)) aNil)))) (aCons (eC (.int 2)) (aCons (eVar 6) aNil))))) aNil))))))
def q_law_b2 : S → RS :=
  (sAsg (.one 9) (e2 addD (eVar 9) (eLst (aCons (eLst (aCons (eVar 10) (aCons (eLst (aCons (eVar 2) (aCons (eVar 4) (aCons (eTup (aCons (eC (.int 0)) aNil)) aNil)))) (aCons (eC (.int 0)) (aCons (eVar 3) aNil))))) (aCons (eLst (aCons (eVar 10) (aCons (eLst (aCons (eVar 2) (aCons (eVar 4) (aCons (eTup (aCons (eC (.int 0)) aNil)) aNil)))) (aCons (eC (.int 1)) (aCons (eVar 8) aNil))))) (aCons (eLst (aCons (eVar 10) (aCons (eLst (aCons (eVar 2) (aCons (eVar 4) (aCons (eTup (aCons (eC (.int 0)) aNil)) aNil)))) (aCons (eC (.int 2)) (aCons (eVar 7) aNil))))) aNil))))))
def q_law_b3 : S → RS :=
  (sAsg (.one 9) (e2 addD (eVar 9) (eLst (aCons (eLst (aCons (eVar 10) (aCons (eLst (aCons (eVar 2) (aCons (eTup (aCons (eC (.int 0)) aNil)) aNil))) (aCons (eC (.int 0)) (aCons (eVar 3) aNil))))) (aCons (eLst (aCons (eVar 10) (aCons (eLst (aCons (eVar 2) (aCons (eTup (aCons (eC (.int 0)) aNil)) aNil))) (aCons (eC (.int 1)) (aCons (eVar 7) aNil))))) aNil)))))
def q_law_b4 : S → RS :=
  (sAsg (.one 9) (e2 addD (eVar 9) (eLst (aCons (eLst (aCons (eVar 10) (aCons (eLst (aCons (eC (.int 1)) (aCons (eVar 14) (aCons (eVar 14) aNil)))) (aCons (eC (.int 0)) (aCons (eVar 13) aNil))))) (aCons (eLst (aCons (eVar 10) (aCons (eLst (aCons (eC (.int 1)) (aCons (eVar 14) (aCons (eVar 14) aNil)))) (aCons (eC (.int 1)) (aCons (eVar 12) aNil))))) (aCons (eLst (aCons (eVar 10) (aCons (eLst (aCons (eC (.int 1)) (aCons (eVar 14) (aCons (eVar 14) aNil)))) (aCons (eC (.int 2)) (aCons (eVar 12) aNil))))) aNil))))))
def q_law_c1 : S → RS :=
  (sSeq (sAsg (.one 19) (e1 tupleC (eLc (iN rng1I (aCons (eC (.int 1001)) aNil)) (.one 20) tYesS (eTup (aCons (eTup (aCons (eVar 20) aNil)) (aCons (eC (.int 1)) aNil))))))
    (sSeq (sAsg (.one 21) (e1 tupleC (eLc (iN rng1I (aCons (eC (.int 3)) aNil)) (.one 20) tYesS (eTup (aCons (eTup (aCons (e2 mulD (eC (.int 1001)) (eVar 20)) aNil)) (aCons (eC (.int 1)) aNil))))))
    (sSeq (sAsg (.one 17) (e2 addD (eVar 17) (eLst (aCons (eCallN 2 m__law_heard (aCons (eC (.fn 20)) (aCons (eLst (aCons (eC (.int 1)) (aCons (eVar 14) (aCons (eTup aNil) aNil)))) aNil))) (aCons (eCallN 2 m__law_heard (aCons (eC (.fn 19)) (aCons (eLst (aCons (eC (.int 1)) (aCons (eVar 19) (aCons (eVar 21) aNil)))) aNil))) (aCons (eCallN 2 m__law_heard (aCons (eC (.fn 18)) (aCons (eLst (aCons (eC (.int 1)) (aCons (eVar 19) (aCons (e1 tupleC (eLc (iN rng1I (aCons (eC (.int 1000)) aNil)) (.one 20) tYesS (eTup (aCons (eTup (aCons (e2 addD (eC (.int 2000)) (eVar 20)) aNil)) (aCons (eC (.int 1)) aNil))))) aNil)))) aNil))) aNil))))))
    (sSeq (sAsg (.one 18) (e2 addD (eVar 18) (eLst (aCons (eLst (aCons (eC (.str "CanNot")) (aCons (eC (.bl true)) aNil))) (aCons (eLst (aCons (eC (.str "TooMany")) (aCons (eC (.bl true)) aNil))) (aCons (eLst (aCons (eC (.str "TooMany")) (aCons (eC (.bl true)) aNil))) aNil))))))
    (sRet (eCallN 2 (m__law_same 8) (aCons (eVar 17) (aCons (eVar 18) aNil))))))))
def q_law_c2 : S → RS :=
  (sSeq (sAsg (.one 17) (e2 addD (eVar 17) (eLst (aCons (eCallN 2 m__law_heard (aCons (eC (.fn 13)) (aCons (eLst (aCons (eVar 16) (aCons (eTup aNil) aNil))) aNil))) (aCons (eCallN 2 m__law_heard (aCons (eC (.fn 13)) (aCons (eLst (aCons (eVar 16) (aCons (eTup (aCons (eC (.int 6)) aNil)) aNil))) aNil))) (aCons (eCallN 2 m__law_heard (aCons (eC (.fn 13)) (aCons (eLst (aCons (eVar 16) (aCons (eC .non) aNil))) aNil))) (aCons (eCallN 2 m__law_heard (aCons (eC (.fn 22)) (aCons (eLst (aCons (eC (.int 1)) (aCons (eTup aNil) aNil))) aNil))) aNil)))))))
    (sSeq (sAsg (.one 18) (e2 addD (eVar 18) (eLst (aCons (eLst (aCons (eC (.str "TooMany")) (aCons (eC (.bl true)) aNil))) (aCons (eLst (aCons (eC (.str "NoPlace")) (aCons (eC (.int 6)) (aCons (eC (.bl true)) aNil)))) (aCons (eLst (aCons (eC (.str "Unfit")) (aCons (eC (.bl true)) aNil))) (aCons (eLst (aCons (eC (.str "CanNot")) (aCons (eC (.bl true)) aNil))) aNil)))))))
    q_law_c1))
def q_law_c3 : S → RS :=
  (sSeq (sAsg (.one 17) (eLst (aCons (eCallN 2 m__law_heard (aCons (eC (.fn 0)) (aCons (eLst (aCons (eVar 2) (aCons (eVar 4) (aCons (eVar 15) aNil)))) aNil))) (aCons (eCallN 2 m__law_heard (aCons (eC (.fn 1)) (aCons (eLst (aCons (eVar 2) (aCons (eVar 4) (aCons (e1 negD (eC (.int 1))) aNil)))) aNil))) (aCons (eCallN 2 m__law_heard (aCons (eC (.fn 10)) (aCons (eLst (aCons (eVar 2) (aCons (eVar 5) (aCons (eVar 15) aNil)))) aNil))) aNil)))))
    (sSeq (sAsg (.one 17) (e2 addD (eVar 17) (eLc (i1 seqI (eTup (aCons (eC (.fn 2)) (aCons (eC (.fn 3)) (aCons (eC (.fn 4)) aNil))))) (.one 10) tYesS (eCallN 2 m__law_heard (aCons (eVar 10) (aCons (eLst (aCons (eVar 2) (aCons (eVar 4) (aCons (eTup (aCons (eC (.int 0)) (aCons (eVar 15) aNil))) aNil)))) aNil))))))
    (sSeq (sAsg (.one 17) (e2 addD (eVar 17) (eLc (i1 seqI (eTup (aCons (eC (.fn 11)) (aCons (eC (.fn 12)) (aCons (eC (.fn 13)) aNil))))) (.one 10) tYesS (eCallN 2 m__law_heard (aCons (eVar 10) (aCons (eLst (aCons (eVar 2) (aCons (eTup (aCons (eVar 15) (aCons (eC (.int 0)) aNil))) aNil))) aNil))))))
    (sSeq (sAsgF 18 (eLc (i1 seqI (eTup (aCons (eVar 15) (aCons (e2 subD (eC (.int 0)) (eC (.int 1))) (aCons (eVar 15) (aCons (eVar 15) (aCons (eVar 15) (aCons (eVar 15) (aCons (eVar 15) (aCons (eVar 15) (aCons (eVar 15) aNil))))))))))) (.one 10) tYesS (eLst (aCons (eC (.str "NoPlace")) (aCons (eVar 10) (aCons (eC (.bl true)) aNil))))))
    q_law_c2))))
def q_law_c4 : S → RS :=
  (sSeq (sAsg (.many [15, 16]) (eTup (aCons (e2 addD (eC (.int 2)) (eCallN 2 m__law_take (aCons (eVar 1) (aCons (eC (.int 9)) aNil)))) (aCons (e2 mulE (eTup (aCons (e2 mulE (eTup (aCons (eC (.int 0)) aNil)) (eC (.int 6))) aNil)) (eC (.int 6))) aNil))))
    q_law_c3)
def q_law_c5 : S → RS :=
  (sSeq (sIf (tNotS (tTru (eCallN 1 m__law_all_unfit (aCons (eVar 9) aNil))))
    (sRet (eC (.bl false)))
    sNil)
    q_law_c4)
def q_law_r1 : S → RS :=
  (sSeq (sAsg (.one 9) (e2 addD (eVar 9) (eLst (aCons (eLst (aCons (eC (.fn 21)) (aCons (eLst (aCons (eC (.int 1)) (aCons (eVar 14) (aCons (eTup (aCons (eTup (aCons (eC (.int 1)) (aCons (eC (.int 1)) aNil))) aNil)) aNil)))) (aCons (eC (.int 0)) (aCons (eVar 13) aNil))))) (aCons (eLst (aCons (eC (.fn 21)) (aCons (eLst (aCons (eC (.int 1)) (aCons (eVar 14) (aCons (eTup (aCons (eTup (aCons (eC (.int 1)) (aCons (eC (.int 1)) aNil))) aNil)) aNil)))) (aCons (eC (.int 1)) (aCons (eVar 12) aNil))))) aNil)))))
    (sSeq (sAsg (.one 9) (e2 addD (eVar 9) (eLst (aCons (eLst (aCons (eC (.fn 21)) (aCons (eLst (aCons (eC (.int 1)) (aCons (eVar 14) (aCons (eTup (aCons (eTup (aCons (eC (.int 1)) (aCons (eC (.int 1)) aNil))) aNil)) aNil)))) (aCons (eC (.int 2)) (aCons (eLst (aCons (eC .non) (aCons (eTup aNil) (aCons (eTup (aCons (eTup (aCons (eC (.int 0)) (aCons (eC (.int 1)) aNil))) aNil)) (aCons (eTup (aCons (eTup (aCons (eC (.int 1)) (aCons (eC (.int 1)) aNil))) (aCons (eTup (aCons (eC (.int 1)) (aCons (eC (.int 1)) aNil))) aNil))) (aCons (eTup (aCons (eC (.int 1)) (aCons (eC (.int 1)) aNil))) aNil)))))) aNil))))) aNil))))
    (sSeq (sAsg (.one 9) (e2 addD (eVar 9) (eLst (aCons (eLst (aCons (eC (.fn 22)) (aCons (eLst (aCons (eC (.int 1)) (aCons (eVar 14) aNil))) (aCons (eC (.int 0)) (aCons (eVar 13) aNil))))) (aCons (eLst (aCons (eC (.fn 22)) (aCons (eLst (aCons (eC (.int 1)) (aCons (eVar 14) aNil))) (aCons (eC (.int 1)) (aCons (eVar 12) aNil))))) (aCons (eLst (aCons (eC (.fn 23)) (aCons (eLst (aCons (eC (.int 1)) (aCons (eC (.int 0)) aNil))) (aCons (eC (.int 0)) (aCons (eVar 13) aNil))))) aNil))))))
    (sSeq (sAsg (.one 9) (e2 addD (eVar 9) (eLst (aCons (eLst (aCons (eC (.fn 23)) (aCons (eLst (aCons (eC (.int 1)) (aCons (eC (.int 0)) aNil))) (aCons (eC (.int 1)) (aCons (eLst (aCons (eC .non) (aCons (eC (.int 1)) (aCons (e1 negD (eC (.int 1))) (aCons (eC (.bl true)) aNil))))) aNil))))) (aCons (eLst (aCons (eC (.fn 24)) (aCons (eLst (aCons (eC (.int 1)) (aCons (eVar 14) aNil))) (aCons (eC (.int 0)) (aCons (eVar 13) aNil))))) aNil)))))
    q_law_c5))))
def q_law_r2 : S → RS :=
  (sSeq (sAsg (.one 9) (e2 addD (eVar 9) (eLst (aCons (eLst (aCons (eC (.fn 14)) (aCons (eLst (aCons (eVar 2) (aCons (eC .non) aNil))) (aCons (eC (.int 0)) (aCons (eVar 3) aNil))))) (aCons (eLst (aCons (eC (.fn 15)) (aCons (eLst (aCons (eVar 2) aNil)) (aCons (eC (.int 0)) (aCons (eVar 3) aNil))))) (aCons (eLst (aCons (eC (.fn 16)) (aCons (eLst (aCons (eC (.int 1)) aNil)) (aCons (eC (.int 0)) (aCons (eLst (aCons (eC .non) (aCons (eC (.int 0)) (aCons (eC (.bl true)) (aCons (eC (.str "1")) aNil))))) aNil))))) aNil))))))
    (sSeq (sAsg (.one 9) (e2 addD (eVar 9) (eLst (aCons (eLst (aCons (eC (.fn 17)) (aCons (eLst (aCons (eVar 5) aNil)) (aCons (eC (.int 0)) (aCons (eLst (aCons (eC .non) (aCons (eC (.int 3)) (aCons (eTup aNil) (aCons (eTup (aCons (eTup (aCons (eC (.int 1)) (aCons (eC (.int 0)) aNil))) aNil)) (aCons (eTup (aCons (eTup (aCons (eC (.int 1)) aNil)) (aCons (eTup (aCons (eC (.int 0)) aNil)) aNil))) (aCons (eTup (aCons (eTup (aCons (eC (.int 1)) (aCons (eC (.int 0)) aNil))) (aCons (eTup (aCons (eC (.int 0)) (aCons (eC .non) aNil))) aNil))) aNil))))))) aNil))))) aNil))))
    (sSeq (sPar3 12 13 14 (eLst (aCons (eC .non) (aCons (eC (.int 3)) (aCons (eTup (aCons (eTup (aCons (eTup (aCons (eC (.int 1)) aNil)) (aCons (eC (.int 0)) aNil))) aNil)) (aCons (eTup (aCons (eTup (aCons (eTup (aCons (eC (.int 1)) (aCons (eC (.int 0)) aNil))) (aCons (eC (.int 1)) aNil))) aNil)) (aCons (eTup (aCons (eTup (aCons (eTup (aCons (eC (.int 1)) aNil)) (aCons (eC (.int 1)) aNil))) (aCons (eTup (aCons (eTup (aCons (eC (.int 0)) aNil)) (aCons (eC (.int 1)) aNil))) aNil))) (aCons (eTup (aCons (eTup (aCons (eC (.int 1)) aNil)) aNil)) aNil))))))) (eLst (aCons (eC .non) (aCons (eC (.int 0)) (aCons (eC (.bl true)) (aCons (eC (.str "1")) aNil))))) (eTup (aCons (eTup (aCons (eTup (aCons (eC (.int 1)) aNil)) (aCons (eC (.int 1)) aNil))) aNil)))
    (sSeq (sFor (i1 seqI (eTup (aCons (eC (.fn 18)) (aCons (eC (.fn 19)) (aCons (eC (.fn 20)) aNil))))) (.one 10)
    q_law_b4)
    q_law_r1))))
def q_law_r3 : S → RS :=
  (sSeq (sAsg (.one 9) (e2 addD (eVar 9) (eLst (aCons (eLst (aCons (eC (.fn 5)) (aCons (eLst (aCons (eVar 2) (aCons (eVar 4) aNil))) (aCons (eC (.int 0)) (aCons (eVar 3) aNil))))) (aCons (eLst (aCons (eC (.fn 5)) (aCons (eLst (aCons (eVar 2) (aCons (eVar 4) aNil))) (aCons (eC (.int 1)) (aCons (eVar 8) aNil))))) (aCons (eLst (aCons (eC (.fn 6)) (aCons (eLst (aCons (eC (.int 1)) aNil)) (aCons (eC (.int 0)) (aCons (eLst (aCons (eC .non) (aCons (eC (.int 0)) (aCons (eC (.bl true)) (aCons (eC (.str "1")) aNil))))) aNil))))) aNil))))))
    (sSeq (sAsg (.one 9) (e2 addD (eVar 9) (eLst (aCons (eLst (aCons (eC (.fn 7)) (aCons (eLst (aCons (eVar 4) aNil)) (aCons (eC (.int 0)) (aCons (eLst (aCons (eC .non) (aCons (eC (.int 3)) (aCons (eTup (aCons (eTup (aCons (eC (.int 0)) (aCons (eC (.int 1)) aNil))) aNil)) (aCons (eTup (aCons (eTup (aCons (eC (.int 1)) (aCons (eC (.int 0)) aNil))) aNil)) (aCons (eTup (aCons (eC (.int 1)) (aCons (eC (.int 1)) aNil))) (aCons (eTup (aCons (eTup (aCons (eC (.int 1)) (aCons (eC (.int 1)) aNil))) (aCons (eTup (aCons (eC (.int 2)) (aCons (eC (.int 2)) aNil))) aNil))) aNil))))))) aNil))))) (aCons (eLst (aCons (eC (.fn 8)) (aCons (eLst (aCons (eVar 2) (aCons (eC .non) aNil))) (aCons (eC (.int 0)) (aCons (eVar 3) aNil))))) (aCons (eLst (aCons (eC (.fn 9)) (aCons (eLst (aCons (eVar 2) (aCons (eC .non) aNil))) (aCons (eC (.int 0)) (aCons (eVar 3) aNil))))) aNil))))))
    (sSeq (sAsg (.one 11) (eLst (aCons (eC .non) (aCons (eC (.int 3)) (aCons (eTup aNil) (aCons (eTup (aCons (eTup (aCons (eC (.int 1)) (aCons (eC (.int 0)) aNil))) aNil)) (aCons (eTup (aCons (eTup (aCons (eC (.int 1)) (aCons (eC (.int 0)) aNil))) (aCons (eTup (aCons (eC (.int 0)) aNil)) aNil))) (aCons (eTup (aCons (eTup (aCons (eC (.int 1)) (aCons (eC (.int 0)) aNil))) (aCons (eTup (aCons (eC (.int 0)) (aCons (eC (.bl true)) aNil))) aNil))) (aCons (eTup (aCons (eTup (aCons (eC (.int 1)) (aCons (eC (.int 0)) aNil))) (aCons (eTup (aCons (eC (.int 0)) (aCons (eC (.int 1)) aNil))) (aCons (eTup (aCons (eC (.int 0)) (aCons (eC (.int 0)) aNil))) aNil)))) (aCons (eTup (aCons (eTup (aCons (eC (.int 1)) (aCons (eC (.int 0)) aNil))) (aCons (eC (.int 1)) aNil))) aNil))))))))))
    (sSeq (sAsg (.one 9) (e2 addD (eVar 9) (eLst (aCons (eLst (aCons (eC (.fn 10)) (aCons (eLst (aCons (eVar 2) (aCons (eVar 5) (aCons (eC (.int 0)) aNil)))) (aCons (eC (.int 0)) (aCons (eVar 3) aNil))))) (aCons (eLst (aCons (eC (.fn 10)) (aCons (eLst (aCons (eVar 2) (aCons (eVar 5) (aCons (eC (.int 0)) aNil)))) (aCons (eC (.int 1)) (aCons (eVar 11) aNil))))) (aCons (eLst (aCons (eC (.fn 10)) (aCons (eLst (aCons (eVar 2) (aCons (eVar 5) (aCons (eC (.int 0)) aNil)))) (aCons (eC (.int 2)) (aCons (eVar 6) aNil))))) aNil))))))
    (sSeq (sFor (i1 seqI (eTup (aCons (eC (.fn 11)) (aCons (eC (.fn 12)) (aCons (eC (.fn 13)) aNil))))) (.one 10)
    q_law_b3)
    q_law_r2)))))
def q_law_r4 : S → RS :=
  (sSeq (sFor (i1 seqI (eTup (aCons (eC (.fn 2)) (aCons (eC (.fn 3)) (aCons (eC (.fn 4)) aNil))))) (.one 10)
    q_law_b2)
    q_law_r3)
def q_law_c6 : S → RS :=
  (sSeq (sAsg (.many [3, 4, 5]) (eTup (aCons (eCallN 0 m__law_bad_webs aNil) (aCons (eTup (aCons (eTup (aCons (eC (.int 1)) (aCons (eC (.int 1)) aNil))) (aCons (eTup (aCons (eC (.int 1)) (aCons (eC (.int 1)) aNil))) aNil))) (aCons (eTup (aCons (eTup (aCons (eC (.int 1)) (aCons (eC (.int 0)) aNil))) (aCons (eTup (aCons (eC (.int 0)) (aCons (eC (.int 1)) aNil))) aNil))) aNil)))))
    (sSeq (sPar 6 7 (eLst (aCons (eC .non) (aCons (eC (.str "0")) (aCons (eTup (aCons (eC (.int 0)) aNil)) (aCons (eC (.bl true)) aNil))))) (eLst (aCons (eC .non) (aCons (eC (.int 0)) (aCons (eC (.str "0")) (aCons (eTup (aCons (eC .non) aNil)) (aCons (eTup (aCons (eC (.int 0)) (aCons (eC (.bl true)) aNil))) aNil)))))))
    (sSeq (sAsg (.one 8) (eLst (aCons (eC .non) (aCons (eC (.int 3)) (aCons (eTup aNil) (aCons (eTup (aCons (eTup (aCons (eC (.int 1)) (aCons (eC (.int 1)) aNil))) aNil)) (aCons (e2 mulE (eTup (aCons (eTup (aCons (eC (.int 1)) (aCons (eC (.int 1)) aNil))) aNil)) (eC (.int 3))) (aCons (eTup (aCons (eTup (aCons (eC (.int 1)) (aCons (eC (.int 1)) aNil))) (aCons (eTup (aCons (eC (.int 0)) (aCons (eC (.int 1)) aNil))) aNil))) (aCons (eTup (aCons (eTup (aCons (eC (.int 1)) (aCons (eC (.int 1)) aNil))) (aCons (eTup (aCons (e1 negD (eC (.int 1))) (aCons (eC (.int 2)) aNil))) aNil))) (aCons (eTup (aCons (eTup (aCons (eC (.int 1)) (aCons (eC (.int 1)) aNil))) (aCons (eTup (aCons (eC (.int 2)) (aCons (eC (.int 4)) aNil))) aNil))) (aCons (eTup (aCons (eTup (aCons (eC (.int 1)) (aCons (eC (.int 1)) aNil))) (aCons (eC (.int 1)) aNil))) (aCons (eTup (aCons (eTup (aCons (eC (.int 1)) (aCons (eC (.int 1)) aNil))) (aCons (eTup (aCons (eC (.bl true)) (aCons (eC (.int 1)) aNil))) aNil))) aNil))))))))))))
    (sSeq (sAsg (.one 9) (eLst aNil))
    (sSeq (sFor (i1 seqI (eTup (aCons (eC (.fn 0)) (aCons (eC (.fn 1)) aNil)))) (.one 10)
    q_law_b1)
    q_law_r4)))))
def q_law : S → RS :=
  (sSeq (sAsgC 1 (eCallN 2 m__law_box (aCons (eCallN 2 m__law_cells (aCons (eVar 0) (aCons (eC (.int 1)) aNil))) (aCons (eC (.int 0)) aNil))))
    (sSeq (sAsg (.one 2) (eCallN 2 m__law_kind_web (aCons (eVar 1) (aCons (eCallN 2 m__law_of (aCons (eVar 1) (aCons (eLst (aCons (eC (.str "a2")) (aCons (eC (.str "b2")) (aCons (eC (.str "g2")) aNil)))) aNil))) aNil))))
    q_law_c6))
def m_law : MF := mkF 22 q_law
set_option maxHeartbeats 0 in
theorem ok_law (Z : Fa K mg T P base) (V : Tab P w K mg base T 70 arV mfV) {f : Addr} {fd : FuncData} (F : Fun K "law" "law" s_law f fd) : FnOk P w K mg base (L2.CX P w) 73 f fd ["script"] (spOf K T 1 .sh m_law) := by
  refine fn_mk F sc_law rfl (by decide) (Γ' := []) (fun cdv A outer s H E hr hp => ?_)
  have nd := sc_law.nd
  exact (jss_cons (js_setC 1 nd (je_call (c__law_box Z) hr (by omega) rfl (ja_cons (je_call (c__law_cells Z) hr (by omega) rfl (ja_cons (je_var 0) (ja_cons je_int ja_nil))) (ja_cons je_int ja_nil))))
    (jss_cons (js_set 2 nd (je_call (c__law_kind_web Z) hr (by omega) rfl (ja_cons (je_var 1) (ja_cons (je_call (c__law_of Z) hr (by omega) rfl (ja_cons (je_var 1) (ja_cons (je_f (je_lst (ja_cons je_str (ja_cons je_str (ja_cons je_str ja_nil))))) ja_nil))) ja_nil))))
    (jss_cons (js_asgT (je_tup (ja_cons (je_call0 (c__law_bad_webs Z) hr (by omega) rfl) (ja_cons (je_tup (ja_cons (je_tup (ja_cons je_int (ja_cons je_int ja_nil))) (ja_cons (je_tup (ja_cons je_int (ja_cons je_int ja_nil))) ja_nil))) (ja_cons (je_tup (ja_cons (je_tup (ja_cons je_int (ja_cons je_int ja_nil))) (ja_cons (je_tup (ja_cons je_int (ja_cons je_int ja_nil))) ja_nil))) ja_nil)))) (jg_many rfl (jgs_cons 3 nd (jgs_cons 4 nd (jgs_cons 5 nd jgs_nil)))))
    (jss_cons (js_par 6 7 rfl nd (je_f (je_lst (ja_cons je_non (ja_cons je_str (ja_cons (je_tup (ja_cons je_int ja_nil)) (ja_cons je_bl ja_nil)))))) (je_f (je_lst (ja_cons je_non (ja_cons je_int (ja_cons je_str (ja_cons (je_tup (ja_cons je_non ja_nil)) (ja_cons (je_tup (ja_cons je_int (ja_cons je_bl ja_nil))) ja_nil))))))))
    (jss_cons (js_set 8 nd (je_f (je_lst (ja_cons je_non (ja_cons je_int (ja_cons (je_tup ja_nil) (ja_cons (je_tup (ja_cons (je_tup (ja_cons je_int (ja_cons je_int ja_nil))) ja_nil)) (ja_cons (je_f (je_op bin_mulE (je_b (je_tup (ja_cons (je_tup (ja_cons je_int (ja_cons je_int ja_nil))) ja_nil))) (je_b je_int))) (ja_cons (je_tup (ja_cons (je_tup (ja_cons je_int (ja_cons je_int ja_nil))) (ja_cons (je_tup (ja_cons je_int (ja_cons je_int ja_nil))) ja_nil))) (ja_cons (je_tup (ja_cons (je_tup (ja_cons je_int (ja_cons je_int ja_nil))) (ja_cons (je_tup (ja_cons (je_un uni_neg (je_b je_int)) (ja_cons je_int ja_nil))) ja_nil))) (ja_cons (je_tup (ja_cons (je_tup (ja_cons je_int (ja_cons je_int ja_nil))) (ja_cons (je_tup (ja_cons je_int (ja_cons je_int ja_nil))) ja_nil))) (ja_cons (je_tup (ja_cons (je_tup (ja_cons je_int (ja_cons je_int ja_nil))) (ja_cons je_int ja_nil))) (ja_cons (je_tup (ja_cons (je_tup (ja_cons je_int (ja_cons je_int ja_nil))) (ja_cons (je_tup (ja_cons je_bl (ja_cons je_int ja_nil))) ja_nil))) ja_nil)))))))))))))
    (jss_cons (js_set 9 nd (je_f (je_lst ja_nil)))
    (jss_cons (js_for hp rfl (ji_seq (je_tup (ja_cons (je_fnZ 0 rfl Z.t_values_hinged) (ja_cons (je_fnZ 1 rfl Z.t_ratios_hinged) ja_nil)))) (jg_one 10 nd)
    (jss_one (js_set 9 nd (je_f (je_op bin_add (je_b (je_var 9)) (je_fb (je_lst (ja_cons (je_f (je_lst (ja_cons (je_var 10) (ja_cons (je_f (je_lst (ja_cons (je_var 2) (ja_cons (je_var 4) (ja_cons je_int ja_nil))))) (ja_cons je_int (ja_cons (je_var 3) ja_nil)))))) (ja_cons (je_f (je_lst (ja_cons (je_var 10) (ja_cons (je_f (je_lst (ja_cons (je_var 2) (ja_cons (je_var 4) (ja_cons je_int ja_nil))))) (ja_cons je_int (ja_cons (je_var 8) ja_nil)))))) (ja_cons (je_f (je_lst (ja_cons (je_var 10) (ja_cons (je_f (je_lst (ja_cons (je_var 2) (ja_cons (je_var 4) (ja_cons je_int ja_nil))))) (ja_cons je_int (ja_cons (je_var 6) ja_nil)))))) ja_nil))))))))))
    (jss_cons (js_for hp rfl (ji_seq (je_tup (ja_cons (je_fnZ 2 rfl Z.t_values_after) (ja_cons (je_fnZ 3 rfl Z.t_new_values) (ja_cons (je_fnZ 4 rfl Z.t_ratios_after) ja_nil))))) (jg_one 10 nd)
    (jss_one (js_set 9 nd (je_f (je_op bin_add (je_b (je_var 9)) (je_fb (je_lst (ja_cons (je_f (je_lst (ja_cons (je_var 10) (ja_cons (je_f (je_lst (ja_cons (je_var 2) (ja_cons (je_var 4) (ja_cons (je_tup (ja_cons je_int ja_nil)) ja_nil))))) (ja_cons je_int (ja_cons (je_var 3) ja_nil)))))) (ja_cons (je_f (je_lst (ja_cons (je_var 10) (ja_cons (je_f (je_lst (ja_cons (je_var 2) (ja_cons (je_var 4) (ja_cons (je_tup (ja_cons je_int ja_nil)) ja_nil))))) (ja_cons je_int (ja_cons (je_var 8) ja_nil)))))) (ja_cons (je_f (je_lst (ja_cons (je_var 10) (ja_cons (je_f (je_lst (ja_cons (je_var 2) (ja_cons (je_var 4) (ja_cons (je_tup (ja_cons je_int ja_nil)) ja_nil))))) (ja_cons je_int (ja_cons (je_var 7) ja_nil)))))) ja_nil))))))))))
    (jss_cons (js_set 9 nd (je_f (je_op bin_add (je_b (je_var 9)) (je_fb (je_lst (ja_cons (je_f (je_lst (ja_cons (je_fnZ 5 rfl Z.t_ratios_of) (ja_cons (je_f (je_lst (ja_cons (je_var 2) (ja_cons (je_var 4) ja_nil)))) (ja_cons je_int (ja_cons (je_var 3) ja_nil)))))) (ja_cons (je_f (je_lst (ja_cons (je_fnZ 5 rfl Z.t_ratios_of) (ja_cons (je_f (je_lst (ja_cons (je_var 2) (ja_cons (je_var 4) ja_nil)))) (ja_cons je_int (ja_cons (je_var 8) ja_nil)))))) (ja_cons (je_f (je_lst (ja_cons (je_fnZ 6 rfl Z.t_even_values) (ja_cons (je_f (je_lst (ja_cons je_int ja_nil))) (ja_cons je_int (ja_cons (je_f (je_lst (ja_cons je_non (ja_cons je_int (ja_cons je_bl (ja_cons je_str ja_nil)))))) ja_nil)))))) ja_nil))))))))
    (jss_cons (js_set 9 nd (je_f (je_op bin_add (je_b (je_var 9)) (je_fb (je_lst (ja_cons (je_f (je_lst (ja_cons (je_fnZ 7 rfl Z.t_are_whole) (ja_cons (je_f (je_lst (ja_cons (je_var 4) ja_nil))) (ja_cons je_int (ja_cons (je_f (je_lst (ja_cons je_non (ja_cons je_int (ja_cons (je_tup (ja_cons (je_tup (ja_cons je_int (ja_cons je_int ja_nil))) ja_nil)) (ja_cons (je_tup (ja_cons (je_tup (ja_cons je_int (ja_cons je_int ja_nil))) ja_nil)) (ja_cons (je_tup (ja_cons je_int (ja_cons je_int ja_nil))) (ja_cons (je_tup (ja_cons (je_tup (ja_cons je_int (ja_cons je_int ja_nil))) (ja_cons (je_tup (ja_cons je_int (ja_cons je_int ja_nil))) ja_nil))) ja_nil)))))))) ja_nil)))))) (ja_cons (je_f (je_lst (ja_cons (je_fnZ 8 rfl Z.t_is_values) (ja_cons (je_f (je_lst (ja_cons (je_var 2) (ja_cons je_non ja_nil)))) (ja_cons je_int (ja_cons (je_var 3) ja_nil)))))) (ja_cons (je_f (je_lst (ja_cons (je_fnZ 9 rfl Z.t_is_shades) (ja_cons (je_f (je_lst (ja_cons (je_var 2) (ja_cons je_non ja_nil)))) (ja_cons je_int (ja_cons (je_var 3) ja_nil)))))) ja_nil))))))))
    (jss_cons (js_set 11 nd (je_f (je_lst (ja_cons je_non (ja_cons je_int (ja_cons (je_tup ja_nil) (ja_cons (je_tup (ja_cons (je_tup (ja_cons je_int (ja_cons je_int ja_nil))) ja_nil)) (ja_cons (je_tup (ja_cons (je_tup (ja_cons je_int (ja_cons je_int ja_nil))) (ja_cons (je_tup (ja_cons je_int ja_nil)) ja_nil))) (ja_cons (je_tup (ja_cons (je_tup (ja_cons je_int (ja_cons je_int ja_nil))) (ja_cons (je_tup (ja_cons je_int (ja_cons je_bl ja_nil))) ja_nil))) (ja_cons (je_tup (ja_cons (je_tup (ja_cons je_int (ja_cons je_int ja_nil))) (ja_cons (je_tup (ja_cons je_int (ja_cons je_int ja_nil))) (ja_cons (je_tup (ja_cons je_int (ja_cons je_int ja_nil))) ja_nil)))) (ja_cons (je_tup (ja_cons (je_tup (ja_cons je_int (ja_cons je_int ja_nil))) (ja_cons je_int ja_nil))) ja_nil)))))))))))
    (jss_cons (js_set 9 nd (je_f (je_op bin_add (je_b (je_var 9)) (je_fb (je_lst (ja_cons (je_f (je_lst (ja_cons (je_fnZ 10 rfl Z.t_shades_hinged) (ja_cons (je_f (je_lst (ja_cons (je_var 2) (ja_cons (je_var 5) (ja_cons je_int ja_nil))))) (ja_cons je_int (ja_cons (je_var 3) ja_nil)))))) (ja_cons (je_f (je_lst (ja_cons (je_fnZ 10 rfl Z.t_shades_hinged) (ja_cons (je_f (je_lst (ja_cons (je_var 2) (ja_cons (je_var 5) (ja_cons je_int ja_nil))))) (ja_cons je_int (ja_cons (je_var 11) ja_nil)))))) (ja_cons (je_f (je_lst (ja_cons (je_fnZ 10 rfl Z.t_shades_hinged) (ja_cons (je_f (je_lst (ja_cons (je_var 2) (ja_cons (je_var 5) (ja_cons je_int ja_nil))))) (ja_cons je_int (ja_cons (je_var 6) ja_nil)))))) ja_nil))))))))
    (jss_cons (js_for hp rfl (ji_seq (je_tup (ja_cons (je_fnZ 11 rfl Z.t_shades_after) (ja_cons (je_fnZ 12 rfl Z.t_is_green_row) (ja_cons (je_fnZ 13 rfl Z.t_sums_after) ja_nil))))) (jg_one 10 nd)
    (jss_one (js_set 9 nd (je_f (je_op bin_add (je_b (je_var 9)) (je_fb (je_lst (ja_cons (je_f (je_lst (ja_cons (je_var 10) (ja_cons (je_f (je_lst (ja_cons (je_var 2) (ja_cons (je_tup (ja_cons je_int ja_nil)) ja_nil)))) (ja_cons je_int (ja_cons (je_var 3) ja_nil)))))) (ja_cons (je_f (je_lst (ja_cons (je_var 10) (ja_cons (je_f (je_lst (ja_cons (je_var 2) (ja_cons (je_tup (ja_cons je_int ja_nil)) ja_nil)))) (ja_cons je_int (ja_cons (je_var 7) ja_nil)))))) ja_nil)))))))))
    (jss_cons (js_set 9 nd (je_f (je_op bin_add (je_b (je_var 9)) (je_fb (je_lst (ja_cons (je_f (je_lst (ja_cons (je_fnZ 14 rfl Z.t_is_full_row) (ja_cons (je_f (je_lst (ja_cons (je_var 2) (ja_cons je_non ja_nil)))) (ja_cons je_int (ja_cons (je_var 3) ja_nil)))))) (ja_cons (je_f (je_lst (ja_cons (je_fnZ 15 rfl Z.t_full_row) (ja_cons (je_f (je_lst (ja_cons (je_var 2) ja_nil))) (ja_cons je_int (ja_cons (je_var 3) ja_nil)))))) (ja_cons (je_f (je_lst (ja_cons (je_fnZ 16 rfl Z.t_first_shades) (ja_cons (je_f (je_lst (ja_cons je_int ja_nil))) (ja_cons je_int (ja_cons (je_f (je_lst (ja_cons je_non (ja_cons je_int (ja_cons je_bl (ja_cons je_str ja_nil)))))) ja_nil)))))) ja_nil))))))))
    (jss_cons (js_set 9 nd (je_f (je_op bin_add (je_b (je_var 9)) (je_fb (je_lst (ja_cons (je_f (je_lst (ja_cons (je_fnZ 17 rfl Z.t_greens) (ja_cons (je_f (je_lst (ja_cons (je_var 5) ja_nil))) (ja_cons je_int (ja_cons (je_f (je_lst (ja_cons je_non (ja_cons je_int (ja_cons (je_tup ja_nil) (ja_cons (je_tup (ja_cons (je_tup (ja_cons je_int (ja_cons je_int ja_nil))) ja_nil)) (ja_cons (je_tup (ja_cons (je_tup (ja_cons je_int ja_nil)) (ja_cons (je_tup (ja_cons je_int ja_nil)) ja_nil))) (ja_cons (je_tup (ja_cons (je_tup (ja_cons je_int (ja_cons je_int ja_nil))) (ja_cons (je_tup (ja_cons je_int (ja_cons je_non ja_nil))) ja_nil))) ja_nil)))))))) ja_nil)))))) ja_nil))))))
    (jss_cons (js_par3 12 13 14 rfl nd (je_f (je_lst (ja_cons je_non (ja_cons je_int (ja_cons (je_tup (ja_cons (je_tup (ja_cons (je_tup (ja_cons je_int ja_nil)) (ja_cons je_int ja_nil))) ja_nil)) (ja_cons (je_tup (ja_cons (je_tup (ja_cons (je_tup (ja_cons je_int (ja_cons je_int ja_nil))) (ja_cons je_int ja_nil))) ja_nil)) (ja_cons (je_tup (ja_cons (je_tup (ja_cons (je_tup (ja_cons je_int ja_nil)) (ja_cons je_int ja_nil))) (ja_cons (je_tup (ja_cons (je_tup (ja_cons je_int ja_nil)) (ja_cons je_int ja_nil))) ja_nil))) (ja_cons (je_tup (ja_cons (je_tup (ja_cons je_int ja_nil)) ja_nil)) ja_nil)))))))) (je_f (je_lst (ja_cons je_non (ja_cons je_int (ja_cons je_bl (ja_cons je_str ja_nil)))))) (je_tup (ja_cons (je_tup (ja_cons (je_tup (ja_cons je_int ja_nil)) (ja_cons je_int ja_nil))) ja_nil)))
    (jss_cons (js_for hp rfl (ji_seq (je_tup (ja_cons (je_fnZ 18 rfl Z.t_sum_added) (ja_cons (je_fnZ 19 rfl Z.t_sum_times) (ja_cons (je_fnZ 20 rfl Z.t_sum_over) ja_nil))))) (jg_one 10 nd)
    (jss_one (js_set 9 nd (je_f (je_op bin_add (je_b (je_var 9)) (je_fb (je_lst (ja_cons (je_f (je_lst (ja_cons (je_var 10) (ja_cons (je_f (je_lst (ja_cons je_int (ja_cons (je_var 14) (ja_cons (je_var 14) ja_nil))))) (ja_cons je_int (ja_cons (je_var 13) ja_nil)))))) (ja_cons (je_f (je_lst (ja_cons (je_var 10) (ja_cons (je_f (je_lst (ja_cons je_int (ja_cons (je_var 14) (ja_cons (je_var 14) ja_nil))))) (ja_cons je_int (ja_cons (je_var 12) ja_nil)))))) (ja_cons (je_f (je_lst (ja_cons (je_var 10) (ja_cons (je_f (je_lst (ja_cons je_int (ja_cons (je_var 14) (ja_cons (je_var 14) ja_nil))))) (ja_cons je_int (ja_cons (je_var 12) ja_nil)))))) ja_nil))))))))))
    (jss_cons (js_set 9 nd (je_f (je_op bin_add (je_b (je_var 9)) (je_fb (je_lst (ja_cons (je_f (je_lst (ja_cons (je_fnZ 21 rfl Z.t_sum_value) (ja_cons (je_f (je_lst (ja_cons je_int (ja_cons (je_var 14) (ja_cons (je_tup (ja_cons (je_tup (ja_cons je_int (ja_cons je_int ja_nil))) ja_nil)) ja_nil))))) (ja_cons je_int (ja_cons (je_var 13) ja_nil)))))) (ja_cons (je_f (je_lst (ja_cons (je_fnZ 21 rfl Z.t_sum_value) (ja_cons (je_f (je_lst (ja_cons je_int (ja_cons (je_var 14) (ja_cons (je_tup (ja_cons (je_tup (ja_cons je_int (ja_cons je_int ja_nil))) ja_nil)) ja_nil))))) (ja_cons je_int (ja_cons (je_var 12) ja_nil)))))) ja_nil)))))))
    (jss_cons (js_set 9 nd (je_f (je_op bin_add (je_b (je_var 9)) (je_fb (je_lst (ja_cons (je_f (je_lst (ja_cons (je_fnZ 21 rfl Z.t_sum_value) (ja_cons (je_f (je_lst (ja_cons je_int (ja_cons (je_var 14) (ja_cons (je_tup (ja_cons (je_tup (ja_cons je_int (ja_cons je_int ja_nil))) ja_nil)) ja_nil))))) (ja_cons je_int (ja_cons (je_f (je_lst (ja_cons je_non (ja_cons (je_tup ja_nil) (ja_cons (je_tup (ja_cons (je_tup (ja_cons je_int (ja_cons je_int ja_nil))) ja_nil)) (ja_cons (je_tup (ja_cons (je_tup (ja_cons je_int (ja_cons je_int ja_nil))) (ja_cons (je_tup (ja_cons je_int (ja_cons je_int ja_nil))) ja_nil))) (ja_cons (je_tup (ja_cons je_int (ja_cons je_int ja_nil))) ja_nil))))))) ja_nil)))))) ja_nil))))))
    (jss_cons (js_set 9 nd (je_f (je_op bin_add (je_b (je_var 9)) (je_fb (je_lst (ja_cons (je_f (je_lst (ja_cons (je_fnZ 22 rfl Z.t_bottoms) (ja_cons (je_f (je_lst (ja_cons je_int (ja_cons (je_var 14) ja_nil)))) (ja_cons je_int (ja_cons (je_var 13) ja_nil)))))) (ja_cons (je_f (je_lst (ja_cons (je_fnZ 22 rfl Z.t_bottoms) (ja_cons (je_f (je_lst (ja_cons je_int (ja_cons (je_var 14) ja_nil)))) (ja_cons je_int (ja_cons (je_var 12) ja_nil)))))) (ja_cons (je_f (je_lst (ja_cons (je_fnZ 23 rfl Z.t_letter) (ja_cons (je_f (je_lst (ja_cons je_int (ja_cons je_int ja_nil)))) (ja_cons je_int (ja_cons (je_var 13) ja_nil)))))) ja_nil))))))))
    (jss_cons (js_set 9 nd (je_f (je_op bin_add (je_b (je_var 9)) (je_fb (je_lst (ja_cons (je_f (je_lst (ja_cons (je_fnZ 23 rfl Z.t_letter) (ja_cons (je_f (je_lst (ja_cons je_int (ja_cons je_int ja_nil)))) (ja_cons je_int (ja_cons (je_f (je_lst (ja_cons je_non (ja_cons je_int (ja_cons (je_un uni_neg (je_b je_int)) (ja_cons je_bl ja_nil)))))) ja_nil)))))) (ja_cons (je_f (je_lst (ja_cons (je_fnZ 24 rfl Z.t_is_letter_sum) (ja_cons (je_f (je_lst (ja_cons je_int (ja_cons (je_var 14) ja_nil)))) (ja_cons je_int (ja_cons (je_var 13) ja_nil)))))) ja_nil)))))))
    (jss_cons (js_if (jt_not (jt_tru (je_b (je_call (c__law_all_unfit Z V) hr (by omega) rfl (ja_cons (je_var 9) ja_nil)))))
    (jss_one (js_ret je_bl))
    jss_nil)
    (jss_cons (js_asgT (je_tup (ja_cons (je_f (je_op bin_add (je_b je_int) (je_b (je_call (c__law_take Z) hr (by omega) rfl (ja_cons (je_var 1) (ja_cons je_int ja_nil)))))) (ja_cons (je_f (je_op bin_mulE (je_b (je_tup (ja_cons (je_f (je_op bin_mulE (je_b (je_tup (ja_cons je_int ja_nil))) (je_b je_int))) ja_nil))) (je_b je_int))) ja_nil))) (jg_many rfl (jgs_cons 15 nd (jgs_cons 16 nd jgs_nil))))
    (jss_cons (js_set 17 nd (je_f (je_lst (ja_cons (je_call (c__law_heard Z V) hr (by omega) rfl (ja_cons (je_fnZ 0 rfl Z.t_values_hinged) (ja_cons (je_f (je_lst (ja_cons (je_var 2) (ja_cons (je_var 4) (ja_cons (je_var 15) ja_nil))))) ja_nil))) (ja_cons (je_call (c__law_heard Z V) hr (by omega) rfl (ja_cons (je_fnZ 1 rfl Z.t_ratios_hinged) (ja_cons (je_f (je_lst (ja_cons (je_var 2) (ja_cons (je_var 4) (ja_cons (je_un uni_neg (je_b je_int)) ja_nil))))) ja_nil))) (ja_cons (je_call (c__law_heard Z V) hr (by omega) rfl (ja_cons (je_fnZ 10 rfl Z.t_shades_hinged) (ja_cons (je_f (je_lst (ja_cons (je_var 2) (ja_cons (je_var 5) (ja_cons (je_var 15) ja_nil))))) ja_nil))) ja_nil))))))
    (jss_cons (js_set 17 nd (je_f (je_op bin_add (je_b (je_var 17)) (je_fb (je_lc [("own", 10)] rfl nd (ji_seq (je_tup (ja_cons (je_fnZ 2 rfl Z.t_values_after) (ja_cons (je_fnZ 3 rfl Z.t_new_values) (ja_cons (je_fnZ 4 rfl Z.t_ratios_after) ja_nil))))) (blk_of rfl) (fun _ _ _ _ _ => (jg_one 10 nd)) (fun _ _ _ _ _ => jts_nil) (fun _ _ _ _ _ => (je_call (c__law_heard Z V) hr (by omega) rfl (ja_cons (je_var 10) (ja_cons (je_f (je_lst (ja_cons (je_var 2) (ja_cons (je_var 4) (ja_cons (je_tup (ja_cons je_int (ja_cons (je_var 15) ja_nil))) ja_nil))))) ja_nil)))))))))
    (jss_cons (js_set 17 nd (je_f (je_op bin_add (je_b (je_var 17)) (je_fb (je_lc [("own", 10)] rfl nd (ji_seq (je_tup (ja_cons (je_fnZ 11 rfl Z.t_shades_after) (ja_cons (je_fnZ 12 rfl Z.t_is_green_row) (ja_cons (je_fnZ 13 rfl Z.t_sums_after) ja_nil))))) (blk_of rfl) (fun _ _ _ _ _ => (jg_one 10 nd)) (fun _ _ _ _ _ => jts_nil) (fun _ _ _ _ _ => (je_call (c__law_heard Z V) hr (by omega) rfl (ja_cons (je_var 10) (ja_cons (je_f (je_lst (ja_cons (je_var 2) (ja_cons (je_tup (ja_cons (je_var 15) (ja_cons je_int ja_nil))) ja_nil)))) ja_nil)))))))))
    (jss_cons (js_setLc (Γ' := [.sh, .sh, .sh, .sh, .sh, .sh, .sh, .sh, .sh, .sh, .sh, .sh, .sh, .sh, .sh, .sh, .sh, .sh, .o1]) 18 [("own", 10)] rfl nd (ji_seq (je_tup (ja_cons (je_var 15) (ja_cons (je_op bin_sub (je_b je_int) (je_b je_int)) (ja_cons (je_var 15) (ja_cons (je_var 15) (ja_cons (je_var 15) (ja_cons (je_var 15) (ja_cons (je_var 15) (ja_cons (je_var 15) (ja_cons (je_var 15) ja_nil))))))))))) (blk_of rfl) (fun _ _ _ _ _ => (jg_one 10 nd)) (fun _ _ _ _ _ => jts_nil) (fun _ _ _ _ _ => (je_f (je_lst (ja_cons je_str (ja_cons (je_var 10) (ja_cons je_bl ja_nil)))))) (sw_true rfl rfl rfl (by rfl)) (flf_of 22 (by decide) (by decide) (by decide) (by decide)))
    (jss_cons (js_set 17 nd (je_f (je_op bin_add (je_b (je_var 17)) (je_fb (je_lst (ja_cons (je_call (c__law_heard Z V) hr (by omega) rfl (ja_cons (je_fnZ 13 rfl Z.t_sums_after) (ja_cons (je_f (je_lst (ja_cons (je_var 16) (ja_cons (je_tup ja_nil) ja_nil)))) ja_nil))) (ja_cons (je_call (c__law_heard Z V) hr (by omega) rfl (ja_cons (je_fnZ 13 rfl Z.t_sums_after) (ja_cons (je_f (je_lst (ja_cons (je_var 16) (ja_cons (je_tup (ja_cons je_int ja_nil)) ja_nil)))) ja_nil))) (ja_cons (je_call (c__law_heard Z V) hr (by omega) rfl (ja_cons (je_fnZ 13 rfl Z.t_sums_after) (ja_cons (je_f (je_lst (ja_cons (je_var 16) (ja_cons je_non ja_nil)))) ja_nil))) (ja_cons (je_call (c__law_heard Z V) hr (by omega) rfl (ja_cons (je_fnZ 22 rfl Z.t_bottoms) (ja_cons (je_f (je_lst (ja_cons je_int (ja_cons (je_tup ja_nil) ja_nil)))) ja_nil))) ja_nil)))))))))
    (jss_cons (js_frz (Γ' := []) (fun i => i == 18) (flz_of 22 (by decide) (by decide) (by decide)) (js_set 18 nd (je_f (je_op bin_add (je_b (je_var 18)) (je_fb (je_lst (ja_cons (je_f (je_lst (ja_cons je_str (ja_cons je_bl ja_nil)))) (ja_cons (je_f (je_lst (ja_cons je_str (ja_cons je_int (ja_cons je_bl ja_nil))))) (ja_cons (je_f (je_lst (ja_cons je_str (ja_cons je_bl ja_nil)))) (ja_cons (je_f (je_lst (ja_cons je_str (ja_cons je_bl ja_nil)))) ja_nil))))))))))
    (jss_cons (js_set 19 nd (je_bty bi_tupleC rfl Z.n_tuple (je_fb (je_lc [("k", 20)] rfl nd (ji_range1 rfl Z.n_range (ja_cons je_int ja_nil)) (blk_of rfl) (fun _ _ _ _ _ => (jg_one 20 nd)) (fun _ _ _ _ _ => jts_nil) (fun _ _ _ _ _ => (je_tup (ja_cons (je_tup (ja_cons (je_var 20) ja_nil)) (ja_cons je_int ja_nil))))))))
    (jss_cons (js_set 21 nd (je_bty bi_tupleC rfl Z.n_tuple (je_fb (je_lc [("k", 20)] rfl nd (ji_range1 rfl Z.n_range (ja_cons je_int ja_nil)) (blk_of rfl) (fun _ _ _ _ _ => (jg_one 20 nd)) (fun _ _ _ _ _ => jts_nil) (fun _ _ _ _ _ => (je_tup (ja_cons (je_tup (ja_cons (je_f (je_op bin_mul (je_b je_int) (je_b (je_var 20)))) ja_nil)) (ja_cons je_int ja_nil))))))))
    (jss_cons (js_set 17 nd (je_f (je_op bin_add (je_b (je_var 17)) (je_fb (je_lst (ja_cons (je_call (c__law_heard Z V) hr (by omega) rfl (ja_cons (je_fnZ 20 rfl Z.t_sum_over) (ja_cons (je_f (je_lst (ja_cons je_int (ja_cons (je_var 14) (ja_cons (je_tup ja_nil) ja_nil))))) ja_nil))) (ja_cons (je_call (c__law_heard Z V) hr (by omega) rfl (ja_cons (je_fnZ 19 rfl Z.t_sum_times) (ja_cons (je_f (je_lst (ja_cons je_int (ja_cons (je_var 19) (ja_cons (je_var 21) ja_nil))))) ja_nil))) (ja_cons (je_call (c__law_heard Z V) hr (by omega) rfl (ja_cons (je_fnZ 18 rfl Z.t_sum_added) (ja_cons (je_f (je_lst (ja_cons je_int (ja_cons (je_var 19) (ja_cons (je_bty bi_tupleC rfl Z.n_tuple (je_fb (je_lc [("k", 20)] rfl nd (ji_range1 rfl Z.n_range (ja_cons je_int ja_nil)) (blk_of rfl) (fun _ _ _ _ _ => (jg_one 20 nd)) (fun _ _ _ _ _ => jts_nil) (fun _ _ _ _ _ => (je_tup (ja_cons (je_tup (ja_cons (je_f (je_op bin_add (je_b je_int) (je_b (je_var 20)))) ja_nil)) (ja_cons je_int ja_nil))))))) ja_nil))))) ja_nil))) ja_nil))))))))
    (jss_cons (js_set 18 nd (je_f (je_op bin_add (je_b (je_var 18)) (je_fb (je_lst (ja_cons (je_f (je_lst (ja_cons je_str (ja_cons je_bl ja_nil)))) (ja_cons (je_f (je_lst (ja_cons je_str (ja_cons je_bl ja_nil)))) (ja_cons (je_f (je_lst (ja_cons je_str (ja_cons je_bl ja_nil)))) ja_nil))))))))
    (jss_one (js_ret (je_call (c__law_same Z 8) hr (by omega) rfl (ja_cons (je_var 17) (ja_cons (je_var 18) ja_nil))))))))))))))))))))))))))))))))))))))
theorem tabV (Z : Fa K mg T P base) : Tab P w K mg base T 70 arV mfV := by
  refine ⟨fun j f h => ?_⟩
  have hj := Z.t_all j f h
  match j, hj with
  | 0, _ => exact tab_one (j := 0) Z.t_values_hinged h (c_values_hinged Z) (by omega)
  | 1, _ => exact tab_one (j := 1) Z.t_ratios_hinged h (c_ratios_hinged Z) (by omega)
  | 2, _ => exact tab_one (j := 2) Z.t_values_after h (c_values_after Z) (by omega)
  | 3, _ => exact tab_one (j := 3) Z.t_new_values h (c_new_values Z) (by omega)
  | 4, _ => exact tab_one (j := 4) Z.t_ratios_after h (c_ratios_after Z) (by omega)
  | 5, _ => exact tab_one (j := 5) Z.t_ratios_of h (c_ratios_of Z) (by omega)
  | 6, _ => exact tab_one (j := 6) Z.t_even_values h (c_even_values Z) (by omega)
  | 7, _ => exact tab_one (j := 7) Z.t_are_whole h (c_are_whole Z) (by omega)
  | 8, _ => exact tab_one (j := 8) Z.t_is_values h (c_is_values Z) (by omega)
  | 9, _ => exact tab_one (j := 9) Z.t_is_shades h (c_is_shades Z) (by omega)
  | 10, _ => exact tab_one (j := 10) Z.t_shades_hinged h (c_shades_hinged Z) (by omega)
  | 11, _ => exact tab_one (j := 11) Z.t_shades_after h (c_shades_after Z) (by omega)
  | 12, _ => exact tab_one (j := 12) Z.t_is_green_row h (c_is_green_row Z) (by omega)
  | 13, _ => exact tab_one (j := 13) Z.t_sums_after h (c_sums_after Z) (by omega)
  | 14, _ => exact tab_one (j := 14) Z.t_is_full_row h (c_is_full_row Z) (by omega)
  | 15, _ => exact tab_one (j := 15) Z.t_full_row h (c_full_row Z) (by omega)
  | 16, _ => exact tab_one (j := 16) Z.t_first_shades h (c_first_shades Z) (by omega)
  | 17, _ => exact tab_one (j := 17) Z.t_greens h (c_greens Z) (by omega)
  | 18, _ => exact tab_one (j := 18) Z.t_sum_added h (c_sum_added Z) (by omega)
  | 19, _ => exact tab_one (j := 19) Z.t_sum_times h (c_sum_times Z) (by omega)
  | 20, _ => exact tab_one (j := 20) Z.t_sum_over h (c_sum_over Z) (by omega)
  | 21, _ => exact tab_one (j := 21) Z.t_sum_value h (c_sum_value Z) (by omega)
  | 22, _ => exact tab_one (j := 22) Z.t_bottoms h (c_bottoms Z) (by omega)
  | 23, _ => exact tab_one (j := 23) Z.t_letter h (c_letter Z) (by omega)
  | 24, _ => exact tab_one (j := 24) Z.t_is_letter_sum h (c_is_letter_sum Z) (by omega)
  | n + 25, hj => exact absurd hj (by omega)
set_option maxHeartbeats 0 in
theorem all_mk (LT : LawTrue m_law) {l : PySem.W.OpenLaw} {h : Heap} {fa : Addr} (X : K.In h) (G : h.Ns mainGlobals mg) (hfa : mg "law" = some (.ref fa))
    {f__law_box : Addr} {od__law_box an__law_box : Option Addr} {sl__law_box : Array (Option Value)} {oc__law_box kV__law_box dc__law_box pm__law_box cd__law_box ct__law_box : Value} {f__law_joins : Addr} {od__law_joins an__law_joins : Option Addr} {sl__law_joins : Array (Option Value)} {oc__law_joins kV__law_joins dc__law_joins pm__law_joins cd__law_joins ct__law_joins : Value} {f__law_take : Addr} {od__law_take an__law_take : Option Addr} {sl__law_take : Array (Option Value)} {oc__law_take kV__law_take dc__law_take pm__law_take cd__law_take ct__law_take : Value} {f__law_kind_web : Addr} {od__law_kind_web an__law_kind_web : Option Addr} {sl__law_kind_web : Array (Option Value)} {oc__law_kind_web kV__law_kind_web dc__law_kind_web pm__law_kind_web cd__law_kind_web ct__law_kind_web : Value} {f_tupled : Addr} {od_tupled an_tupled : Option Addr} {sl_tupled : Array (Option Value)} {oc_tupled kV_tupled dc_tupled pm_tupled cd_tupled ct_tupled : Value} {f_is_long : Addr} {od_is_long an_is_long : Option Addr} {sl_is_long : Array (Option Value)} {oc_is_long kV_is_long dc_is_long pm_is_long cd_is_long ct_is_long : Value} {f_is_number : Addr} {od_is_number an_is_number : Option Addr} {sl_is_number : Array (Option Value)} {oc_is_number kV_is_number dc_is_number pm_is_number cd_is_number ct_is_number : Value} {f_is_table : Addr} {od_is_table an_is_table : Option Addr} {sl_is_table : Array (Option Value)} {oc_is_table kV_is_table dc_is_table pm_is_table cd_is_table ct_is_table : Value} {f_beside : Addr} {od_beside an_beside : Option Addr} {sl_beside : Array (Option Value)} {oc_beside kV_beside dc_beside pm_beside cd_beside ct_beside : Value} {f_part_from : Addr} {od_part_from an_part_from : Option Addr} {sl_part_from : Array (Option Value)} {oc_part_from kV_part_from dc_part_from pm_part_from cd_part_from ct_part_from : Value} {f_whole_weights : Addr} {od_whole_weights an_whole_weights : Option Addr} {sl_whole_weights : Array (Option Value)} {oc_whole_weights kV_whole_weights dc_whole_weights pm_whole_weights cd_whole_weights ct_whole_weights : Value} {f_lowest_ratio : Addr} {od_lowest_ratio an_lowest_ratio : Option Addr} {sl_lowest_ratio : Array (Option Value)} {oc_lowest_ratio kV_lowest_ratio dc_lowest_ratio pm_lowest_ratio cd_lowest_ratio ct_lowest_ratio : Value} {f_sign : Addr} {od_sign an_sign : Option Addr} {sl_sign : Array (Option Value)} {oc_sign kV_sign dc_sign pm_sign cd_sign ct_sign : Value} {f_part_weights : Addr} {od_part_weights an_part_weights : Option Addr} {sl_part_weights : Array (Option Value)} {oc_part_weights kV_part_weights dc_part_weights pm_part_weights cd_part_weights ct_part_weights : Value} {f_weights_in : Addr} {od_weights_in an_weights_in : Option Addr} {sl_weights_in : Array (Option Value)} {oc_weights_in kV_weights_in dc_weights_in pm_weights_in cd_weights_in ct_weights_in : Value} {f_is_web : Addr} {od_is_web an_is_web : Option Addr} {sl_is_web : Array (Option Value)} {oc_is_web kV_is_web dc_is_web pm_is_web cd_is_web ct_is_web : Value} {f_sure_web : Addr} {od_sure_web an_sure_web : Option Addr} {sl_sure_web : Array (Option Value)} {oc_sure_web kV_sure_web dc_sure_web pm_sure_web cd_sure_web ct_sure_web : Value} {f_new_value : Addr} {od_new_value an_new_value : Option Addr} {sl_new_value : Array (Option Value)} {oc_new_value kV_new_value dc_new_value pm_new_value cd_new_value ct_new_value : Value} {f_turned_values : Addr} {od_turned_values an_turned_values : Option Addr} {sl_turned_values : Array (Option Value)} {oc_turned_values kV_turned_values dc_turned_values pm_turned_values cd_turned_values ct_turned_values : Value} {f_is_from : Addr} {od_is_from an_is_from : Option Addr} {sl_is_from : Array (Option Value)} {oc_is_from kV_is_from dc_is_from pm_is_from cd_is_from ct_is_from : Value} {f_is_fraction : Addr} {od_is_fraction an_is_fraction : Option Addr} {sl_is_fraction : Array (Option Value)} {oc_is_fraction kV_is_fraction dc_is_fraction pm_is_fraction cd_is_fraction ct_is_fraction : Value} {f_is_values_of : Addr} {od_is_values_of an_is_values_of : Option Addr} {sl_is_values_of : Array (Option Value)} {oc_is_values_of kV_is_values_of dc_is_values_of pm_is_values_of cd_is_values_of ct_is_values_of : Value} {f_sure_values : Addr} {od_sure_values an_sure_values : Option Addr} {sl_sure_values : Array (Option Value)} {oc_sure_values kV_sure_values dc_sure_values pm_sure_values cd_sure_values ct_sure_values : Value} {f_sure_number : Addr} {od_sure_number an_sure_number : Option Addr} {sl_sure_number : Array (Option Value)} {oc_sure_number kV_sure_number dc_sure_number pm_sure_number cd_sure_number ct_sure_number : Value} {f_is_below : Addr} {od_is_below an_is_below : Option Addr} {sl_is_below : Array (Option Value)} {oc_is_below kV_is_below dc_is_below pm_is_below cd_is_below ct_is_below : Value} {f_known_place : Addr} {od_known_place an_known_place : Option Addr} {sl_known_place : Array (Option Value)} {oc_known_place kV_known_place dc_known_place pm_known_place cd_known_place ct_known_place : Value} {f_values_hinged : Addr} {od_values_hinged an_values_hinged : Option Addr} {sl_values_hinged : Array (Option Value)} {oc_values_hinged kV_values_hinged dc_values_hinged pm_values_hinged cd_values_hinged ct_values_hinged : Value} {f_lowest : Addr} {od_lowest an_lowest : Option Addr} {sl_lowest : Array (Option Value)} {oc_lowest kV_lowest dc_lowest pm_lowest cd_lowest ct_lowest : Value} {f_over : Addr} {od_over an_over : Option Addr} {sl_over : Array (Option Value)} {oc_over kV_over dc_over pm_over cd_over ct_over : Value} {f_times : Addr} {od_times an_times : Option Addr} {sl_times : Array (Option Value)} {oc_times kV_times dc_times pm_times cd_times ct_times : Value} {f_power : Addr} {od_power an_power : Option Addr} {sl_power : Array (Option Value)} {oc_power kV_power dc_power pm_power cd_power ct_power : Value} {f_added : Addr} {od_added an_added : Option Addr} {sl_added : Array (Option Value)} {oc_added kV_added dc_added pm_added cd_added ct_added : Value} {f_carried : Addr} {od_carried an_carried : Option Addr} {sl_carried : Array (Option Value)} {oc_carried kV_carried dc_carried pm_carried cd_carried ct_carried : Value} {f_turned_ratios : Addr} {od_turned_ratios an_turned_ratios : Option Addr} {sl_turned_ratios : Array (Option Value)} {oc_turned_ratios kV_turned_ratios dc_turned_ratios pm_turned_ratios cd_turned_ratios ct_turned_ratios : Value} {f_sure_ratios : Addr} {od_sure_ratios an_sure_ratios : Option Addr} {sl_sure_ratios : Array (Option Value)} {oc_sure_ratios kV_sure_ratios dc_sure_ratios pm_sure_ratios cd_sure_ratios ct_sure_ratios : Value} {f_ratios_hinged : Addr} {od_ratios_hinged an_ratios_hinged : Option Addr} {sl_ratios_hinged : Array (Option Value)} {oc_ratios_hinged kV_ratios_hinged dc_ratios_hinged pm_ratios_hinged cd_ratios_hinged ct_ratios_hinged : Value} {f_sure_row : Addr} {od_sure_row an_sure_row : Option Addr} {sl_sure_row : Array (Option Value)} {oc_sure_row kV_sure_row dc_sure_row pm_sure_row cd_sure_row ct_sure_row : Value} {f_walked_values : Addr} {od_walked_values an_walked_values : Option Addr} {sl_walked_values : Array (Option Value)} {oc_walked_values kV_walked_values dc_walked_values pm_walked_values cd_walked_values ct_walked_values : Value} {f_known_row : Addr} {od_known_row an_known_row : Option Addr} {sl_known_row : Array (Option Value)} {oc_known_row kV_known_row dc_known_row pm_known_row cd_known_row ct_known_row : Value} {f_values_after : Addr} {od_values_after an_values_after : Option Addr} {sl_values_after : Array (Option Value)} {oc_values_after kV_values_after dc_values_after pm_values_after cd_values_after ct_values_after : Value} {f_new_values : Addr} {od_new_values an_new_values : Option Addr} {sl_new_values : Array (Option Value)} {oc_new_values kV_new_values dc_new_values pm_new_values cd_new_values ct_new_values : Value} {f_hinge : Addr} {od_hinge an_hinge : Option Addr} {sl_hinge : Array (Option Value)} {oc_hinge kV_hinge dc_hinge pm_hinge cd_hinge ct_hinge : Value} {f_ratios_after : Addr} {od_ratios_after an_ratios_after : Option Addr} {sl_ratios_after : Array (Option Value)} {oc_ratios_after kV_ratios_after dc_ratios_after pm_ratios_after cd_ratios_after ct_ratios_after : Value} {f_walked_shades : Addr} {od_walked_shades an_walked_shades : Option Addr} {sl_walked_shades : Array (Option Value)} {oc_walked_shades kV_walked_shades dc_walked_shades pm_walked_shades cd_walked_shades ct_walked_shades : Value} {f_unit_row : Addr} {od_unit_row an_unit_row : Option Addr} {sl_unit_row : Array (Option Value)} {oc_unit_row kV_unit_row dc_unit_row pm_unit_row cd_unit_row ct_unit_row : Value} {f_first_in : Addr} {od_first_in an_first_in : Option Addr} {sl_first_in : Array (Option Value)} {oc_first_in kV_first_in dc_first_in pm_first_in cd_first_in ct_first_in : Value} {f_shades_after : Addr} {od_shades_after an_shades_after : Option Addr} {sl_shades_after : Array (Option Value)} {oc_shades_after kV_shades_after dc_shades_after pm_shades_after cd_shades_after ct_shades_after : Value} {f_goes_up : Addr} {od_goes_up an_goes_up : Option Addr} {sl_goes_up : Array (Option Value)} {oc_goes_up kV_goes_up dc_goes_up pm_goes_up cd_goes_up ct_goes_up : Value} {f_green_path : Addr} {od_green_path an_green_path : Option Addr} {sl_green_path : Array (Option Value)} {oc_green_path kV_green_path dc_green_path pm_green_path cd_green_path ct_green_path : Value} {f_is_green_row : Addr} {od_is_green_row an_is_green_row : Option Addr} {sl_is_green_row : Array (Option Value)} {oc_is_green_row kV_is_green_row dc_is_green_row pm_is_green_row cd_is_green_row ct_is_green_row : Value} {f_walked_sums : Addr} {od_walked_sums an_walked_sums : Option Addr} {sl_walked_sums : Array (Option Value)} {oc_walked_sums kV_walked_sums dc_walked_sums pm_walked_sums cd_walked_sums ct_walked_sums : Value} {f_sums_after : Addr} {od_sums_after an_sums_after : Option Addr} {sl_sums_after : Array (Option Value)} {oc_sums_after kV_sums_after dc_sums_after pm_sums_after cd_sums_after ct_sums_after : Value} {f_gathered : Addr} {od_gathered an_gathered : Option Addr} {sl_gathered : Array (Option Value)} {oc_gathered kV_gathered dc_gathered pm_gathered cd_gathered ct_gathered : Value} {f_plus : Addr} {od_plus an_plus : Option Addr} {sl_plus : Array (Option Value)} {oc_plus kV_plus dc_plus pm_plus cd_plus ct_plus : Value} {dT_plus : Addr} {ocT_plus : Value} {odT_plus : Option Addr} {slT_plus : Array (Option Value)} {tkT_plus nT_plus : Nat} {f_ascends : Addr} {od_ascends an_ascends : Option Addr} {sl_ascends : Array (Option Value)} {oc_ascends kV_ascends dc_ascends pm_ascends cd_ascends ct_ascends : Value} {f_is_sum_of : Addr} {od_is_sum_of an_is_sum_of : Option Addr} {sl_is_sum_of : Array (Option Value)} {oc_is_sum_of kV_is_sum_of dc_is_sum_of pm_is_sum_of cd_is_sum_of ct_is_sum_of : Value} {f_sure_sum : Addr} {od_sure_sum an_sure_sum : Option Addr} {sl_sure_sum : Array (Option Value)} {oc_sure_sum kV_sure_sum dc_sure_sum pm_sure_sum cd_sure_sum ct_sure_sum : Value} {f_sure_many : Addr} {od_sure_many an_sure_many : Option Addr} {sl_sure_many : Array (Option Value)} {oc_sure_many kV_sure_many dc_sure_many pm_sure_many cd_sure_many ct_sure_many : Value} {f_sum_added : Addr} {od_sum_added an_sum_added : Option Addr} {sl_sum_added : Array (Option Value)} {oc_sum_added kV_sum_added dc_sum_added pm_sum_added cd_sum_added ct_sum_added : Value} {f_shifted : Addr} {od_shifted an_shifted : Option Addr} {sl_shifted : Array (Option Value)} {oc_shifted kV_shifted dc_shifted pm_shifted cd_shifted ct_shifted : Value} {f_multiplied : Addr} {od_multiplied an_multiplied : Option Addr} {sl_multiplied : Array (Option Value)} {oc_multiplied kV_multiplied dc_multiplied pm_multiplied cd_multiplied ct_multiplied : Value} {f_sum_times : Addr} {od_sum_times an_sum_times : Option Addr} {sl_sum_times : Array (Option Value)} {oc_sum_times kV_sum_times dc_sum_times pm_sum_times cd_sum_times ct_sum_times : Value} {f_quotient : Addr} {od_quotient an_quotient : Option Addr} {sl_quotient : Array (Option Value)} {oc_quotient kV_quotient dc_quotient pm_quotient cd_quotient ct_quotient : Value} {f_sum_over : Addr} {od_sum_over an_sum_over : Option Addr} {sl_sum_over : Array (Option Value)} {oc_sum_over kV_sum_over dc_sum_over pm_sum_over cd_sum_over ct_sum_over : Value} {f__law_same : Addr} {od__law_same an__law_same : Option Addr} {sl__law_same : Array (Option Value)} {oc__law_same kV__law_same dc__law_same pm__law_same cd__law_same ct__law_same : Value} {f__law_cells : Addr} {od__law_cells an__law_cells : Option Addr} {sl__law_cells : Array (Option Value)} {oc__law_cells kV__law_cells dc__law_cells pm__law_cells cd__law_cells ct__law_cells : Value} {f__law_of : Addr} {od__law_of an__law_of : Option Addr} {sl__law_of : Array (Option Value)} {oc__law_of kV__law_of dc__law_of pm__law_of cd__law_of ct__law_of : Value} {f__law_bad_webs : Addr} {od__law_bad_webs an__law_bad_webs : Option Addr} {sl__law_bad_webs : Array (Option Value)} {oc__law_bad_webs kV__law_bad_webs dc__law_bad_webs pm__law_bad_webs cd__law_bad_webs ct__law_bad_webs : Value} {f_product_of : Addr} {od_product_of an_product_of : Option Addr} {sl_product_of : Array (Option Value)} {oc_product_of kV_product_of dc_product_of pm_product_of cd_product_of ct_product_of : Value} {f_ratio_at : Addr} {od_ratio_at an_ratio_at : Option Addr} {sl_ratio_at : Array (Option Value)} {oc_ratio_at kV_ratio_at dc_ratio_at pm_ratio_at cd_ratio_at ct_ratio_at : Value} {f_ratios_of : Addr} {od_ratios_of an_ratios_of : Option Addr} {sl_ratios_of : Array (Option Value)} {oc_ratios_of kV_ratios_of dc_ratios_of pm_ratios_of cd_ratios_of ct_ratios_of : Value} {f_even_values : Addr} {od_even_values an_even_values : Option Addr} {sl_even_values : Array (Option Value)} {oc_even_values kV_even_values dc_even_values pm_even_values cd_even_values ct_even_values : Value} {f_are_whole : Addr} {od_are_whole an_are_whole : Option Addr} {sl_are_whole : Array (Option Value)} {oc_are_whole kV_are_whole dc_are_whole pm_are_whole cd_are_whole ct_are_whole : Value} {f_is_values : Addr} {od_is_values an_is_values : Option Addr} {sl_is_values : Array (Option Value)} {oc_is_values kV_is_values dc_is_values pm_is_values cd_is_values ct_is_values : Value} {f_is_shades_of : Addr} {od_is_shades_of an_is_shades_of : Option Addr} {sl_is_shades_of : Array (Option Value)} {oc_is_shades_of kV_is_shades_of dc_is_shades_of pm_is_shades_of cd_is_shades_of ct_is_shades_of : Value} {f_is_shades : Addr} {od_is_shades an_is_shades : Option Addr} {sl_is_shades : Array (Option Value)} {oc_is_shades kV_is_shades dc_is_shades pm_is_shades cd_is_shades ct_is_shades : Value} {f_shaded : Addr} {od_shaded an_shaded : Option Addr} {sl_shaded : Array (Option Value)} {oc_shaded kV_shaded dc_shaded pm_shaded cd_shaded ct_shaded : Value} {f_sure_shades : Addr} {od_sure_shades an_sure_shades : Option Addr} {sl_sure_shades : Array (Option Value)} {oc_sure_shades kV_sure_shades dc_sure_shades pm_sure_shades cd_sure_shades ct_sure_shades : Value} {f_shades_hinged : Addr} {od_shades_hinged an_shades_hinged : Option Addr} {sl_shades_hinged : Array (Option Value)} {oc_shades_hinged kV_shades_hinged dc_shades_hinged pm_shades_hinged cd_shades_hinged ct_shades_hinged : Value} {f_green_in : Addr} {od_green_in an_green_in : Option Addr} {sl_green_in : Array (Option Value)} {oc_green_in kV_green_in dc_green_in pm_green_in cd_green_in ct_green_in : Value} {f_is_full_row : Addr} {od_is_full_row an_is_full_row : Option Addr} {sl_is_full_row : Array (Option Value)} {oc_is_full_row kV_is_full_row dc_is_full_row pm_is_full_row cd_is_full_row ct_is_full_row : Value} {f_full_row : Addr} {od_full_row an_full_row : Option Addr} {sl_full_row : Array (Option Value)} {oc_full_row kV_full_row dc_full_row pm_full_row cd_full_row ct_full_row : Value} {f_first_shades : Addr} {od_first_shades an_first_shades : Option Addr} {sl_first_shades : Array (Option Value)} {oc_first_shades kV_first_shades dc_first_shades pm_first_shades cd_first_shades ct_first_shades : Value} {f_greens : Addr} {od_greens an_greens : Option Addr} {sl_greens : Array (Option Value)} {oc_greens kV_greens dc_greens pm_greens cd_greens ct_greens : Value} {f_value_of : Addr} {od_value_of an_value_of : Option Addr} {sl_value_of : Array (Option Value)} {oc_value_of kV_value_of dc_value_of pm_value_of cd_value_of ct_value_of : Value} {f_sum_value : Addr} {od_sum_value an_sum_value : Option Addr} {sl_sum_value : Array (Option Value)} {oc_sum_value kV_sum_value dc_sum_value pm_sum_value cd_sum_value ct_sum_value : Value} {f_bottoms : Addr} {od_bottoms an_bottoms : Option Addr} {sl_bottoms : Array (Option Value)} {oc_bottoms kV_bottoms dc_bottoms pm_bottoms cd_bottoms ct_bottoms : Value} {f_letter_in : Addr} {od_letter_in an_letter_in : Option Addr} {sl_letter_in : Array (Option Value)} {oc_letter_in kV_letter_in dc_letter_in pm_letter_in cd_letter_in ct_letter_in : Value} {f_letter : Addr} {od_letter an_letter : Option Addr} {sl_letter : Array (Option Value)} {oc_letter kV_letter dc_letter pm_letter cd_letter ct_letter : Value} {f_is_letter_sum : Addr} {od_is_letter_sum an_is_letter_sum : Option Addr} {sl_is_letter_sum : Array (Option Value)} {oc_is_letter_sum kV_is_letter_sum dc_is_letter_sum pm_is_letter_sum cd_is_letter_sum ct_is_letter_sum : Value} {f__law_heard : Addr} {od__law_heard an__law_heard : Option Addr} {sl__law_heard : Array (Option Value)} {oc__law_heard kV__law_heard dc__law_heard pm__law_heard cd__law_heard ct__law_heard : Value} {f__law_all_unfit : Addr} {od__law_all_unfit an__law_all_unfit : Option Addr} {sl__law_all_unfit : Array (Option Value)} {oc__law_all_unfit kV__law_all_unfit dc__law_all_unfit pm__law_all_unfit cd__law_all_unfit ct__law_all_unfit : Value} {f_law : Addr} {od_law an_law : Option Addr} {sl_law : Array (Option Value)} {oc_law kV_law dc_law pm_law cd_law ct_law : Value} {t_MOST_LETTERS : Nat} {t_MOST_TERMS : Nat} {g_ONE : Addr} {od_ONE : Option Addr} {sl_ONE : Array (Option Value)} {t_ONE w_ONE m_ONE : Nat} {C_Search : Addr} {C_BadText : Addr} {C_CanNot : Addr} {C_NoPlace : Addr} {C_TooMany : Addr} {C_Unfit : Addr} {fi_NoPlace ca_NoPlace ce_NoPlace : Addr} {oi_NoPlace ai_NoPlace oj_NoPlace ok_NoPlace : Option Addr} {li_NoPlace lj_NoPlace lk_NoPlace : Array (Option Value)} {ci_NoPlace ki_NoPlace di_NoPlace mi_NoPlace ti_NoPlace cj_NoPlace ck_NoPlace : Value} {vs_NoPlace : Array Value} {fn_NoPlace : Str} {tf_NoPlace : Tok} {cl_NoPlace : ClassData}
    (a__law_box : PySem.W.nsIn K mainGlobals "_law_box" = some (some (.ref f__law_box))) (l__law_box : K.lookup f__law_box = some ⟨oc__law_box, od__law_box, .func (PySem.W.fnOf "_law_box" "_law_box" (defArgs s__law_box) (defBody s__law_box) (defScope s__law_box) .none kV__law_box dc__law_box pm__law_box an__law_box cd__law_box ct__law_box), sl__law_box⟩) (cc__law_box : PySem.W.codeIn K cd__law_box "_law_box" = true) (k__law_box : PySem.W.keepIn K (.ref f__law_box) = true) (a__law_joins : PySem.W.nsIn K mainGlobals "_law_joins" = some (some (.ref f__law_joins))) (l__law_joins : K.lookup f__law_joins = some ⟨oc__law_joins, od__law_joins, .func (PySem.W.fnOf "_law_joins" "_law_joins" (defArgs s__law_joins) (defBody s__law_joins) (defScope s__law_joins) .none kV__law_joins dc__law_joins pm__law_joins an__law_joins cd__law_joins ct__law_joins), sl__law_joins⟩) (cc__law_joins : PySem.W.codeIn K cd__law_joins "_law_joins" = true) (k__law_joins : PySem.W.keepIn K (.ref f__law_joins) = true) (a__law_take : PySem.W.nsIn K mainGlobals "_law_take" = some (some (.ref f__law_take))) (l__law_take : K.lookup f__law_take = some ⟨oc__law_take, od__law_take, .func (PySem.W.fnOf "_law_take" "_law_take" (defArgs s__law_take) (defBody s__law_take) (defScope s__law_take) .none kV__law_take dc__law_take pm__law_take an__law_take cd__law_take ct__law_take), sl__law_take⟩) (cc__law_take : PySem.W.codeIn K cd__law_take "_law_take" = true) (k__law_take : PySem.W.keepIn K (.ref f__law_take) = true) (a__law_kind_web : PySem.W.nsIn K mainGlobals "_law_kind_web" = some (some (.ref f__law_kind_web))) (l__law_kind_web : K.lookup f__law_kind_web = some ⟨oc__law_kind_web, od__law_kind_web, .func (PySem.W.fnOf "_law_kind_web" "_law_kind_web" (defArgs s__law_kind_web) (defBody s__law_kind_web) (defScope s__law_kind_web) .none kV__law_kind_web dc__law_kind_web pm__law_kind_web an__law_kind_web cd__law_kind_web ct__law_kind_web), sl__law_kind_web⟩) (cc__law_kind_web : PySem.W.codeIn K cd__law_kind_web "_law_kind_web" = true) (k__law_kind_web : PySem.W.keepIn K (.ref f__law_kind_web) = true) (a_tupled : PySem.W.nsIn K mainGlobals "tupled" = some (some (.ref f_tupled))) (l_tupled : K.lookup f_tupled = some ⟨oc_tupled, od_tupled, .func (PySem.W.fnOf "tupled" "tupled" (defArgs s_tupled) (defBody s_tupled) (defScope s_tupled) .none kV_tupled dc_tupled pm_tupled an_tupled cd_tupled ct_tupled), sl_tupled⟩) (cc_tupled : PySem.W.codeIn K cd_tupled "tupled" = true) (k_tupled : PySem.W.keepIn K (.ref f_tupled) = true) (a_is_long : PySem.W.nsIn K mainGlobals "is_long" = some (some (.ref f_is_long))) (l_is_long : K.lookup f_is_long = some ⟨oc_is_long, od_is_long, .func (PySem.W.fnOf "is_long" "is_long" (defArgs s_is_long) (defBody s_is_long) (defScope s_is_long) .none kV_is_long dc_is_long pm_is_long an_is_long cd_is_long ct_is_long), sl_is_long⟩) (cc_is_long : PySem.W.codeIn K cd_is_long "is_long" = true) (k_is_long : PySem.W.keepIn K (.ref f_is_long) = true) (a_is_number : PySem.W.nsIn K mainGlobals "is_number" = some (some (.ref f_is_number))) (l_is_number : K.lookup f_is_number = some ⟨oc_is_number, od_is_number, .func (PySem.W.fnOf "is_number" "is_number" (defArgs s_is_number) (defBody s_is_number) (defScope s_is_number) .none kV_is_number dc_is_number pm_is_number an_is_number cd_is_number ct_is_number), sl_is_number⟩) (cc_is_number : PySem.W.codeIn K cd_is_number "is_number" = true) (k_is_number : PySem.W.keepIn K (.ref f_is_number) = true) (a_is_table : PySem.W.nsIn K mainGlobals "is_table" = some (some (.ref f_is_table))) (l_is_table : K.lookup f_is_table = some ⟨oc_is_table, od_is_table, .func (PySem.W.fnOf "is_table" "is_table" (defArgs s_is_table) (defBody s_is_table) (defScope s_is_table) .none kV_is_table dc_is_table pm_is_table an_is_table cd_is_table ct_is_table), sl_is_table⟩) (cc_is_table : PySem.W.codeIn K cd_is_table "is_table" = true) (k_is_table : PySem.W.keepIn K (.ref f_is_table) = true) (a_beside : PySem.W.nsIn K mainGlobals "beside" = some (some (.ref f_beside))) (l_beside : K.lookup f_beside = some ⟨oc_beside, od_beside, .func (PySem.W.fnOf "beside" "beside" (defArgs s_beside) (defBody s_beside) (defScope s_beside) .none kV_beside dc_beside pm_beside an_beside cd_beside ct_beside), sl_beside⟩) (cc_beside : PySem.W.codeIn K cd_beside "beside" = true) (k_beside : PySem.W.keepIn K (.ref f_beside) = true) (a_part_from : PySem.W.nsIn K mainGlobals "part_from" = some (some (.ref f_part_from))) (l_part_from : K.lookup f_part_from = some ⟨oc_part_from, od_part_from, .func (PySem.W.fnOf "part_from" "part_from" (defArgs s_part_from) (defBody s_part_from) (defScope s_part_from) .none kV_part_from dc_part_from pm_part_from an_part_from cd_part_from ct_part_from), sl_part_from⟩) (cc_part_from : PySem.W.codeIn K cd_part_from "part_from" = true) (k_part_from : PySem.W.keepIn K (.ref f_part_from) = true) (a_whole_weights : PySem.W.nsIn K mainGlobals "whole_weights" = some (some (.ref f_whole_weights))) (l_whole_weights : K.lookup f_whole_weights = some ⟨oc_whole_weights, od_whole_weights, .func (PySem.W.fnOf "whole_weights" "whole_weights" (defArgs s_whole_weights) (defBody s_whole_weights) (defScope s_whole_weights) .none kV_whole_weights dc_whole_weights pm_whole_weights an_whole_weights cd_whole_weights ct_whole_weights), sl_whole_weights⟩) (cc_whole_weights : PySem.W.codeIn K cd_whole_weights "whole_weights" = true) (k_whole_weights : PySem.W.keepIn K (.ref f_whole_weights) = true) (a_lowest_ratio : PySem.W.nsIn K mainGlobals "lowest_ratio" = some (some (.ref f_lowest_ratio))) (l_lowest_ratio : K.lookup f_lowest_ratio = some ⟨oc_lowest_ratio, od_lowest_ratio, .func (PySem.W.fnOf "lowest_ratio" "lowest_ratio" (defArgs s_lowest_ratio) (defBody s_lowest_ratio) (defScope s_lowest_ratio) .none kV_lowest_ratio dc_lowest_ratio pm_lowest_ratio an_lowest_ratio cd_lowest_ratio ct_lowest_ratio), sl_lowest_ratio⟩) (cc_lowest_ratio : PySem.W.codeIn K cd_lowest_ratio "lowest_ratio" = true) (k_lowest_ratio : PySem.W.keepIn K (.ref f_lowest_ratio) = true) (a_sign : PySem.W.nsIn K mainGlobals "sign" = some (some (.ref f_sign))) (l_sign : K.lookup f_sign = some ⟨oc_sign, od_sign, .func (PySem.W.fnOf "sign" "sign" (defArgs s_sign) (defBody s_sign) (defScope s_sign) .none kV_sign dc_sign pm_sign an_sign cd_sign ct_sign), sl_sign⟩) (cc_sign : PySem.W.codeIn K cd_sign "sign" = true) (k_sign : PySem.W.keepIn K (.ref f_sign) = true) (a_part_weights : PySem.W.nsIn K mainGlobals "part_weights" = some (some (.ref f_part_weights))) (l_part_weights : K.lookup f_part_weights = some ⟨oc_part_weights, od_part_weights, .func (PySem.W.fnOf "part_weights" "part_weights" (defArgs s_part_weights) (defBody s_part_weights) (defScope s_part_weights) .none kV_part_weights dc_part_weights pm_part_weights an_part_weights cd_part_weights ct_part_weights), sl_part_weights⟩) (cc_part_weights : PySem.W.codeIn K cd_part_weights "part_weights" = true) (k_part_weights : PySem.W.keepIn K (.ref f_part_weights) = true) (a_weights_in : PySem.W.nsIn K mainGlobals "weights_in" = some (some (.ref f_weights_in))) (l_weights_in : K.lookup f_weights_in = some ⟨oc_weights_in, od_weights_in, .func (PySem.W.fnOf "weights_in" "weights_in" (defArgs s_weights_in) (defBody s_weights_in) (defScope s_weights_in) .none kV_weights_in dc_weights_in pm_weights_in an_weights_in cd_weights_in ct_weights_in), sl_weights_in⟩) (cc_weights_in : PySem.W.codeIn K cd_weights_in "weights_in" = true) (k_weights_in : PySem.W.keepIn K (.ref f_weights_in) = true) (a_is_web : PySem.W.nsIn K mainGlobals "is_web" = some (some (.ref f_is_web))) (l_is_web : K.lookup f_is_web = some ⟨oc_is_web, od_is_web, .func (PySem.W.fnOf "is_web" "is_web" (defArgs s_is_web) (defBody s_is_web) (defScope s_is_web) .none kV_is_web dc_is_web pm_is_web an_is_web cd_is_web ct_is_web), sl_is_web⟩) (cc_is_web : PySem.W.codeIn K cd_is_web "is_web" = true) (k_is_web : PySem.W.keepIn K (.ref f_is_web) = true) (a_sure_web : PySem.W.nsIn K mainGlobals "sure_web" = some (some (.ref f_sure_web))) (l_sure_web : K.lookup f_sure_web = some ⟨oc_sure_web, od_sure_web, .func (PySem.W.fnOf "sure_web" "sure_web" (defArgs s_sure_web) (defBody s_sure_web) (defScope s_sure_web) .none kV_sure_web dc_sure_web pm_sure_web an_sure_web cd_sure_web ct_sure_web), sl_sure_web⟩) (cc_sure_web : PySem.W.codeIn K cd_sure_web "sure_web" = true) (k_sure_web : PySem.W.keepIn K (.ref f_sure_web) = true) (a_new_value : PySem.W.nsIn K mainGlobals "new_value" = some (some (.ref f_new_value))) (l_new_value : K.lookup f_new_value = some ⟨oc_new_value, od_new_value, .func (PySem.W.fnOf "new_value" "new_value" (defArgs s_new_value) (defBody s_new_value) (defScope s_new_value) .none kV_new_value dc_new_value pm_new_value an_new_value cd_new_value ct_new_value), sl_new_value⟩) (cc_new_value : PySem.W.codeIn K cd_new_value "new_value" = true) (k_new_value : PySem.W.keepIn K (.ref f_new_value) = true) (a_turned_values : PySem.W.nsIn K mainGlobals "turned_values" = some (some (.ref f_turned_values))) (l_turned_values : K.lookup f_turned_values = some ⟨oc_turned_values, od_turned_values, .func (PySem.W.fnOf "turned_values" "turned_values" (defArgs s_turned_values) (defBody s_turned_values) (defScope s_turned_values) .none kV_turned_values dc_turned_values pm_turned_values an_turned_values cd_turned_values ct_turned_values), sl_turned_values⟩) (cc_turned_values : PySem.W.codeIn K cd_turned_values "turned_values" = true) (k_turned_values : PySem.W.keepIn K (.ref f_turned_values) = true) (a_is_from : PySem.W.nsIn K mainGlobals "is_from" = some (some (.ref f_is_from))) (l_is_from : K.lookup f_is_from = some ⟨oc_is_from, od_is_from, .func (PySem.W.fnOf "is_from" "is_from" (defArgs s_is_from) (defBody s_is_from) (defScope s_is_from) .none kV_is_from dc_is_from pm_is_from an_is_from cd_is_from ct_is_from), sl_is_from⟩) (cc_is_from : PySem.W.codeIn K cd_is_from "is_from" = true) (k_is_from : PySem.W.keepIn K (.ref f_is_from) = true) (a_is_fraction : PySem.W.nsIn K mainGlobals "is_fraction" = some (some (.ref f_is_fraction))) (l_is_fraction : K.lookup f_is_fraction = some ⟨oc_is_fraction, od_is_fraction, .func (PySem.W.fnOf "is_fraction" "is_fraction" (defArgs s_is_fraction) (defBody s_is_fraction) (defScope s_is_fraction) .none kV_is_fraction dc_is_fraction pm_is_fraction an_is_fraction cd_is_fraction ct_is_fraction), sl_is_fraction⟩) (cc_is_fraction : PySem.W.codeIn K cd_is_fraction "is_fraction" = true) (k_is_fraction : PySem.W.keepIn K (.ref f_is_fraction) = true) (a_is_values_of : PySem.W.nsIn K mainGlobals "is_values_of" = some (some (.ref f_is_values_of))) (l_is_values_of : K.lookup f_is_values_of = some ⟨oc_is_values_of, od_is_values_of, .func (PySem.W.fnOf "is_values_of" "is_values_of" (defArgs s_is_values_of) (defBody s_is_values_of) (defScope s_is_values_of) .none kV_is_values_of dc_is_values_of pm_is_values_of an_is_values_of cd_is_values_of ct_is_values_of), sl_is_values_of⟩) (cc_is_values_of : PySem.W.codeIn K cd_is_values_of "is_values_of" = true) (k_is_values_of : PySem.W.keepIn K (.ref f_is_values_of) = true) (a_sure_values : PySem.W.nsIn K mainGlobals "sure_values" = some (some (.ref f_sure_values))) (l_sure_values : K.lookup f_sure_values = some ⟨oc_sure_values, od_sure_values, .func (PySem.W.fnOf "sure_values" "sure_values" (defArgs s_sure_values) (defBody s_sure_values) (defScope s_sure_values) .none kV_sure_values dc_sure_values pm_sure_values an_sure_values cd_sure_values ct_sure_values), sl_sure_values⟩) (cc_sure_values : PySem.W.codeIn K cd_sure_values "sure_values" = true) (k_sure_values : PySem.W.keepIn K (.ref f_sure_values) = true) (a_sure_number : PySem.W.nsIn K mainGlobals "sure_number" = some (some (.ref f_sure_number))) (l_sure_number : K.lookup f_sure_number = some ⟨oc_sure_number, od_sure_number, .func (PySem.W.fnOf "sure_number" "sure_number" (defArgs s_sure_number) (defBody s_sure_number) (defScope s_sure_number) .none kV_sure_number dc_sure_number pm_sure_number an_sure_number cd_sure_number ct_sure_number), sl_sure_number⟩) (cc_sure_number : PySem.W.codeIn K cd_sure_number "sure_number" = true) (k_sure_number : PySem.W.keepIn K (.ref f_sure_number) = true) (a_is_below : PySem.W.nsIn K mainGlobals "is_below" = some (some (.ref f_is_below))) (l_is_below : K.lookup f_is_below = some ⟨oc_is_below, od_is_below, .func (PySem.W.fnOf "is_below" "is_below" (defArgs s_is_below) (defBody s_is_below) (defScope s_is_below) .none kV_is_below dc_is_below pm_is_below an_is_below cd_is_below ct_is_below), sl_is_below⟩) (cc_is_below : PySem.W.codeIn K cd_is_below "is_below" = true) (k_is_below : PySem.W.keepIn K (.ref f_is_below) = true) (a_known_place : PySem.W.nsIn K mainGlobals "known_place" = some (some (.ref f_known_place))) (l_known_place : K.lookup f_known_place = some ⟨oc_known_place, od_known_place, .func (PySem.W.fnOf "known_place" "known_place" (defArgs s_known_place) (defBody s_known_place) (defScope s_known_place) .none kV_known_place dc_known_place pm_known_place an_known_place cd_known_place ct_known_place), sl_known_place⟩) (cc_known_place : PySem.W.codeIn K cd_known_place "known_place" = true) (k_known_place : PySem.W.keepIn K (.ref f_known_place) = true) (a_values_hinged : PySem.W.nsIn K mainGlobals "values_hinged" = some (some (.ref f_values_hinged))) (l_values_hinged : K.lookup f_values_hinged = some ⟨oc_values_hinged, od_values_hinged, .func (PySem.W.fnOf "values_hinged" "values_hinged" (defArgs s_values_hinged) (defBody s_values_hinged) (defScope s_values_hinged) .none kV_values_hinged dc_values_hinged pm_values_hinged an_values_hinged cd_values_hinged ct_values_hinged), sl_values_hinged⟩) (cc_values_hinged : PySem.W.codeIn K cd_values_hinged "values_hinged" = true) (k_values_hinged : PySem.W.keepIn K (.ref f_values_hinged) = true) (a_lowest : PySem.W.nsIn K mainGlobals "lowest" = some (some (.ref f_lowest))) (l_lowest : K.lookup f_lowest = some ⟨oc_lowest, od_lowest, .func (PySem.W.fnOf "lowest" "lowest" (defArgs s_lowest) (defBody s_lowest) (defScope s_lowest) .none kV_lowest dc_lowest pm_lowest an_lowest cd_lowest ct_lowest), sl_lowest⟩) (cc_lowest : PySem.W.codeIn K cd_lowest "lowest" = true) (k_lowest : PySem.W.keepIn K (.ref f_lowest) = true) (a_over : PySem.W.nsIn K mainGlobals "over" = some (some (.ref f_over))) (l_over : K.lookup f_over = some ⟨oc_over, od_over, .func (PySem.W.fnOf "over" "over" (defArgs s_over) (defBody s_over) (defScope s_over) .none kV_over dc_over pm_over an_over cd_over ct_over), sl_over⟩) (cc_over : PySem.W.codeIn K cd_over "over" = true) (k_over : PySem.W.keepIn K (.ref f_over) = true) (a_times : PySem.W.nsIn K mainGlobals "times" = some (some (.ref f_times))) (l_times : K.lookup f_times = some ⟨oc_times, od_times, .func (PySem.W.fnOf "times" "times" (defArgs s_times) (defBody s_times) (defScope s_times) .none kV_times dc_times pm_times an_times cd_times ct_times), sl_times⟩) (cc_times : PySem.W.codeIn K cd_times "times" = true) (k_times : PySem.W.keepIn K (.ref f_times) = true) (a_power : PySem.W.nsIn K mainGlobals "power" = some (some (.ref f_power))) (l_power : K.lookup f_power = some ⟨oc_power, od_power, .func (PySem.W.fnOf "power" "power" (defArgs s_power) (defBody s_power) (defScope s_power) .none kV_power dc_power pm_power an_power cd_power ct_power), sl_power⟩) (cc_power : PySem.W.codeIn K cd_power "power" = true) (k_power : PySem.W.keepIn K (.ref f_power) = true) (a_added : PySem.W.nsIn K mainGlobals "added" = some (some (.ref f_added))) (l_added : K.lookup f_added = some ⟨oc_added, od_added, .func (PySem.W.fnOf "added" "added" (defArgs s_added) (defBody s_added) (defScope s_added) .none kV_added dc_added pm_added an_added cd_added ct_added), sl_added⟩) (cc_added : PySem.W.codeIn K cd_added "added" = true) (k_added : PySem.W.keepIn K (.ref f_added) = true) (a_carried : PySem.W.nsIn K mainGlobals "carried" = some (some (.ref f_carried))) (l_carried : K.lookup f_carried = some ⟨oc_carried, od_carried, .func (PySem.W.fnOf "carried" "carried" (defArgs s_carried) (defBody s_carried) (defScope s_carried) .none kV_carried dc_carried pm_carried an_carried cd_carried ct_carried), sl_carried⟩) (cc_carried : PySem.W.codeIn K cd_carried "carried" = true) (k_carried : PySem.W.keepIn K (.ref f_carried) = true) (a_turned_ratios : PySem.W.nsIn K mainGlobals "turned_ratios" = some (some (.ref f_turned_ratios))) (l_turned_ratios : K.lookup f_turned_ratios = some ⟨oc_turned_ratios, od_turned_ratios, .func (PySem.W.fnOf "turned_ratios" "turned_ratios" (defArgs s_turned_ratios) (defBody s_turned_ratios) (defScope s_turned_ratios) .none kV_turned_ratios dc_turned_ratios pm_turned_ratios an_turned_ratios cd_turned_ratios ct_turned_ratios), sl_turned_ratios⟩) (cc_turned_ratios : PySem.W.codeIn K cd_turned_ratios "turned_ratios" = true) (k_turned_ratios : PySem.W.keepIn K (.ref f_turned_ratios) = true) (a_sure_ratios : PySem.W.nsIn K mainGlobals "sure_ratios" = some (some (.ref f_sure_ratios))) (l_sure_ratios : K.lookup f_sure_ratios = some ⟨oc_sure_ratios, od_sure_ratios, .func (PySem.W.fnOf "sure_ratios" "sure_ratios" (defArgs s_sure_ratios) (defBody s_sure_ratios) (defScope s_sure_ratios) .none kV_sure_ratios dc_sure_ratios pm_sure_ratios an_sure_ratios cd_sure_ratios ct_sure_ratios), sl_sure_ratios⟩) (cc_sure_ratios : PySem.W.codeIn K cd_sure_ratios "sure_ratios" = true) (k_sure_ratios : PySem.W.keepIn K (.ref f_sure_ratios) = true) (a_ratios_hinged : PySem.W.nsIn K mainGlobals "ratios_hinged" = some (some (.ref f_ratios_hinged))) (l_ratios_hinged : K.lookup f_ratios_hinged = some ⟨oc_ratios_hinged, od_ratios_hinged, .func (PySem.W.fnOf "ratios_hinged" "ratios_hinged" (defArgs s_ratios_hinged) (defBody s_ratios_hinged) (defScope s_ratios_hinged) .none kV_ratios_hinged dc_ratios_hinged pm_ratios_hinged an_ratios_hinged cd_ratios_hinged ct_ratios_hinged), sl_ratios_hinged⟩) (cc_ratios_hinged : PySem.W.codeIn K cd_ratios_hinged "ratios_hinged" = true) (k_ratios_hinged : PySem.W.keepIn K (.ref f_ratios_hinged) = true) (a_sure_row : PySem.W.nsIn K mainGlobals "sure_row" = some (some (.ref f_sure_row))) (l_sure_row : K.lookup f_sure_row = some ⟨oc_sure_row, od_sure_row, .func (PySem.W.fnOf "sure_row" "sure_row" (defArgs s_sure_row) (defBody s_sure_row) (defScope s_sure_row) .none kV_sure_row dc_sure_row pm_sure_row an_sure_row cd_sure_row ct_sure_row), sl_sure_row⟩) (cc_sure_row : PySem.W.codeIn K cd_sure_row "sure_row" = true) (k_sure_row : PySem.W.keepIn K (.ref f_sure_row) = true) (a_walked_values : PySem.W.nsIn K mainGlobals "walked_values" = some (some (.ref f_walked_values))) (l_walked_values : K.lookup f_walked_values = some ⟨oc_walked_values, od_walked_values, .func (PySem.W.fnOf "walked_values" "walked_values" (defArgs s_walked_values) (defBody s_walked_values) (defScope s_walked_values) .none kV_walked_values dc_walked_values pm_walked_values an_walked_values cd_walked_values ct_walked_values), sl_walked_values⟩) (cc_walked_values : PySem.W.codeIn K cd_walked_values "walked_values" = true) (k_walked_values : PySem.W.keepIn K (.ref f_walked_values) = true) (a_known_row : PySem.W.nsIn K mainGlobals "known_row" = some (some (.ref f_known_row))) (l_known_row : K.lookup f_known_row = some ⟨oc_known_row, od_known_row, .func (PySem.W.fnOf "known_row" "known_row" (defArgs s_known_row) (defBody s_known_row) (defScope s_known_row) .none kV_known_row dc_known_row pm_known_row an_known_row cd_known_row ct_known_row), sl_known_row⟩) (cc_known_row : PySem.W.codeIn K cd_known_row "known_row" = true) (k_known_row : PySem.W.keepIn K (.ref f_known_row) = true) (a_values_after : PySem.W.nsIn K mainGlobals "values_after" = some (some (.ref f_values_after))) (l_values_after : K.lookup f_values_after = some ⟨oc_values_after, od_values_after, .func (PySem.W.fnOf "values_after" "values_after" (defArgs s_values_after) (defBody s_values_after) (defScope s_values_after) .none kV_values_after dc_values_after pm_values_after an_values_after cd_values_after ct_values_after), sl_values_after⟩) (cc_values_after : PySem.W.codeIn K cd_values_after "values_after" = true) (k_values_after : PySem.W.keepIn K (.ref f_values_after) = true) (a_new_values : PySem.W.nsIn K mainGlobals "new_values" = some (some (.ref f_new_values))) (l_new_values : K.lookup f_new_values = some ⟨oc_new_values, od_new_values, .func (PySem.W.fnOf "new_values" "new_values" (defArgs s_new_values) (defBody s_new_values) (defScope s_new_values) .none kV_new_values dc_new_values pm_new_values an_new_values cd_new_values ct_new_values), sl_new_values⟩) (cc_new_values : PySem.W.codeIn K cd_new_values "new_values" = true) (k_new_values : PySem.W.keepIn K (.ref f_new_values) = true) (a_hinge : PySem.W.nsIn K mainGlobals "hinge" = some (some (.ref f_hinge))) (l_hinge : K.lookup f_hinge = some ⟨oc_hinge, od_hinge, .func (PySem.W.fnOf "hinge" "hinge" (defArgs s_hinge) (defBody s_hinge) (defScope s_hinge) .none kV_hinge dc_hinge pm_hinge an_hinge cd_hinge ct_hinge), sl_hinge⟩) (cc_hinge : PySem.W.codeIn K cd_hinge "hinge" = true) (k_hinge : PySem.W.keepIn K (.ref f_hinge) = true) (a_ratios_after : PySem.W.nsIn K mainGlobals "ratios_after" = some (some (.ref f_ratios_after))) (l_ratios_after : K.lookup f_ratios_after = some ⟨oc_ratios_after, od_ratios_after, .func (PySem.W.fnOf "ratios_after" "ratios_after" (defArgs s_ratios_after) (defBody s_ratios_after) (defScope s_ratios_after) .none kV_ratios_after dc_ratios_after pm_ratios_after an_ratios_after cd_ratios_after ct_ratios_after), sl_ratios_after⟩) (cc_ratios_after : PySem.W.codeIn K cd_ratios_after "ratios_after" = true) (k_ratios_after : PySem.W.keepIn K (.ref f_ratios_after) = true) (a_walked_shades : PySem.W.nsIn K mainGlobals "walked_shades" = some (some (.ref f_walked_shades))) (l_walked_shades : K.lookup f_walked_shades = some ⟨oc_walked_shades, od_walked_shades, .func (PySem.W.fnOf "walked_shades" "walked_shades" (defArgs s_walked_shades) (defBody s_walked_shades) (defScope s_walked_shades) .none kV_walked_shades dc_walked_shades pm_walked_shades an_walked_shades cd_walked_shades ct_walked_shades), sl_walked_shades⟩) (cc_walked_shades : PySem.W.codeIn K cd_walked_shades "walked_shades" = true) (k_walked_shades : PySem.W.keepIn K (.ref f_walked_shades) = true) (a_unit_row : PySem.W.nsIn K mainGlobals "unit_row" = some (some (.ref f_unit_row))) (l_unit_row : K.lookup f_unit_row = some ⟨oc_unit_row, od_unit_row, .func (PySem.W.fnOf "unit_row" "unit_row" (defArgs s_unit_row) (defBody s_unit_row) (defScope s_unit_row) .none kV_unit_row dc_unit_row pm_unit_row an_unit_row cd_unit_row ct_unit_row), sl_unit_row⟩) (cc_unit_row : PySem.W.codeIn K cd_unit_row "unit_row" = true) (k_unit_row : PySem.W.keepIn K (.ref f_unit_row) = true) (a_first_in : PySem.W.nsIn K mainGlobals "first_in" = some (some (.ref f_first_in))) (l_first_in : K.lookup f_first_in = some ⟨oc_first_in, od_first_in, .func (PySem.W.fnOf "first_in" "first_in" (defArgs s_first_in) (defBody s_first_in) (defScope s_first_in) .none kV_first_in dc_first_in pm_first_in an_first_in cd_first_in ct_first_in), sl_first_in⟩) (cc_first_in : PySem.W.codeIn K cd_first_in "first_in" = true) (k_first_in : PySem.W.keepIn K (.ref f_first_in) = true) (a_shades_after : PySem.W.nsIn K mainGlobals "shades_after" = some (some (.ref f_shades_after))) (l_shades_after : K.lookup f_shades_after = some ⟨oc_shades_after, od_shades_after, .func (PySem.W.fnOf "shades_after" "shades_after" (defArgs s_shades_after) (defBody s_shades_after) (defScope s_shades_after) .none kV_shades_after dc_shades_after pm_shades_after an_shades_after cd_shades_after ct_shades_after), sl_shades_after⟩) (cc_shades_after : PySem.W.codeIn K cd_shades_after "shades_after" = true) (k_shades_after : PySem.W.keepIn K (.ref f_shades_after) = true) (a_goes_up : PySem.W.nsIn K mainGlobals "goes_up" = some (some (.ref f_goes_up))) (l_goes_up : K.lookup f_goes_up = some ⟨oc_goes_up, od_goes_up, .func (PySem.W.fnOf "goes_up" "goes_up" (defArgs s_goes_up) (defBody s_goes_up) (defScope s_goes_up) .none kV_goes_up dc_goes_up pm_goes_up an_goes_up cd_goes_up ct_goes_up), sl_goes_up⟩) (cc_goes_up : PySem.W.codeIn K cd_goes_up "goes_up" = true) (k_goes_up : PySem.W.keepIn K (.ref f_goes_up) = true) (a_green_path : PySem.W.nsIn K mainGlobals "green_path" = some (some (.ref f_green_path))) (l_green_path : K.lookup f_green_path = some ⟨oc_green_path, od_green_path, .func (PySem.W.fnOf "green_path" "green_path" (defArgs s_green_path) (defBody s_green_path) (defScope s_green_path) .none kV_green_path dc_green_path pm_green_path an_green_path cd_green_path ct_green_path), sl_green_path⟩) (cc_green_path : PySem.W.codeIn K cd_green_path "green_path" = true) (k_green_path : PySem.W.keepIn K (.ref f_green_path) = true) (a_is_green_row : PySem.W.nsIn K mainGlobals "is_green_row" = some (some (.ref f_is_green_row))) (l_is_green_row : K.lookup f_is_green_row = some ⟨oc_is_green_row, od_is_green_row, .func (PySem.W.fnOf "is_green_row" "is_green_row" (defArgs s_is_green_row) (defBody s_is_green_row) (defScope s_is_green_row) .none kV_is_green_row dc_is_green_row pm_is_green_row an_is_green_row cd_is_green_row ct_is_green_row), sl_is_green_row⟩) (cc_is_green_row : PySem.W.codeIn K cd_is_green_row "is_green_row" = true) (k_is_green_row : PySem.W.keepIn K (.ref f_is_green_row) = true) (a_walked_sums : PySem.W.nsIn K mainGlobals "walked_sums" = some (some (.ref f_walked_sums))) (l_walked_sums : K.lookup f_walked_sums = some ⟨oc_walked_sums, od_walked_sums, .func (PySem.W.fnOf "walked_sums" "walked_sums" (defArgs s_walked_sums) (defBody s_walked_sums) (defScope s_walked_sums) .none kV_walked_sums dc_walked_sums pm_walked_sums an_walked_sums cd_walked_sums ct_walked_sums), sl_walked_sums⟩) (cc_walked_sums : PySem.W.codeIn K cd_walked_sums "walked_sums" = true) (k_walked_sums : PySem.W.keepIn K (.ref f_walked_sums) = true) (a_sums_after : PySem.W.nsIn K mainGlobals "sums_after" = some (some (.ref f_sums_after))) (l_sums_after : K.lookup f_sums_after = some ⟨oc_sums_after, od_sums_after, .func (PySem.W.fnOf "sums_after" "sums_after" (defArgs s_sums_after) (defBody s_sums_after) (defScope s_sums_after) .none kV_sums_after dc_sums_after pm_sums_after an_sums_after cd_sums_after ct_sums_after), sl_sums_after⟩) (cc_sums_after : PySem.W.codeIn K cd_sums_after "sums_after" = true) (k_sums_after : PySem.W.keepIn K (.ref f_sums_after) = true) (a_gathered : PySem.W.nsIn K mainGlobals "gathered" = some (some (.ref f_gathered))) (l_gathered : K.lookup f_gathered = some ⟨oc_gathered, od_gathered, .func (PySem.W.fnOf "gathered" "gathered" (defArgs s_gathered) (defBody s_gathered) (defScope s_gathered) .none kV_gathered dc_gathered pm_gathered an_gathered cd_gathered ct_gathered), sl_gathered⟩) (cc_gathered : PySem.W.codeIn K cd_gathered "gathered" = true) (k_gathered : PySem.W.keepIn K (.ref f_gathered) = true) (a_plus : PySem.W.nsIn K mainGlobals "plus" = some (some (.ref f_plus))) (l_plus : K.lookup f_plus = some ⟨oc_plus, od_plus, .func (PySem.W.fnOf "plus" "plus" (defArgs s_plus) (defBody s_plus) (defScope s_plus) (.ref dT_plus) kV_plus dc_plus pm_plus an_plus cd_plus ct_plus), sl_plus⟩) (lT_plus : K.lookup dT_plus = some ⟨ocT_plus, odT_plus, .seq #[.int 1 tkT_plus] nT_plus, slT_plus⟩) (cc_plus : PySem.W.codeIn K cd_plus "plus" = true) (k_plus : PySem.W.keepIn K (.ref f_plus) = true) (a_ascends : PySem.W.nsIn K mainGlobals "ascends" = some (some (.ref f_ascends))) (l_ascends : K.lookup f_ascends = some ⟨oc_ascends, od_ascends, .func (PySem.W.fnOf "ascends" "ascends" (defArgs s_ascends) (defBody s_ascends) (defScope s_ascends) .none kV_ascends dc_ascends pm_ascends an_ascends cd_ascends ct_ascends), sl_ascends⟩) (cc_ascends : PySem.W.codeIn K cd_ascends "ascends" = true) (k_ascends : PySem.W.keepIn K (.ref f_ascends) = true) (a_is_sum_of : PySem.W.nsIn K mainGlobals "is_sum_of" = some (some (.ref f_is_sum_of))) (l_is_sum_of : K.lookup f_is_sum_of = some ⟨oc_is_sum_of, od_is_sum_of, .func (PySem.W.fnOf "is_sum_of" "is_sum_of" (defArgs s_is_sum_of) (defBody s_is_sum_of) (defScope s_is_sum_of) .none kV_is_sum_of dc_is_sum_of pm_is_sum_of an_is_sum_of cd_is_sum_of ct_is_sum_of), sl_is_sum_of⟩) (cc_is_sum_of : PySem.W.codeIn K cd_is_sum_of "is_sum_of" = true) (k_is_sum_of : PySem.W.keepIn K (.ref f_is_sum_of) = true) (a_sure_sum : PySem.W.nsIn K mainGlobals "sure_sum" = some (some (.ref f_sure_sum))) (l_sure_sum : K.lookup f_sure_sum = some ⟨oc_sure_sum, od_sure_sum, .func (PySem.W.fnOf "sure_sum" "sure_sum" (defArgs s_sure_sum) (defBody s_sure_sum) (defScope s_sure_sum) .none kV_sure_sum dc_sure_sum pm_sure_sum an_sure_sum cd_sure_sum ct_sure_sum), sl_sure_sum⟩) (cc_sure_sum : PySem.W.codeIn K cd_sure_sum "sure_sum" = true) (k_sure_sum : PySem.W.keepIn K (.ref f_sure_sum) = true) (a_sure_many : PySem.W.nsIn K mainGlobals "sure_many" = some (some (.ref f_sure_many))) (l_sure_many : K.lookup f_sure_many = some ⟨oc_sure_many, od_sure_many, .func (PySem.W.fnOf "sure_many" "sure_many" (defArgs s_sure_many) (defBody s_sure_many) (defScope s_sure_many) .none kV_sure_many dc_sure_many pm_sure_many an_sure_many cd_sure_many ct_sure_many), sl_sure_many⟩) (cc_sure_many : PySem.W.codeIn K cd_sure_many "sure_many" = true) (k_sure_many : PySem.W.keepIn K (.ref f_sure_many) = true) (a_sum_added : PySem.W.nsIn K mainGlobals "sum_added" = some (some (.ref f_sum_added))) (l_sum_added : K.lookup f_sum_added = some ⟨oc_sum_added, od_sum_added, .func (PySem.W.fnOf "sum_added" "sum_added" (defArgs s_sum_added) (defBody s_sum_added) (defScope s_sum_added) .none kV_sum_added dc_sum_added pm_sum_added an_sum_added cd_sum_added ct_sum_added), sl_sum_added⟩) (cc_sum_added : PySem.W.codeIn K cd_sum_added "sum_added" = true) (k_sum_added : PySem.W.keepIn K (.ref f_sum_added) = true) (a_shifted : PySem.W.nsIn K mainGlobals "shifted" = some (some (.ref f_shifted))) (l_shifted : K.lookup f_shifted = some ⟨oc_shifted, od_shifted, .func (PySem.W.fnOf "shifted" "shifted" (defArgs s_shifted) (defBody s_shifted) (defScope s_shifted) .none kV_shifted dc_shifted pm_shifted an_shifted cd_shifted ct_shifted), sl_shifted⟩) (cc_shifted : PySem.W.codeIn K cd_shifted "shifted" = true) (k_shifted : PySem.W.keepIn K (.ref f_shifted) = true) (a_multiplied : PySem.W.nsIn K mainGlobals "multiplied" = some (some (.ref f_multiplied))) (l_multiplied : K.lookup f_multiplied = some ⟨oc_multiplied, od_multiplied, .func (PySem.W.fnOf "multiplied" "multiplied" (defArgs s_multiplied) (defBody s_multiplied) (defScope s_multiplied) .none kV_multiplied dc_multiplied pm_multiplied an_multiplied cd_multiplied ct_multiplied), sl_multiplied⟩) (cc_multiplied : PySem.W.codeIn K cd_multiplied "multiplied" = true) (k_multiplied : PySem.W.keepIn K (.ref f_multiplied) = true) (a_sum_times : PySem.W.nsIn K mainGlobals "sum_times" = some (some (.ref f_sum_times))) (l_sum_times : K.lookup f_sum_times = some ⟨oc_sum_times, od_sum_times, .func (PySem.W.fnOf "sum_times" "sum_times" (defArgs s_sum_times) (defBody s_sum_times) (defScope s_sum_times) .none kV_sum_times dc_sum_times pm_sum_times an_sum_times cd_sum_times ct_sum_times), sl_sum_times⟩) (cc_sum_times : PySem.W.codeIn K cd_sum_times "sum_times" = true) (k_sum_times : PySem.W.keepIn K (.ref f_sum_times) = true) (a_quotient : PySem.W.nsIn K mainGlobals "quotient" = some (some (.ref f_quotient))) (l_quotient : K.lookup f_quotient = some ⟨oc_quotient, od_quotient, .func (PySem.W.fnOf "quotient" "quotient" (defArgs s_quotient) (defBody s_quotient) (defScope s_quotient) .none kV_quotient dc_quotient pm_quotient an_quotient cd_quotient ct_quotient), sl_quotient⟩) (cc_quotient : PySem.W.codeIn K cd_quotient "quotient" = true) (k_quotient : PySem.W.keepIn K (.ref f_quotient) = true) (a_sum_over : PySem.W.nsIn K mainGlobals "sum_over" = some (some (.ref f_sum_over))) (l_sum_over : K.lookup f_sum_over = some ⟨oc_sum_over, od_sum_over, .func (PySem.W.fnOf "sum_over" "sum_over" (defArgs s_sum_over) (defBody s_sum_over) (defScope s_sum_over) .none kV_sum_over dc_sum_over pm_sum_over an_sum_over cd_sum_over ct_sum_over), sl_sum_over⟩) (cc_sum_over : PySem.W.codeIn K cd_sum_over "sum_over" = true) (k_sum_over : PySem.W.keepIn K (.ref f_sum_over) = true) (a__law_same : PySem.W.nsIn K mainGlobals "_law_same" = some (some (.ref f__law_same))) (l__law_same : K.lookup f__law_same = some ⟨oc__law_same, od__law_same, .func (PySem.W.fnOf "_law_same" "_law_same" (defArgs s__law_same) (defBody s__law_same) (defScope s__law_same) .none kV__law_same dc__law_same pm__law_same an__law_same cd__law_same ct__law_same), sl__law_same⟩) (cc__law_same : PySem.W.codeIn K cd__law_same "_law_same" = true) (k__law_same : PySem.W.keepIn K (.ref f__law_same) = true) (a__law_cells : PySem.W.nsIn K mainGlobals "_law_cells" = some (some (.ref f__law_cells))) (l__law_cells : K.lookup f__law_cells = some ⟨oc__law_cells, od__law_cells, .func (PySem.W.fnOf "_law_cells" "_law_cells" (defArgs s__law_cells) (defBody s__law_cells) (defScope s__law_cells) .none kV__law_cells dc__law_cells pm__law_cells an__law_cells cd__law_cells ct__law_cells), sl__law_cells⟩) (cc__law_cells : PySem.W.codeIn K cd__law_cells "_law_cells" = true) (k__law_cells : PySem.W.keepIn K (.ref f__law_cells) = true) (a__law_of : PySem.W.nsIn K mainGlobals "_law_of" = some (some (.ref f__law_of))) (l__law_of : K.lookup f__law_of = some ⟨oc__law_of, od__law_of, .func (PySem.W.fnOf "_law_of" "_law_of" (defArgs s__law_of) (defBody s__law_of) (defScope s__law_of) .none kV__law_of dc__law_of pm__law_of an__law_of cd__law_of ct__law_of), sl__law_of⟩) (cc__law_of : PySem.W.codeIn K cd__law_of "_law_of" = true) (k__law_of : PySem.W.keepIn K (.ref f__law_of) = true) (a__law_bad_webs : PySem.W.nsIn K mainGlobals "_law_bad_webs" = some (some (.ref f__law_bad_webs))) (l__law_bad_webs : K.lookup f__law_bad_webs = some ⟨oc__law_bad_webs, od__law_bad_webs, .func (PySem.W.fnOf "_law_bad_webs" "_law_bad_webs" (defArgs s__law_bad_webs) (defBody s__law_bad_webs) (defScope s__law_bad_webs) .none kV__law_bad_webs dc__law_bad_webs pm__law_bad_webs an__law_bad_webs cd__law_bad_webs ct__law_bad_webs), sl__law_bad_webs⟩) (cc__law_bad_webs : PySem.W.codeIn K cd__law_bad_webs "_law_bad_webs" = true) (k__law_bad_webs : PySem.W.keepIn K (.ref f__law_bad_webs) = true) (a_product_of : PySem.W.nsIn K mainGlobals "product_of" = some (some (.ref f_product_of))) (l_product_of : K.lookup f_product_of = some ⟨oc_product_of, od_product_of, .func (PySem.W.fnOf "product_of" "product_of" (defArgs s_product_of) (defBody s_product_of) (defScope s_product_of) .none kV_product_of dc_product_of pm_product_of an_product_of cd_product_of ct_product_of), sl_product_of⟩) (cc_product_of : PySem.W.codeIn K cd_product_of "product_of" = true) (k_product_of : PySem.W.keepIn K (.ref f_product_of) = true) (a_ratio_at : PySem.W.nsIn K mainGlobals "ratio_at" = some (some (.ref f_ratio_at))) (l_ratio_at : K.lookup f_ratio_at = some ⟨oc_ratio_at, od_ratio_at, .func (PySem.W.fnOf "ratio_at" "ratio_at" (defArgs s_ratio_at) (defBody s_ratio_at) (defScope s_ratio_at) .none kV_ratio_at dc_ratio_at pm_ratio_at an_ratio_at cd_ratio_at ct_ratio_at), sl_ratio_at⟩) (cc_ratio_at : PySem.W.codeIn K cd_ratio_at "ratio_at" = true) (k_ratio_at : PySem.W.keepIn K (.ref f_ratio_at) = true) (a_ratios_of : PySem.W.nsIn K mainGlobals "ratios_of" = some (some (.ref f_ratios_of))) (l_ratios_of : K.lookup f_ratios_of = some ⟨oc_ratios_of, od_ratios_of, .func (PySem.W.fnOf "ratios_of" "ratios_of" (defArgs s_ratios_of) (defBody s_ratios_of) (defScope s_ratios_of) .none kV_ratios_of dc_ratios_of pm_ratios_of an_ratios_of cd_ratios_of ct_ratios_of), sl_ratios_of⟩) (cc_ratios_of : PySem.W.codeIn K cd_ratios_of "ratios_of" = true) (k_ratios_of : PySem.W.keepIn K (.ref f_ratios_of) = true) (a_even_values : PySem.W.nsIn K mainGlobals "even_values" = some (some (.ref f_even_values))) (l_even_values : K.lookup f_even_values = some ⟨oc_even_values, od_even_values, .func (PySem.W.fnOf "even_values" "even_values" (defArgs s_even_values) (defBody s_even_values) (defScope s_even_values) .none kV_even_values dc_even_values pm_even_values an_even_values cd_even_values ct_even_values), sl_even_values⟩) (cc_even_values : PySem.W.codeIn K cd_even_values "even_values" = true) (k_even_values : PySem.W.keepIn K (.ref f_even_values) = true) (a_are_whole : PySem.W.nsIn K mainGlobals "are_whole" = some (some (.ref f_are_whole))) (l_are_whole : K.lookup f_are_whole = some ⟨oc_are_whole, od_are_whole, .func (PySem.W.fnOf "are_whole" "are_whole" (defArgs s_are_whole) (defBody s_are_whole) (defScope s_are_whole) .none kV_are_whole dc_are_whole pm_are_whole an_are_whole cd_are_whole ct_are_whole), sl_are_whole⟩) (cc_are_whole : PySem.W.codeIn K cd_are_whole "are_whole" = true) (k_are_whole : PySem.W.keepIn K (.ref f_are_whole) = true) (a_is_values : PySem.W.nsIn K mainGlobals "is_values" = some (some (.ref f_is_values))) (l_is_values : K.lookup f_is_values = some ⟨oc_is_values, od_is_values, .func (PySem.W.fnOf "is_values" "is_values" (defArgs s_is_values) (defBody s_is_values) (defScope s_is_values) .none kV_is_values dc_is_values pm_is_values an_is_values cd_is_values ct_is_values), sl_is_values⟩) (cc_is_values : PySem.W.codeIn K cd_is_values "is_values" = true) (k_is_values : PySem.W.keepIn K (.ref f_is_values) = true) (a_is_shades_of : PySem.W.nsIn K mainGlobals "is_shades_of" = some (some (.ref f_is_shades_of))) (l_is_shades_of : K.lookup f_is_shades_of = some ⟨oc_is_shades_of, od_is_shades_of, .func (PySem.W.fnOf "is_shades_of" "is_shades_of" (defArgs s_is_shades_of) (defBody s_is_shades_of) (defScope s_is_shades_of) .none kV_is_shades_of dc_is_shades_of pm_is_shades_of an_is_shades_of cd_is_shades_of ct_is_shades_of), sl_is_shades_of⟩) (cc_is_shades_of : PySem.W.codeIn K cd_is_shades_of "is_shades_of" = true) (k_is_shades_of : PySem.W.keepIn K (.ref f_is_shades_of) = true) (a_is_shades : PySem.W.nsIn K mainGlobals "is_shades" = some (some (.ref f_is_shades))) (l_is_shades : K.lookup f_is_shades = some ⟨oc_is_shades, od_is_shades, .func (PySem.W.fnOf "is_shades" "is_shades" (defArgs s_is_shades) (defBody s_is_shades) (defScope s_is_shades) .none kV_is_shades dc_is_shades pm_is_shades an_is_shades cd_is_shades ct_is_shades), sl_is_shades⟩) (cc_is_shades : PySem.W.codeIn K cd_is_shades "is_shades" = true) (k_is_shades : PySem.W.keepIn K (.ref f_is_shades) = true) (a_shaded : PySem.W.nsIn K mainGlobals "shaded" = some (some (.ref f_shaded))) (l_shaded : K.lookup f_shaded = some ⟨oc_shaded, od_shaded, .func (PySem.W.fnOf "shaded" "shaded" (defArgs s_shaded) (defBody s_shaded) (defScope s_shaded) .none kV_shaded dc_shaded pm_shaded an_shaded cd_shaded ct_shaded), sl_shaded⟩) (cc_shaded : PySem.W.codeIn K cd_shaded "shaded" = true) (k_shaded : PySem.W.keepIn K (.ref f_shaded) = true) (a_sure_shades : PySem.W.nsIn K mainGlobals "sure_shades" = some (some (.ref f_sure_shades))) (l_sure_shades : K.lookup f_sure_shades = some ⟨oc_sure_shades, od_sure_shades, .func (PySem.W.fnOf "sure_shades" "sure_shades" (defArgs s_sure_shades) (defBody s_sure_shades) (defScope s_sure_shades) .none kV_sure_shades dc_sure_shades pm_sure_shades an_sure_shades cd_sure_shades ct_sure_shades), sl_sure_shades⟩) (cc_sure_shades : PySem.W.codeIn K cd_sure_shades "sure_shades" = true) (k_sure_shades : PySem.W.keepIn K (.ref f_sure_shades) = true) (a_shades_hinged : PySem.W.nsIn K mainGlobals "shades_hinged" = some (some (.ref f_shades_hinged))) (l_shades_hinged : K.lookup f_shades_hinged = some ⟨oc_shades_hinged, od_shades_hinged, .func (PySem.W.fnOf "shades_hinged" "shades_hinged" (defArgs s_shades_hinged) (defBody s_shades_hinged) (defScope s_shades_hinged) .none kV_shades_hinged dc_shades_hinged pm_shades_hinged an_shades_hinged cd_shades_hinged ct_shades_hinged), sl_shades_hinged⟩) (cc_shades_hinged : PySem.W.codeIn K cd_shades_hinged "shades_hinged" = true) (k_shades_hinged : PySem.W.keepIn K (.ref f_shades_hinged) = true) (a_green_in : PySem.W.nsIn K mainGlobals "green_in" = some (some (.ref f_green_in))) (l_green_in : K.lookup f_green_in = some ⟨oc_green_in, od_green_in, .func (PySem.W.fnOf "green_in" "green_in" (defArgs s_green_in) (defBody s_green_in) (defScope s_green_in) .none kV_green_in dc_green_in pm_green_in an_green_in cd_green_in ct_green_in), sl_green_in⟩) (cc_green_in : PySem.W.codeIn K cd_green_in "green_in" = true) (k_green_in : PySem.W.keepIn K (.ref f_green_in) = true) (a_is_full_row : PySem.W.nsIn K mainGlobals "is_full_row" = some (some (.ref f_is_full_row))) (l_is_full_row : K.lookup f_is_full_row = some ⟨oc_is_full_row, od_is_full_row, .func (PySem.W.fnOf "is_full_row" "is_full_row" (defArgs s_is_full_row) (defBody s_is_full_row) (defScope s_is_full_row) .none kV_is_full_row dc_is_full_row pm_is_full_row an_is_full_row cd_is_full_row ct_is_full_row), sl_is_full_row⟩) (cc_is_full_row : PySem.W.codeIn K cd_is_full_row "is_full_row" = true) (k_is_full_row : PySem.W.keepIn K (.ref f_is_full_row) = true) (a_full_row : PySem.W.nsIn K mainGlobals "full_row" = some (some (.ref f_full_row))) (l_full_row : K.lookup f_full_row = some ⟨oc_full_row, od_full_row, .func (PySem.W.fnOf "full_row" "full_row" (defArgs s_full_row) (defBody s_full_row) (defScope s_full_row) .none kV_full_row dc_full_row pm_full_row an_full_row cd_full_row ct_full_row), sl_full_row⟩) (cc_full_row : PySem.W.codeIn K cd_full_row "full_row" = true) (k_full_row : PySem.W.keepIn K (.ref f_full_row) = true) (a_first_shades : PySem.W.nsIn K mainGlobals "first_shades" = some (some (.ref f_first_shades))) (l_first_shades : K.lookup f_first_shades = some ⟨oc_first_shades, od_first_shades, .func (PySem.W.fnOf "first_shades" "first_shades" (defArgs s_first_shades) (defBody s_first_shades) (defScope s_first_shades) .none kV_first_shades dc_first_shades pm_first_shades an_first_shades cd_first_shades ct_first_shades), sl_first_shades⟩) (cc_first_shades : PySem.W.codeIn K cd_first_shades "first_shades" = true) (k_first_shades : PySem.W.keepIn K (.ref f_first_shades) = true) (a_greens : PySem.W.nsIn K mainGlobals "greens" = some (some (.ref f_greens))) (l_greens : K.lookup f_greens = some ⟨oc_greens, od_greens, .func (PySem.W.fnOf "greens" "greens" (defArgs s_greens) (defBody s_greens) (defScope s_greens) .none kV_greens dc_greens pm_greens an_greens cd_greens ct_greens), sl_greens⟩) (cc_greens : PySem.W.codeIn K cd_greens "greens" = true) (k_greens : PySem.W.keepIn K (.ref f_greens) = true) (a_value_of : PySem.W.nsIn K mainGlobals "value_of" = some (some (.ref f_value_of))) (l_value_of : K.lookup f_value_of = some ⟨oc_value_of, od_value_of, .func (PySem.W.fnOf "value_of" "value_of" (defArgs s_value_of) (defBody s_value_of) (defScope s_value_of) .none kV_value_of dc_value_of pm_value_of an_value_of cd_value_of ct_value_of), sl_value_of⟩) (cc_value_of : PySem.W.codeIn K cd_value_of "value_of" = true) (k_value_of : PySem.W.keepIn K (.ref f_value_of) = true) (a_sum_value : PySem.W.nsIn K mainGlobals "sum_value" = some (some (.ref f_sum_value))) (l_sum_value : K.lookup f_sum_value = some ⟨oc_sum_value, od_sum_value, .func (PySem.W.fnOf "sum_value" "sum_value" (defArgs s_sum_value) (defBody s_sum_value) (defScope s_sum_value) .none kV_sum_value dc_sum_value pm_sum_value an_sum_value cd_sum_value ct_sum_value), sl_sum_value⟩) (cc_sum_value : PySem.W.codeIn K cd_sum_value "sum_value" = true) (k_sum_value : PySem.W.keepIn K (.ref f_sum_value) = true) (a_bottoms : PySem.W.nsIn K mainGlobals "bottoms" = some (some (.ref f_bottoms))) (l_bottoms : K.lookup f_bottoms = some ⟨oc_bottoms, od_bottoms, .func (PySem.W.fnOf "bottoms" "bottoms" (defArgs s_bottoms) (defBody s_bottoms) (defScope s_bottoms) .none kV_bottoms dc_bottoms pm_bottoms an_bottoms cd_bottoms ct_bottoms), sl_bottoms⟩) (cc_bottoms : PySem.W.codeIn K cd_bottoms "bottoms" = true) (k_bottoms : PySem.W.keepIn K (.ref f_bottoms) = true) (a_letter_in : PySem.W.nsIn K mainGlobals "letter_in" = some (some (.ref f_letter_in))) (l_letter_in : K.lookup f_letter_in = some ⟨oc_letter_in, od_letter_in, .func (PySem.W.fnOf "letter_in" "letter_in" (defArgs s_letter_in) (defBody s_letter_in) (defScope s_letter_in) .none kV_letter_in dc_letter_in pm_letter_in an_letter_in cd_letter_in ct_letter_in), sl_letter_in⟩) (cc_letter_in : PySem.W.codeIn K cd_letter_in "letter_in" = true) (k_letter_in : PySem.W.keepIn K (.ref f_letter_in) = true) (a_letter : PySem.W.nsIn K mainGlobals "letter" = some (some (.ref f_letter))) (l_letter : K.lookup f_letter = some ⟨oc_letter, od_letter, .func (PySem.W.fnOf "letter" "letter" (defArgs s_letter) (defBody s_letter) (defScope s_letter) .none kV_letter dc_letter pm_letter an_letter cd_letter ct_letter), sl_letter⟩) (cc_letter : PySem.W.codeIn K cd_letter "letter" = true) (k_letter : PySem.W.keepIn K (.ref f_letter) = true) (a_is_letter_sum : PySem.W.nsIn K mainGlobals "is_letter_sum" = some (some (.ref f_is_letter_sum))) (l_is_letter_sum : K.lookup f_is_letter_sum = some ⟨oc_is_letter_sum, od_is_letter_sum, .func (PySem.W.fnOf "is_letter_sum" "is_letter_sum" (defArgs s_is_letter_sum) (defBody s_is_letter_sum) (defScope s_is_letter_sum) .none kV_is_letter_sum dc_is_letter_sum pm_is_letter_sum an_is_letter_sum cd_is_letter_sum ct_is_letter_sum), sl_is_letter_sum⟩) (cc_is_letter_sum : PySem.W.codeIn K cd_is_letter_sum "is_letter_sum" = true) (k_is_letter_sum : PySem.W.keepIn K (.ref f_is_letter_sum) = true) (a__law_heard : PySem.W.nsIn K mainGlobals "_law_heard" = some (some (.ref f__law_heard))) (l__law_heard : K.lookup f__law_heard = some ⟨oc__law_heard, od__law_heard, .func (PySem.W.fnOf "_law_heard" "_law_heard" (defArgs s__law_heard) (defBody s__law_heard) (defScope s__law_heard) .none kV__law_heard dc__law_heard pm__law_heard an__law_heard cd__law_heard ct__law_heard), sl__law_heard⟩) (cc__law_heard : PySem.W.codeIn K cd__law_heard "_law_heard" = true) (k__law_heard : PySem.W.keepIn K (.ref f__law_heard) = true) (a__law_all_unfit : PySem.W.nsIn K mainGlobals "_law_all_unfit" = some (some (.ref f__law_all_unfit))) (l__law_all_unfit : K.lookup f__law_all_unfit = some ⟨oc__law_all_unfit, od__law_all_unfit, .func (PySem.W.fnOf "_law_all_unfit" "_law_all_unfit" (defArgs s__law_all_unfit) (defBody s__law_all_unfit) (defScope s__law_all_unfit) .none kV__law_all_unfit dc__law_all_unfit pm__law_all_unfit an__law_all_unfit cd__law_all_unfit ct__law_all_unfit), sl__law_all_unfit⟩) (cc__law_all_unfit : PySem.W.codeIn K cd__law_all_unfit "_law_all_unfit" = true) (k__law_all_unfit : PySem.W.keepIn K (.ref f__law_all_unfit) = true) (a_law : PySem.W.nsIn K mainGlobals "law" = some (some (.ref f_law))) (l_law : K.lookup f_law = some ⟨oc_law, od_law, .func (PySem.W.fnOf "law" "law" (defArgs s_law) (defBody s_law) (defScope s_law) .none kV_law dc_law pm_law an_law cd_law ct_law), sl_law⟩) (cc_law : PySem.W.codeIn K cd_law "law" = true) (k_law : PySem.W.keepIn K (.ref f_law) = true) (n_LookupError : PySem.W.nsIn K mainGlobals "LookupError" = some none) (n_ValueError : PySem.W.nsIn K mainGlobals "ValueError" = some none) (n_abs : PySem.W.nsIn K mainGlobals "abs" = some none) (n_all : PySem.W.nsIn K mainGlobals "all" = some none) (n_any : PySem.W.nsIn K mainGlobals "any" = some none) (n_bool : PySem.W.nsIn K mainGlobals "bool" = some none) (n_dict : PySem.W.nsIn K mainGlobals "dict" = some none) (n_enumerate : PySem.W.nsIn K mainGlobals "enumerate" = some none) (n_int : PySem.W.nsIn K mainGlobals "int" = some none) (n_isinstance : PySem.W.nsIn K mainGlobals "isinstance" = some none) (n_len : PySem.W.nsIn K mainGlobals "len" = some none) (n_list : PySem.W.nsIn K mainGlobals "list" = some none) (n_max : PySem.W.nsIn K mainGlobals "max" = some none) (n_min : PySem.W.nsIn K mainGlobals "min" = some none) (n_range : PySem.W.nsIn K mainGlobals "range" = some none) (n_sorted : PySem.W.nsIn K mainGlobals "sorted" = some none) (n_str : PySem.W.nsIn K mainGlobals "str" = some none) (n_super : PySem.W.nsIn K mainGlobals "super" = some none) (n_tuple : PySem.W.nsIn K mainGlobals "tuple" = some none) (n_zip : PySem.W.nsIn K mainGlobals "zip" = some none) (u_MOST_LETTERS : PySem.W.nsIn K mainGlobals "MOST_LETTERS" = some (some (.int 5 t_MOST_LETTERS))) (u_MOST_TERMS : PySem.W.nsIn K mainGlobals "MOST_TERMS" = some (some (.int 2000 t_MOST_TERMS))) (u_ONE : PySem.W.nsIn K mainGlobals "ONE" = some (some (.ref g_ONE))) (v_ONE : K.lookup g_ONE = some ⟨.type "tuple", od_ONE, .seq #[.int 1 t_ONE, .int 1 w_ONE] m_ONE, sl_ONE⟩) (b_gcd : PySem.W.nsIn K mainGlobals "gcd" = some (some (.builtin "math.gcd"))) (a_Search : PySem.W.nsIn K mainGlobals "Search" = some (some (.ref C_Search))) (a_BadText : PySem.W.nsIn K mainGlobals "BadText" = some (some (.ref C_BadText))) (s_BadText : PySem.W.subIn K (.ref C_BadText) (.type "BaseException") = some true) (y_BadText : PySem.W.typeIn K (.ref C_BadText) = some (.type "type")) (a_CanNot : PySem.W.nsIn K mainGlobals "CanNot" = some (some (.ref C_CanNot))) (s_CanNot : PySem.W.subIn K (.ref C_CanNot) (.type "BaseException") = some true) (y_CanNot : PySem.W.typeIn K (.ref C_CanNot) = some (.type "type")) (a_NoPlace : PySem.W.nsIn K mainGlobals "NoPlace" = some (some (.ref C_NoPlace))) (s_NoPlace : PySem.W.subIn K (.ref C_NoPlace) (.type "BaseException") = some true) (y_NoPlace : PySem.W.typeIn K (.ref C_NoPlace) = some (.type "type")) (a_TooMany : PySem.W.nsIn K mainGlobals "TooMany" = some (some (.ref C_TooMany))) (s_TooMany : PySem.W.subIn K (.ref C_TooMany) (.type "BaseException") = some true) (y_TooMany : PySem.W.typeIn K (.ref C_TooMany) = some (.type "type")) (a_Unfit : PySem.W.nsIn K mainGlobals "Unfit" = some (some (.ref C_Unfit))) (s_Unfit : PySem.W.subIn K (.ref C_Unfit) (.type "BaseException") = some true) (y_Unfit : PySem.W.typeIn K (.ref C_Unfit) = some (.type "type")) (d_BadText : PySem.W.hasDictIn K C_BadText = true) (d_CanNot : PySem.W.hasDictIn K C_CanNot = true) (d_NoPlace : PySem.W.hasDictIn K C_NoPlace = true) (d_TooMany : PySem.W.hasDictIn K C_TooMany = true) (d_Unfit : PySem.W.hasDictIn K C_Unfit = true) (q_Unfit : PySem.W.excIn K C_Unfit [.type "ValueError", .type "Exception", .type "BaseException", .type "object"] "ValueError.__new__" = true) (k_Unfit : PySem.W.keepIn K (.ref C_Unfit) = true) (k_NoPlace : PySem.W.keepIn K (.ref C_NoPlace) = true) (q_NoPlace : PySem.W.excInitIn K C_NoPlace [.type "LookupError", .type "Exception", .type "BaseException", .type "object"] "LookupError.__new__" = true) (o_NoPlace : PySem.W.excOver K C_NoPlace [.type "LookupError", .type "Exception", .type "BaseException", .type "object"] = true) (sa_NoPlace : PySem.W.findIn K (.ref C_NoPlace) "__setattr__" = some (some (.builtin "object.__setattr__"))) (ta_NoPlace : PySem.W.takerIn K C_NoPlace "place" = some none) (sB_NoPlace : PySem.W.subIn K (.ref C_NoPlace) (.type "LookupError") = some true) (sC_NoPlace : PySem.W.mroIn K C_NoPlace (.ref C_NoPlace) = some true) (op_NoPlace : PySem.W.nsIn K cStatics "thirdparty.any" = some none) (su_NoPlace : PySem.W.ks_superIn K C_NoPlace C_NoPlace "__init__" = some (some (.builtin "LookupError.__init__"))) (ii_NoPlace : PySem.W.findIn K (.ref C_NoPlace) "__init__" = some (some (.ref fi_NoPlace))) (it_NoPlace : PySem.W.typeIn K (.ref fi_NoPlace) = some (.type "function")) (l_NoPlace : K.lookup fi_NoPlace = some ⟨ci_NoPlace, oi_NoPlace, .func (PySem.W.ksFn "__init__" "NoPlace.__init__" (defArgs (inSt (topS 2))) (defBody (inSt (topS 2))) (defScope (inSt (topS 2))) .none ki_NoPlace di_NoPlace mi_NoPlace ai_NoPlace (.ref ca_NoPlace) ti_NoPlace ce_NoPlace), li_NoPlace⟩) (cc_NoPlace : PySem.W.codeIn K (.ref ca_NoPlace) "NoPlace.__init__" = true) (lc_NoPlace : K.lookup ca_NoPlace = some ⟨cj_NoPlace, oj_NoPlace, .fields vs_NoPlace, lj_NoPlace⟩) (lv_NoPlace : vs_NoPlace[2]? = some (.str fn_NoPlace tf_NoPlace)) (lf_NoPlace : (l.prog.main.file == fn_NoPlace) = true) (lx_NoPlace : K.lookup ce_NoPlace = some ⟨ck_NoPlace, ok_NoPlace, .cell (some (.ref C_NoPlace)), lk_NoPlace⟩) (lC_NoPlace : PySem.W.clsIn K C_NoPlace = some cl_NoPlace) (tp_NoPlace : (l.prog.main.scope.names.lookup ("super" : Str)).isSome = false) (q_CanNot : PySem.W.excIn K C_CanNot [.type "ValueError", .type "Exception", .type "BaseException", .type "object"] "ValueError.__new__" = true) (k_CanNot : PySem.W.keepIn K (.ref C_CanNot) = true) (q_TooMany : PySem.W.excIn K C_TooMany [.type "ValueError", .type "Exception", .type "BaseException", .type "object"] "ValueError.__new__" = true) (k_TooMany : PySem.W.keepIn K (.ref C_TooMany) = true) (r_Unfit_BadText : PySem.W.subIn K (.ref C_Unfit) (.ref C_BadText) = some false) (r_NoPlace_BadText : PySem.W.subIn K (.ref C_NoPlace) (.ref C_BadText) = some false) (r_CanNot_BadText : PySem.W.subIn K (.ref C_CanNot) (.ref C_BadText) = some false) (r_TooMany_BadText : PySem.W.subIn K (.ref C_TooMany) (.ref C_BadText) = some false) (r_Unfit_CanNot : PySem.W.subIn K (.ref C_Unfit) (.ref C_CanNot) = some false) (r_NoPlace_CanNot : PySem.W.subIn K (.ref C_NoPlace) (.ref C_CanNot) = some false) (r_CanNot_CanNot : PySem.W.subIn K (.ref C_CanNot) (.ref C_CanNot) = some true) (r_TooMany_CanNot : PySem.W.subIn K (.ref C_TooMany) (.ref C_CanNot) = some false) (r_Unfit_NoPlace : PySem.W.subIn K (.ref C_Unfit) (.ref C_NoPlace) = some false) (r_NoPlace_NoPlace : PySem.W.subIn K (.ref C_NoPlace) (.ref C_NoPlace) = some true) (r_CanNot_NoPlace : PySem.W.subIn K (.ref C_CanNot) (.ref C_NoPlace) = some false) (r_TooMany_NoPlace : PySem.W.subIn K (.ref C_TooMany) (.ref C_NoPlace) = some false) (r_Unfit_TooMany : PySem.W.subIn K (.ref C_Unfit) (.ref C_TooMany) = some false) (r_NoPlace_TooMany : PySem.W.subIn K (.ref C_NoPlace) (.ref C_TooMany) = some false) (r_CanNot_TooMany : PySem.W.subIn K (.ref C_CanNot) (.ref C_TooMany) = some false) (r_TooMany_TooMany : PySem.W.subIn K (.ref C_TooMany) (.ref C_TooMany) = some true) (r_Unfit_Unfit : PySem.W.subIn K (.ref C_Unfit) (.ref C_Unfit) = some true) (r_NoPlace_Unfit : PySem.W.subIn K (.ref C_NoPlace) (.ref C_Unfit) = some false) (r_CanNot_Unfit : PySem.W.subIn K (.ref C_CanNot) (.ref C_Unfit) = some false) (r_TooMany_Unfit : PySem.W.subIn K (.ref C_TooMany) (.ref C_Unfit) = some false) (hg_CanNot : PySem.W.findIn K (.ref C_CanNot) "__getattribute__" = some (some (.builtin "BaseException.__getattribute__"))) (hk_CanNot : PySem.W.findIn K (.ref C_CanNot) "__getattr__" = some none) (ha_CanNot : PySem.W.findIn K (.ref C_CanNot) "__class__" = some (some (.builtin "object.__class__"))) (hm_CanNot : PySem.W.mroIn K C_CanNot (.type "object") = some true) (ko_CanNot : PySem.W.kitOne K (.ref C_CanNot) (.type "ValueError") = some true) (hg_TooMany : PySem.W.findIn K (.ref C_TooMany) "__getattribute__" = some (some (.builtin "BaseException.__getattribute__"))) (hk_TooMany : PySem.W.findIn K (.ref C_TooMany) "__getattr__" = some none) (ha_TooMany : PySem.W.findIn K (.ref C_TooMany) "__class__" = some (some (.builtin "object.__class__"))) (hm_TooMany : PySem.W.mroIn K C_TooMany (.type "object") = some true) (ko_TooMany : PySem.W.kitOne K (.ref C_TooMany) (.type "ValueError") = some true) (hg_Unfit : PySem.W.findIn K (.ref C_Unfit) "__getattribute__" = some (some (.builtin "BaseException.__getattribute__"))) (hk_Unfit : PySem.W.findIn K (.ref C_Unfit) "__getattr__" = some none) (ha_Unfit : PySem.W.findIn K (.ref C_Unfit) "__class__" = some (some (.builtin "object.__class__"))) (hm_Unfit : PySem.W.mroIn K C_Unfit (.type "object") = some true) (ko_Unfit : PySem.W.kitOne K (.ref C_Unfit) (.type "ValueError") = some true) (hg_NoPlace : PySem.W.findIn K (.ref C_NoPlace) "__getattribute__" = some (some (.builtin "BaseException.__getattribute__"))) (hk_NoPlace : PySem.W.findIn K (.ref C_NoPlace) "__getattr__" = some none) (ha_NoPlace : PySem.W.findIn K (.ref C_NoPlace) "__class__" = some (some (.builtin "object.__class__"))) (hf_NoPlace : PySem.W.findIn K (.ref C_NoPlace) "place" = some none) (hm_NoPlace : PySem.W.mroIn K C_NoPlace (.type "object") = some true) (ko_NoPlace : PySem.W.kitOne K (.ref C_NoPlace) (.type "LookupError") = some true) (hn0 : PySem.W.specialIn K (.builtin "object.__class__") "__get__" = some (some (.builtin "getset_descriptor.__get__"))) (ht0 : PySem.W.takesIn K (.builtin "object.__class__") = some true) :
    ∃ fd : FuncData, (∀ (s : Shared) (v : Value), BindsTo s fd ⟨[v], []⟩ [("script", v)]) ∧ ∀ base : Heap, K.In base → base.Ns mainGlobals mg → SeerP l.prog base → FnOk l.prog w K mg base (L2.CX l.prog w) 73 fa fd ["script"] (spLaw K) := by
  have e := hfa.symm.trans (PySem.W.mg_of X G a_law)
  cases e
  have zz : ∀ base : Heap, SeerP l.prog base → Fa K mg ⟨fun j => match j with | 0 => some f_values_hinged | 1 => some f_ratios_hinged | 2 => some f_values_after | 3 => some f_new_values | 4 => some f_ratios_after | 5 => some f_ratios_of | 6 => some f_even_values | 7 => some f_are_whole | 8 => some f_is_values | 9 => some f_is_shades | 10 => some f_shades_hinged | 11 => some f_shades_after | 12 => some f_is_green_row | 13 => some f_sums_after | 14 => some f_is_full_row | 15 => some f_full_row | 16 => some f_first_shades | 17 => some f_greens | 18 => some f_sum_added | 19 => some f_sum_times | 20 => some f_sum_over | 21 => some f_sum_value | 22 => some f_bottoms | 23 => some f_letter | 24 => some f_is_letter_sum | _ => none, fun j => match j with | 0 => some C_Unfit | 1 => some C_NoPlace | 2 => some C_CanNot | 3 => some C_TooMany | _ => none, fun j => match j with | 1 => ["place"] | _ => []⟩ l.prog base := fun base SP => {
    seer := SP,
    f__law_box := (fnF_mk X G a__law_box l__law_box cc__law_box k__law_box fun _ _ _ _ _ _ us hl => match us, hl with | [_, _], _ => rfl),
    f__law_joins := (fnF_mk X G a__law_joins l__law_joins cc__law_joins k__law_joins fun _ _ _ _ _ _ us hl => match us, hl with | [_], _ => rfl),
    f__law_take := (fnF_mk X G a__law_take l__law_take cc__law_take k__law_take fun _ _ _ _ _ _ us hl => match us, hl with | [_, _], _ => rfl),
    f__law_kind_web := (fnF_mk X G a__law_kind_web l__law_kind_web cc__law_kind_web k__law_kind_web fun _ _ _ _ _ _ us hl => match us, hl with | [_, _], _ => rfl),
    f_tupled := (fnF_mk X G a_tupled l_tupled cc_tupled k_tupled fun _ _ _ _ _ _ us hl => match us, hl with | [_], _ => rfl),
    f_is_long := (fnF_mk X G a_is_long l_is_long cc_is_long k_is_long fun _ _ _ _ _ _ us hl => match us, hl with | [_, _], _ => rfl),
    f_is_number := (fnF_mk X G a_is_number l_is_number cc_is_number k_is_number fun _ _ _ _ _ _ us hl => match us, hl with | [_], _ => rfl),
    f_is_table := (fnF_mk X G a_is_table l_is_table cc_is_table k_is_table fun _ _ _ _ _ _ us hl => match us, hl with | [_], _ => rfl),
    f_beside := (fnF_mk X G a_beside l_beside cc_beside k_beside fun _ _ _ _ _ _ us hl => match us, hl with | [_, _], _ => rfl),
    f_part_from := (fnF_mk X G a_part_from l_part_from cc_part_from k_part_from fun _ _ _ _ _ _ us hl => match us, hl with | [_, _], _ => rfl),
    f_whole_weights := (fnF_mk X G a_whole_weights l_whole_weights cc_whole_weights k_whole_weights fun _ _ _ _ _ _ us hl => match us, hl with | [_], _ => rfl),
    f_lowest_ratio := (fnF_mk X G a_lowest_ratio l_lowest_ratio cc_lowest_ratio k_lowest_ratio fun _ _ _ _ _ _ us hl => match us, hl with | [_, _], _ => rfl),
    f_sign := (fnF_mk X G a_sign l_sign cc_sign k_sign fun _ _ _ _ _ _ us hl => match us, hl with | [_], _ => rfl),
    f_part_weights := (fnF_mk X G a_part_weights l_part_weights cc_part_weights k_part_weights fun _ _ _ _ _ _ us hl => match us, hl with | [_, _], _ => rfl),
    f_weights_in := (fnF_mk X G a_weights_in l_weights_in cc_weights_in k_weights_in fun _ _ _ _ _ _ us hl => match us, hl with | [_], _ => rfl),
    f_is_web := (fnF_mk X G a_is_web l_is_web cc_is_web k_is_web fun _ _ _ _ _ _ us hl => match us, hl with | [_], _ => rfl),
    f_sure_web := (fnF_mk X G a_sure_web l_sure_web cc_sure_web k_sure_web fun _ _ _ _ _ _ us hl => match us, hl with | [_], _ => rfl),
    f_new_value := (fnF_mk X G a_new_value l_new_value cc_new_value k_new_value fun _ _ _ _ _ _ us hl => match us, hl with | [_, _, _], _ => rfl),
    f_turned_values := (fnF_mk X G a_turned_values l_turned_values cc_turned_values k_turned_values fun _ _ _ _ _ _ us hl => match us, hl with | [_, _, _], _ => rfl),
    f_is_from := (fnF_mk X G a_is_from l_is_from cc_is_from k_is_from fun _ _ _ _ _ _ us hl => match us, hl with | [_, _], _ => rfl),
    f_is_fraction := (fnF_mk X G a_is_fraction l_is_fraction cc_is_fraction k_is_fraction fun _ _ _ _ _ _ us hl => match us, hl with | [_], _ => rfl),
    f_is_values_of := (fnF_mk X G a_is_values_of l_is_values_of cc_is_values_of k_is_values_of fun _ _ _ _ _ _ us hl => match us, hl with | [_, _], _ => rfl),
    f_sure_values := (fnF_mk X G a_sure_values l_sure_values cc_sure_values k_sure_values fun _ _ _ _ _ _ us hl => match us, hl with | [_, _], _ => rfl),
    f_sure_number := (fnF_mk X G a_sure_number l_sure_number cc_sure_number k_sure_number fun _ _ _ _ _ _ us hl => match us, hl with | [_], _ => rfl),
    f_is_below := (fnF_mk X G a_is_below l_is_below cc_is_below k_is_below fun _ _ _ _ _ _ us hl => match us, hl with | [_, _], _ => rfl),
    f_known_place := (fnF_mk X G a_known_place l_known_place cc_known_place k_known_place fun _ _ _ _ _ _ us hl => match us, hl with | [_, _], _ => rfl),
    f_values_hinged := (fnF_mk X G a_values_hinged l_values_hinged cc_values_hinged k_values_hinged fun _ _ _ _ _ _ us hl => match us, hl with | [_, _, _], _ => rfl),
    f_lowest := (fnF_mk X G a_lowest l_lowest cc_lowest k_lowest fun _ _ _ _ _ _ us hl => match us, hl with | [_, _], _ => rfl),
    f_over := (fnF_mk X G a_over l_over cc_over k_over fun _ _ _ _ _ _ us hl => match us, hl with | [_, _], _ => rfl),
    f_times := (fnF_mk X G a_times l_times cc_times k_times fun _ _ _ _ _ _ us hl => match us, hl with | [_, _], _ => rfl),
    f_power := (fnF_mk X G a_power l_power cc_power k_power fun _ _ _ _ _ _ us hl => match us, hl with | [_, _], _ => rfl),
    f_added := (fnF_mk X G a_added l_added cc_added k_added fun _ _ _ _ _ _ us hl => match us, hl with | [_, _], _ => rfl),
    f_carried := (fnF_mk X G a_carried l_carried cc_carried k_carried fun _ _ _ _ _ _ us hl => match us, hl with | [_, _, _], _ => rfl),
    f_turned_ratios := (fnF_mk X G a_turned_ratios l_turned_ratios cc_turned_ratios k_turned_ratios fun _ _ _ _ _ _ us hl => match us, hl with | [_, _, _], _ => rfl),
    f_sure_ratios := (fnF_mk X G a_sure_ratios l_sure_ratios cc_sure_ratios k_sure_ratios fun _ _ _ _ _ _ us hl => match us, hl with | [_, _], _ => rfl),
    f_ratios_hinged := (fnF_mk X G a_ratios_hinged l_ratios_hinged cc_ratios_hinged k_ratios_hinged fun _ _ _ _ _ _ us hl => match us, hl with | [_, _, _], _ => rfl),
    f_sure_row := (fnF_mk X G a_sure_row l_sure_row cc_sure_row k_sure_row fun _ _ _ _ _ _ us hl => match us, hl with | [_], _ => rfl),
    f_walked_values := (fnF_mk X G a_walked_values l_walked_values cc_walked_values k_walked_values fun _ _ _ _ _ _ us hl => match us, hl with | [_, _, _], _ => rfl),
    f_known_row := (fnF_mk X G a_known_row l_known_row cc_known_row k_known_row fun _ _ _ _ _ _ us hl => match us, hl with | [_, _], _ => rfl),
    f_values_after := (fnF_mk X G a_values_after l_values_after cc_values_after k_values_after fun _ _ _ _ _ _ us hl => match us, hl with | [_, _, _], _ => rfl),
    f_new_values := (fnF_mk X G a_new_values l_new_values cc_new_values k_new_values fun _ _ _ _ _ _ us hl => match us, hl with | [_, _, _], _ => rfl),
    f_hinge := (fnF_mk X G a_hinge l_hinge cc_hinge k_hinge fun _ _ _ _ _ _ us hl => match us, hl with | [_, _], _ => rfl),
    f_ratios_after := (fnF_mk X G a_ratios_after l_ratios_after cc_ratios_after k_ratios_after fun _ _ _ _ _ _ us hl => match us, hl with | [_, _, _], _ => rfl),
    f_walked_shades := (fnF_mk X G a_walked_shades l_walked_shades cc_walked_shades k_walked_shades fun _ _ _ _ _ _ us hl => match us, hl with | [_, _, _], _ => rfl),
    f_unit_row := (fnF_mk X G a_unit_row l_unit_row cc_unit_row k_unit_row fun _ _ _ _ _ _ us hl => match us, hl with | [_, _], _ => rfl),
    f_first_in := (fnF_mk X G a_first_in l_first_in cc_first_in k_first_in fun _ _ _ _ _ _ us hl => match us, hl with | [_], _ => rfl),
    f_shades_after := (fnF_mk X G a_shades_after l_shades_after cc_shades_after k_shades_after fun _ _ _ _ _ _ us hl => match us, hl with | [_, _], _ => rfl),
    f_goes_up := (fnF_mk X G a_goes_up l_goes_up cc_goes_up k_goes_up fun _ _ _ _ _ _ us hl => match us, hl with | [_], _ => rfl),
    f_green_path := (fnF_mk X G a_green_path l_green_path cc_green_path k_green_path fun _ _ _ _ _ _ us hl => match us, hl with | [_, _], _ => rfl),
    f_is_green_row := (fnF_mk X G a_is_green_row l_is_green_row cc_is_green_row k_is_green_row fun _ _ _ _ _ _ us hl => match us, hl with | [_, _], _ => rfl),
    f_walked_sums := (fnF_mk X G a_walked_sums l_walked_sums cc_walked_sums k_walked_sums fun _ _ _ _ _ _ us hl => match us, hl with | [_, _], _ => rfl),
    f_sums_after := (fnF_mk X G a_sums_after l_sums_after cc_sums_after k_sums_after fun _ _ _ _ _ _ us hl => match us, hl with | [_, _], _ => rfl),
    f_gathered := (fnF_mk X G a_gathered l_gathered cc_gathered k_gathered fun _ _ _ _ _ _ us hl => match us, hl with | [_], _ => rfl),
    f_plus := (fnFD_mk (n := 2) X G a_plus l_plus cc_plus k_plus lT_plus rfl fun _ _ _ _ _ _ _ us its hu hi => match us, its, hu, hi with | [u0, u1], [d], _, _ => ⟨_, rfl, rfl⟩),
    f_ascends := (fnF_mk X G a_ascends l_ascends cc_ascends k_ascends fun _ _ _ _ _ _ us hl => match us, hl with | [_], _ => rfl),
    f_is_sum_of := (fnF_mk X G a_is_sum_of l_is_sum_of cc_is_sum_of k_is_sum_of fun _ _ _ _ _ _ us hl => match us, hl with | [_, _], _ => rfl),
    f_sure_sum := (fnF_mk X G a_sure_sum l_sure_sum cc_sure_sum k_sure_sum fun _ _ _ _ _ _ us hl => match us, hl with | [_, _], _ => rfl),
    f_sure_many := (fnF_mk X G a_sure_many l_sure_many cc_sure_many k_sure_many fun _ _ _ _ _ _ us hl => match us, hl with | [_], _ => rfl),
    f_sum_added := (fnF_mk X G a_sum_added l_sum_added cc_sum_added k_sum_added fun _ _ _ _ _ _ us hl => match us, hl with | [_, _, _], _ => rfl),
    f_shifted := (fnF_mk X G a_shifted l_shifted cc_shifted k_shifted fun _ _ _ _ _ _ us hl => match us, hl with | [_, _], _ => rfl),
    f_multiplied := (fnF_mk X G a_multiplied l_multiplied cc_multiplied k_multiplied fun _ _ _ _ _ _ us hl => match us, hl with | [_, _], _ => rfl),
    f_sum_times := (fnF_mk X G a_sum_times l_sum_times cc_sum_times k_sum_times fun _ _ _ _ _ _ us hl => match us, hl with | [_, _, _], _ => rfl),
    f_quotient := (fnF_mk X G a_quotient l_quotient cc_quotient k_quotient fun _ _ _ _ _ _ us hl => match us, hl with | [_, _], _ => rfl),
    f_sum_over := (fnF_mk X G a_sum_over l_sum_over cc_sum_over k_sum_over fun _ _ _ _ _ _ us hl => match us, hl with | [_, _, _], _ => rfl),
    f__law_same := (fnF_mk X G a__law_same l__law_same cc__law_same k__law_same fun _ _ _ _ _ _ us hl => match us, hl with | [_, _], _ => rfl),
    f__law_cells := (fnF_mk X G a__law_cells l__law_cells cc__law_cells k__law_cells fun _ _ _ _ _ _ us hl => match us, hl with | [_, _], _ => rfl),
    f__law_of := (fnF_mk X G a__law_of l__law_of cc__law_of k__law_of fun _ _ _ _ _ _ us hl => match us, hl with | [_, _], _ => rfl),
    f__law_bad_webs := (fnF_mk X G a__law_bad_webs l__law_bad_webs cc__law_bad_webs k__law_bad_webs fun _ _ _ _ _ _ us hl => match us, hl with | [], _ => rfl),
    f_product_of := (fnF_mk X G a_product_of l_product_of cc_product_of k_product_of fun _ _ _ _ _ _ us hl => match us, hl with | [_, _], _ => rfl),
    f_ratio_at := (fnF_mk X G a_ratio_at l_ratio_at cc_ratio_at k_ratio_at fun _ _ _ _ _ _ us hl => match us, hl with | [_, _, _], _ => rfl),
    f_ratios_of := (fnF_mk X G a_ratios_of l_ratios_of cc_ratios_of k_ratios_of fun _ _ _ _ _ _ us hl => match us, hl with | [_, _], _ => rfl),
    f_even_values := (fnF_mk X G a_even_values l_even_values cc_even_values k_even_values fun _ _ _ _ _ _ us hl => match us, hl with | [_], _ => rfl),
    f_are_whole := (fnF_mk X G a_are_whole l_are_whole cc_are_whole k_are_whole fun _ _ _ _ _ _ us hl => match us, hl with | [_], _ => rfl),
    f_is_values := (fnF_mk X G a_is_values l_is_values cc_is_values k_is_values fun _ _ _ _ _ _ us hl => match us, hl with | [_, _], _ => rfl),
    f_is_shades_of := (fnF_mk X G a_is_shades_of l_is_shades_of cc_is_shades_of k_is_shades_of fun _ _ _ _ _ _ us hl => match us, hl with | [_, _], _ => rfl),
    f_is_shades := (fnF_mk X G a_is_shades l_is_shades cc_is_shades k_is_shades fun _ _ _ _ _ _ us hl => match us, hl with | [_, _], _ => rfl),
    f_shaded := (fnF_mk X G a_shaded l_shaded cc_shaded k_shaded fun _ _ _ _ _ _ us hl => match us, hl with | [_, _, _], _ => rfl),
    f_sure_shades := (fnF_mk X G a_sure_shades l_sure_shades cc_sure_shades k_sure_shades fun _ _ _ _ _ _ us hl => match us, hl with | [_, _], _ => rfl),
    f_shades_hinged := (fnF_mk X G a_shades_hinged l_shades_hinged cc_shades_hinged k_shades_hinged fun _ _ _ _ _ _ us hl => match us, hl with | [_, _, _], _ => rfl),
    f_green_in := (fnF_mk X G a_green_in l_green_in cc_green_in k_green_in fun _ _ _ _ _ _ us hl => match us, hl with | [_], _ => rfl),
    f_is_full_row := (fnF_mk X G a_is_full_row l_is_full_row cc_is_full_row k_is_full_row fun _ _ _ _ _ _ us hl => match us, hl with | [_, _], _ => rfl),
    f_full_row := (fnF_mk X G a_full_row l_full_row cc_full_row k_full_row fun _ _ _ _ _ _ us hl => match us, hl with | [_], _ => rfl),
    f_first_shades := (fnF_mk X G a_first_shades l_first_shades cc_first_shades k_first_shades fun _ _ _ _ _ _ us hl => match us, hl with | [_], _ => rfl),
    f_greens := (fnF_mk X G a_greens l_greens cc_greens k_greens fun _ _ _ _ _ _ us hl => match us, hl with | [_], _ => rfl),
    f_value_of := (fnF_mk X G a_value_of l_value_of cc_value_of k_value_of fun _ _ _ _ _ _ us hl => match us, hl with | [_, _], _ => rfl),
    f_sum_value := (fnF_mk X G a_sum_value l_sum_value cc_sum_value k_sum_value fun _ _ _ _ _ _ us hl => match us, hl with | [_, _, _], _ => rfl),
    f_bottoms := (fnF_mk X G a_bottoms l_bottoms cc_bottoms k_bottoms fun _ _ _ _ _ _ us hl => match us, hl with | [_, _], _ => rfl),
    f_letter_in := (fnF_mk X G a_letter_in l_letter_in cc_letter_in k_letter_in fun _ _ _ _ _ _ us hl => match us, hl with | [_, _], _ => rfl),
    f_letter := (fnF_mk X G a_letter l_letter cc_letter k_letter fun _ _ _ _ _ _ us hl => match us, hl with | [_, _], _ => rfl),
    f_is_letter_sum := (fnF_mk X G a_is_letter_sum l_is_letter_sum cc_is_letter_sum k_is_letter_sum fun _ _ _ _ _ _ us hl => match us, hl with | [_, _], _ => rfl),
    f__law_heard := (fnF_mk X G a__law_heard l__law_heard cc__law_heard k__law_heard fun _ _ _ _ _ _ us hl => match us, hl with | [_, _], _ => rfl),
    f__law_all_unfit := (fnF_mk X G a__law_all_unfit l__law_all_unfit cc__law_all_unfit k__law_all_unfit fun _ _ _ _ _ _ us hl => match us, hl with | [_], _ => rfl),
    f_law := (fnF_mk X G a_law l_law cc_law k_law fun _ _ _ _ _ _ us hl => match us, hl with | [_], _ => rfl),
    t_values_hinged := (⟨_, PySem.W.mg_of X G a_values_hinged, rfl⟩),
    t_ratios_hinged := (⟨_, PySem.W.mg_of X G a_ratios_hinged, rfl⟩),
    t_values_after := (⟨_, PySem.W.mg_of X G a_values_after, rfl⟩),
    t_new_values := (⟨_, PySem.W.mg_of X G a_new_values, rfl⟩),
    t_ratios_after := (⟨_, PySem.W.mg_of X G a_ratios_after, rfl⟩),
    t_ratios_of := (⟨_, PySem.W.mg_of X G a_ratios_of, rfl⟩),
    t_even_values := (⟨_, PySem.W.mg_of X G a_even_values, rfl⟩),
    t_are_whole := (⟨_, PySem.W.mg_of X G a_are_whole, rfl⟩),
    t_is_values := (⟨_, PySem.W.mg_of X G a_is_values, rfl⟩),
    t_is_shades := (⟨_, PySem.W.mg_of X G a_is_shades, rfl⟩),
    t_shades_hinged := (⟨_, PySem.W.mg_of X G a_shades_hinged, rfl⟩),
    t_shades_after := (⟨_, PySem.W.mg_of X G a_shades_after, rfl⟩),
    t_is_green_row := (⟨_, PySem.W.mg_of X G a_is_green_row, rfl⟩),
    t_sums_after := (⟨_, PySem.W.mg_of X G a_sums_after, rfl⟩),
    t_is_full_row := (⟨_, PySem.W.mg_of X G a_is_full_row, rfl⟩),
    t_full_row := (⟨_, PySem.W.mg_of X G a_full_row, rfl⟩),
    t_first_shades := (⟨_, PySem.W.mg_of X G a_first_shades, rfl⟩),
    t_greens := (⟨_, PySem.W.mg_of X G a_greens, rfl⟩),
    t_sum_added := (⟨_, PySem.W.mg_of X G a_sum_added, rfl⟩),
    t_sum_times := (⟨_, PySem.W.mg_of X G a_sum_times, rfl⟩),
    t_sum_over := (⟨_, PySem.W.mg_of X G a_sum_over, rfl⟩),
    t_sum_value := (⟨_, PySem.W.mg_of X G a_sum_value, rfl⟩),
    t_bottoms := (⟨_, PySem.W.mg_of X G a_bottoms, rfl⟩),
    t_letter := (⟨_, PySem.W.mg_of X G a_letter, rfl⟩),
    t_is_letter_sum := (⟨_, PySem.W.mg_of X G a_is_letter_sum, rfl⟩),
    t_all := (fun j f h => by
      match j, h with
      | 0, _ => omega
      | 1, _ => omega
      | 2, _ => omega
      | 3, _ => omega
      | 4, _ => omega
      | 5, _ => omega
      | 6, _ => omega
      | 7, _ => omega
      | 8, _ => omega
      | 9, _ => omega
      | 10, _ => omega
      | 11, _ => omega
      | 12, _ => omega
      | 13, _ => omega
      | 14, _ => omega
      | 15, _ => omega
      | 16, _ => omega
      | 17, _ => omega
      | 18, _ => omega
      | 19, _ => omega
      | 20, _ => omega
      | 21, _ => omega
      | 22, _ => omega
      | 23, _ => omega
      | 24, _ => omega
      | n + 25, h => cases h),
    n_LookupError := (PySem.W.mg_none_of X G n_LookupError),
    n_ValueError := (PySem.W.mg_none_of X G n_ValueError),
    n_abs := (PySem.W.mg_none_of X G n_abs),
    n_all := (PySem.W.mg_none_of X G n_all),
    n_any := (PySem.W.mg_none_of X G n_any),
    n_bool := (PySem.W.mg_none_of X G n_bool),
    n_dict := (PySem.W.mg_none_of X G n_dict),
    n_enumerate := (PySem.W.mg_none_of X G n_enumerate),
    n_int := (PySem.W.mg_none_of X G n_int),
    n_isinstance := (PySem.W.mg_none_of X G n_isinstance),
    n_len := (PySem.W.mg_none_of X G n_len),
    n_list := (PySem.W.mg_none_of X G n_list),
    n_max := (PySem.W.mg_none_of X G n_max),
    n_min := (PySem.W.mg_none_of X G n_min),
    n_range := (PySem.W.mg_none_of X G n_range),
    n_sorted := (PySem.W.mg_none_of X G n_sorted),
    n_str := (PySem.W.mg_none_of X G n_str),
    n_super := (PySem.W.mg_none_of X G n_super),
    n_tuple := (PySem.W.mg_none_of X G n_tuple),
    n_zip := (PySem.W.mg_none_of X G n_zip),
    c_MOST_LETTERS := (con_i X G u_MOST_LETTERS),
    c_MOST_TERMS := (con_i X G u_MOST_TERMS),
    c_ONE := (con_t2 X G u_ONE v_ONE),
    b_gcd := (PySem.W.mg_of X G b_gcd),
    w_Search := (⟨_, PySem.W.mg_of X G a_Search⟩),
    x_Unfit := (exc0_mk X G a_Unfit rfl q_Unfit k_Unfit s_Unfit y_Unfit),
    x_NoPlace := (have Z0 : SupC K C_NoPlace "place" "LookupError" "LookupError.__new__" "LookupError.__init__" [.type "LookupError", .type "Exception", .type "BaseException", .type "object"] := ⟨PySem.F.excBase_LookupError, PySem.W.kxs_LookupError, PySem.F.store_LookupError, q_NoPlace, o_NoPlace, sa_NoPlace, ta_NoPlace, d_NoPlace, sB_NoPlace, sC_NoPlace, op_NoPlace, su_NoPlace, s_NoPlace, y_NoPlace, k_NoPlace⟩; exc1_mk X G a_NoPlace rfl rfl Z0 ii_NoPlace it_NoPlace (init_ok (st := (inSt (topS 2))) (sf := "self") (y := "place") Z0 (PySem.W.mg_none_of X G n_super) l_NoPlace cc_NoPlace lc_NoPlace lv_NoPlace lf_NoPlace lx_NoPlace lC_NoPlace tp_NoPlace rfl)),
    x_CanNot := (exc0_mk X G a_CanNot rfl q_CanNot k_CanNot s_CanNot y_CanNot),
    x_TooMany := (exc0_mk X G a_TooMany rfl q_TooMany k_TooMany s_TooMany y_TooMany),
    k_BadText := (⟨_, PySem.W.mg_of X G a_BadText, fun j C h => by
      match j, h with
      | 0, h => cases h; exact PySem.W.exm_ref s_BadText d_BadText y_BadText r_Unfit_BadText
      | 1, h => cases h; exact PySem.W.exm_ref s_BadText d_BadText y_BadText r_NoPlace_BadText
      | 2, h => cases h; exact PySem.W.exm_ref s_BadText d_BadText y_BadText r_CanNot_BadText
      | 3, h => cases h; exact PySem.W.exm_ref s_BadText d_BadText y_BadText r_TooMany_BadText
      | n + 4, h => cases h⟩),
    k_CanNot := (⟨_, PySem.W.mg_of X G a_CanNot, fun j C h => by
      match j, h with
      | 0, h => cases h; exact PySem.W.exm_ref s_CanNot d_CanNot y_CanNot r_Unfit_CanNot
      | 1, h => cases h; exact PySem.W.exm_ref s_CanNot d_CanNot y_CanNot r_NoPlace_CanNot
      | 2, h => cases h; exact PySem.W.exm_ref s_CanNot d_CanNot y_CanNot r_CanNot_CanNot
      | 3, h => cases h; exact PySem.W.exm_ref s_CanNot d_CanNot y_CanNot r_TooMany_CanNot
      | n + 4, h => cases h⟩),
    k_NoPlace := (⟨_, PySem.W.mg_of X G a_NoPlace, fun j C h => by
      match j, h with
      | 0, h => cases h; exact PySem.W.exm_ref s_NoPlace d_NoPlace y_NoPlace r_Unfit_NoPlace
      | 1, h => cases h; exact PySem.W.exm_ref s_NoPlace d_NoPlace y_NoPlace r_NoPlace_NoPlace
      | 2, h => cases h; exact PySem.W.exm_ref s_NoPlace d_NoPlace y_NoPlace r_CanNot_NoPlace
      | 3, h => cases h; exact PySem.W.exm_ref s_NoPlace d_NoPlace y_NoPlace r_TooMany_NoPlace
      | n + 4, h => cases h⟩),
    k_TooMany := (⟨_, PySem.W.mg_of X G a_TooMany, fun j C h => by
      match j, h with
      | 0, h => cases h; exact PySem.W.exm_ref s_TooMany d_TooMany y_TooMany r_Unfit_TooMany
      | 1, h => cases h; exact PySem.W.exm_ref s_TooMany d_TooMany y_TooMany r_NoPlace_TooMany
      | 2, h => cases h; exact PySem.W.exm_ref s_TooMany d_TooMany y_TooMany r_CanNot_TooMany
      | 3, h => cases h; exact PySem.W.exm_ref s_TooMany d_TooMany y_TooMany r_TooMany_TooMany
      | n + 4, h => cases h⟩),
    k_Unfit := (⟨_, PySem.W.mg_of X G a_Unfit, fun j C h => by
      match j, h with
      | 0, h => cases h; exact PySem.W.exm_ref s_Unfit d_Unfit y_Unfit r_Unfit_Unfit
      | 1, h => cases h; exact PySem.W.exm_ref s_Unfit d_Unfit y_Unfit r_NoPlace_Unfit
      | 2, h => cases h; exact PySem.W.exm_ref s_Unfit d_Unfit y_Unfit r_CanNot_Unfit
      | 3, h => cases h; exact PySem.W.exm_ref s_Unfit d_Unfit y_Unfit r_TooMany_Unfit
      | n + 4, h => cases h⟩),
    s_CanNot := (⟨fun j C h c => by
      match j, h, c with
      | 0, h, c => cases c
      | 1, h, c => cases c
      | 2, h, c => cases h; exact ⟨⟨hg_CanNot, hk_CanNot, s_CanNot, d_CanNot, ha_CanNot, hn0, ht0, hm_CanNot⟩, ko_CanNot⟩
      | 3, h, c => cases c
      | n + 4, h, c => cases h⟩),
    s_TooMany := (⟨fun j C h c => by
      match j, h, c with
      | 0, h, c => cases c
      | 1, h, c => cases c
      | 2, h, c => cases c
      | 3, h, c => cases h; exact ⟨⟨hg_TooMany, hk_TooMany, s_TooMany, d_TooMany, ha_TooMany, hn0, ht0, hm_TooMany⟩, ko_TooMany⟩
      | n + 4, h, c => cases h⟩),
    s_Unfit := (⟨fun j C h c => by
      match j, h, c with
      | 0, h, c => cases h; exact ⟨⟨hg_Unfit, hk_Unfit, s_Unfit, d_Unfit, ha_Unfit, hn0, ht0, hm_Unfit⟩, ko_Unfit⟩
      | 1, h, c => cases c
      | 2, h, c => cases c
      | 3, h, c => cases c
      | n + 4, h, c => cases h⟩),
    s_NoPlace := (⟨fun j C h c => by
      match j, h, c with
      | 0, h, c => cases c
      | 1, h, c => cases h; exact ⟨⟨hg_NoPlace, hk_NoPlace, s_NoPlace, d_NoPlace, ha_NoPlace, hn0, ht0, hm_NoPlace⟩, ⟨hg_NoPlace, hk_NoPlace, s_NoPlace, d_NoPlace⟩, hf_NoPlace, ko_NoPlace, rfl⟩
      | 2, h, c => cases c
      | 3, h, c => cases c
      | n + 4, h, c => cases h⟩) }
  refine ⟨_, fun s v => ?bb, fun base _ _ SP => (ok_law (zz base SP) (tabV (zz base SP)) (fun_mk l_law cc_law k_law)).imp (spLaw_of LT)⟩
  exact .of_eq rfl
end
end A12
set_option linter.all false
set_option maxRecDepth 10000
namespace A12
open PySem PySem.Spec PyProof.Rows L2 DL
theorem lg (x : Nat) (n : Nat) (h : x < 2 ^ n) (hn : 0 < n) : x.log2 < n := by
  by_cases h0 : x = 0
  · rw [h0]; simpa using hn
  · exact (Nat.log2_lt h0).2 h
theorem szl : sizeLine = 16777216 := sizeLine_eq
theorem eqI (a b : Int) : eqD (.int a) (.int b) = some (a == b) := by
  simp [eqD, toP, SeqAt.shaped, PyData.canLay0, PyData.depth, PyData.eqv]
theorem neI (a b : Int) : neD (.int a) (.int b) = some (!(a == b)) := by
  simp [neD, eqI]
theorem l1 : Nat.log2 1 = 0 := by decide
def Sm (x : Int) : Prop := x.natAbs < 2 ^ 1000
theorem Sm.ok {i j : Int} (h : Sm i) (h2 : Sm j) : i.natAbs.log2 + j.natAbs.log2 < 100000000 := by
  have := lg i.natAbs 1000 h (by decide)
  have := lg j.natAbs 1000 h2 (by decide)
  omega
theorem mulI {i j : Int} {s : S} (h : Sm i) (h2 : Sm j) : mulD (.int i) (.int j) s = .ok (.int (i * j)) s := by
  simp only [mulD]
  rw [if_pos (h.ok h2)]
theorem fdvI {i j : Int} {s : S} (h0 : j ≠ 0) (h : Sm j) : fdivD (.int i) (.int j) s = .ok (.int (i.fdiv j)) s := by
  have := lg j.natAbs 1000 h (by decide)
  simp only [fdivD]
  rw [if_pos ⟨h0, by omega⟩]
theorem modI {i j : Int} {s : S} (h0 : j ≠ 0) : modD (.int i) (.int j) s = .ok (.int (i.fmod j)) s := by
  simp only [modD]
  rw [if_pos h0]
theorem fm_lt (x : Int) {w : Int} (hw : 0 < w) : 0 ≤ x.fmod w ∧ x.fmod w < w := ⟨Int.fmod_nonneg_of_pos x hw, Int.fmod_lt_of_pos x hw⟩
def TinR (q : List Cell) (k : Nat) (m : List Cell) : Prop := ∃ a b c : Int, m = .lst [.int a, .int b, .int c] :: q ∧ 0 ≤ a ∧ 0 ≤ b ∧ b < 2 ^ 62 ∧ 0 ≤ c ∧ c ≤ k
theorem jx0 (a b c : Int) (q : List Cell) (r : List (Option D)) : ixD (.ref 0) (.int 0) ⟨r, .lst [.int a, .int b, .int c] :: q⟩ = .ok (.int a) ⟨r, .lst [.int a, .int b, .int c] :: q⟩ := rfl
theorem jx1 (a b c : Int) (q : List Cell) (r : List (Option D)) : ixD (.ref 0) (.int 1) ⟨r, .lst [.int a, .int b, .int c] :: q⟩ = .ok (.int b) ⟨r, .lst [.int a, .int b, .int c] :: q⟩ := rfl
theorem jx2 (a b c : Int) (q : List Cell) (r : List (Option D)) : ixD (.ref 0) (.int 2) ⟨r, .lst [.int a, .int b, .int c] :: q⟩ = .ok (.int c) ⟨r, .lst [.int a, .int b, .int c] :: q⟩ := rfl
theorem e_takeR {q0 : List Cell} {k : Nat} (hk : k < 1000000) {m : List Cell} (h : TinR q0 k m) {w : Int} (hw : 0 < w) (hw2 : w < 2 ^ 900) : ∃ r m', m__law_take [.ref 0, .int w] m = .ok (.int r) m' ∧ 0 ≤ r ∧ r < w ∧ TinR q0 (k + 1) m' := by
  obtain ⟨a, b, c, rfl, ha, hb, hb2, hc, hc2⟩ := h
  have w0 : w ≠ 0 := by omega
  have sw : Sm w := by unfold Sm; omega
  by_cases hp : 0 < a
  · refine ⟨a.fmod w, .lst [.int (a.fdiv w), .int b, .int c] :: q0, ?_, (fm_lt a hw).1, (fm_lt a hw).2, ⟨_, _, _, rfl, ?_, hb, hb2, hc, by omega⟩⟩
    · have x1 : ixN 3 0 = some 0 := by decide
      simp [m__law_take, q__law_take, mkF, sNil, sSeq, sAsg, sAsgF, sAsgC, sPar, sPar3, sIf, sRet, sFor, forL, sSetM, sSetI, sApp, sExt, sDrop, sRaise, sTry, hSay, hNil, Ex.ix, e1, e2, eBi, eIf, eVar, eC, eTup, eLst, eSl, slD, pNone, pSome, eLc, lcL, wipeD, Tg.vs, tYesS, aCons, aNil, t2, tTru, truB, truD, tNotS, tAndS, tOrS, eAndB, eOrB, eNotB, eOrV, cmpB, cmpD, iCmp, R.then, R.bind, asgD, DL.setL, addD, subD, negD, absD, DL.intD, mLst, lenD, listD, tupleD, allD, blsD, isiD, isi2D, isTy, isND, notND, DL.isNon, ltB_eq, eCallN, eCallV, callR, iN, i1, rng1I, seqI, gcdD, augD, sAug, jx0, jx1, jx2, hp, modI w0, fdvI w0 sw, x1]
    · rw [Int.fdiv_eq_ediv_of_nonneg _ (by omega)]
      exact Int.ediv_nonneg ha (by omega)
  · have x1 : ixN 3 2 = some 2 := by decide
    have sc : Sm (c + 1) := by unfold Sm; omega
    have s1 : Sm (b + 48271 * (c + 1)) := by unfold Sm; omega
    have s2 : Sm (40961 + (c + 1)) := by unfold Sm; omega
    have s3 : Sm 48271 := by unfold Sm; decide
    have s7 : Sm 1000003 := by unfold Sm; decide
    have s8 : Sm 64 := by unfold Sm; decide
    obtain ⟨o, ho⟩ : ∃ o, o = ((b + 48271 * (c + 1)) * (40961 + (c + 1))).fmod 2147483647 := ⟨_, rfl⟩
    have o1 := fm_lt ((b + 48271 * (c + 1)) * (40961 + (c + 1))) (w := 2147483647) (by decide)
    rw [← ho] at o1
    obtain ⟨v, hv⟩ : ∃ v, v = o.fmod 40009 + 7 := ⟨_, rfl⟩
    have v1 := fm_lt o (w := 40009) (by decide)
    obtain ⟨q, hq⟩ : ∃ q, q = b.fdiv 1000003 := ⟨_, rfl⟩
    have q1 : 0 ≤ q ∧ q ≤ b := by
      rw [hq, Int.fdiv_eq_ediv_of_nonneg _ (by decide)]
      omega
    have s4 : Sm (o + (c + 1) + q) := by unfold Sm; omega
    have s5 : Sm v := by unfold Sm; omega
    obtain ⟨t, ht⟩ : ∃ t, t = ((o + (c + 1) + q) * v).fmod 2147483629 := ⟨_, rfl⟩
    have t1 := fm_lt ((o + (c + 1) + q) * v) (w := 2147483629) (by decide)
    rw [← ht] at t1
    have s6 : Sm t := by unfold Sm; omega
    refine ⟨(((t * 48271 + o).fmod 2147483587).fdiv 64).fmod w, .lst [.int a, .int b, .int (c + 1)] :: q0, ?_, (fm_lt _ hw).1, (fm_lt _ hw).2, ⟨_, _, _, rfl, ha, hb, hb2, by omega, by omega⟩⟩
    simp [m__law_take, q__law_take, mkF, sNil, sSeq, sAsg, sAsgF, sAsgC, sPar, sPar3, sIf, sRet, sFor, forL, sSetM, sSetI, sApp, sExt, sDrop, sRaise, sTry, hSay, hNil, Ex.ix, e1, e2, eBi, eIf, eVar, eC, eTup, eLst, eSl, slD, pNone, pSome, eLc, lcL, wipeD, Tg.vs, tYesS, aCons, aNil, t2, tTru, truB, truD, tNotS, tAndS, tOrS, eAndB, eOrB, eNotB, eOrV, cmpB, cmpD, iCmp, R.then, R.bind, asgD, DL.setL, addD, subD, negD, absD, DL.intD, mLst, lenD, listD, tupleD, allD, blsD, isiD, isi2D, isTy, isND, notND, DL.isNon, ltB_eq, eCallN, eCallV, callR, iN, i1, rng1I, seqI, gcdD, augD, sAug, jx0, jx1, jx2, hp, x1, modI w0, modI (show (2147483647 : Int) ≠ 0 by decide), modI (show (40009 : Int) ≠ 0 by decide), modI (show (2147483629 : Int) ≠ 0 by decide), modI (show (2147483587 : Int) ≠ 0 by decide), mulI s3 sc, mulI s1 s2, ← ho, ← hv, fdvI (show (1000003 : Int) ≠ 0 by decide) s7, ← hq, mulI s4 s5, ← ht, mulI s6 s3, fdvI (show (64 : Int) ≠ 0 by decide) s8]
theorem seq_nx {f g : S → RS} {s s' : S} (h : f s = .next s') : sSeq f g s = g s' := by
  unfold sSeq
  rw [h]
theorem mulK {a b : Int} {j k : Nat} {s : S} (h1 : a.natAbs < 2 ^ j) (h2 : b.natAbs < 2 ^ k) (hj : j < 9000) (hk : k < 9000) : mulD (.int a) (.int b) s = .ok (.int (a * b)) s := by
  have l1 := lg a.natAbs (j + 1) (Nat.lt_of_lt_of_le h1 (Nat.pow_le_pow_right (by decide) (by omega))) (by omega)
  have l2 := lg b.natAbs (k + 1) (Nat.lt_of_lt_of_le h2 (Nat.pow_le_pow_right (by decide) (by omega))) (by omega)
  simp only [mulD]
  rw [if_pos (by omega)]
theorem rngS (n : Nat) (s : S) (h : n < 2 ^ 62) : rng1I [.int n] s = .ok (rngL 0 n) s := by
  unfold rng1I
  simp only
  rw [if_pos (show (n : Int).natAbs < 2 ^ 62 by omega)]
  rfl
theorem atN {α : Type} (xs : List α) (p : Nat) (h : p < xs.length) : L2.atI xs (p : Int) = xs[p]? := by
  unfold L2.atI L2.ixN
  rw [if_pos (by omega)]
  simp [h]
theorem ixl (xs : List D) (i : Int) (s : S) : ixD (.lst xs) (.int i) s = match L2.atI xs i with
  | some d => .ok d s
  | none => .stuck := rfl
theorem mulL {i j : Int} {s : S} (h : i.natAbs.log2 + j.natAbs.log2 < 100000000) : mulD (.int i) (.int j) s = .ok (.int (i * j)) s := by
  simp only [mulD]
  rw [if_pos h]
theorem md1 (n : Int) (s : S) : modD (.int n) (.int 1) s = .ok (.int 0) s := by
  rw [modI (by decide)]
  rw [Int.fmod_eq_emod_of_nonneg _ (by decide), Int.emod_one]
theorem ix10 (c : D) : L2.atI [c] 0 = some c := rfl
theorem ixn10 : L2.ixN 1 0 = some 0 := by decide
theorem cellsL (B : Nat) (hL : ∀ y : Nat, y ≤ 8192 * B → y.log2 < 90000000) (x0 : D) (m : List Cell) : ∀ (xs : List Int) (i : Nat) (c : Int) (o3 o4 o5 : Option D), (∀ z ∈ xs, z.natAbs ≤ B) → i + xs.length ≤ 62 → c.natAbs ≤ B + i * (64 * B) →
    ∃ c' o3' o4' o5', forL (.many [3, 4]) q__law_cells_b1 (((xs.map D.int).zipIdx i).map fun p => D.tup [.int (p.2 : Int), p.1]) ⟨[some x0, some (.int 1), some (.lst [.int c]), o3, o4, o5], m⟩ = .next ⟨[some x0, some (.int 1), some (.lst [.int c']), o3', o4', o5'], m⟩ ∧ c'.natAbs ≤ 8192 * B := by
  intro xs
  induction xs with
  | nil =>
    intro i c o3 o4 o5 _ hi hc
    refine ⟨c, o3, o4, o5, by simp [forL], ?_⟩
    have h1 : i * (64 * B) ≤ 62 * (64 * B) := Nat.mul_le_mul_right _ (by simpa using hi)
    omega
  | cons x xs ih =>
    intro i c o3 o4 o5 hb hi hc
    have hx : x.natAbs ≤ B := hb x (by simp)
    simp only [List.length_cons] at hi
    have hm : (x * ((i : Int) + 2)).natAbs ≤ 64 * B := by
      rw [Int.natAbs_mul]
      have : ((i : Int) + 2).natAbs ≤ 64 := by omega
      calc x.natAbs * ((i : Int) + 2).natAbs ≤ B * 64 := Nat.mul_le_mul hx this
        _ = 64 * B := Nat.mul_comm _ _
    have hc' : (c + x * ((i : Int) + 2)).natAbs ≤ B + (i + 1) * (64 * B) := by
      have h1 := Int.natAbs_add_le c (x * ((i : Int) + 2))
      rw [Nat.add_mul, Nat.one_mul]
      omega
    obtain ⟨c', o3', o4', o5', e, hq⟩ := ih (i + 1) (c + x * ((i : Int) + 2)) (some (.int i)) (some (.int x)) (some (.int 0)) (fun z hz => hb z (List.mem_cons_of_mem _ hz)) (by omega) hc'
    refine ⟨c', o3', o4', o5', ?_, hq⟩
    have l1 : x.natAbs.log2 < 90000000 := hL _ (by omega)
    have l2 : ((i : Int) + 2).natAbs.log2 < 7 := lg _ 7 (by omega) (by decide)
    have mm : ∀ s, mulD (.int x) (.int ((i : Int) + 2)) s = .ok (.int (x * ((i : Int) + 2))) s := fun s => mulL (by omega)
    rw [List.map_cons, List.zipIdx_cons, List.map_cons, forL]
    have step : q__law_cells_b1 ⟨[some x0, some (.int 1), some (.lst [.int c]), some (.int i), some (.int x), o5], m⟩ = .next ⟨[some x0, some (.int 1), some (.lst [.int (c + x * ((i : Int) + 2))]), some (.int i), some (.int x), some (.int 0)], m⟩ := by
      simp [q__law_cells_b1, mkF, sNil, sSeq, sAsg, sAsgF, sAsgC, sPar, sPar3, sIf, sRet, sFor, forL, sSetM, sSetI, sApp, sExt, sDrop, sRaise, sTry, hSay, hNil, Ex.ix, e1, e2, eBi, eIf, eVar, eC, eTup, eLst, eSl, slD, pNone, pSome, eLc, lcL, wipeD, Tg.vs, tYesS, aCons, aNil, t2, tTru, truB, truD, tNotS, tAndS, tOrS, eAndB, eOrB, eNotB, eOrV, cmpB, cmpD, iCmp, R.then, R.bind, asgD, DL.setL, addD, subD, negD, absD, DL.intD, mLst, lenD, listD, tupleD, allD, blsD, isiD, isi2D, isTy, isND, notND, DL.isNon, ltB_eq, eCallN, eCallV, callR, iN, i1, rng1I, seqI, gcdD, augD, sAug, md1, mm, ixD, ix10, ixn10]
    simp only [asgD, DL.setL, List.length_cons, List.length_nil, List.set_cons_succ, List.set_cons_zero, if_true, step]
    exact e
theorem e_cells (ns : List Int) (B : Nat) (hL : ∀ y : Nat, y ≤ 8192 * B → y.log2 < 90000000) (hb : ∀ z ∈ ns, z.natAbs ≤ B) (hn : ns.length ≤ 63) (m : List Cell) : ∃ c : Int, m__law_cells [.scr ns, .int 1] m = .ok (.lst [.int c]) m ∧ c.natAbs ≤ 8192 * B := by
  have s1 : (1 : Nat) ≤ sizeLine := by rw [szl]; decide
  cases ns with
  | nil =>
    refine ⟨0, ?_, by simp⟩
    simp [m__law_cells, q__law_cells, mkF, sNil, sSeq, sAsg, sAsgF, sAsgC, sPar, sPar3, sIf, sRet, sFor, forL, sSetM, sSetI, sApp, sExt, sDrop, sRaise, sTry, hSay, hNil, Ex.ix, e1, e2, eBi, eIf, eVar, eC, eTup, eLst, eSl, slD, pNone, pSome, eLc, lcL, wipeD, Tg.vs, tYesS, aCons, aNil, t2, tTru, truB, truD, tNotS, tAndS, tOrS, eAndB, eOrB, eNotB, eOrV, cmpB, cmpD, iCmp, R.then, R.bind, asgD, DL.setL, addD, subD, negD, absD, DL.intD, mLst, lenD, listD, tupleD, allD, blsD, isiD, isi2D, isTy, isND, notND, DL.isNon, ltB_eq, eCallN, eCallV, callR, iN, i1, rng1I, seqI, gcdD, augD, sAug, mulD, modD, fdivD, ixD, cutG, HT.sIx, iEnumB, tupAt, enumI, enumL, s1]
  | cons x xs =>
    simp only [List.length_cons] at hn
    obtain ⟨c', o3', o4', o5', e, hq⟩ := cellsL B hL (.scr (x :: xs)) m xs 0 x none none none (fun z hz => hb z (List.mem_cons_of_mem _ hz)) (by omega) (by have := hb x (by simp); omega)
    refine ⟨c', ?_, hq⟩
    have c1 : cutG (x :: xs) none (some 1) = [x] := by
      unfold cutG
      rw [HT.sIx_none, show HT.sIx (x :: xs).length (x :: xs).length (some 1) = min 1 (x :: xs).length from HT.sIx_nat _ _ 1]
      simp
    have c2 : cutG (x :: xs) (some 1) (some 63) = xs := by
      unfold cutG
      rw [show HT.sIx (x :: xs).length (x :: xs).length (some 63) = min 63 (x :: xs).length from HT.sIx_nat _ _ 63, show HT.sIx (x :: xs).length 0 (some 1) = min 1 (x :: xs).length from HT.sIx_nat _ _ 1]
      have a1 : min 1 (x :: xs).length = 1 := by simp
      have a2 : min 63 (x :: xs).length = xs.length + 1 := by
        rw [List.length_cons]
        omega
      rw [a1, a2]
      simp
    have e' : forL (.many [3, 4]) q__law_cells_b1 (enumL (xs.map D.int)) ⟨[some (.scr (x :: xs)), some (.int 1), some (.lst [.int x]), none, none, none], m⟩ = _ := e
    simp only [m__law_cells, q__law_cells, mkF]
    rw [seq_nx (s' := ⟨[some (.scr (x :: xs)), some (.int 1), some (.lst [.int x]), none, none, none], m⟩) (by simp [mkF, sNil, sSeq, sAsg, sAsgF, sAsgC, sPar, sPar3, sIf, sRet, sFor, forL, sSetM, sSetI, sApp, sExt, sDrop, sRaise, sTry, hSay, hNil, Ex.ix, e1, e2, eBi, eIf, eVar, eC, eTup, eLst, eSl, slD, pNone, pSome, eLc, lcL, wipeD, Tg.vs, tYesS, aCons, aNil, t2, tTru, truB, truD, tNotS, tAndS, tOrS, eAndB, eOrB, eNotB, eOrV, cmpB, cmpD, iCmp, R.then, R.bind, asgD, DL.setL, addD, subD, negD, absD, DL.intD, mLst, lenD, listD, tupleD, allD, blsD, isiD, isi2D, isTy, isND, notND, DL.isNon, ltB_eq, eCallN, eCallV, callR, iN, i1, rng1I, seqI, gcdD, augD, sAug, mulD, modD, fdivD, ixD, c1])]
    rw [seq_nx (s' := ⟨[some (.scr (x :: xs)), some (.int 1), some (.lst [.int c']), o3', o4', o5'], m⟩) (by
      simp [sFor, iEnumB, tupAt, iN, aCons, aNil, eSl, slD, pSome, eVar, eC, R.bind, R.then, c2, enumI]
      exact e')]
    simp [sRet, eVar, R.then]
theorem e_box (c : Int) (m : List Cell) (hc : c.natAbs.log2 < 90000000) : ∃ A b : Int, m__law_box [.lst [.int c], .int 0] m = .ok (.lst [.int A, .int b, .int 0]) m ∧ 0 ≤ A ∧ 0 ≤ b ∧ b < 2 ^ 62 := by
  have s1 : (3 : Nat) ≤ sizeLine := by rw [szl]; decide
  have fm := fm_lt c (w := 2305843009213693951) (by decide)
  have hab : (if c < 0 then -c else c) = (c.natAbs : Int) := by split <;> omega
  have m0 : ∀ s, mulD (.int (c.natAbs : Int)) (.int 0) s = .ok (.int 0) s := fun s => by
    rw [mulL (by simpa using (show c.natAbs.log2 + Nat.log2 0 < 100000000 by rw [show Nat.log2 0 = 0 by decide]; omega)), Int.mul_zero]
  have m1 : ∀ s, mulD (.int (c.natAbs : Int)) (.int 1) s = .ok (.int c.natAbs) s := fun s => by
    rw [mulL (by simpa using (show c.natAbs.log2 + Nat.log2 1 < 100000000 by rw [l1]; omega)), Int.mul_one]
  have m2 : ∀ s, mulD (.int 40961) (.int 0) s = .ok (.int 0) s := fun s => by
    rw [mulL (by decide), Int.mul_zero]
  have md : ∀ s, modD (.int c) (.int 2305843009213693951) s = .ok (.int (c.fmod 2305843009213693951)) s := fun s => modI (by decide)
  by_cases h : (c.natAbs : Int) < 1000000000000000000
  · refine ⟨0, c.fmod 2305843009213693951 + 9520012, ?_, by decide, by omega, by omega⟩
    have hl : ltB c.natAbs 1000000000000000000 = true := by rw [ltB_eq]; exact decide_eq_true h
    have h01 : ltB 0 1 = true := by decide
    simp [m__law_box, q__law_box, mkF, sNil, sSeq, sAsg, sAsgF, sAsgC, sPar, sPar3, sIf, sRet, sFor, forL, sSetM, sSetI, sApp, sExt, sDrop, sRaise, sTry, hSay, hNil, Ex.ix, e1, e2, eBi, eIf, eVar, eC, eTup, eLst, eSl, slD, pNone, pSome, eLc, lcL, wipeD, Tg.vs, tYesS, aCons, aNil, t2, tTru, truB, truD, tNotS, tAndS, tOrS, eAndB, eOrB, eNotB, eOrV, cmpB, cmpD, iCmp, R.then, R.bind, asgD, DL.setL, addD, subD, negD, absD, DL.intD, mLst, lenD, listD, tupleD, allD, blsD, isiD, isi2D, isTy, isND, notND, DL.isNon, eCallN, eCallV, callR, iN, i1, rng1I, seqI, gcdD, augD, sAug, ixD, ix10, hab, powD, hl, h01, m0, m2, md, s1]
  · refine ⟨c.natAbs, c.fmod 2305843009213693951 + 9520012, ?_, by omega, by omega, by omega⟩
    have hl : ltB c.natAbs 1000000000000000000 = false := by rw [ltB_eq]; exact decide_eq_false h
    have h01 : ltB 0 1 = true := by decide
    simp [m__law_box, q__law_box, mkF, sNil, sSeq, sAsg, sAsgF, sAsgC, sPar, sPar3, sIf, sRet, sFor, forL, sSetM, sSetI, sApp, sExt, sDrop, sRaise, sTry, hSay, hNil, Ex.ix, e1, e2, eBi, eIf, eVar, eC, eTup, eLst, eSl, slD, pNone, pSome, eLc, lcL, wipeD, Tg.vs, tYesS, aCons, aNil, t2, tTru, truB, truD, tNotS, tAndS, tOrS, eAndB, eOrB, eNotB, eOrV, cmpB, cmpD, iCmp, R.then, R.bind, asgD, DL.setL, addD, subD, negD, absD, DL.intD, mLst, lenD, listD, tupleD, allD, blsD, isiD, isi2D, isTy, isND, notND, DL.isNon, eCallN, eCallV, callR, iN, i1, rng1I, seqI, gcdD, augD, sAug, ixD, ix10, hab, powD, hl, h01, m1, m2, md, s1]
theorem TinR.len {q m : List Cell} {k : Nat} (h : TinR q k m) : m.length = q.length + 1 := by
  obtain ⟨a, b, c, rfl, _⟩ := h
  rfl
theorem TinR.mono {q m : List Cell} {j k : Nat} (h : TinR q j m) (hk : j ≤ k) : TinR q k m := by
  obtain ⟨a, b, c, e, h1, h2, h3, h4, h5⟩ := h
  exact ⟨a, b, c, e, h1, h2, h3, h4, by omega⟩
theorem e_ofR {q : List Cell} {k : Nat} (hk : k < 1000000) {m : List Cell} (h : TinR q k m) (xs : List D) (h0 : xs ≠ []) (h1 : xs.length ≤ 1000) : ∃ d m', d ∈ xs ∧ m__law_of [.ref 0, .lst xs] m = .ok d m' ∧ TinR q (k + 1) m' := by
  have hl : 0 < xs.length := by
    cases xs with
    | nil => exact absurd rfl h0
    | cons _ _ => simp
  obtain ⟨r, m', e, r0, r1, t⟩ := e_takeR hk h (w := (xs.length : Int)) (by omega) (by omega)
  obtain ⟨j, rfl⟩ : ∃ j : Nat, r = j := ⟨r.toNat, by omega⟩
  have hj : j < xs.length := by omega
  refine ⟨xs[j], m', List.getElem_mem hj, ?_, t⟩
  have ix : ∀ st : S, ixD (.lst xs) (.int (j : Int)) st = .ok xs[j] st := fun st => by
    rw [ixl, atN _ _ hj, List.getElem?_eq_getElem hj]
  simp [m__law_of, q__law_of, mkF, sRet, e2, e1, eVar, eCallN, aCons, aNil, callR, R.bind, R.then, lenD, e, ix]
end A12
set_option linter.all false
set_option maxRecDepth 100000
set_option maxHeartbeats 0
namespace A12
open PySem PySem.Spec PyProof.Rows L2 DL
def websD : D := (.lst [.non, (.int 3), (.str "0"), (.tup []), (.tup [(.int 0)]), (.tup [(.tup [(.int 0), (.int 1)])]), (.tup [(.tup [(.int 0), (.int 1)]), (.tup [(.int 1), (.int 0)])]), (.tup [(.tup [(.int 1)])]), (.tup [(.tup [(.int 0), (.int 1)]), (.tup [(.int 0), (.int 0)])]), (.tup [(.tup [(.int 0), (.int 1)]), (.tup [(.int (-1)), (.int 1)])]), (.tup [(.tup [(.int 0), (.bl true)]), (.tup [(.int (-1)), (.int 0)])]), (.tup [(.tup [(.int 0), (.int 1), (.int 0)]), (.tup [(.int (-1)), (.int 0)])]), (.tup [(.tup [(.int 0), (.int 1), (.int (-1))]), (.tup [(.int (-1)), (.int 0), (.int 2)]), (.tup [(.int 1), (.int (-1)), (.int 0)])])])
def onesD : D := (.tup [(.tup [(.int 1), (.int 1)]), (.tup [(.int 1), (.int 1)])])
def unitsD : D := (.tup [(.tup [(.int 1), (.int 0)]), (.tup [(.int 0), (.int 1)])])
def placesD : D := (.lst [.non, (.str "0"), (.tup [(.int 0)]), (.bl true)])
def wayzD : D := (.lst [.non, (.int 0), (.str "0"), (.tup [.non]), (.tup [(.int 0), (.bl true)])])
def wrongD : D := (.lst [.non, (.int 3), (.tup []), (.tup [(.tup [(.int 1), (.int 1)])]), (.tup [(.tup [(.int 1), (.int 1)]), (.tup [(.int 1), (.int 1)]), (.tup [(.int 1), (.int 1)])]), (.tup [(.tup [(.int 1), (.int 1)]), (.tup [(.int 0), (.int 1)])]), (.tup [(.tup [(.int 1), (.int 1)]), (.tup [(.int (-1)), (.int 2)])]), (.tup [(.tup [(.int 1), (.int 1)]), (.tup [(.int 2), (.int 4)])]), (.tup [(.tup [(.int 1), (.int 1)]), (.int 1)]), (.tup [(.tup [(.int 1), (.int 1)]), (.tup [(.bl true), (.int 1)])])])
def shadzD : D := (.lst [.non, (.int 3), (.tup []), (.tup [(.tup [(.int 1), (.int 0)])]), (.tup [(.tup [(.int 1), (.int 0)]), (.tup [(.int 0)])]), (.tup [(.tup [(.int 1), (.int 0)]), (.tup [(.int 0), (.bl true)])]), (.tup [(.tup [(.int 1), (.int 0)]), (.tup [(.int 0), (.int 1)]), (.tup [(.int 0), (.int 0)])]), (.tup [(.tup [(.int 1), (.int 0)]), (.int 1)])])
def sumzD : D := (.lst [.non, (.int 3), (.tup [(.tup [(.tup [(.int 1)]), (.int 0)])]), (.tup [(.tup [(.tup [(.int 1), (.int 0)]), (.int 1)])]), (.tup [(.tup [(.tup [(.int 1)]), (.int 1)]), (.tup [(.tup [(.int 0)]), (.int 1)])]), (.tup [(.tup [(.int 1)])])])
def maniesD : D := (.lst [.non, (.int 0), (.bl true), (.str "1")])
def oneSD : D := (.tup [(.tup [(.tup [(.int 1)]), (.int 1)])])
def row0 (w : D) : D := (.lst [(.fn 0), (.lst [w, onesD, (.int 0)]), (.int 0), websD])
def row1 (w : D) : D := (.lst [(.fn 0), (.lst [w, onesD, (.int 0)]), (.int 1), wrongD])
def row2 (w : D) : D := (.lst [(.fn 0), (.lst [w, onesD, (.int 0)]), (.int 2), placesD])
def row3 (w : D) : D := (.lst [(.fn 1), (.lst [w, onesD, (.int 0)]), (.int 0), websD])
def row4 (w : D) : D := (.lst [(.fn 1), (.lst [w, onesD, (.int 0)]), (.int 1), wrongD])
def row5 (w : D) : D := (.lst [(.fn 1), (.lst [w, onesD, (.int 0)]), (.int 2), placesD])
def row6 (w : D) : D := (.lst [(.fn 2), (.lst [w, onesD, (.tup [(.int 0)])]), (.int 0), websD])
def row7 (w : D) : D := (.lst [(.fn 2), (.lst [w, onesD, (.tup [(.int 0)])]), (.int 1), wrongD])
def row8 (w : D) : D := (.lst [(.fn 2), (.lst [w, onesD, (.tup [(.int 0)])]), (.int 2), wayzD])
def row9 (w : D) : D := (.lst [(.fn 3), (.lst [w, onesD, (.tup [(.int 0)])]), (.int 0), websD])
def row10 (w : D) : D := (.lst [(.fn 3), (.lst [w, onesD, (.tup [(.int 0)])]), (.int 1), wrongD])
def row11 (w : D) : D := (.lst [(.fn 3), (.lst [w, onesD, (.tup [(.int 0)])]), (.int 2), wayzD])
def row12 (w : D) : D := (.lst [(.fn 4), (.lst [w, onesD, (.tup [(.int 0)])]), (.int 0), websD])
def row13 (w : D) : D := (.lst [(.fn 4), (.lst [w, onesD, (.tup [(.int 0)])]), (.int 1), wrongD])
def row14 (w : D) : D := (.lst [(.fn 4), (.lst [w, onesD, (.tup [(.int 0)])]), (.int 2), wayzD])
def row15 (w : D) : D := (.lst [(.fn 5), (.lst [w, onesD]), (.int 0), websD])
def row16 (w : D) : D := (.lst [(.fn 5), (.lst [w, onesD]), (.int 1), wrongD])
def row17 (w : D) : D := (.lst [(.fn 6), (.lst [(.int 1)]), (.int 0), (.lst [.non, (.int 0), (.bl true), (.str "1")])])
def row18 (w : D) : D := (.lst [(.fn 7), (.lst [onesD]), (.int 0), (.lst [.non, (.int 3), (.tup [(.tup [(.int 0), (.int 1)])]), (.tup [(.tup [(.int 1), (.int 0)])]), (.tup [(.int 1), (.int 1)]), (.tup [(.tup [(.int 1), (.int 1)]), (.tup [(.int 2), (.int 2)])])])])
def row19 (w : D) : D := (.lst [(.fn 8), (.lst [w, .non]), (.int 0), websD])
def row20 (w : D) : D := (.lst [(.fn 9), (.lst [w, .non]), (.int 0), websD])
def row21 (w : D) : D := (.lst [(.fn 10), (.lst [w, unitsD, (.int 0)]), (.int 0), websD])
def row22 (w : D) : D := (.lst [(.fn 10), (.lst [w, unitsD, (.int 0)]), (.int 1), shadzD])
def row23 (w : D) : D := (.lst [(.fn 10), (.lst [w, unitsD, (.int 0)]), (.int 2), placesD])
def row24 (w : D) : D := (.lst [(.fn 11), (.lst [w, (.tup [(.int 0)])]), (.int 0), websD])
def row25 (w : D) : D := (.lst [(.fn 11), (.lst [w, (.tup [(.int 0)])]), (.int 1), wayzD])
def row26 (w : D) : D := (.lst [(.fn 12), (.lst [w, (.tup [(.int 0)])]), (.int 0), websD])
def row27 (w : D) : D := (.lst [(.fn 12), (.lst [w, (.tup [(.int 0)])]), (.int 1), wayzD])
def row28 (w : D) : D := (.lst [(.fn 13), (.lst [w, (.tup [(.int 0)])]), (.int 0), websD])
def row29 (w : D) : D := (.lst [(.fn 13), (.lst [w, (.tup [(.int 0)])]), (.int 1), wayzD])
def row30 (w : D) : D := (.lst [(.fn 14), (.lst [w, .non]), (.int 0), websD])
def row31 (w : D) : D := (.lst [(.fn 15), (.lst [w]), (.int 0), websD])
def row32 (w : D) : D := (.lst [(.fn 16), (.lst [(.int 1)]), (.int 0), (.lst [.non, (.int 0), (.bl true), (.str "1")])])
def row33 (w : D) : D := (.lst [(.fn 17), (.lst [unitsD]), (.int 0), (.lst [.non, (.int 3), (.tup []), (.tup [(.tup [(.int 1), (.int 0)])]), (.tup [(.tup [(.int 1)]), (.tup [(.int 0)])]), (.tup [(.tup [(.int 1), (.int 0)]), (.tup [(.int 0), .non])])])])
def row34 (w : D) : D := (.lst [(.fn 18), (.lst [(.int 1), oneSD, oneSD]), (.int 0), maniesD])
def row35 (w : D) : D := (.lst [(.fn 18), (.lst [(.int 1), oneSD, oneSD]), (.int 1), sumzD])
def row36 (w : D) : D := (.lst [(.fn 18), (.lst [(.int 1), oneSD, oneSD]), (.int 2), sumzD])
def row37 (w : D) : D := (.lst [(.fn 19), (.lst [(.int 1), oneSD, oneSD]), (.int 0), maniesD])
def row38 (w : D) : D := (.lst [(.fn 19), (.lst [(.int 1), oneSD, oneSD]), (.int 1), sumzD])
def row39 (w : D) : D := (.lst [(.fn 19), (.lst [(.int 1), oneSD, oneSD]), (.int 2), sumzD])
def row40 (w : D) : D := (.lst [(.fn 20), (.lst [(.int 1), oneSD, oneSD]), (.int 0), maniesD])
def row41 (w : D) : D := (.lst [(.fn 20), (.lst [(.int 1), oneSD, oneSD]), (.int 1), sumzD])
def row42 (w : D) : D := (.lst [(.fn 20), (.lst [(.int 1), oneSD, oneSD]), (.int 2), sumzD])
def row43 (w : D) : D := (.lst [(.fn 21), (.lst [(.int 1), oneSD, (.tup [(.tup [(.int 1), (.int 1)])])]), (.int 0), maniesD])
def row44 (w : D) : D := (.lst [(.fn 21), (.lst [(.int 1), oneSD, (.tup [(.tup [(.int 1), (.int 1)])])]), (.int 1), sumzD])
def row45 (w : D) : D := (.lst [(.fn 21), (.lst [(.int 1), oneSD, (.tup [(.tup [(.int 1), (.int 1)])])]), (.int 2), (.lst [.non, (.tup []), (.tup [(.tup [(.int 0), (.int 1)])]), onesD, (.tup [(.int 1), (.int 1)])])])
def row46 (w : D) : D := (.lst [(.fn 22), (.lst [(.int 1), oneSD]), (.int 0), maniesD])
def row47 (w : D) : D := (.lst [(.fn 22), (.lst [(.int 1), oneSD]), (.int 1), sumzD])
def row48 (w : D) : D := (.lst [(.fn 23), (.lst [(.int 1), (.int 0)]), (.int 0), maniesD])
def row49 (w : D) : D := (.lst [(.fn 23), (.lst [(.int 1), (.int 0)]), (.int 1), (.lst [.non, (.int 1), (.int (-1)), (.bl true)])])
def row50 (w : D) : D := (.lst [(.fn 24), (.lst [(.int 1), oneSD]), (.int 0), maniesD])
def rowsW (w : D) : D := .lst [row0 w, row1 w, row2 w, row3 w, row4 w, row5 w, row6 w, row7 w, row8 w, row9 w, row10 w, row11 w, row12 w, row13 w, row14 w, row15 w, row16 w, row17 w, row18 w, row19 w, row20 w, row21 w, row22 w, row23 w, row24 w, row25 w, row26 w, row27 w, row28 w, row29 w, row30 w, row31 w, row32 w, row33 w, row34 w, row35 w, row36 w, row37 w, row38 w, row39 w, row40 w, row41 w, row42 w, row43 w, row44 w, row45 w, row46 w, row47 w, row48 w, row49 w, row50 w]
def wB (p q : Int) : D := .tup [.tup [.int 0, .int p], .tup [.int q, .int 0]]
def cB (a b c p q : Int) : List Cell := [.lst [.int a, .int b, .int c], .lst [.int 0, .int p], .lst [.int q, .int 0]]
def z6 : D := .tup [.int 0, .int 0, .int 0, .int 0, .int 0, .int 0]
def sixD : D := .tup [z6, z6, z6, z6, z6, z6]
def uD : D := .lst [.str "Unfit", .bl true]
def kD : D := .lst [.str "CanNot", .bl true]
def tD : D := .lst [.str "TooMany", .bl true]
def nD (far : Int) : D := .lst [.str "NoPlace", .int far, .bl true]
def dueL (far : Int) : List D := [nD far, nD (-1), nD far, nD far, nD far, nD far, nD far, nD far, nD far, tD, nD 6, uD, kD]
def st0 (sc w : D) (m : List Cell) : S := ⟨[some sc, some (.ref 0), some w, some websD, some onesD, some unitsD, some placesD, some wayzD, some wrongD, some (rowsW w), some (.fn 20), some shadzD, some sumzD, some maniesD, some oneSD, none, none, none, none, none, none, none], m⟩
def st1 (sc w : D) (far : Int) (m : List Cell) : S := ⟨[some sc, some (.ref 0), some w, some websD, some onesD, some unitsD, some placesD, some wayzD, some wrongD, some (rowsW w), some (.fn 20), some shadzD, some sumzD, some maniesD, some oneSD, some (.int far), some sixD, none, none, none, none, none], m⟩
def st2 (sc w : D) (far : Int) (m : List Cell) : S := ⟨[some sc, some (.ref 0), some w, some websD, some onesD, some unitsD, some placesD, some wayzD, some wrongD, some (rowsW w), some (.fn 20), some shadzD, some sumzD, some maniesD, some oneSD, some (.int far), some sixD, some (.lst (dueL far)), some (.lst (dueL far)), none, none, none], m⟩
/-- what is asked of a web -/
theorem rows_ok (sc w : D) (m : List Cell) : q_law_c6 ⟨[some sc, some (.ref 0), some w, none, none, none, none, none, none, none, none, none, none, none, none, none, none, none, none, none, none, none], m⟩ = q_law_c5 (st0 sc w m) := by
  kernel_rfl
end A12
set_option linter.all false
set_option maxRecDepth 100000
set_option maxHeartbeats 0
namespace A12
open PySem PySem.Spec PyProof.Rows L2 DL
theorem unfit_p1 (a b c : Int) : m__law_all_unfit [rowsW (wB 1 (-1))] (cB a b c 1 (-1)) = .ok (.bl true) (cB a b c 1 (-1)) := by kernel_rfl
end A12
set_option linter.all false
set_option maxRecDepth 100000
set_option maxHeartbeats 0
namespace A12
open PySem PySem.Spec PyProof.Rows L2 DL
theorem unfit_m1 (a b c : Int) : m__law_all_unfit [rowsW (wB (-1) 1)] (cB a b c (-1) 1) = .ok (.bl true) (cB a b c (-1) 1) := by kernel_rfl
end A12
set_option linter.all false
set_option maxRecDepth 100000
set_option maxHeartbeats 0
namespace A12
open PySem PySem.Spec PyProof.Rows L2 DL
theorem unfit_p2 (a b c : Int) : m__law_all_unfit [rowsW (wB 1 (-2))] (cB a b c 1 (-2)) = .ok (.bl true) (cB a b c 1 (-2)) := by kernel_rfl
end A12
set_option linter.all false
set_option maxRecDepth 100000
set_option maxHeartbeats 0
namespace A12
open PySem PySem.Spec PyProof.Rows L2 DL
theorem unfit_m2 (a b c : Int) : m__law_all_unfit [rowsW (wB (-1) 2)] (cB a b c (-1) 2) = .ok (.bl true) (cB a b c (-1) 2) := by kernel_rfl
end A12
set_option linter.all false
set_option maxRecDepth 100000
set_option maxHeartbeats 0
namespace A12
open PySem PySem.Spec PyProof.Rows L2 DL
theorem unfit_p3 (a b c : Int) : m__law_all_unfit [rowsW (wB 1 (-3))] (cB a b c 1 (-3)) = .ok (.bl true) (cB a b c 1 (-3)) := by kernel_rfl
end A12
set_option linter.all false
set_option maxRecDepth 100000
set_option maxHeartbeats 0
namespace A12
open PySem PySem.Spec PyProof.Rows L2 DL
theorem unfit_m3 (a b c : Int) : m__law_all_unfit [rowsW (wB (-1) 3)] (cB a b c (-1) 3) = .ok (.bl true) (cB a b c (-1) 3) := by kernel_rfl
end A12
set_option linter.all false
set_option maxRecDepth 100000
set_option maxHeartbeats 0
namespace A12
open PySem PySem.Spec PyProof.Rows L2 DL
def stG (sc w : D) (far : Int) (m : List Cell) (g d : Option D) : S := ⟨[some sc, some (.ref 0), some w, some websD, some onesD, some unitsD, some placesD, some wayzD, some wrongD, some (rowsW w), some (.fn 20), some shadzD, some sumzD, some maniesD, some oneSD, some (.int far), some sixD, g, d, none, none, none], m⟩
theorem mid_all (sc w : D) (far a b c p q : Int) (g0 g1 g2 g3 g4 g5 g6 g7 g8 d0 d1 d2 d3 d4 d5 d6 d7 d8 : D) : q_law_c2 (stG sc w far (cB a b c p q) (some (.lst [g0, g1, g2, g3, g4, g5, g6, g7, g8])) (some (.lst [d0, d1, d2, d3, d4, d5, d6, d7, d8]))) = q_law_c1 (stG sc w far (cB a b c p q) (some (.lst [g0, g1, g2, g3, g4, g5, g6, g7, g8, tD, nD 6, uD, kD])) (some (.lst [d0, d1, d2, d3, d4, d5, d6, d7, d8, tD, nD 6, uD, kD]))) := by
  unfold q_law_c2
  refine (seq_nx (s' := stG sc w far (cB a b c p q) (some (.lst [g0, g1, g2, g3, g4, g5, g6, g7, g8, tD, nD 6, uD, kD])) (some (.lst [d0, d1, d2, d3, d4, d5, d6, d7, d8]))) (by kernel_rfl)).trans ?_
  exact seq_nx (s' := stG sc w far (cB a b c p q) (some (.lst [g0, g1, g2, g3, g4, g5, g6, g7, g8, tD, nD 6, uD, kD])) (some (.lst [d0, d1, d2, d3, d4, d5, d6, d7, d8, tD, nD 6, uD, kD]))) (by kernel_rfl)
theorem mid_p1_2 (sc : D) (a b c : Int) : q_law_c3 (st1 sc (wB 1 (-1)) 2 (cB a b c 1 (-1))) = q_law_c1 (st2 sc (wB 1 (-1)) 2 (cB a b c 1 (-1))) := by
  unfold q_law_c3
  refine (seq_nx (s' := stG sc (wB 1 (-1)) 2 (cB a b c 1 (-1)) (some (.lst [nD 2, nD (-1), nD 2])) (none)) (by kernel_rfl)).trans ?_
  refine (seq_nx (s' := stG sc (wB 1 (-1)) 2 (cB a b c 1 (-1)) (some (.lst [nD 2, nD (-1), nD 2, nD 2, nD 2, nD 2])) (none)) (by kernel_rfl)).trans ?_
  refine (seq_nx (s' := stG sc (wB 1 (-1)) 2 (cB a b c 1 (-1)) (some (.lst [nD 2, nD (-1), nD 2, nD 2, nD 2, nD 2, nD 2, nD 2, nD 2])) (none)) (by kernel_rfl)).trans ?_
  refine (seq_nx (s' := stG sc (wB 1 (-1)) 2 (cB a b c 1 (-1)) (some (.lst [nD 2, nD (-1), nD 2, nD 2, nD 2, nD 2, nD 2, nD 2, nD 2])) (some (.lst [nD 2, nD (-1), nD 2, nD 2, nD 2, nD 2, nD 2, nD 2, nD 2]))) (by kernel_rfl)).trans ?_
  exact mid_all sc (wB 1 (-1)) 2 a b c 1 (-1) (nD 2) (nD (-1)) (nD 2) (nD 2) (nD 2) (nD 2) (nD 2) (nD 2) (nD 2) (nD 2) (nD (-1)) (nD 2) (nD 2) (nD 2) (nD 2) (nD 2) (nD 2) (nD 2)
theorem mid_p1_3 (sc : D) (a b c : Int) : q_law_c3 (st1 sc (wB 1 (-1)) 3 (cB a b c 1 (-1))) = q_law_c1 (st2 sc (wB 1 (-1)) 3 (cB a b c 1 (-1))) := by
  unfold q_law_c3
  refine (seq_nx (s' := stG sc (wB 1 (-1)) 3 (cB a b c 1 (-1)) (some (.lst [nD 3, nD (-1), nD 3])) (none)) (by kernel_rfl)).trans ?_
  refine (seq_nx (s' := stG sc (wB 1 (-1)) 3 (cB a b c 1 (-1)) (some (.lst [nD 3, nD (-1), nD 3, nD 3, nD 3, nD 3])) (none)) (by kernel_rfl)).trans ?_
  refine (seq_nx (s' := stG sc (wB 1 (-1)) 3 (cB a b c 1 (-1)) (some (.lst [nD 3, nD (-1), nD 3, nD 3, nD 3, nD 3, nD 3, nD 3, nD 3])) (none)) (by kernel_rfl)).trans ?_
  refine (seq_nx (s' := stG sc (wB 1 (-1)) 3 (cB a b c 1 (-1)) (some (.lst [nD 3, nD (-1), nD 3, nD 3, nD 3, nD 3, nD 3, nD 3, nD 3])) (some (.lst [nD 3, nD (-1), nD 3, nD 3, nD 3, nD 3, nD 3, nD 3, nD 3]))) (by kernel_rfl)).trans ?_
  exact mid_all sc (wB 1 (-1)) 3 a b c 1 (-1) (nD 3) (nD (-1)) (nD 3) (nD 3) (nD 3) (nD 3) (nD 3) (nD 3) (nD 3) (nD 3) (nD (-1)) (nD 3) (nD 3) (nD 3) (nD 3) (nD 3) (nD 3) (nD 3)
theorem mid_p1_4 (sc : D) (a b c : Int) : q_law_c3 (st1 sc (wB 1 (-1)) 4 (cB a b c 1 (-1))) = q_law_c1 (st2 sc (wB 1 (-1)) 4 (cB a b c 1 (-1))) := by
  unfold q_law_c3
  refine (seq_nx (s' := stG sc (wB 1 (-1)) 4 (cB a b c 1 (-1)) (some (.lst [nD 4, nD (-1), nD 4])) (none)) (by kernel_rfl)).trans ?_
  refine (seq_nx (s' := stG sc (wB 1 (-1)) 4 (cB a b c 1 (-1)) (some (.lst [nD 4, nD (-1), nD 4, nD 4, nD 4, nD 4])) (none)) (by kernel_rfl)).trans ?_
  refine (seq_nx (s' := stG sc (wB 1 (-1)) 4 (cB a b c 1 (-1)) (some (.lst [nD 4, nD (-1), nD 4, nD 4, nD 4, nD 4, nD 4, nD 4, nD 4])) (none)) (by kernel_rfl)).trans ?_
  refine (seq_nx (s' := stG sc (wB 1 (-1)) 4 (cB a b c 1 (-1)) (some (.lst [nD 4, nD (-1), nD 4, nD 4, nD 4, nD 4, nD 4, nD 4, nD 4])) (some (.lst [nD 4, nD (-1), nD 4, nD 4, nD 4, nD 4, nD 4, nD 4, nD 4]))) (by kernel_rfl)).trans ?_
  exact mid_all sc (wB 1 (-1)) 4 a b c 1 (-1) (nD 4) (nD (-1)) (nD 4) (nD 4) (nD 4) (nD 4) (nD 4) (nD 4) (nD 4) (nD 4) (nD (-1)) (nD 4) (nD 4) (nD 4) (nD 4) (nD 4) (nD 4) (nD 4)
theorem mid_p1_5 (sc : D) (a b c : Int) : q_law_c3 (st1 sc (wB 1 (-1)) 5 (cB a b c 1 (-1))) = q_law_c1 (st2 sc (wB 1 (-1)) 5 (cB a b c 1 (-1))) := by
  unfold q_law_c3
  refine (seq_nx (s' := stG sc (wB 1 (-1)) 5 (cB a b c 1 (-1)) (some (.lst [nD 5, nD (-1), nD 5])) (none)) (by kernel_rfl)).trans ?_
  refine (seq_nx (s' := stG sc (wB 1 (-1)) 5 (cB a b c 1 (-1)) (some (.lst [nD 5, nD (-1), nD 5, nD 5, nD 5, nD 5])) (none)) (by kernel_rfl)).trans ?_
  refine (seq_nx (s' := stG sc (wB 1 (-1)) 5 (cB a b c 1 (-1)) (some (.lst [nD 5, nD (-1), nD 5, nD 5, nD 5, nD 5, nD 5, nD 5, nD 5])) (none)) (by kernel_rfl)).trans ?_
  refine (seq_nx (s' := stG sc (wB 1 (-1)) 5 (cB a b c 1 (-1)) (some (.lst [nD 5, nD (-1), nD 5, nD 5, nD 5, nD 5, nD 5, nD 5, nD 5])) (some (.lst [nD 5, nD (-1), nD 5, nD 5, nD 5, nD 5, nD 5, nD 5, nD 5]))) (by kernel_rfl)).trans ?_
  exact mid_all sc (wB 1 (-1)) 5 a b c 1 (-1) (nD 5) (nD (-1)) (nD 5) (nD 5) (nD 5) (nD 5) (nD 5) (nD 5) (nD 5) (nD 5) (nD (-1)) (nD 5) (nD 5) (nD 5) (nD 5) (nD 5) (nD 5) (nD 5)
theorem mid_p1_6 (sc : D) (a b c : Int) : q_law_c3 (st1 sc (wB 1 (-1)) 6 (cB a b c 1 (-1))) = q_law_c1 (st2 sc (wB 1 (-1)) 6 (cB a b c 1 (-1))) := by
  unfold q_law_c3
  refine (seq_nx (s' := stG sc (wB 1 (-1)) 6 (cB a b c 1 (-1)) (some (.lst [nD 6, nD (-1), nD 6])) (none)) (by kernel_rfl)).trans ?_
  refine (seq_nx (s' := stG sc (wB 1 (-1)) 6 (cB a b c 1 (-1)) (some (.lst [nD 6, nD (-1), nD 6, nD 6, nD 6, nD 6])) (none)) (by kernel_rfl)).trans ?_
  refine (seq_nx (s' := stG sc (wB 1 (-1)) 6 (cB a b c 1 (-1)) (some (.lst [nD 6, nD (-1), nD 6, nD 6, nD 6, nD 6, nD 6, nD 6, nD 6])) (none)) (by kernel_rfl)).trans ?_
  refine (seq_nx (s' := stG sc (wB 1 (-1)) 6 (cB a b c 1 (-1)) (some (.lst [nD 6, nD (-1), nD 6, nD 6, nD 6, nD 6, nD 6, nD 6, nD 6])) (some (.lst [nD 6, nD (-1), nD 6, nD 6, nD 6, nD 6, nD 6, nD 6, nD 6]))) (by kernel_rfl)).trans ?_
  exact mid_all sc (wB 1 (-1)) 6 a b c 1 (-1) (nD 6) (nD (-1)) (nD 6) (nD 6) (nD 6) (nD 6) (nD 6) (nD 6) (nD 6) (nD 6) (nD (-1)) (nD 6) (nD 6) (nD 6) (nD 6) (nD 6) (nD 6) (nD 6)
theorem mid_p1_7 (sc : D) (a b c : Int) : q_law_c3 (st1 sc (wB 1 (-1)) 7 (cB a b c 1 (-1))) = q_law_c1 (st2 sc (wB 1 (-1)) 7 (cB a b c 1 (-1))) := by
  unfold q_law_c3
  refine (seq_nx (s' := stG sc (wB 1 (-1)) 7 (cB a b c 1 (-1)) (some (.lst [nD 7, nD (-1), nD 7])) (none)) (by kernel_rfl)).trans ?_
  refine (seq_nx (s' := stG sc (wB 1 (-1)) 7 (cB a b c 1 (-1)) (some (.lst [nD 7, nD (-1), nD 7, nD 7, nD 7, nD 7])) (none)) (by kernel_rfl)).trans ?_
  refine (seq_nx (s' := stG sc (wB 1 (-1)) 7 (cB a b c 1 (-1)) (some (.lst [nD 7, nD (-1), nD 7, nD 7, nD 7, nD 7, nD 7, nD 7, nD 7])) (none)) (by kernel_rfl)).trans ?_
  refine (seq_nx (s' := stG sc (wB 1 (-1)) 7 (cB a b c 1 (-1)) (some (.lst [nD 7, nD (-1), nD 7, nD 7, nD 7, nD 7, nD 7, nD 7, nD 7])) (some (.lst [nD 7, nD (-1), nD 7, nD 7, nD 7, nD 7, nD 7, nD 7, nD 7]))) (by kernel_rfl)).trans ?_
  exact mid_all sc (wB 1 (-1)) 7 a b c 1 (-1) (nD 7) (nD (-1)) (nD 7) (nD 7) (nD 7) (nD 7) (nD 7) (nD 7) (nD 7) (nD 7) (nD (-1)) (nD 7) (nD 7) (nD 7) (nD 7) (nD 7) (nD 7) (nD 7)
theorem mid_p1_8 (sc : D) (a b c : Int) : q_law_c3 (st1 sc (wB 1 (-1)) 8 (cB a b c 1 (-1))) = q_law_c1 (st2 sc (wB 1 (-1)) 8 (cB a b c 1 (-1))) := by
  unfold q_law_c3
  refine (seq_nx (s' := stG sc (wB 1 (-1)) 8 (cB a b c 1 (-1)) (some (.lst [nD 8, nD (-1), nD 8])) (none)) (by kernel_rfl)).trans ?_
  refine (seq_nx (s' := stG sc (wB 1 (-1)) 8 (cB a b c 1 (-1)) (some (.lst [nD 8, nD (-1), nD 8, nD 8, nD 8, nD 8])) (none)) (by kernel_rfl)).trans ?_
  refine (seq_nx (s' := stG sc (wB 1 (-1)) 8 (cB a b c 1 (-1)) (some (.lst [nD 8, nD (-1), nD 8, nD 8, nD 8, nD 8, nD 8, nD 8, nD 8])) (none)) (by kernel_rfl)).trans ?_
  refine (seq_nx (s' := stG sc (wB 1 (-1)) 8 (cB a b c 1 (-1)) (some (.lst [nD 8, nD (-1), nD 8, nD 8, nD 8, nD 8, nD 8, nD 8, nD 8])) (some (.lst [nD 8, nD (-1), nD 8, nD 8, nD 8, nD 8, nD 8, nD 8, nD 8]))) (by kernel_rfl)).trans ?_
  exact mid_all sc (wB 1 (-1)) 8 a b c 1 (-1) (nD 8) (nD (-1)) (nD 8) (nD 8) (nD 8) (nD 8) (nD 8) (nD 8) (nD 8) (nD 8) (nD (-1)) (nD 8) (nD 8) (nD 8) (nD 8) (nD 8) (nD 8) (nD 8)
theorem mid_p1_9 (sc : D) (a b c : Int) : q_law_c3 (st1 sc (wB 1 (-1)) 9 (cB a b c 1 (-1))) = q_law_c1 (st2 sc (wB 1 (-1)) 9 (cB a b c 1 (-1))) := by
  unfold q_law_c3
  refine (seq_nx (s' := stG sc (wB 1 (-1)) 9 (cB a b c 1 (-1)) (some (.lst [nD 9, nD (-1), nD 9])) (none)) (by kernel_rfl)).trans ?_
  refine (seq_nx (s' := stG sc (wB 1 (-1)) 9 (cB a b c 1 (-1)) (some (.lst [nD 9, nD (-1), nD 9, nD 9, nD 9, nD 9])) (none)) (by kernel_rfl)).trans ?_
  refine (seq_nx (s' := stG sc (wB 1 (-1)) 9 (cB a b c 1 (-1)) (some (.lst [nD 9, nD (-1), nD 9, nD 9, nD 9, nD 9, nD 9, nD 9, nD 9])) (none)) (by kernel_rfl)).trans ?_
  refine (seq_nx (s' := stG sc (wB 1 (-1)) 9 (cB a b c 1 (-1)) (some (.lst [nD 9, nD (-1), nD 9, nD 9, nD 9, nD 9, nD 9, nD 9, nD 9])) (some (.lst [nD 9, nD (-1), nD 9, nD 9, nD 9, nD 9, nD 9, nD 9, nD 9]))) (by kernel_rfl)).trans ?_
  exact mid_all sc (wB 1 (-1)) 9 a b c 1 (-1) (nD 9) (nD (-1)) (nD 9) (nD 9) (nD 9) (nD 9) (nD 9) (nD 9) (nD 9) (nD 9) (nD (-1)) (nD 9) (nD 9) (nD 9) (nD 9) (nD 9) (nD 9) (nD 9)
theorem mid_p1_10 (sc : D) (a b c : Int) : q_law_c3 (st1 sc (wB 1 (-1)) 10 (cB a b c 1 (-1))) = q_law_c1 (st2 sc (wB 1 (-1)) 10 (cB a b c 1 (-1))) := by
  unfold q_law_c3
  refine (seq_nx (s' := stG sc (wB 1 (-1)) 10 (cB a b c 1 (-1)) (some (.lst [nD 10, nD (-1), nD 10])) (none)) (by kernel_rfl)).trans ?_
  refine (seq_nx (s' := stG sc (wB 1 (-1)) 10 (cB a b c 1 (-1)) (some (.lst [nD 10, nD (-1), nD 10, nD 10, nD 10, nD 10])) (none)) (by kernel_rfl)).trans ?_
  refine (seq_nx (s' := stG sc (wB 1 (-1)) 10 (cB a b c 1 (-1)) (some (.lst [nD 10, nD (-1), nD 10, nD 10, nD 10, nD 10, nD 10, nD 10, nD 10])) (none)) (by kernel_rfl)).trans ?_
  refine (seq_nx (s' := stG sc (wB 1 (-1)) 10 (cB a b c 1 (-1)) (some (.lst [nD 10, nD (-1), nD 10, nD 10, nD 10, nD 10, nD 10, nD 10, nD 10])) (some (.lst [nD 10, nD (-1), nD 10, nD 10, nD 10, nD 10, nD 10, nD 10, nD 10]))) (by kernel_rfl)).trans ?_
  exact mid_all sc (wB 1 (-1)) 10 a b c 1 (-1) (nD 10) (nD (-1)) (nD 10) (nD 10) (nD 10) (nD 10) (nD 10) (nD 10) (nD 10) (nD 10) (nD (-1)) (nD 10) (nD 10) (nD 10) (nD 10) (nD 10) (nD 10) (nD 10)
theorem mid_m1_2 (sc : D) (a b c : Int) : q_law_c3 (st1 sc (wB (-1) 1) 2 (cB a b c (-1) 1)) = q_law_c1 (st2 sc (wB (-1) 1) 2 (cB a b c (-1) 1)) := by
  unfold q_law_c3
  refine (seq_nx (s' := stG sc (wB (-1) 1) 2 (cB a b c (-1) 1) (some (.lst [nD 2, nD (-1), nD 2])) (none)) (by kernel_rfl)).trans ?_
  refine (seq_nx (s' := stG sc (wB (-1) 1) 2 (cB a b c (-1) 1) (some (.lst [nD 2, nD (-1), nD 2, nD 2, nD 2, nD 2])) (none)) (by kernel_rfl)).trans ?_
  refine (seq_nx (s' := stG sc (wB (-1) 1) 2 (cB a b c (-1) 1) (some (.lst [nD 2, nD (-1), nD 2, nD 2, nD 2, nD 2, nD 2, nD 2, nD 2])) (none)) (by kernel_rfl)).trans ?_
  refine (seq_nx (s' := stG sc (wB (-1) 1) 2 (cB a b c (-1) 1) (some (.lst [nD 2, nD (-1), nD 2, nD 2, nD 2, nD 2, nD 2, nD 2, nD 2])) (some (.lst [nD 2, nD (-1), nD 2, nD 2, nD 2, nD 2, nD 2, nD 2, nD 2]))) (by kernel_rfl)).trans ?_
  exact mid_all sc (wB (-1) 1) 2 a b c (-1) 1 (nD 2) (nD (-1)) (nD 2) (nD 2) (nD 2) (nD 2) (nD 2) (nD 2) (nD 2) (nD 2) (nD (-1)) (nD 2) (nD 2) (nD 2) (nD 2) (nD 2) (nD 2) (nD 2)
theorem mid_m1_3 (sc : D) (a b c : Int) : q_law_c3 (st1 sc (wB (-1) 1) 3 (cB a b c (-1) 1)) = q_law_c1 (st2 sc (wB (-1) 1) 3 (cB a b c (-1) 1)) := by
  unfold q_law_c3
  refine (seq_nx (s' := stG sc (wB (-1) 1) 3 (cB a b c (-1) 1) (some (.lst [nD 3, nD (-1), nD 3])) (none)) (by kernel_rfl)).trans ?_
  refine (seq_nx (s' := stG sc (wB (-1) 1) 3 (cB a b c (-1) 1) (some (.lst [nD 3, nD (-1), nD 3, nD 3, nD 3, nD 3])) (none)) (by kernel_rfl)).trans ?_
  refine (seq_nx (s' := stG sc (wB (-1) 1) 3 (cB a b c (-1) 1) (some (.lst [nD 3, nD (-1), nD 3, nD 3, nD 3, nD 3, nD 3, nD 3, nD 3])) (none)) (by kernel_rfl)).trans ?_
  refine (seq_nx (s' := stG sc (wB (-1) 1) 3 (cB a b c (-1) 1) (some (.lst [nD 3, nD (-1), nD 3, nD 3, nD 3, nD 3, nD 3, nD 3, nD 3])) (some (.lst [nD 3, nD (-1), nD 3, nD 3, nD 3, nD 3, nD 3, nD 3, nD 3]))) (by kernel_rfl)).trans ?_
  exact mid_all sc (wB (-1) 1) 3 a b c (-1) 1 (nD 3) (nD (-1)) (nD 3) (nD 3) (nD 3) (nD 3) (nD 3) (nD 3) (nD 3) (nD 3) (nD (-1)) (nD 3) (nD 3) (nD 3) (nD 3) (nD 3) (nD 3) (nD 3)
theorem mid_m1_4 (sc : D) (a b c : Int) : q_law_c3 (st1 sc (wB (-1) 1) 4 (cB a b c (-1) 1)) = q_law_c1 (st2 sc (wB (-1) 1) 4 (cB a b c (-1) 1)) := by
  unfold q_law_c3
  refine (seq_nx (s' := stG sc (wB (-1) 1) 4 (cB a b c (-1) 1) (some (.lst [nD 4, nD (-1), nD 4])) (none)) (by kernel_rfl)).trans ?_
  refine (seq_nx (s' := stG sc (wB (-1) 1) 4 (cB a b c (-1) 1) (some (.lst [nD 4, nD (-1), nD 4, nD 4, nD 4, nD 4])) (none)) (by kernel_rfl)).trans ?_
  refine (seq_nx (s' := stG sc (wB (-1) 1) 4 (cB a b c (-1) 1) (some (.lst [nD 4, nD (-1), nD 4, nD 4, nD 4, nD 4, nD 4, nD 4, nD 4])) (none)) (by kernel_rfl)).trans ?_
  refine (seq_nx (s' := stG sc (wB (-1) 1) 4 (cB a b c (-1) 1) (some (.lst [nD 4, nD (-1), nD 4, nD 4, nD 4, nD 4, nD 4, nD 4, nD 4])) (some (.lst [nD 4, nD (-1), nD 4, nD 4, nD 4, nD 4, nD 4, nD 4, nD 4]))) (by kernel_rfl)).trans ?_
  exact mid_all sc (wB (-1) 1) 4 a b c (-1) 1 (nD 4) (nD (-1)) (nD 4) (nD 4) (nD 4) (nD 4) (nD 4) (nD 4) (nD 4) (nD 4) (nD (-1)) (nD 4) (nD 4) (nD 4) (nD 4) (nD 4) (nD 4) (nD 4)
theorem mid_m1_5 (sc : D) (a b c : Int) : q_law_c3 (st1 sc (wB (-1) 1) 5 (cB a b c (-1) 1)) = q_law_c1 (st2 sc (wB (-1) 1) 5 (cB a b c (-1) 1)) := by
  unfold q_law_c3
  refine (seq_nx (s' := stG sc (wB (-1) 1) 5 (cB a b c (-1) 1) (some (.lst [nD 5, nD (-1), nD 5])) (none)) (by kernel_rfl)).trans ?_
  refine (seq_nx (s' := stG sc (wB (-1) 1) 5 (cB a b c (-1) 1) (some (.lst [nD 5, nD (-1), nD 5, nD 5, nD 5, nD 5])) (none)) (by kernel_rfl)).trans ?_
  refine (seq_nx (s' := stG sc (wB (-1) 1) 5 (cB a b c (-1) 1) (some (.lst [nD 5, nD (-1), nD 5, nD 5, nD 5, nD 5, nD 5, nD 5, nD 5])) (none)) (by kernel_rfl)).trans ?_
  refine (seq_nx (s' := stG sc (wB (-1) 1) 5 (cB a b c (-1) 1) (some (.lst [nD 5, nD (-1), nD 5, nD 5, nD 5, nD 5, nD 5, nD 5, nD 5])) (some (.lst [nD 5, nD (-1), nD 5, nD 5, nD 5, nD 5, nD 5, nD 5, nD 5]))) (by kernel_rfl)).trans ?_
  exact mid_all sc (wB (-1) 1) 5 a b c (-1) 1 (nD 5) (nD (-1)) (nD 5) (nD 5) (nD 5) (nD 5) (nD 5) (nD 5) (nD 5) (nD 5) (nD (-1)) (nD 5) (nD 5) (nD 5) (nD 5) (nD 5) (nD 5) (nD 5)
theorem mid_m1_6 (sc : D) (a b c : Int) : q_law_c3 (st1 sc (wB (-1) 1) 6 (cB a b c (-1) 1)) = q_law_c1 (st2 sc (wB (-1) 1) 6 (cB a b c (-1) 1)) := by
  unfold q_law_c3
  refine (seq_nx (s' := stG sc (wB (-1) 1) 6 (cB a b c (-1) 1) (some (.lst [nD 6, nD (-1), nD 6])) (none)) (by kernel_rfl)).trans ?_
  refine (seq_nx (s' := stG sc (wB (-1) 1) 6 (cB a b c (-1) 1) (some (.lst [nD 6, nD (-1), nD 6, nD 6, nD 6, nD 6])) (none)) (by kernel_rfl)).trans ?_
  refine (seq_nx (s' := stG sc (wB (-1) 1) 6 (cB a b c (-1) 1) (some (.lst [nD 6, nD (-1), nD 6, nD 6, nD 6, nD 6, nD 6, nD 6, nD 6])) (none)) (by kernel_rfl)).trans ?_
  refine (seq_nx (s' := stG sc (wB (-1) 1) 6 (cB a b c (-1) 1) (some (.lst [nD 6, nD (-1), nD 6, nD 6, nD 6, nD 6, nD 6, nD 6, nD 6])) (some (.lst [nD 6, nD (-1), nD 6, nD 6, nD 6, nD 6, nD 6, nD 6, nD 6]))) (by kernel_rfl)).trans ?_
  exact mid_all sc (wB (-1) 1) 6 a b c (-1) 1 (nD 6) (nD (-1)) (nD 6) (nD 6) (nD 6) (nD 6) (nD 6) (nD 6) (nD 6) (nD 6) (nD (-1)) (nD 6) (nD 6) (nD 6) (nD 6) (nD 6) (nD 6) (nD 6)
theorem mid_m1_7 (sc : D) (a b c : Int) : q_law_c3 (st1 sc (wB (-1) 1) 7 (cB a b c (-1) 1)) = q_law_c1 (st2 sc (wB (-1) 1) 7 (cB a b c (-1) 1)) := by
  unfold q_law_c3
  refine (seq_nx (s' := stG sc (wB (-1) 1) 7 (cB a b c (-1) 1) (some (.lst [nD 7, nD (-1), nD 7])) (none)) (by kernel_rfl)).trans ?_
  refine (seq_nx (s' := stG sc (wB (-1) 1) 7 (cB a b c (-1) 1) (some (.lst [nD 7, nD (-1), nD 7, nD 7, nD 7, nD 7])) (none)) (by kernel_rfl)).trans ?_
  refine (seq_nx (s' := stG sc (wB (-1) 1) 7 (cB a b c (-1) 1) (some (.lst [nD 7, nD (-1), nD 7, nD 7, nD 7, nD 7, nD 7, nD 7, nD 7])) (none)) (by kernel_rfl)).trans ?_
  refine (seq_nx (s' := stG sc (wB (-1) 1) 7 (cB a b c (-1) 1) (some (.lst [nD 7, nD (-1), nD 7, nD 7, nD 7, nD 7, nD 7, nD 7, nD 7])) (some (.lst [nD 7, nD (-1), nD 7, nD 7, nD 7, nD 7, nD 7, nD 7, nD 7]))) (by kernel_rfl)).trans ?_
  exact mid_all sc (wB (-1) 1) 7 a b c (-1) 1 (nD 7) (nD (-1)) (nD 7) (nD 7) (nD 7) (nD 7) (nD 7) (nD 7) (nD 7) (nD 7) (nD (-1)) (nD 7) (nD 7) (nD 7) (nD 7) (nD 7) (nD 7) (nD 7)
theorem mid_m1_8 (sc : D) (a b c : Int) : q_law_c3 (st1 sc (wB (-1) 1) 8 (cB a b c (-1) 1)) = q_law_c1 (st2 sc (wB (-1) 1) 8 (cB a b c (-1) 1)) := by
  unfold q_law_c3
  refine (seq_nx (s' := stG sc (wB (-1) 1) 8 (cB a b c (-1) 1) (some (.lst [nD 8, nD (-1), nD 8])) (none)) (by kernel_rfl)).trans ?_
  refine (seq_nx (s' := stG sc (wB (-1) 1) 8 (cB a b c (-1) 1) (some (.lst [nD 8, nD (-1), nD 8, nD 8, nD 8, nD 8])) (none)) (by kernel_rfl)).trans ?_
  refine (seq_nx (s' := stG sc (wB (-1) 1) 8 (cB a b c (-1) 1) (some (.lst [nD 8, nD (-1), nD 8, nD 8, nD 8, nD 8, nD 8, nD 8, nD 8])) (none)) (by kernel_rfl)).trans ?_
  refine (seq_nx (s' := stG sc (wB (-1) 1) 8 (cB a b c (-1) 1) (some (.lst [nD 8, nD (-1), nD 8, nD 8, nD 8, nD 8, nD 8, nD 8, nD 8])) (some (.lst [nD 8, nD (-1), nD 8, nD 8, nD 8, nD 8, nD 8, nD 8, nD 8]))) (by kernel_rfl)).trans ?_
  exact mid_all sc (wB (-1) 1) 8 a b c (-1) 1 (nD 8) (nD (-1)) (nD 8) (nD 8) (nD 8) (nD 8) (nD 8) (nD 8) (nD 8) (nD 8) (nD (-1)) (nD 8) (nD 8) (nD 8) (nD 8) (nD 8) (nD 8) (nD 8)
theorem mid_m1_9 (sc : D) (a b c : Int) : q_law_c3 (st1 sc (wB (-1) 1) 9 (cB a b c (-1) 1)) = q_law_c1 (st2 sc (wB (-1) 1) 9 (cB a b c (-1) 1)) := by
  unfold q_law_c3
  refine (seq_nx (s' := stG sc (wB (-1) 1) 9 (cB a b c (-1) 1) (some (.lst [nD 9, nD (-1), nD 9])) (none)) (by kernel_rfl)).trans ?_
  refine (seq_nx (s' := stG sc (wB (-1) 1) 9 (cB a b c (-1) 1) (some (.lst [nD 9, nD (-1), nD 9, nD 9, nD 9, nD 9])) (none)) (by kernel_rfl)).trans ?_
  refine (seq_nx (s' := stG sc (wB (-1) 1) 9 (cB a b c (-1) 1) (some (.lst [nD 9, nD (-1), nD 9, nD 9, nD 9, nD 9, nD 9, nD 9, nD 9])) (none)) (by kernel_rfl)).trans ?_
  refine (seq_nx (s' := stG sc (wB (-1) 1) 9 (cB a b c (-1) 1) (some (.lst [nD 9, nD (-1), nD 9, nD 9, nD 9, nD 9, nD 9, nD 9, nD 9])) (some (.lst [nD 9, nD (-1), nD 9, nD 9, nD 9, nD 9, nD 9, nD 9, nD 9]))) (by kernel_rfl)).trans ?_
  exact mid_all sc (wB (-1) 1) 9 a b c (-1) 1 (nD 9) (nD (-1)) (nD 9) (nD 9) (nD 9) (nD 9) (nD 9) (nD 9) (nD 9) (nD 9) (nD (-1)) (nD 9) (nD 9) (nD 9) (nD 9) (nD 9) (nD 9) (nD 9)
theorem mid_m1_10 (sc : D) (a b c : Int) : q_law_c3 (st1 sc (wB (-1) 1) 10 (cB a b c (-1) 1)) = q_law_c1 (st2 sc (wB (-1) 1) 10 (cB a b c (-1) 1)) := by
  unfold q_law_c3
  refine (seq_nx (s' := stG sc (wB (-1) 1) 10 (cB a b c (-1) 1) (some (.lst [nD 10, nD (-1), nD 10])) (none)) (by kernel_rfl)).trans ?_
  refine (seq_nx (s' := stG sc (wB (-1) 1) 10 (cB a b c (-1) 1) (some (.lst [nD 10, nD (-1), nD 10, nD 10, nD 10, nD 10])) (none)) (by kernel_rfl)).trans ?_
  refine (seq_nx (s' := stG sc (wB (-1) 1) 10 (cB a b c (-1) 1) (some (.lst [nD 10, nD (-1), nD 10, nD 10, nD 10, nD 10, nD 10, nD 10, nD 10])) (none)) (by kernel_rfl)).trans ?_
  refine (seq_nx (s' := stG sc (wB (-1) 1) 10 (cB a b c (-1) 1) (some (.lst [nD 10, nD (-1), nD 10, nD 10, nD 10, nD 10, nD 10, nD 10, nD 10])) (some (.lst [nD 10, nD (-1), nD 10, nD 10, nD 10, nD 10, nD 10, nD 10, nD 10]))) (by kernel_rfl)).trans ?_
  exact mid_all sc (wB (-1) 1) 10 a b c (-1) 1 (nD 10) (nD (-1)) (nD 10) (nD 10) (nD 10) (nD 10) (nD 10) (nD 10) (nD 10) (nD 10) (nD (-1)) (nD 10) (nD 10) (nD 10) (nD 10) (nD 10) (nD 10) (nD 10)
theorem mid_p2_2 (sc : D) (a b c : Int) : q_law_c3 (st1 sc (wB 1 (-2)) 2 (cB a b c 1 (-2))) = q_law_c1 (st2 sc (wB 1 (-2)) 2 (cB a b c 1 (-2))) := by
  unfold q_law_c3
  refine (seq_nx (s' := stG sc (wB 1 (-2)) 2 (cB a b c 1 (-2)) (some (.lst [nD 2, nD (-1), nD 2])) (none)) (by kernel_rfl)).trans ?_
  refine (seq_nx (s' := stG sc (wB 1 (-2)) 2 (cB a b c 1 (-2)) (some (.lst [nD 2, nD (-1), nD 2, nD 2, nD 2, nD 2])) (none)) (by kernel_rfl)).trans ?_
  refine (seq_nx (s' := stG sc (wB 1 (-2)) 2 (cB a b c 1 (-2)) (some (.lst [nD 2, nD (-1), nD 2, nD 2, nD 2, nD 2, nD 2, nD 2, nD 2])) (none)) (by kernel_rfl)).trans ?_
  refine (seq_nx (s' := stG sc (wB 1 (-2)) 2 (cB a b c 1 (-2)) (some (.lst [nD 2, nD (-1), nD 2, nD 2, nD 2, nD 2, nD 2, nD 2, nD 2])) (some (.lst [nD 2, nD (-1), nD 2, nD 2, nD 2, nD 2, nD 2, nD 2, nD 2]))) (by kernel_rfl)).trans ?_
  exact mid_all sc (wB 1 (-2)) 2 a b c 1 (-2) (nD 2) (nD (-1)) (nD 2) (nD 2) (nD 2) (nD 2) (nD 2) (nD 2) (nD 2) (nD 2) (nD (-1)) (nD 2) (nD 2) (nD 2) (nD 2) (nD 2) (nD 2) (nD 2)
theorem mid_p2_3 (sc : D) (a b c : Int) : q_law_c3 (st1 sc (wB 1 (-2)) 3 (cB a b c 1 (-2))) = q_law_c1 (st2 sc (wB 1 (-2)) 3 (cB a b c 1 (-2))) := by
  unfold q_law_c3
  refine (seq_nx (s' := stG sc (wB 1 (-2)) 3 (cB a b c 1 (-2)) (some (.lst [nD 3, nD (-1), nD 3])) (none)) (by kernel_rfl)).trans ?_
  refine (seq_nx (s' := stG sc (wB 1 (-2)) 3 (cB a b c 1 (-2)) (some (.lst [nD 3, nD (-1), nD 3, nD 3, nD 3, nD 3])) (none)) (by kernel_rfl)).trans ?_
  refine (seq_nx (s' := stG sc (wB 1 (-2)) 3 (cB a b c 1 (-2)) (some (.lst [nD 3, nD (-1), nD 3, nD 3, nD 3, nD 3, nD 3, nD 3, nD 3])) (none)) (by kernel_rfl)).trans ?_
  refine (seq_nx (s' := stG sc (wB 1 (-2)) 3 (cB a b c 1 (-2)) (some (.lst [nD 3, nD (-1), nD 3, nD 3, nD 3, nD 3, nD 3, nD 3, nD 3])) (some (.lst [nD 3, nD (-1), nD 3, nD 3, nD 3, nD 3, nD 3, nD 3, nD 3]))) (by kernel_rfl)).trans ?_
  exact mid_all sc (wB 1 (-2)) 3 a b c 1 (-2) (nD 3) (nD (-1)) (nD 3) (nD 3) (nD 3) (nD 3) (nD 3) (nD 3) (nD 3) (nD 3) (nD (-1)) (nD 3) (nD 3) (nD 3) (nD 3) (nD 3) (nD 3) (nD 3)
theorem mid_p2_4 (sc : D) (a b c : Int) : q_law_c3 (st1 sc (wB 1 (-2)) 4 (cB a b c 1 (-2))) = q_law_c1 (st2 sc (wB 1 (-2)) 4 (cB a b c 1 (-2))) := by
  unfold q_law_c3
  refine (seq_nx (s' := stG sc (wB 1 (-2)) 4 (cB a b c 1 (-2)) (some (.lst [nD 4, nD (-1), nD 4])) (none)) (by kernel_rfl)).trans ?_
  refine (seq_nx (s' := stG sc (wB 1 (-2)) 4 (cB a b c 1 (-2)) (some (.lst [nD 4, nD (-1), nD 4, nD 4, nD 4, nD 4])) (none)) (by kernel_rfl)).trans ?_
  refine (seq_nx (s' := stG sc (wB 1 (-2)) 4 (cB a b c 1 (-2)) (some (.lst [nD 4, nD (-1), nD 4, nD 4, nD 4, nD 4, nD 4, nD 4, nD 4])) (none)) (by kernel_rfl)).trans ?_
  refine (seq_nx (s' := stG sc (wB 1 (-2)) 4 (cB a b c 1 (-2)) (some (.lst [nD 4, nD (-1), nD 4, nD 4, nD 4, nD 4, nD 4, nD 4, nD 4])) (some (.lst [nD 4, nD (-1), nD 4, nD 4, nD 4, nD 4, nD 4, nD 4, nD 4]))) (by kernel_rfl)).trans ?_
  exact mid_all sc (wB 1 (-2)) 4 a b c 1 (-2) (nD 4) (nD (-1)) (nD 4) (nD 4) (nD 4) (nD 4) (nD 4) (nD 4) (nD 4) (nD 4) (nD (-1)) (nD 4) (nD 4) (nD 4) (nD 4) (nD 4) (nD 4) (nD 4)
theorem mid_p2_5 (sc : D) (a b c : Int) : q_law_c3 (st1 sc (wB 1 (-2)) 5 (cB a b c 1 (-2))) = q_law_c1 (st2 sc (wB 1 (-2)) 5 (cB a b c 1 (-2))) := by
  unfold q_law_c3
  refine (seq_nx (s' := stG sc (wB 1 (-2)) 5 (cB a b c 1 (-2)) (some (.lst [nD 5, nD (-1), nD 5])) (none)) (by kernel_rfl)).trans ?_
  refine (seq_nx (s' := stG sc (wB 1 (-2)) 5 (cB a b c 1 (-2)) (some (.lst [nD 5, nD (-1), nD 5, nD 5, nD 5, nD 5])) (none)) (by kernel_rfl)).trans ?_
  refine (seq_nx (s' := stG sc (wB 1 (-2)) 5 (cB a b c 1 (-2)) (some (.lst [nD 5, nD (-1), nD 5, nD 5, nD 5, nD 5, nD 5, nD 5, nD 5])) (none)) (by kernel_rfl)).trans ?_
  refine (seq_nx (s' := stG sc (wB 1 (-2)) 5 (cB a b c 1 (-2)) (some (.lst [nD 5, nD (-1), nD 5, nD 5, nD 5, nD 5, nD 5, nD 5, nD 5])) (some (.lst [nD 5, nD (-1), nD 5, nD 5, nD 5, nD 5, nD 5, nD 5, nD 5]))) (by kernel_rfl)).trans ?_
  exact mid_all sc (wB 1 (-2)) 5 a b c 1 (-2) (nD 5) (nD (-1)) (nD 5) (nD 5) (nD 5) (nD 5) (nD 5) (nD 5) (nD 5) (nD 5) (nD (-1)) (nD 5) (nD 5) (nD 5) (nD 5) (nD 5) (nD 5) (nD 5)
theorem mid_p2_6 (sc : D) (a b c : Int) : q_law_c3 (st1 sc (wB 1 (-2)) 6 (cB a b c 1 (-2))) = q_law_c1 (st2 sc (wB 1 (-2)) 6 (cB a b c 1 (-2))) := by
  unfold q_law_c3
  refine (seq_nx (s' := stG sc (wB 1 (-2)) 6 (cB a b c 1 (-2)) (some (.lst [nD 6, nD (-1), nD 6])) (none)) (by kernel_rfl)).trans ?_
  refine (seq_nx (s' := stG sc (wB 1 (-2)) 6 (cB a b c 1 (-2)) (some (.lst [nD 6, nD (-1), nD 6, nD 6, nD 6, nD 6])) (none)) (by kernel_rfl)).trans ?_
  refine (seq_nx (s' := stG sc (wB 1 (-2)) 6 (cB a b c 1 (-2)) (some (.lst [nD 6, nD (-1), nD 6, nD 6, nD 6, nD 6, nD 6, nD 6, nD 6])) (none)) (by kernel_rfl)).trans ?_
  refine (seq_nx (s' := stG sc (wB 1 (-2)) 6 (cB a b c 1 (-2)) (some (.lst [nD 6, nD (-1), nD 6, nD 6, nD 6, nD 6, nD 6, nD 6, nD 6])) (some (.lst [nD 6, nD (-1), nD 6, nD 6, nD 6, nD 6, nD 6, nD 6, nD 6]))) (by kernel_rfl)).trans ?_
  exact mid_all sc (wB 1 (-2)) 6 a b c 1 (-2) (nD 6) (nD (-1)) (nD 6) (nD 6) (nD 6) (nD 6) (nD 6) (nD 6) (nD 6) (nD 6) (nD (-1)) (nD 6) (nD 6) (nD 6) (nD 6) (nD 6) (nD 6) (nD 6)
theorem mid_p2_7 (sc : D) (a b c : Int) : q_law_c3 (st1 sc (wB 1 (-2)) 7 (cB a b c 1 (-2))) = q_law_c1 (st2 sc (wB 1 (-2)) 7 (cB a b c 1 (-2))) := by
  unfold q_law_c3
  refine (seq_nx (s' := stG sc (wB 1 (-2)) 7 (cB a b c 1 (-2)) (some (.lst [nD 7, nD (-1), nD 7])) (none)) (by kernel_rfl)).trans ?_
  refine (seq_nx (s' := stG sc (wB 1 (-2)) 7 (cB a b c 1 (-2)) (some (.lst [nD 7, nD (-1), nD 7, nD 7, nD 7, nD 7])) (none)) (by kernel_rfl)).trans ?_
  refine (seq_nx (s' := stG sc (wB 1 (-2)) 7 (cB a b c 1 (-2)) (some (.lst [nD 7, nD (-1), nD 7, nD 7, nD 7, nD 7, nD 7, nD 7, nD 7])) (none)) (by kernel_rfl)).trans ?_
  refine (seq_nx (s' := stG sc (wB 1 (-2)) 7 (cB a b c 1 (-2)) (some (.lst [nD 7, nD (-1), nD 7, nD 7, nD 7, nD 7, nD 7, nD 7, nD 7])) (some (.lst [nD 7, nD (-1), nD 7, nD 7, nD 7, nD 7, nD 7, nD 7, nD 7]))) (by kernel_rfl)).trans ?_
  exact mid_all sc (wB 1 (-2)) 7 a b c 1 (-2) (nD 7) (nD (-1)) (nD 7) (nD 7) (nD 7) (nD 7) (nD 7) (nD 7) (nD 7) (nD 7) (nD (-1)) (nD 7) (nD 7) (nD 7) (nD 7) (nD 7) (nD 7) (nD 7)
theorem mid_p2_8 (sc : D) (a b c : Int) : q_law_c3 (st1 sc (wB 1 (-2)) 8 (cB a b c 1 (-2))) = q_law_c1 (st2 sc (wB 1 (-2)) 8 (cB a b c 1 (-2))) := by
  unfold q_law_c3
  refine (seq_nx (s' := stG sc (wB 1 (-2)) 8 (cB a b c 1 (-2)) (some (.lst [nD 8, nD (-1), nD 8])) (none)) (by kernel_rfl)).trans ?_
  refine (seq_nx (s' := stG sc (wB 1 (-2)) 8 (cB a b c 1 (-2)) (some (.lst [nD 8, nD (-1), nD 8, nD 8, nD 8, nD 8])) (none)) (by kernel_rfl)).trans ?_
  refine (seq_nx (s' := stG sc (wB 1 (-2)) 8 (cB a b c 1 (-2)) (some (.lst [nD 8, nD (-1), nD 8, nD 8, nD 8, nD 8, nD 8, nD 8, nD 8])) (none)) (by kernel_rfl)).trans ?_
  refine (seq_nx (s' := stG sc (wB 1 (-2)) 8 (cB a b c 1 (-2)) (some (.lst [nD 8, nD (-1), nD 8, nD 8, nD 8, nD 8, nD 8, nD 8, nD 8])) (some (.lst [nD 8, nD (-1), nD 8, nD 8, nD 8, nD 8, nD 8, nD 8, nD 8]))) (by kernel_rfl)).trans ?_
  exact mid_all sc (wB 1 (-2)) 8 a b c 1 (-2) (nD 8) (nD (-1)) (nD 8) (nD 8) (nD 8) (nD 8) (nD 8) (nD 8) (nD 8) (nD 8) (nD (-1)) (nD 8) (nD 8) (nD 8) (nD 8) (nD 8) (nD 8) (nD 8)
theorem mid_p2_9 (sc : D) (a b c : Int) : q_law_c3 (st1 sc (wB 1 (-2)) 9 (cB a b c 1 (-2))) = q_law_c1 (st2 sc (wB 1 (-2)) 9 (cB a b c 1 (-2))) := by
  unfold q_law_c3
  refine (seq_nx (s' := stG sc (wB 1 (-2)) 9 (cB a b c 1 (-2)) (some (.lst [nD 9, nD (-1), nD 9])) (none)) (by kernel_rfl)).trans ?_
  refine (seq_nx (s' := stG sc (wB 1 (-2)) 9 (cB a b c 1 (-2)) (some (.lst [nD 9, nD (-1), nD 9, nD 9, nD 9, nD 9])) (none)) (by kernel_rfl)).trans ?_
  refine (seq_nx (s' := stG sc (wB 1 (-2)) 9 (cB a b c 1 (-2)) (some (.lst [nD 9, nD (-1), nD 9, nD 9, nD 9, nD 9, nD 9, nD 9, nD 9])) (none)) (by kernel_rfl)).trans ?_
  refine (seq_nx (s' := stG sc (wB 1 (-2)) 9 (cB a b c 1 (-2)) (some (.lst [nD 9, nD (-1), nD 9, nD 9, nD 9, nD 9, nD 9, nD 9, nD 9])) (some (.lst [nD 9, nD (-1), nD 9, nD 9, nD 9, nD 9, nD 9, nD 9, nD 9]))) (by kernel_rfl)).trans ?_
  exact mid_all sc (wB 1 (-2)) 9 a b c 1 (-2) (nD 9) (nD (-1)) (nD 9) (nD 9) (nD 9) (nD 9) (nD 9) (nD 9) (nD 9) (nD 9) (nD (-1)) (nD 9) (nD 9) (nD 9) (nD 9) (nD 9) (nD 9) (nD 9)
theorem mid_p2_10 (sc : D) (a b c : Int) : q_law_c3 (st1 sc (wB 1 (-2)) 10 (cB a b c 1 (-2))) = q_law_c1 (st2 sc (wB 1 (-2)) 10 (cB a b c 1 (-2))) := by
  unfold q_law_c3
  refine (seq_nx (s' := stG sc (wB 1 (-2)) 10 (cB a b c 1 (-2)) (some (.lst [nD 10, nD (-1), nD 10])) (none)) (by kernel_rfl)).trans ?_
  refine (seq_nx (s' := stG sc (wB 1 (-2)) 10 (cB a b c 1 (-2)) (some (.lst [nD 10, nD (-1), nD 10, nD 10, nD 10, nD 10])) (none)) (by kernel_rfl)).trans ?_
  refine (seq_nx (s' := stG sc (wB 1 (-2)) 10 (cB a b c 1 (-2)) (some (.lst [nD 10, nD (-1), nD 10, nD 10, nD 10, nD 10, nD 10, nD 10, nD 10])) (none)) (by kernel_rfl)).trans ?_
  refine (seq_nx (s' := stG sc (wB 1 (-2)) 10 (cB a b c 1 (-2)) (some (.lst [nD 10, nD (-1), nD 10, nD 10, nD 10, nD 10, nD 10, nD 10, nD 10])) (some (.lst [nD 10, nD (-1), nD 10, nD 10, nD 10, nD 10, nD 10, nD 10, nD 10]))) (by kernel_rfl)).trans ?_
  exact mid_all sc (wB 1 (-2)) 10 a b c 1 (-2) (nD 10) (nD (-1)) (nD 10) (nD 10) (nD 10) (nD 10) (nD 10) (nD 10) (nD 10) (nD 10) (nD (-1)) (nD 10) (nD 10) (nD 10) (nD 10) (nD 10) (nD 10) (nD 10)
theorem mid_m2_2 (sc : D) (a b c : Int) : q_law_c3 (st1 sc (wB (-1) 2) 2 (cB a b c (-1) 2)) = q_law_c1 (st2 sc (wB (-1) 2) 2 (cB a b c (-1) 2)) := by
  unfold q_law_c3
  refine (seq_nx (s' := stG sc (wB (-1) 2) 2 (cB a b c (-1) 2) (some (.lst [nD 2, nD (-1), nD 2])) (none)) (by kernel_rfl)).trans ?_
  refine (seq_nx (s' := stG sc (wB (-1) 2) 2 (cB a b c (-1) 2) (some (.lst [nD 2, nD (-1), nD 2, nD 2, nD 2, nD 2])) (none)) (by kernel_rfl)).trans ?_
  refine (seq_nx (s' := stG sc (wB (-1) 2) 2 (cB a b c (-1) 2) (some (.lst [nD 2, nD (-1), nD 2, nD 2, nD 2, nD 2, nD 2, nD 2, nD 2])) (none)) (by kernel_rfl)).trans ?_
  refine (seq_nx (s' := stG sc (wB (-1) 2) 2 (cB a b c (-1) 2) (some (.lst [nD 2, nD (-1), nD 2, nD 2, nD 2, nD 2, nD 2, nD 2, nD 2])) (some (.lst [nD 2, nD (-1), nD 2, nD 2, nD 2, nD 2, nD 2, nD 2, nD 2]))) (by kernel_rfl)).trans ?_
  exact mid_all sc (wB (-1) 2) 2 a b c (-1) 2 (nD 2) (nD (-1)) (nD 2) (nD 2) (nD 2) (nD 2) (nD 2) (nD 2) (nD 2) (nD 2) (nD (-1)) (nD 2) (nD 2) (nD 2) (nD 2) (nD 2) (nD 2) (nD 2)
theorem mid_m2_3 (sc : D) (a b c : Int) : q_law_c3 (st1 sc (wB (-1) 2) 3 (cB a b c (-1) 2)) = q_law_c1 (st2 sc (wB (-1) 2) 3 (cB a b c (-1) 2)) := by
  unfold q_law_c3
  refine (seq_nx (s' := stG sc (wB (-1) 2) 3 (cB a b c (-1) 2) (some (.lst [nD 3, nD (-1), nD 3])) (none)) (by kernel_rfl)).trans ?_
  refine (seq_nx (s' := stG sc (wB (-1) 2) 3 (cB a b c (-1) 2) (some (.lst [nD 3, nD (-1), nD 3, nD 3, nD 3, nD 3])) (none)) (by kernel_rfl)).trans ?_
  refine (seq_nx (s' := stG sc (wB (-1) 2) 3 (cB a b c (-1) 2) (some (.lst [nD 3, nD (-1), nD 3, nD 3, nD 3, nD 3, nD 3, nD 3, nD 3])) (none)) (by kernel_rfl)).trans ?_
  refine (seq_nx (s' := stG sc (wB (-1) 2) 3 (cB a b c (-1) 2) (some (.lst [nD 3, nD (-1), nD 3, nD 3, nD 3, nD 3, nD 3, nD 3, nD 3])) (some (.lst [nD 3, nD (-1), nD 3, nD 3, nD 3, nD 3, nD 3, nD 3, nD 3]))) (by kernel_rfl)).trans ?_
  exact mid_all sc (wB (-1) 2) 3 a b c (-1) 2 (nD 3) (nD (-1)) (nD 3) (nD 3) (nD 3) (nD 3) (nD 3) (nD 3) (nD 3) (nD 3) (nD (-1)) (nD 3) (nD 3) (nD 3) (nD 3) (nD 3) (nD 3) (nD 3)
theorem mid_m2_4 (sc : D) (a b c : Int) : q_law_c3 (st1 sc (wB (-1) 2) 4 (cB a b c (-1) 2)) = q_law_c1 (st2 sc (wB (-1) 2) 4 (cB a b c (-1) 2)) := by
  unfold q_law_c3
  refine (seq_nx (s' := stG sc (wB (-1) 2) 4 (cB a b c (-1) 2) (some (.lst [nD 4, nD (-1), nD 4])) (none)) (by kernel_rfl)).trans ?_
  refine (seq_nx (s' := stG sc (wB (-1) 2) 4 (cB a b c (-1) 2) (some (.lst [nD 4, nD (-1), nD 4, nD 4, nD 4, nD 4])) (none)) (by kernel_rfl)).trans ?_
  refine (seq_nx (s' := stG sc (wB (-1) 2) 4 (cB a b c (-1) 2) (some (.lst [nD 4, nD (-1), nD 4, nD 4, nD 4, nD 4, nD 4, nD 4, nD 4])) (none)) (by kernel_rfl)).trans ?_
  refine (seq_nx (s' := stG sc (wB (-1) 2) 4 (cB a b c (-1) 2) (some (.lst [nD 4, nD (-1), nD 4, nD 4, nD 4, nD 4, nD 4, nD 4, nD 4])) (some (.lst [nD 4, nD (-1), nD 4, nD 4, nD 4, nD 4, nD 4, nD 4, nD 4]))) (by kernel_rfl)).trans ?_
  exact mid_all sc (wB (-1) 2) 4 a b c (-1) 2 (nD 4) (nD (-1)) (nD 4) (nD 4) (nD 4) (nD 4) (nD 4) (nD 4) (nD 4) (nD 4) (nD (-1)) (nD 4) (nD 4) (nD 4) (nD 4) (nD 4) (nD 4) (nD 4)
theorem mid_m2_5 (sc : D) (a b c : Int) : q_law_c3 (st1 sc (wB (-1) 2) 5 (cB a b c (-1) 2)) = q_law_c1 (st2 sc (wB (-1) 2) 5 (cB a b c (-1) 2)) := by
  unfold q_law_c3
  refine (seq_nx (s' := stG sc (wB (-1) 2) 5 (cB a b c (-1) 2) (some (.lst [nD 5, nD (-1), nD 5])) (none)) (by kernel_rfl)).trans ?_
  refine (seq_nx (s' := stG sc (wB (-1) 2) 5 (cB a b c (-1) 2) (some (.lst [nD 5, nD (-1), nD 5, nD 5, nD 5, nD 5])) (none)) (by kernel_rfl)).trans ?_
  refine (seq_nx (s' := stG sc (wB (-1) 2) 5 (cB a b c (-1) 2) (some (.lst [nD 5, nD (-1), nD 5, nD 5, nD 5, nD 5, nD 5, nD 5, nD 5])) (none)) (by kernel_rfl)).trans ?_
  refine (seq_nx (s' := stG sc (wB (-1) 2) 5 (cB a b c (-1) 2) (some (.lst [nD 5, nD (-1), nD 5, nD 5, nD 5, nD 5, nD 5, nD 5, nD 5])) (some (.lst [nD 5, nD (-1), nD 5, nD 5, nD 5, nD 5, nD 5, nD 5, nD 5]))) (by kernel_rfl)).trans ?_
  exact mid_all sc (wB (-1) 2) 5 a b c (-1) 2 (nD 5) (nD (-1)) (nD 5) (nD 5) (nD 5) (nD 5) (nD 5) (nD 5) (nD 5) (nD 5) (nD (-1)) (nD 5) (nD 5) (nD 5) (nD 5) (nD 5) (nD 5) (nD 5)
theorem mid_m2_6 (sc : D) (a b c : Int) : q_law_c3 (st1 sc (wB (-1) 2) 6 (cB a b c (-1) 2)) = q_law_c1 (st2 sc (wB (-1) 2) 6 (cB a b c (-1) 2)) := by
  unfold q_law_c3
  refine (seq_nx (s' := stG sc (wB (-1) 2) 6 (cB a b c (-1) 2) (some (.lst [nD 6, nD (-1), nD 6])) (none)) (by kernel_rfl)).trans ?_
  refine (seq_nx (s' := stG sc (wB (-1) 2) 6 (cB a b c (-1) 2) (some (.lst [nD 6, nD (-1), nD 6, nD 6, nD 6, nD 6])) (none)) (by kernel_rfl)).trans ?_
  refine (seq_nx (s' := stG sc (wB (-1) 2) 6 (cB a b c (-1) 2) (some (.lst [nD 6, nD (-1), nD 6, nD 6, nD 6, nD 6, nD 6, nD 6, nD 6])) (none)) (by kernel_rfl)).trans ?_
  refine (seq_nx (s' := stG sc (wB (-1) 2) 6 (cB a b c (-1) 2) (some (.lst [nD 6, nD (-1), nD 6, nD 6, nD 6, nD 6, nD 6, nD 6, nD 6])) (some (.lst [nD 6, nD (-1), nD 6, nD 6, nD 6, nD 6, nD 6, nD 6, nD 6]))) (by kernel_rfl)).trans ?_
  exact mid_all sc (wB (-1) 2) 6 a b c (-1) 2 (nD 6) (nD (-1)) (nD 6) (nD 6) (nD 6) (nD 6) (nD 6) (nD 6) (nD 6) (nD 6) (nD (-1)) (nD 6) (nD 6) (nD 6) (nD 6) (nD 6) (nD 6) (nD 6)
theorem mid_m2_7 (sc : D) (a b c : Int) : q_law_c3 (st1 sc (wB (-1) 2) 7 (cB a b c (-1) 2)) = q_law_c1 (st2 sc (wB (-1) 2) 7 (cB a b c (-1) 2)) := by
  unfold q_law_c3
  refine (seq_nx (s' := stG sc (wB (-1) 2) 7 (cB a b c (-1) 2) (some (.lst [nD 7, nD (-1), nD 7])) (none)) (by kernel_rfl)).trans ?_
  refine (seq_nx (s' := stG sc (wB (-1) 2) 7 (cB a b c (-1) 2) (some (.lst [nD 7, nD (-1), nD 7, nD 7, nD 7, nD 7])) (none)) (by kernel_rfl)).trans ?_
  refine (seq_nx (s' := stG sc (wB (-1) 2) 7 (cB a b c (-1) 2) (some (.lst [nD 7, nD (-1), nD 7, nD 7, nD 7, nD 7, nD 7, nD 7, nD 7])) (none)) (by kernel_rfl)).trans ?_
  refine (seq_nx (s' := stG sc (wB (-1) 2) 7 (cB a b c (-1) 2) (some (.lst [nD 7, nD (-1), nD 7, nD 7, nD 7, nD 7, nD 7, nD 7, nD 7])) (some (.lst [nD 7, nD (-1), nD 7, nD 7, nD 7, nD 7, nD 7, nD 7, nD 7]))) (by kernel_rfl)).trans ?_
  exact mid_all sc (wB (-1) 2) 7 a b c (-1) 2 (nD 7) (nD (-1)) (nD 7) (nD 7) (nD 7) (nD 7) (nD 7) (nD 7) (nD 7) (nD 7) (nD (-1)) (nD 7) (nD 7) (nD 7) (nD 7) (nD 7) (nD 7) (nD 7)
theorem mid_m2_8 (sc : D) (a b c : Int) : q_law_c3 (st1 sc (wB (-1) 2) 8 (cB a b c (-1) 2)) = q_law_c1 (st2 sc (wB (-1) 2) 8 (cB a b c (-1) 2)) := by
  unfold q_law_c3
  refine (seq_nx (s' := stG sc (wB (-1) 2) 8 (cB a b c (-1) 2) (some (.lst [nD 8, nD (-1), nD 8])) (none)) (by kernel_rfl)).trans ?_
  refine (seq_nx (s' := stG sc (wB (-1) 2) 8 (cB a b c (-1) 2) (some (.lst [nD 8, nD (-1), nD 8, nD 8, nD 8, nD 8])) (none)) (by kernel_rfl)).trans ?_
  refine (seq_nx (s' := stG sc (wB (-1) 2) 8 (cB a b c (-1) 2) (some (.lst [nD 8, nD (-1), nD 8, nD 8, nD 8, nD 8, nD 8, nD 8, nD 8])) (none)) (by kernel_rfl)).trans ?_
  refine (seq_nx (s' := stG sc (wB (-1) 2) 8 (cB a b c (-1) 2) (some (.lst [nD 8, nD (-1), nD 8, nD 8, nD 8, nD 8, nD 8, nD 8, nD 8])) (some (.lst [nD 8, nD (-1), nD 8, nD 8, nD 8, nD 8, nD 8, nD 8, nD 8]))) (by kernel_rfl)).trans ?_
  exact mid_all sc (wB (-1) 2) 8 a b c (-1) 2 (nD 8) (nD (-1)) (nD 8) (nD 8) (nD 8) (nD 8) (nD 8) (nD 8) (nD 8) (nD 8) (nD (-1)) (nD 8) (nD 8) (nD 8) (nD 8) (nD 8) (nD 8) (nD 8)
theorem mid_m2_9 (sc : D) (a b c : Int) : q_law_c3 (st1 sc (wB (-1) 2) 9 (cB a b c (-1) 2)) = q_law_c1 (st2 sc (wB (-1) 2) 9 (cB a b c (-1) 2)) := by
  unfold q_law_c3
  refine (seq_nx (s' := stG sc (wB (-1) 2) 9 (cB a b c (-1) 2) (some (.lst [nD 9, nD (-1), nD 9])) (none)) (by kernel_rfl)).trans ?_
  refine (seq_nx (s' := stG sc (wB (-1) 2) 9 (cB a b c (-1) 2) (some (.lst [nD 9, nD (-1), nD 9, nD 9, nD 9, nD 9])) (none)) (by kernel_rfl)).trans ?_
  refine (seq_nx (s' := stG sc (wB (-1) 2) 9 (cB a b c (-1) 2) (some (.lst [nD 9, nD (-1), nD 9, nD 9, nD 9, nD 9, nD 9, nD 9, nD 9])) (none)) (by kernel_rfl)).trans ?_
  refine (seq_nx (s' := stG sc (wB (-1) 2) 9 (cB a b c (-1) 2) (some (.lst [nD 9, nD (-1), nD 9, nD 9, nD 9, nD 9, nD 9, nD 9, nD 9])) (some (.lst [nD 9, nD (-1), nD 9, nD 9, nD 9, nD 9, nD 9, nD 9, nD 9]))) (by kernel_rfl)).trans ?_
  exact mid_all sc (wB (-1) 2) 9 a b c (-1) 2 (nD 9) (nD (-1)) (nD 9) (nD 9) (nD 9) (nD 9) (nD 9) (nD 9) (nD 9) (nD 9) (nD (-1)) (nD 9) (nD 9) (nD 9) (nD 9) (nD 9) (nD 9) (nD 9)
theorem mid_m2_10 (sc : D) (a b c : Int) : q_law_c3 (st1 sc (wB (-1) 2) 10 (cB a b c (-1) 2)) = q_law_c1 (st2 sc (wB (-1) 2) 10 (cB a b c (-1) 2)) := by
  unfold q_law_c3
  refine (seq_nx (s' := stG sc (wB (-1) 2) 10 (cB a b c (-1) 2) (some (.lst [nD 10, nD (-1), nD 10])) (none)) (by kernel_rfl)).trans ?_
  refine (seq_nx (s' := stG sc (wB (-1) 2) 10 (cB a b c (-1) 2) (some (.lst [nD 10, nD (-1), nD 10, nD 10, nD 10, nD 10])) (none)) (by kernel_rfl)).trans ?_
  refine (seq_nx (s' := stG sc (wB (-1) 2) 10 (cB a b c (-1) 2) (some (.lst [nD 10, nD (-1), nD 10, nD 10, nD 10, nD 10, nD 10, nD 10, nD 10])) (none)) (by kernel_rfl)).trans ?_
  refine (seq_nx (s' := stG sc (wB (-1) 2) 10 (cB a b c (-1) 2) (some (.lst [nD 10, nD (-1), nD 10, nD 10, nD 10, nD 10, nD 10, nD 10, nD 10])) (some (.lst [nD 10, nD (-1), nD 10, nD 10, nD 10, nD 10, nD 10, nD 10, nD 10]))) (by kernel_rfl)).trans ?_
  exact mid_all sc (wB (-1) 2) 10 a b c (-1) 2 (nD 10) (nD (-1)) (nD 10) (nD 10) (nD 10) (nD 10) (nD 10) (nD 10) (nD 10) (nD 10) (nD (-1)) (nD 10) (nD 10) (nD 10) (nD 10) (nD 10) (nD 10) (nD 10)
theorem mid_p3_2 (sc : D) (a b c : Int) : q_law_c3 (st1 sc (wB 1 (-3)) 2 (cB a b c 1 (-3))) = q_law_c1 (st2 sc (wB 1 (-3)) 2 (cB a b c 1 (-3))) := by
  unfold q_law_c3
  refine (seq_nx (s' := stG sc (wB 1 (-3)) 2 (cB a b c 1 (-3)) (some (.lst [nD 2, nD (-1), nD 2])) (none)) (by kernel_rfl)).trans ?_
  refine (seq_nx (s' := stG sc (wB 1 (-3)) 2 (cB a b c 1 (-3)) (some (.lst [nD 2, nD (-1), nD 2, nD 2, nD 2, nD 2])) (none)) (by kernel_rfl)).trans ?_
  refine (seq_nx (s' := stG sc (wB 1 (-3)) 2 (cB a b c 1 (-3)) (some (.lst [nD 2, nD (-1), nD 2, nD 2, nD 2, nD 2, nD 2, nD 2, nD 2])) (none)) (by kernel_rfl)).trans ?_
  refine (seq_nx (s' := stG sc (wB 1 (-3)) 2 (cB a b c 1 (-3)) (some (.lst [nD 2, nD (-1), nD 2, nD 2, nD 2, nD 2, nD 2, nD 2, nD 2])) (some (.lst [nD 2, nD (-1), nD 2, nD 2, nD 2, nD 2, nD 2, nD 2, nD 2]))) (by kernel_rfl)).trans ?_
  exact mid_all sc (wB 1 (-3)) 2 a b c 1 (-3) (nD 2) (nD (-1)) (nD 2) (nD 2) (nD 2) (nD 2) (nD 2) (nD 2) (nD 2) (nD 2) (nD (-1)) (nD 2) (nD 2) (nD 2) (nD 2) (nD 2) (nD 2) (nD 2)
theorem mid_p3_3 (sc : D) (a b c : Int) : q_law_c3 (st1 sc (wB 1 (-3)) 3 (cB a b c 1 (-3))) = q_law_c1 (st2 sc (wB 1 (-3)) 3 (cB a b c 1 (-3))) := by
  unfold q_law_c3
  refine (seq_nx (s' := stG sc (wB 1 (-3)) 3 (cB a b c 1 (-3)) (some (.lst [nD 3, nD (-1), nD 3])) (none)) (by kernel_rfl)).trans ?_
  refine (seq_nx (s' := stG sc (wB 1 (-3)) 3 (cB a b c 1 (-3)) (some (.lst [nD 3, nD (-1), nD 3, nD 3, nD 3, nD 3])) (none)) (by kernel_rfl)).trans ?_
  refine (seq_nx (s' := stG sc (wB 1 (-3)) 3 (cB a b c 1 (-3)) (some (.lst [nD 3, nD (-1), nD 3, nD 3, nD 3, nD 3, nD 3, nD 3, nD 3])) (none)) (by kernel_rfl)).trans ?_
  refine (seq_nx (s' := stG sc (wB 1 (-3)) 3 (cB a b c 1 (-3)) (some (.lst [nD 3, nD (-1), nD 3, nD 3, nD 3, nD 3, nD 3, nD 3, nD 3])) (some (.lst [nD 3, nD (-1), nD 3, nD 3, nD 3, nD 3, nD 3, nD 3, nD 3]))) (by kernel_rfl)).trans ?_
  exact mid_all sc (wB 1 (-3)) 3 a b c 1 (-3) (nD 3) (nD (-1)) (nD 3) (nD 3) (nD 3) (nD 3) (nD 3) (nD 3) (nD 3) (nD 3) (nD (-1)) (nD 3) (nD 3) (nD 3) (nD 3) (nD 3) (nD 3) (nD 3)
theorem mid_p3_4 (sc : D) (a b c : Int) : q_law_c3 (st1 sc (wB 1 (-3)) 4 (cB a b c 1 (-3))) = q_law_c1 (st2 sc (wB 1 (-3)) 4 (cB a b c 1 (-3))) := by
  unfold q_law_c3
  refine (seq_nx (s' := stG sc (wB 1 (-3)) 4 (cB a b c 1 (-3)) (some (.lst [nD 4, nD (-1), nD 4])) (none)) (by kernel_rfl)).trans ?_
  refine (seq_nx (s' := stG sc (wB 1 (-3)) 4 (cB a b c 1 (-3)) (some (.lst [nD 4, nD (-1), nD 4, nD 4, nD 4, nD 4])) (none)) (by kernel_rfl)).trans ?_
  refine (seq_nx (s' := stG sc (wB 1 (-3)) 4 (cB a b c 1 (-3)) (some (.lst [nD 4, nD (-1), nD 4, nD 4, nD 4, nD 4, nD 4, nD 4, nD 4])) (none)) (by kernel_rfl)).trans ?_
  refine (seq_nx (s' := stG sc (wB 1 (-3)) 4 (cB a b c 1 (-3)) (some (.lst [nD 4, nD (-1), nD 4, nD 4, nD 4, nD 4, nD 4, nD 4, nD 4])) (some (.lst [nD 4, nD (-1), nD 4, nD 4, nD 4, nD 4, nD 4, nD 4, nD 4]))) (by kernel_rfl)).trans ?_
  exact mid_all sc (wB 1 (-3)) 4 a b c 1 (-3) (nD 4) (nD (-1)) (nD 4) (nD 4) (nD 4) (nD 4) (nD 4) (nD 4) (nD 4) (nD 4) (nD (-1)) (nD 4) (nD 4) (nD 4) (nD 4) (nD 4) (nD 4) (nD 4)
theorem mid_p3_5 (sc : D) (a b c : Int) : q_law_c3 (st1 sc (wB 1 (-3)) 5 (cB a b c 1 (-3))) = q_law_c1 (st2 sc (wB 1 (-3)) 5 (cB a b c 1 (-3))) := by
  unfold q_law_c3
  refine (seq_nx (s' := stG sc (wB 1 (-3)) 5 (cB a b c 1 (-3)) (some (.lst [nD 5, nD (-1), nD 5])) (none)) (by kernel_rfl)).trans ?_
  refine (seq_nx (s' := stG sc (wB 1 (-3)) 5 (cB a b c 1 (-3)) (some (.lst [nD 5, nD (-1), nD 5, nD 5, nD 5, nD 5])) (none)) (by kernel_rfl)).trans ?_
  refine (seq_nx (s' := stG sc (wB 1 (-3)) 5 (cB a b c 1 (-3)) (some (.lst [nD 5, nD (-1), nD 5, nD 5, nD 5, nD 5, nD 5, nD 5, nD 5])) (none)) (by kernel_rfl)).trans ?_
  refine (seq_nx (s' := stG sc (wB 1 (-3)) 5 (cB a b c 1 (-3)) (some (.lst [nD 5, nD (-1), nD 5, nD 5, nD 5, nD 5, nD 5, nD 5, nD 5])) (some (.lst [nD 5, nD (-1), nD 5, nD 5, nD 5, nD 5, nD 5, nD 5, nD 5]))) (by kernel_rfl)).trans ?_
  exact mid_all sc (wB 1 (-3)) 5 a b c 1 (-3) (nD 5) (nD (-1)) (nD 5) (nD 5) (nD 5) (nD 5) (nD 5) (nD 5) (nD 5) (nD 5) (nD (-1)) (nD 5) (nD 5) (nD 5) (nD 5) (nD 5) (nD 5) (nD 5)
theorem mid_p3_6 (sc : D) (a b c : Int) : q_law_c3 (st1 sc (wB 1 (-3)) 6 (cB a b c 1 (-3))) = q_law_c1 (st2 sc (wB 1 (-3)) 6 (cB a b c 1 (-3))) := by
  unfold q_law_c3
  refine (seq_nx (s' := stG sc (wB 1 (-3)) 6 (cB a b c 1 (-3)) (some (.lst [nD 6, nD (-1), nD 6])) (none)) (by kernel_rfl)).trans ?_
  refine (seq_nx (s' := stG sc (wB 1 (-3)) 6 (cB a b c 1 (-3)) (some (.lst [nD 6, nD (-1), nD 6, nD 6, nD 6, nD 6])) (none)) (by kernel_rfl)).trans ?_
  refine (seq_nx (s' := stG sc (wB 1 (-3)) 6 (cB a b c 1 (-3)) (some (.lst [nD 6, nD (-1), nD 6, nD 6, nD 6, nD 6, nD 6, nD 6, nD 6])) (none)) (by kernel_rfl)).trans ?_
  refine (seq_nx (s' := stG sc (wB 1 (-3)) 6 (cB a b c 1 (-3)) (some (.lst [nD 6, nD (-1), nD 6, nD 6, nD 6, nD 6, nD 6, nD 6, nD 6])) (some (.lst [nD 6, nD (-1), nD 6, nD 6, nD 6, nD 6, nD 6, nD 6, nD 6]))) (by kernel_rfl)).trans ?_
  exact mid_all sc (wB 1 (-3)) 6 a b c 1 (-3) (nD 6) (nD (-1)) (nD 6) (nD 6) (nD 6) (nD 6) (nD 6) (nD 6) (nD 6) (nD 6) (nD (-1)) (nD 6) (nD 6) (nD 6) (nD 6) (nD 6) (nD 6) (nD 6)
theorem mid_p3_7 (sc : D) (a b c : Int) : q_law_c3 (st1 sc (wB 1 (-3)) 7 (cB a b c 1 (-3))) = q_law_c1 (st2 sc (wB 1 (-3)) 7 (cB a b c 1 (-3))) := by
  unfold q_law_c3
  refine (seq_nx (s' := stG sc (wB 1 (-3)) 7 (cB a b c 1 (-3)) (some (.lst [nD 7, nD (-1), nD 7])) (none)) (by kernel_rfl)).trans ?_
  refine (seq_nx (s' := stG sc (wB 1 (-3)) 7 (cB a b c 1 (-3)) (some (.lst [nD 7, nD (-1), nD 7, nD 7, nD 7, nD 7])) (none)) (by kernel_rfl)).trans ?_
  refine (seq_nx (s' := stG sc (wB 1 (-3)) 7 (cB a b c 1 (-3)) (some (.lst [nD 7, nD (-1), nD 7, nD 7, nD 7, nD 7, nD 7, nD 7, nD 7])) (none)) (by kernel_rfl)).trans ?_
  refine (seq_nx (s' := stG sc (wB 1 (-3)) 7 (cB a b c 1 (-3)) (some (.lst [nD 7, nD (-1), nD 7, nD 7, nD 7, nD 7, nD 7, nD 7, nD 7])) (some (.lst [nD 7, nD (-1), nD 7, nD 7, nD 7, nD 7, nD 7, nD 7, nD 7]))) (by kernel_rfl)).trans ?_
  exact mid_all sc (wB 1 (-3)) 7 a b c 1 (-3) (nD 7) (nD (-1)) (nD 7) (nD 7) (nD 7) (nD 7) (nD 7) (nD 7) (nD 7) (nD 7) (nD (-1)) (nD 7) (nD 7) (nD 7) (nD 7) (nD 7) (nD 7) (nD 7)
theorem mid_p3_8 (sc : D) (a b c : Int) : q_law_c3 (st1 sc (wB 1 (-3)) 8 (cB a b c 1 (-3))) = q_law_c1 (st2 sc (wB 1 (-3)) 8 (cB a b c 1 (-3))) := by
  unfold q_law_c3
  refine (seq_nx (s' := stG sc (wB 1 (-3)) 8 (cB a b c 1 (-3)) (some (.lst [nD 8, nD (-1), nD 8])) (none)) (by kernel_rfl)).trans ?_
  refine (seq_nx (s' := stG sc (wB 1 (-3)) 8 (cB a b c 1 (-3)) (some (.lst [nD 8, nD (-1), nD 8, nD 8, nD 8, nD 8])) (none)) (by kernel_rfl)).trans ?_
  refine (seq_nx (s' := stG sc (wB 1 (-3)) 8 (cB a b c 1 (-3)) (some (.lst [nD 8, nD (-1), nD 8, nD 8, nD 8, nD 8, nD 8, nD 8, nD 8])) (none)) (by kernel_rfl)).trans ?_
  refine (seq_nx (s' := stG sc (wB 1 (-3)) 8 (cB a b c 1 (-3)) (some (.lst [nD 8, nD (-1), nD 8, nD 8, nD 8, nD 8, nD 8, nD 8, nD 8])) (some (.lst [nD 8, nD (-1), nD 8, nD 8, nD 8, nD 8, nD 8, nD 8, nD 8]))) (by kernel_rfl)).trans ?_
  exact mid_all sc (wB 1 (-3)) 8 a b c 1 (-3) (nD 8) (nD (-1)) (nD 8) (nD 8) (nD 8) (nD 8) (nD 8) (nD 8) (nD 8) (nD 8) (nD (-1)) (nD 8) (nD 8) (nD 8) (nD 8) (nD 8) (nD 8) (nD 8)
theorem mid_p3_9 (sc : D) (a b c : Int) : q_law_c3 (st1 sc (wB 1 (-3)) 9 (cB a b c 1 (-3))) = q_law_c1 (st2 sc (wB 1 (-3)) 9 (cB a b c 1 (-3))) := by
  unfold q_law_c3
  refine (seq_nx (s' := stG sc (wB 1 (-3)) 9 (cB a b c 1 (-3)) (some (.lst [nD 9, nD (-1), nD 9])) (none)) (by kernel_rfl)).trans ?_
  refine (seq_nx (s' := stG sc (wB 1 (-3)) 9 (cB a b c 1 (-3)) (some (.lst [nD 9, nD (-1), nD 9, nD 9, nD 9, nD 9])) (none)) (by kernel_rfl)).trans ?_
  refine (seq_nx (s' := stG sc (wB 1 (-3)) 9 (cB a b c 1 (-3)) (some (.lst [nD 9, nD (-1), nD 9, nD 9, nD 9, nD 9, nD 9, nD 9, nD 9])) (none)) (by kernel_rfl)).trans ?_
  refine (seq_nx (s' := stG sc (wB 1 (-3)) 9 (cB a b c 1 (-3)) (some (.lst [nD 9, nD (-1), nD 9, nD 9, nD 9, nD 9, nD 9, nD 9, nD 9])) (some (.lst [nD 9, nD (-1), nD 9, nD 9, nD 9, nD 9, nD 9, nD 9, nD 9]))) (by kernel_rfl)).trans ?_
  exact mid_all sc (wB 1 (-3)) 9 a b c 1 (-3) (nD 9) (nD (-1)) (nD 9) (nD 9) (nD 9) (nD 9) (nD 9) (nD 9) (nD 9) (nD 9) (nD (-1)) (nD 9) (nD 9) (nD 9) (nD 9) (nD 9) (nD 9) (nD 9)
theorem mid_p3_10 (sc : D) (a b c : Int) : q_law_c3 (st1 sc (wB 1 (-3)) 10 (cB a b c 1 (-3))) = q_law_c1 (st2 sc (wB 1 (-3)) 10 (cB a b c 1 (-3))) := by
  unfold q_law_c3
  refine (seq_nx (s' := stG sc (wB 1 (-3)) 10 (cB a b c 1 (-3)) (some (.lst [nD 10, nD (-1), nD 10])) (none)) (by kernel_rfl)).trans ?_
  refine (seq_nx (s' := stG sc (wB 1 (-3)) 10 (cB a b c 1 (-3)) (some (.lst [nD 10, nD (-1), nD 10, nD 10, nD 10, nD 10])) (none)) (by kernel_rfl)).trans ?_
  refine (seq_nx (s' := stG sc (wB 1 (-3)) 10 (cB a b c 1 (-3)) (some (.lst [nD 10, nD (-1), nD 10, nD 10, nD 10, nD 10, nD 10, nD 10, nD 10])) (none)) (by kernel_rfl)).trans ?_
  refine (seq_nx (s' := stG sc (wB 1 (-3)) 10 (cB a b c 1 (-3)) (some (.lst [nD 10, nD (-1), nD 10, nD 10, nD 10, nD 10, nD 10, nD 10, nD 10])) (some (.lst [nD 10, nD (-1), nD 10, nD 10, nD 10, nD 10, nD 10, nD 10, nD 10]))) (by kernel_rfl)).trans ?_
  exact mid_all sc (wB 1 (-3)) 10 a b c 1 (-3) (nD 10) (nD (-1)) (nD 10) (nD 10) (nD 10) (nD 10) (nD 10) (nD 10) (nD 10) (nD 10) (nD (-1)) (nD 10) (nD 10) (nD 10) (nD 10) (nD 10) (nD 10) (nD 10)
theorem mid_m3_2 (sc : D) (a b c : Int) : q_law_c3 (st1 sc (wB (-1) 3) 2 (cB a b c (-1) 3)) = q_law_c1 (st2 sc (wB (-1) 3) 2 (cB a b c (-1) 3)) := by
  unfold q_law_c3
  refine (seq_nx (s' := stG sc (wB (-1) 3) 2 (cB a b c (-1) 3) (some (.lst [nD 2, nD (-1), nD 2])) (none)) (by kernel_rfl)).trans ?_
  refine (seq_nx (s' := stG sc (wB (-1) 3) 2 (cB a b c (-1) 3) (some (.lst [nD 2, nD (-1), nD 2, nD 2, nD 2, nD 2])) (none)) (by kernel_rfl)).trans ?_
  refine (seq_nx (s' := stG sc (wB (-1) 3) 2 (cB a b c (-1) 3) (some (.lst [nD 2, nD (-1), nD 2, nD 2, nD 2, nD 2, nD 2, nD 2, nD 2])) (none)) (by kernel_rfl)).trans ?_
  refine (seq_nx (s' := stG sc (wB (-1) 3) 2 (cB a b c (-1) 3) (some (.lst [nD 2, nD (-1), nD 2, nD 2, nD 2, nD 2, nD 2, nD 2, nD 2])) (some (.lst [nD 2, nD (-1), nD 2, nD 2, nD 2, nD 2, nD 2, nD 2, nD 2]))) (by kernel_rfl)).trans ?_
  exact mid_all sc (wB (-1) 3) 2 a b c (-1) 3 (nD 2) (nD (-1)) (nD 2) (nD 2) (nD 2) (nD 2) (nD 2) (nD 2) (nD 2) (nD 2) (nD (-1)) (nD 2) (nD 2) (nD 2) (nD 2) (nD 2) (nD 2) (nD 2)
theorem mid_m3_3 (sc : D) (a b c : Int) : q_law_c3 (st1 sc (wB (-1) 3) 3 (cB a b c (-1) 3)) = q_law_c1 (st2 sc (wB (-1) 3) 3 (cB a b c (-1) 3)) := by
  unfold q_law_c3
  refine (seq_nx (s' := stG sc (wB (-1) 3) 3 (cB a b c (-1) 3) (some (.lst [nD 3, nD (-1), nD 3])) (none)) (by kernel_rfl)).trans ?_
  refine (seq_nx (s' := stG sc (wB (-1) 3) 3 (cB a b c (-1) 3) (some (.lst [nD 3, nD (-1), nD 3, nD 3, nD 3, nD 3])) (none)) (by kernel_rfl)).trans ?_
  refine (seq_nx (s' := stG sc (wB (-1) 3) 3 (cB a b c (-1) 3) (some (.lst [nD 3, nD (-1), nD 3, nD 3, nD 3, nD 3, nD 3, nD 3, nD 3])) (none)) (by kernel_rfl)).trans ?_
  refine (seq_nx (s' := stG sc (wB (-1) 3) 3 (cB a b c (-1) 3) (some (.lst [nD 3, nD (-1), nD 3, nD 3, nD 3, nD 3, nD 3, nD 3, nD 3])) (some (.lst [nD 3, nD (-1), nD 3, nD 3, nD 3, nD 3, nD 3, nD 3, nD 3]))) (by kernel_rfl)).trans ?_
  exact mid_all sc (wB (-1) 3) 3 a b c (-1) 3 (nD 3) (nD (-1)) (nD 3) (nD 3) (nD 3) (nD 3) (nD 3) (nD 3) (nD 3) (nD 3) (nD (-1)) (nD 3) (nD 3) (nD 3) (nD 3) (nD 3) (nD 3) (nD 3)
theorem mid_m3_4 (sc : D) (a b c : Int) : q_law_c3 (st1 sc (wB (-1) 3) 4 (cB a b c (-1) 3)) = q_law_c1 (st2 sc (wB (-1) 3) 4 (cB a b c (-1) 3)) := by
  unfold q_law_c3
  refine (seq_nx (s' := stG sc (wB (-1) 3) 4 (cB a b c (-1) 3) (some (.lst [nD 4, nD (-1), nD 4])) (none)) (by kernel_rfl)).trans ?_
  refine (seq_nx (s' := stG sc (wB (-1) 3) 4 (cB a b c (-1) 3) (some (.lst [nD 4, nD (-1), nD 4, nD 4, nD 4, nD 4])) (none)) (by kernel_rfl)).trans ?_
  refine (seq_nx (s' := stG sc (wB (-1) 3) 4 (cB a b c (-1) 3) (some (.lst [nD 4, nD (-1), nD 4, nD 4, nD 4, nD 4, nD 4, nD 4, nD 4])) (none)) (by kernel_rfl)).trans ?_
  refine (seq_nx (s' := stG sc (wB (-1) 3) 4 (cB a b c (-1) 3) (some (.lst [nD 4, nD (-1), nD 4, nD 4, nD 4, nD 4, nD 4, nD 4, nD 4])) (some (.lst [nD 4, nD (-1), nD 4, nD 4, nD 4, nD 4, nD 4, nD 4, nD 4]))) (by kernel_rfl)).trans ?_
  exact mid_all sc (wB (-1) 3) 4 a b c (-1) 3 (nD 4) (nD (-1)) (nD 4) (nD 4) (nD 4) (nD 4) (nD 4) (nD 4) (nD 4) (nD 4) (nD (-1)) (nD 4) (nD 4) (nD 4) (nD 4) (nD 4) (nD 4) (nD 4)
theorem mid_m3_5 (sc : D) (a b c : Int) : q_law_c3 (st1 sc (wB (-1) 3) 5 (cB a b c (-1) 3)) = q_law_c1 (st2 sc (wB (-1) 3) 5 (cB a b c (-1) 3)) := by
  unfold q_law_c3
  refine (seq_nx (s' := stG sc (wB (-1) 3) 5 (cB a b c (-1) 3) (some (.lst [nD 5, nD (-1), nD 5])) (none)) (by kernel_rfl)).trans ?_
  refine (seq_nx (s' := stG sc (wB (-1) 3) 5 (cB a b c (-1) 3) (some (.lst [nD 5, nD (-1), nD 5, nD 5, nD 5, nD 5])) (none)) (by kernel_rfl)).trans ?_
  refine (seq_nx (s' := stG sc (wB (-1) 3) 5 (cB a b c (-1) 3) (some (.lst [nD 5, nD (-1), nD 5, nD 5, nD 5, nD 5, nD 5, nD 5, nD 5])) (none)) (by kernel_rfl)).trans ?_
  refine (seq_nx (s' := stG sc (wB (-1) 3) 5 (cB a b c (-1) 3) (some (.lst [nD 5, nD (-1), nD 5, nD 5, nD 5, nD 5, nD 5, nD 5, nD 5])) (some (.lst [nD 5, nD (-1), nD 5, nD 5, nD 5, nD 5, nD 5, nD 5, nD 5]))) (by kernel_rfl)).trans ?_
  exact mid_all sc (wB (-1) 3) 5 a b c (-1) 3 (nD 5) (nD (-1)) (nD 5) (nD 5) (nD 5) (nD 5) (nD 5) (nD 5) (nD 5) (nD 5) (nD (-1)) (nD 5) (nD 5) (nD 5) (nD 5) (nD 5) (nD 5) (nD 5)
theorem mid_m3_6 (sc : D) (a b c : Int) : q_law_c3 (st1 sc (wB (-1) 3) 6 (cB a b c (-1) 3)) = q_law_c1 (st2 sc (wB (-1) 3) 6 (cB a b c (-1) 3)) := by
  unfold q_law_c3
  refine (seq_nx (s' := stG sc (wB (-1) 3) 6 (cB a b c (-1) 3) (some (.lst [nD 6, nD (-1), nD 6])) (none)) (by kernel_rfl)).trans ?_
  refine (seq_nx (s' := stG sc (wB (-1) 3) 6 (cB a b c (-1) 3) (some (.lst [nD 6, nD (-1), nD 6, nD 6, nD 6, nD 6])) (none)) (by kernel_rfl)).trans ?_
  refine (seq_nx (s' := stG sc (wB (-1) 3) 6 (cB a b c (-1) 3) (some (.lst [nD 6, nD (-1), nD 6, nD 6, nD 6, nD 6, nD 6, nD 6, nD 6])) (none)) (by kernel_rfl)).trans ?_
  refine (seq_nx (s' := stG sc (wB (-1) 3) 6 (cB a b c (-1) 3) (some (.lst [nD 6, nD (-1), nD 6, nD 6, nD 6, nD 6, nD 6, nD 6, nD 6])) (some (.lst [nD 6, nD (-1), nD 6, nD 6, nD 6, nD 6, nD 6, nD 6, nD 6]))) (by kernel_rfl)).trans ?_
  exact mid_all sc (wB (-1) 3) 6 a b c (-1) 3 (nD 6) (nD (-1)) (nD 6) (nD 6) (nD 6) (nD 6) (nD 6) (nD 6) (nD 6) (nD 6) (nD (-1)) (nD 6) (nD 6) (nD 6) (nD 6) (nD 6) (nD 6) (nD 6)
theorem mid_m3_7 (sc : D) (a b c : Int) : q_law_c3 (st1 sc (wB (-1) 3) 7 (cB a b c (-1) 3)) = q_law_c1 (st2 sc (wB (-1) 3) 7 (cB a b c (-1) 3)) := by
  unfold q_law_c3
  refine (seq_nx (s' := stG sc (wB (-1) 3) 7 (cB a b c (-1) 3) (some (.lst [nD 7, nD (-1), nD 7])) (none)) (by kernel_rfl)).trans ?_
  refine (seq_nx (s' := stG sc (wB (-1) 3) 7 (cB a b c (-1) 3) (some (.lst [nD 7, nD (-1), nD 7, nD 7, nD 7, nD 7])) (none)) (by kernel_rfl)).trans ?_
  refine (seq_nx (s' := stG sc (wB (-1) 3) 7 (cB a b c (-1) 3) (some (.lst [nD 7, nD (-1), nD 7, nD 7, nD 7, nD 7, nD 7, nD 7, nD 7])) (none)) (by kernel_rfl)).trans ?_
  refine (seq_nx (s' := stG sc (wB (-1) 3) 7 (cB a b c (-1) 3) (some (.lst [nD 7, nD (-1), nD 7, nD 7, nD 7, nD 7, nD 7, nD 7, nD 7])) (some (.lst [nD 7, nD (-1), nD 7, nD 7, nD 7, nD 7, nD 7, nD 7, nD 7]))) (by kernel_rfl)).trans ?_
  exact mid_all sc (wB (-1) 3) 7 a b c (-1) 3 (nD 7) (nD (-1)) (nD 7) (nD 7) (nD 7) (nD 7) (nD 7) (nD 7) (nD 7) (nD 7) (nD (-1)) (nD 7) (nD 7) (nD 7) (nD 7) (nD 7) (nD 7) (nD 7)
theorem mid_m3_8 (sc : D) (a b c : Int) : q_law_c3 (st1 sc (wB (-1) 3) 8 (cB a b c (-1) 3)) = q_law_c1 (st2 sc (wB (-1) 3) 8 (cB a b c (-1) 3)) := by
  unfold q_law_c3
  refine (seq_nx (s' := stG sc (wB (-1) 3) 8 (cB a b c (-1) 3) (some (.lst [nD 8, nD (-1), nD 8])) (none)) (by kernel_rfl)).trans ?_
  refine (seq_nx (s' := stG sc (wB (-1) 3) 8 (cB a b c (-1) 3) (some (.lst [nD 8, nD (-1), nD 8, nD 8, nD 8, nD 8])) (none)) (by kernel_rfl)).trans ?_
  refine (seq_nx (s' := stG sc (wB (-1) 3) 8 (cB a b c (-1) 3) (some (.lst [nD 8, nD (-1), nD 8, nD 8, nD 8, nD 8, nD 8, nD 8, nD 8])) (none)) (by kernel_rfl)).trans ?_
  refine (seq_nx (s' := stG sc (wB (-1) 3) 8 (cB a b c (-1) 3) (some (.lst [nD 8, nD (-1), nD 8, nD 8, nD 8, nD 8, nD 8, nD 8, nD 8])) (some (.lst [nD 8, nD (-1), nD 8, nD 8, nD 8, nD 8, nD 8, nD 8, nD 8]))) (by kernel_rfl)).trans ?_
  exact mid_all sc (wB (-1) 3) 8 a b c (-1) 3 (nD 8) (nD (-1)) (nD 8) (nD 8) (nD 8) (nD 8) (nD 8) (nD 8) (nD 8) (nD 8) (nD (-1)) (nD 8) (nD 8) (nD 8) (nD 8) (nD 8) (nD 8) (nD 8)
theorem mid_m3_9 (sc : D) (a b c : Int) : q_law_c3 (st1 sc (wB (-1) 3) 9 (cB a b c (-1) 3)) = q_law_c1 (st2 sc (wB (-1) 3) 9 (cB a b c (-1) 3)) := by
  unfold q_law_c3
  refine (seq_nx (s' := stG sc (wB (-1) 3) 9 (cB a b c (-1) 3) (some (.lst [nD 9, nD (-1), nD 9])) (none)) (by kernel_rfl)).trans ?_
  refine (seq_nx (s' := stG sc (wB (-1) 3) 9 (cB a b c (-1) 3) (some (.lst [nD 9, nD (-1), nD 9, nD 9, nD 9, nD 9])) (none)) (by kernel_rfl)).trans ?_
  refine (seq_nx (s' := stG sc (wB (-1) 3) 9 (cB a b c (-1) 3) (some (.lst [nD 9, nD (-1), nD 9, nD 9, nD 9, nD 9, nD 9, nD 9, nD 9])) (none)) (by kernel_rfl)).trans ?_
  refine (seq_nx (s' := stG sc (wB (-1) 3) 9 (cB a b c (-1) 3) (some (.lst [nD 9, nD (-1), nD 9, nD 9, nD 9, nD 9, nD 9, nD 9, nD 9])) (some (.lst [nD 9, nD (-1), nD 9, nD 9, nD 9, nD 9, nD 9, nD 9, nD 9]))) (by kernel_rfl)).trans ?_
  exact mid_all sc (wB (-1) 3) 9 a b c (-1) 3 (nD 9) (nD (-1)) (nD 9) (nD 9) (nD 9) (nD 9) (nD 9) (nD 9) (nD 9) (nD 9) (nD (-1)) (nD 9) (nD 9) (nD 9) (nD 9) (nD 9) (nD 9) (nD 9)
theorem mid_m3_10 (sc : D) (a b c : Int) : q_law_c3 (st1 sc (wB (-1) 3) 10 (cB a b c (-1) 3)) = q_law_c1 (st2 sc (wB (-1) 3) 10 (cB a b c (-1) 3)) := by
  unfold q_law_c3
  refine (seq_nx (s' := stG sc (wB (-1) 3) 10 (cB a b c (-1) 3) (some (.lst [nD 10, nD (-1), nD 10])) (none)) (by kernel_rfl)).trans ?_
  refine (seq_nx (s' := stG sc (wB (-1) 3) 10 (cB a b c (-1) 3) (some (.lst [nD 10, nD (-1), nD 10, nD 10, nD 10, nD 10])) (none)) (by kernel_rfl)).trans ?_
  refine (seq_nx (s' := stG sc (wB (-1) 3) 10 (cB a b c (-1) 3) (some (.lst [nD 10, nD (-1), nD 10, nD 10, nD 10, nD 10, nD 10, nD 10, nD 10])) (none)) (by kernel_rfl)).trans ?_
  refine (seq_nx (s' := stG sc (wB (-1) 3) 10 (cB a b c (-1) 3) (some (.lst [nD 10, nD (-1), nD 10, nD 10, nD 10, nD 10, nD 10, nD 10, nD 10])) (some (.lst [nD 10, nD (-1), nD 10, nD 10, nD 10, nD 10, nD 10, nD 10, nD 10]))) (by kernel_rfl)).trans ?_
  exact mid_all sc (wB (-1) 3) 10 a b c (-1) 3 (nD 10) (nD (-1)) (nD 10) (nD 10) (nD 10) (nD 10) (nD 10) (nD 10) (nD 10) (nD 10) (nD (-1)) (nD 10) (nD 10) (nD 10) (nD 10) (nD 10) (nD 10) (nD 10)
end A12
set_option linter.all false
set_option maxRecDepth 10000
set_option maxHeartbeats 1000000
namespace A12
open PySem PySem.Spec PyProof.Rows L2 DL
/-! dicts whose keys are tuples of one number, every value 1 -/
def isOkM : R D → D → List Cell → Prop
  | .ok d s, d', m => d = d' ∧ s.m = m
  | _, _, _ => False
theorem lc_map {α : Type} (i : Nat) (f : S → R D) (r : List (Option D)) (m : List Cell) (g h : α → D) : ∀ l : List α, (∀ x ∈ l, isOkM (f ⟨(r.set i none).set i (some (g x)), m⟩) (h x) m) → lcL (.one i) tYesS f r (l.map g) m = some (l.map h, m)
  | [], _ => rfl
  | x :: l, hx => by
    have hx0 := hx x (by simp)
    have ih := lc_map i f r m g h l fun y hy => hx y (List.mem_cons_of_mem _ hy)
    rw [List.map_cons, lcL]
    simp only [asgD, Tg.vs, wipeD, tYesS]
    cases q : f ⟨(r.set i none).set i (some (g x)), m⟩ with
    | ok d s' =>
      rw [q] at hx0
      obtain ⟨e, em⟩ := hx0
      simp only [e, em, ih, List.map_cons]
    | raise e s => rw [q] at hx0; exact hx0.elim
    | stuck => rw [q] at hx0; exact hx0.elim
theorem lc_filt {α : Type} (i : Nat) (C : S → R Bool) (F : S → R D) (r : List (Option D)) (m : List Cell) (g h : α → D) (c : α → Bool) : ∀ l : List α, (∀ x ∈ l, C ⟨(r.set i none).set i (some (g x)), m⟩ = .ok (c x) ⟨(r.set i none).set i (some (g x)), m⟩ ∧ isOkM (F ⟨(r.set i none).set i (some (g x)), m⟩) (h x) m) → lcL (.one i) C F r (l.map g) m = some ((l.filter c).map h, m)
  | [], _ => rfl
  | x :: l, hx => by
    obtain ⟨hc, hf⟩ := hx x (by simp)
    have ih := lc_filt i C F r m g h c l fun y hy => hx y (List.mem_cons_of_mem _ hy)
    rw [List.map_cons, lcL]
    simp only [asgD, Tg.vs, wipeD, hc]
    cases hcx : c x with
    | false => simp only [ih, List.filter_cons, hcx, Bool.false_eq_true, if_false]
    | true =>
      cases q : F ⟨(r.set i none).set i (some (g x)), m⟩ with
      | ok d s' =>
        rw [q] at hf
        obtain ⟨e, em⟩ := hf
        simp only [q, e, em, ih, List.filter_cons, hcx, if_true, List.map_cons]
      | raise e s => rw [q] at hf; exact hf.elim
      | stuck => rw [q] at hf; exact hf.elim
def T1 (k : Int) : D := .tup [.int k]
def tm (k : Int) : D := .tup [T1 k, .int 1]
def kd (k : Int) : NestedKey := .tup [.num k]
theorem key1 (k : Int) : keyT (T1 k) = some (kd k) := by
  simp [keyT, T1, kd, isTp, nkD, nkDs, NestedKey.depth, NestedKey.depthAll]
theorem hit1 (k j : Int) (v : D) : hitT (kd k) (T1 j, v) = decide (j = k) := by
  rw [Bool.eq_iff_iff, decide_eq_true_iff]
  simp [hitT, T1, kd, nkD, nkDs, NestedKey.beq, NestedKey.beqAll]
def dk (ks : List Int) : List (D × D) := ks.map fun k => (T1 k, .int 1)
theorem any1 (j : Int) : ∀ ks : List Int, (dk ks).any (hitT (kd j)) = decide (j ∈ ks)
  | [] => rfl
  | k :: ks => by
    have ih := any1 j ks
    unfold dk at ih ⊢
    rw [List.map_cons, List.any_cons, ih, hit1]
    rw [Bool.eq_iff_iff, Bool.or_eq_true, decide_eq_true_iff, decide_eq_true_iff, decide_eq_true_iff, List.mem_cons]
    exact ⟨fun h => h.imp Eq.symm id, fun h => h.imp Eq.symm id⟩
theorem put1 {ks : List Int} {j : Int} (h : j ∉ ks) : putT (dk ks) (T1 j) (kd j) (.int 1) = dk (ks ++ [j]) := by
  unfold putT
  rw [any1, if_neg (by simpa using h)]
  simp [dk]
theorem val1n {j : Int} : ∀ {ks : List Int}, j ∉ ks → valT (dk ks) (kd j) = none
  | [], _ => rfl
  | k :: ks, h => by
    rw [List.mem_cons, not_or] at h
    have ih := val1n h.2
    unfold valT dk at ih ⊢
    rw [List.map_cons, List.find?_cons, hit1, decide_eq_false (fun e => h.1 e.symm)]
    exact ih
theorem val1 {j : Int} : ∀ {ks : List Int}, j ∈ ks → valT (dk ks) (kd j) = some (.int 1)
  | [], h => nomatch h
  | k :: ks, h => by
    unfold valT dk
    rw [List.map_cons, List.find?_cons, hit1]
    by_cases e : k = j
    · rw [decide_eq_true e]; rfl
    · rw [decide_eq_false e]
      exact val1 ((List.mem_cons.1 h).resolve_left fun q => e q.symm)
theorem dk_len (ks : List Int) : (dk ks).length = ks.length := by simp [dk]
theorem dk_keys (ks : List Int) : (dk ks).map (·.1) = ks.map T1 := by simp [dk]
theorem at_end (m : List Cell) (c : Cell) : (m ++ [c])[m.length]? = some c := by simp
theorem set_end (m : List Cell) (c d : Cell) : (m ++ [c]).set m.length d = m ++ [d] := by simp
theorem mdit (r : List (Option D)) (m : List Cell) (kvs : List (D × D)) : mDit ⟨r, m ++ [.dit kvs]⟩ m.length = some kvs := by
  unfold mDit
  rw [at_end]
theorem ok1 (ks : List Int) : okD (ks.map T1) = true := by
  unfold okD
  simp only [List.all_map, Bool.and_eq_true, List.all_eq_true, Function.comp]
  exact ⟨fun k _ => ⟨⟨rfl, rfl⟩, rfl⟩, fun k _ j _ => rfl⟩
/-- more than so many terms -/
theorem e_gath {m : List Cell} {ks : List Int} (h : 2000 < ks.length) (h2 : ks.length ≤ 4000) : m_gathered [.ref m.length] (m ++ [.dit (dk ks)]) = .raise (.mk 3 []) (m ++ [.dit (dk ks)]) := by
  have sz : sizeLine = 16777216 := szl
  obtain ⟨l, hl⟩ : ∃ l, l = (ks.map T1).mergeSort fun a b => !ltE b a := ⟨_, rfl⟩
  have hp : l.Perm (ks.map T1) := by rw [hl]; exact List.mergeSort_perm _ _
  have len : l.length = ks.length := by rw [hp.length_eq, List.length_map]
  have s1 : ∀ r, sortTdD (.ref m.length) ⟨r, m ++ [.dit (dk ks)]⟩ = .ok (.lst l) ⟨r, m ++ [.dit (dk ks)]⟩ := fun r => by
    unfold sortTdD
    simp only [mdit, dk_keys, ok1, dk_len, Bool.true_and]
    rw [if_pos (by rw [decide_eq_true_iff]; omega), hl]
  have x1 : ∀ (r : List (Option D)) (x : D), x ∈ l → tixD (.ref m.length) x ⟨r, m ++ [.dit (dk ks)]⟩ = .ok (.int 1) ⟨r, m ++ [.dit (dk ks)]⟩ := fun r x hx => by
    obtain ⟨k, hk, rfl⟩ := List.mem_map.1 (hp.mem_iff.1 hx)
    unfold tixD
    simp only [key1, mdit, val1 hk]
  have n1 : neD (.int 1) (.int 0) = some true := by rw [neI]; rfl
  have s2 : 2 ≤ sizeLine := by omega
  have L : lcL (.one 2) (t2 (cmpB neD) (e2 tixD (eVar 0) (eVar 2)) (eC (.int 0))) (eTup (aCons (eVar 2) (aCons (e2 tixD (eVar 0) (eVar 2)) aNil))) [some (.ref m.length), none, none] l (m ++ [.dit (dk ks)]) = some (l.map fun x => D.tup [x, .int 1], m ++ [.dit (dk ks)]) := by
    have := lc_filt 2 (t2 (cmpB neD) (e2 tixD (eVar 0) (eVar 2)) (eC (.int 0))) (eTup (aCons (eVar 2) (aCons (e2 tixD (eVar 0) (eVar 2)) aNil))) [some (.ref m.length), none, none] (m ++ [.dit (dk ks)]) id (fun x => D.tup [x, .int 1]) (fun _ => true) l fun x hx => by
      have q := fun r => x1 r x hx
      constructor
      · simp [t2, e2, eVar, eC, cmpB, R.bind, q, n1]
      · simp [isOkM, t2, e2, eVar, eC, eTup, aCons, aNil, cmpB, R.bind, R.then, q, n1, s2]
    rw [List.map_id, List.filter_eq_self.2 (fun _ _ => rfl)] at this
    exact this
  have ln : ks.length ≤ sizeLine := by omega
  have lt : ltB 2000 (ks.length : Int) = true := by
    rw [ltB_eq, decide_eq_true_iff]
    omega
  simp [m_gathered, q_gathered, d_MOST_TERMS, mkF, sNil, sSeq, sAsg, sAsgF, sAsgC, sPar, sPar3, sIf, sRet, sFor, forL, sSetM, sSetI, sApp, sExt, sDrop, sRaise, sTry, hSay, hNil, Ex.ix, e1, e2, eBi, eIf, eVar, eC, eTup, eLst, eSl, slD, pNone, pSome, eLc, lcL, wipeD, Tg.vs, tYesS, aCons, aNil, t2, tTru, truB, truD, tNotS, tAndS, tOrS, eAndB, eOrB, eNotB, eOrV, cmpB, cmpD, iCmp, R.then, R.bind, asgD, DL.setL, addD, subD, negD, absD, DL.intD, mLst, lenD, listD, tupleD, allD, blsD, isiD, isi2D, isTy, isND, notND, DL.isNon, eCallN, eCallV, callR, iN, i1, rng1I, seqI, gcdD, augD, sAug, s1, L, len, ln, lt]
/-! the product -/
theorem e_shift (k j : Int) (m : List Cell) : m_shifted [T1 k, T1 j] m = .ok (T1 (k + j)) m := by
  kernel_rfl
theorem unT : ∀ ks : List Int, unDs (ks.map tm) = ks.map tm
  | [] => rfl
  | k :: ks => by
    rw [List.map_cons, unDs, unT ks]
    rfl
theorem put_ok {fd fk fv : S → R D} {s : S} {m : List Cell} {r : List (Option D)} {ks : List Int} {j : Int} (hs : s = ⟨r, m ++ [.dit (dk ks)]⟩) (hv : fv s = .ok (.int 1) s) (hd : fd s = .ok (.ref m.length) s) (hk : fk s = .ok (T1 j) s) (hj : j ∉ ks) (hl : ks.length < 4000) :
    sTput fd fk fv s = .next ⟨r, m ++ [.dit (dk (ks ++ [j]))]⟩ := by
  have sz : sizeLine = 16777216 := szl
  subst hs
  unfold sTput
  simp only [R.then, hv, hd, hk, key1, mdit, put1 hj, dk_len]
  rw [if_pos (by omega), set_end]
theorem get_ok {r : List (Option D)} {m : List Cell} {ks : List Int} {j : Int} {i p : Nat} (h1 : r.getD i none = some (.ref m.length)) (h2 : r.getD p none = some (T1 j)) (hj : j ∉ ks) : eGetT (eVar i) (eVar p) (eC (.int 0)) ⟨r, m ++ [.dit (dk ks)]⟩ = .ok (.int 0) ⟨r, m ++ [.dit (dk ks)]⟩ := by
  rw [List.getD_eq_getElem?_getD] at h1 h2
  simp [eGetT, eVar, eC, R.bind, h1, h2, isDit, mdit, tgetD, key1, val1n hj]
theorem one_ok {r : List (Option D)} {m : List Cell} {ks : List Int} {j : Int} {i p a b : Nat} (h1 : r.getD i none = some (.ref m.length)) (h2 : r.getD p none = some (T1 j)) (h3 : r.getD a none = some (.int 1)) (h4 : r.getD b none = some (.int 1)) (hj : j ∉ ks) :
    e2 addD (eGetT (eVar i) (eVar p) (eC (.int 0))) (e2 mulD (eVar a) (eVar b)) ⟨r, m ++ [.dit (dk ks)]⟩ = .ok (.int 1) ⟨r, m ++ [.dit (dk ks)]⟩ := by
  have g := get_ok (m := m) h1 h2 hj
  rw [List.getD_eq_getElem?_getD] at h3 h4
  simp only [e2, g, R.bind, R.then, eVar]
  simp [h3, h4, mulD, addD, l1]
theorem mul1 {o1 o2 o7 : Option D} {m : List Cell} {ks : List Int} {k j : Int} (hj : k + j ∉ ks) (hl : ks.length < 4000) :
    q_multiplied_b1 ⟨[o1, o2, some (.ref m.length), some (T1 k), some (.int 1), some (T1 j), some (.int 1), o7], m ++ [.dit (dk ks)]⟩ = .next ⟨[o1, o2, some (.ref m.length), some (T1 k), some (.int 1), some (T1 j), some (.int 1), some (T1 (k + j))], m ++ [.dit (dk (ks ++ [k + j]))]⟩ := by
  unfold q_multiplied_b1
  refine (seq_nx (s' := ⟨[o1, o2, some (.ref m.length), some (T1 k), some (.int 1), some (T1 j), some (.int 1), some (T1 (k + j))], m ++ [.dit (dk ks)]⟩) ?_).trans ?_
  · simp [sAsg, eCallN, aCons, aNil, eVar, callR, R.bind, R.then, e_shift, asgD]
  · exact put_ok rfl (one_ok rfl rfl rfl rfl hj) rfl rfl hj hl
theorem mul2 {o1 o2 : Option D} {m : List Cell} {k : Int} : ∀ (js : List Int) (ks : List Int) (o5 o6 o7 : Option D), (ks ++ js.map (k + ·)).Nodup → (ks ++ js.map (k + ·)).length ≤ 4000 →
    ∃ a5 a6 a7, forL (.many [5, 6]) q_multiplied_b1 (js.map tm) ⟨[o1, o2, some (.ref m.length), some (T1 k), some (.int 1), o5, o6, o7], m ++ [.dit (dk ks)]⟩ = .next ⟨[o1, o2, some (.ref m.length), some (T1 k), some (.int 1), a5, a6, a7], m ++ [.dit (dk (ks ++ js.map (k + ·)))]⟩
  | [], ks, o5, o6, o7, _, _ => ⟨o5, o6, o7, by simp [forL]⟩
  | j :: js, ks, o5, o6, o7, hn, hl => by
    have hj : k + j ∉ ks := fun h => by
      rw [List.nodup_append] at hn
      exact hn.2.2 _ h _ (by simp) rfl
    have e1 : ks ++ (j :: js).map (k + ·) = (ks ++ [k + j]) ++ js.map (k + ·) := by simp
    rw [e1] at hn hl
    obtain ⟨a5, a6, a7, ih⟩ := mul2 js (ks ++ [k + j]) (some (T1 j)) (some (.int 1)) (some (T1 (k + j))) hn hl
    refine ⟨a5, a6, a7, ?_⟩
    rw [e1, ← ih, List.map_cons, forL]
    have st : asgD (.many [5, 6]) (tm j) ⟨[o1, o2, some (.ref m.length), some (T1 k), some (.int 1), o5, o6, o7], m ++ [.dit (dk ks)]⟩ = some ⟨[o1, o2, some (.ref m.length), some (T1 k), some (.int 1), some (T1 j), some (.int 1), o7], m ++ [.dit (dk ks)]⟩ := rfl
    have hl2 : ks.length < 4000 := by
      simp only [List.length_append, List.length_singleton] at hl
      omega
    rw [st]
    simp only [mul1 hj hl2]
theorem mul3 {ds : List D} {o1 : Option D} {m : List Cell} (js : List Int) (hd : ds = js.map tm) : ∀ (is : List Int) (ks : List Int) (o3 o4 o5 o6 o7 : Option D), (ks ++ is.flatMap fun i => js.map (i + ·)).Nodup → (ks ++ is.flatMap fun i => js.map (i + ·)).length ≤ 4000 →
    ∃ a3 a4 a5 a6 a7, forL (.many [3, 4]) q_multiplied_b2 (is.map tm) ⟨[o1, some (.pt ds), some (.ref m.length), o3, o4, o5, o6, o7], m ++ [.dit (dk ks)]⟩ = .next ⟨[o1, some (.pt ds), some (.ref m.length), a3, a4, a5, a6, a7], m ++ [.dit (dk (ks ++ is.flatMap fun i => js.map (i + ·)))]⟩
  | [], ks, o3, o4, o5, o6, o7, _, _ => ⟨o3, o4, o5, o6, o7, by simp [forL]⟩
  | i :: is, ks, o3, o4, o5, o6, o7, hn, hl => by
    have e1 : ks ++ (i :: is).flatMap (fun i => js.map (i + ·)) = (ks ++ js.map (i + ·)) ++ is.flatMap fun i => js.map (i + ·) := by simp
    rw [e1] at hn hl
    have hn2 := (List.nodup_append.1 hn).1
    have hl2 : (ks ++ js.map (i + ·)).length ≤ 4000 := by
      rw [List.length_append] at hl
      omega
    obtain ⟨b5, b6, b7, h⟩ := mul2 (o1 := o1) (o2 := some (.pt ds)) (m := m) (k := i) js ks o5 o6 o7 hn2 hl2
    obtain ⟨a3, a4, a5, a6, a7, ih⟩ := mul3 (o1 := o1) (m := m) js hd is (ks ++ js.map (i + ·)) (some (T1 i)) (some (.int 1)) b5 b6 b7 hn hl
    refine ⟨a3, a4, a5, a6, a7, ?_⟩
    rw [e1, ← ih, List.map_cons, forL]
    have st : asgD (.many [3, 4]) (tm i) ⟨[o1, some (.pt ds), some (.ref m.length), o3, o4, o5, o6, o7], m ++ [.dit (dk ks)]⟩ = some ⟨[o1, some (.pt ds), some (.ref m.length), some (T1 i), some (.int 1), o5, o6, o7], m ++ [.dit (dk ks)]⟩ := rfl
    have b : q_multiplied_b2 ⟨[o1, some (.pt ds), some (.ref m.length), some (T1 i), some (.int 1), o5, o6, o7], m ++ [.dit (dk ks)]⟩ = .next ⟨[o1, some (.pt ds), some (.ref m.length), some (T1 i), some (.int 1), b5, b6, b7], m ++ [.dit (dk (ks ++ js.map (i + ·)))]⟩ := by
      rw [← h]
      have u : unD (.pt ds) = .tup (js.map tm) := by rw [hd, unD, unT]
      simp [q_multiplied_b2, sFor, i1, eUnD, eVar, R.bind, R.then, u, seqI]
    rw [st]
    simp only [b]
theorem e_mul {m : List Cell} (is js : List Int) (hn : (is.flatMap fun i => js.map (i + ·)).Nodup) (h : 2000 < (is.flatMap fun i => js.map (i + ·)).length) (h2 : (is.flatMap fun i => js.map (i + ·)).length ≤ 4000) :
    m_multiplied [.pt (is.map tm), .pt (js.map tm)] m = .raise (.mk 3 []) (m ++ [.dit (dk (is.flatMap fun i => js.map (i + ·)))]) := by
  obtain ⟨a3, a4, a5, a6, a7, e⟩ := mul3 (o1 := some (.pt (is.map tm))) (m := m) js rfl is [] none none none none none (by simpa using hn) (by simpa using h2)
  rw [List.nil_append] at e
  have u : unD (.pt (is.map tm)) = .tup (is.map tm) := by rw [unD, unT]
  have g := e_gath (m := m) h h2
  have q : q_multiplied ⟨[some (.pt (is.map tm)), some (.pt (js.map tm)), none, none, none, none, none, none], m⟩ = .raise (.mk 3 []) ⟨[some (.pt (is.map tm)), some (.pt (js.map tm)), some (.ref m.length), a3, a4, a5, a6, a7], m ++ [.dit (dk (is.flatMap fun i => js.map (i + ·)))]⟩ := by
    unfold q_multiplied
    refine (seq_nx (s' := ⟨[some (.pt (is.map tm)), some (.pt (js.map tm)), some (.ref m.length), none, none, none, none, none], m ++ [.dit (dk [])]⟩) ?_).trans ?_
    · simp [sAsg, eDit0, R.then, asgD, dk]
    refine (seq_nx (s' := ⟨[some (.pt (is.map tm)), some (.pt (js.map tm)), some (.ref m.length), a3, a4, a5, a6, a7], m ++ [.dit (dk (is.flatMap fun i => js.map (i + ·)))]⟩) ?_).trans ?_
    · rw [← e]
      simp [sFor, i1, eUnD, eVar, R.bind, R.then, u, seqI]
    · simp [sRet, eCallN, aCons, aNil, eVar, callR, R.bind, R.then, g]
  show (match q_multiplied ⟨[some (.pt (is.map tm)), some (.pt (js.map tm)), none, none, none, none, none, none], m⟩ with
    | .next s => RF.ok .non s.m | .ret d s => .ok d s.m | .raise e s => .raise e s.m | _ => .stuck) = _
  rw [q]
/-! the sum -/
theorem pairs1 : ∀ ks : List Int, pairsT (ks.map tm) = some (ks.map fun k => (T1 k, kd k, .int 1))
  | [] => rfl
  | k :: ks => by
    have ih := pairs1 ks
    rw [List.map_cons, tm, pairsT]
    simp only [key1, ih, List.map_cons]
theorem fold1 : ∀ (js ks : List Int), (ks ++ js).Nodup → foldT (dk ks) (js.map fun k => (T1 k, kd k, .int 1)) = dk (ks ++ js)
  | [], ks, _ => by simp [foldT]
  | j :: js, ks, hn => by
    have hj : j ∉ ks := fun h => by
      rw [List.nodup_append] at hn
      exact hn.2.2 _ h _ (by simp) rfl
    have e1 : ks ++ j :: js = (ks ++ [j]) ++ js := by simp
    rw [e1] at hn ⊢
    rw [← fold1 js (ks ++ [j]) hn, ← put1 hj]
    rfl
theorem add1 {o1 o2 : Option D} {m : List Cell} : ∀ (js : List Int) (ks : List Int) (o4 o5 : Option D), (ks ++ js).Nodup → (ks ++ js).length ≤ 4000 →
    ∃ a4 a5, forL (.many [4, 5]) q_plus_b1 (js.map tm) ⟨[o1, o2, some (.int 1), some (.ref m.length), o4, o5], m ++ [.dit (dk ks)]⟩ = .next ⟨[o1, o2, some (.int 1), some (.ref m.length), a4, a5], m ++ [.dit (dk (ks ++ js))]⟩
  | [], ks, o4, o5, _, _ => ⟨o4, o5, by simp [forL]⟩
  | j :: js, ks, o4, o5, hn, hl => by
    have hj : j ∉ ks := fun h => by
      rw [List.nodup_append] at hn
      exact hn.2.2 _ h _ (by simp) rfl
    have e1 : ks ++ j :: js = (ks ++ [j]) ++ js := by simp
    rw [e1] at hn hl
    obtain ⟨a4, a5, ih⟩ := add1 (o1 := o1) (o2 := o2) (m := m) js (ks ++ [j]) (some (T1 j)) (some (.int 1)) hn hl
    refine ⟨a4, a5, ?_⟩
    rw [e1, ← ih, List.map_cons, forL]
    have st : asgD (.many [4, 5]) (tm j) ⟨[o1, o2, some (.int 1), some (.ref m.length), o4, o5], m ++ [.dit (dk ks)]⟩ = some ⟨[o1, o2, some (.int 1), some (.ref m.length), some (T1 j), some (.int 1)], m ++ [.dit (dk ks)]⟩ := rfl
    have hl2 : ks.length < 4000 := by
      simp only [List.length_append, List.length_singleton] at hl
      omega
    have b : q_plus_b1 ⟨[o1, o2, some (.int 1), some (.ref m.length), some (T1 j), some (.int 1)], m ++ [.dit (dk ks)]⟩ = .next ⟨[o1, o2, some (.int 1), some (.ref m.length), some (T1 j), some (.int 1)], m ++ [.dit (dk (ks ++ [j]))]⟩ := by
      unfold q_plus_b1
      exact put_ok rfl (one_ok rfl rfl rfl rfl hj) rfl rfl hj hl2
    rw [st]
    simp only [b]
theorem e_plus {m : List Cell} (ks js : List Int) (hn : (ks ++ js).Nodup) (h : 2000 < (ks ++ js).length) (h2 : (ks ++ js).length ≤ 4000) :
    m_plus [.pt (ks.map tm), .pt (js.map tm), .int 1] m = .raise (.mk 3 []) (m ++ [.dit (dk (ks ++ js))]) := by
  obtain ⟨a4, a5, e⟩ := add1 (o1 := some (.pt (ks.map tm))) (o2 := some (.pt (js.map tm))) (m := m) js ks none none hn h2
  have u : unD (.pt (js.map tm)) = .tup (js.map tm) := by rw [unD, unT]
  have g := e_gath (m := m) h h2
  have f : foldT [] (ks.map fun k => (T1 k, kd k, .int 1)) = dk ks := fold1 ks [] (by simpa using (List.nodup_append.1 hn).1)
  have q : q_plus ⟨[some (.pt (ks.map tm)), some (.pt (js.map tm)), some (.int 1), none, none, none], m⟩ = .raise (.mk 3 []) ⟨[some (.pt (ks.map tm)), some (.pt (js.map tm)), some (.int 1), some (.ref m.length), a4, a5], m ++ [.dit (dk (ks ++ js))]⟩ := by
    unfold q_plus
    refine (seq_nx (s' := ⟨[some (.pt (ks.map tm)), some (.pt (js.map tm)), some (.int 1), some (.ref m.length), none, none], m ++ [.dit (dk ks)]⟩) ?_).trans ?_
    · simp [sAsg, e1, eVar, dictTD, unT, pairs1, f, R.bind, R.then, asgD]
    refine (seq_nx (s' := ⟨[some (.pt (ks.map tm)), some (.pt (js.map tm)), some (.int 1), some (.ref m.length), a4, a5], m ++ [.dit (dk (ks ++ js))]⟩) ?_).trans ?_
    · rw [← e]
      simp [sFor, i1, eUnD, eVar, R.bind, R.then, u, seqI]
    · simp [sRet, eCallN, aCons, aNil, eVar, callR, R.bind, R.then, g]
  show (match q_plus ⟨[some (.pt (ks.map tm)), some (.pt (js.map tm)), some (.int 1), none, none, none], m⟩ with
    | .next s => RF.ok .non s.m | .ret d s => .ok d s.m | .raise e s => .raise e s.m | _ => .stuck) = _
  rw [q]
end A12
set_option linter.all false
set_option maxRecDepth 100000
set_option maxHeartbeats 1000000
namespace A12
open PySem PySem.Spec PyProof.Rows L2 DL
/-! a long letter sum is one -/
theorem enc1 (a : Int) : DL.encD (T1 a) = .tuple [.int a] := rfl
theorem lt1 (a b : Int) (h : a < b) : ltDt (T1 a) (T1 b) = some true := by
  have e : ltE (T1 a) (T1 b) = true := by
    unfold ltE
    rw [enc1, enc1, PySem.W.dataLt_tuple]
    rw [PySem.W.dataLt_cons (by simp [PySem.W.alike]), PySem.W.dataLt_int]
    have hne : ¬ a = b := by omega
    simp [PyData.eqv, h, hne]
  have c : ((toP (T1 a)).isSome && (toP (T1 b)).isSome && isTupP (DL.encD (T1 a)) && decide ((DL.encD (T1 a)).depth ≤ 30) && PySem.W.alike (DL.encD (T1 a)) (DL.encD (T1 b))) = true := rfl
  show (if ((toP (T1 a)).isSome && (toP (T1 b)).isSome && isTupP (DL.encD (T1 a)) && decide ((DL.encD (T1 a)).depth ≤ 30) && PySem.W.alike (DL.encD (T1 a)) (DL.encD (T1 b))) = true then some (ltE (T1 a) (T1 b)) else none) = some true
  rw [if_pos c, e]
theorem num_ok (k : Int) (m : List Cell) : m_is_number [.int k] m = .ok (.bl true) m := by kernel_rfl
theorem blsT {α : Type} : ∀ l : List α, blsD (l.map fun _ => D.bl true) = some (l.map fun _ => true)
  | [] => rfl
  | x :: l => by
    have ih := blsT l
    simp [List.map_cons, blsD, ih]
theorem allT {α : Type} (l : List α) (s : S) : allD (.lst (l.map fun _ => D.bl true)) s = .ok (.bl true) s := by
  unfold allD
  simp only [blsT]
  congr 2
  simp
theorem e_asc {ks : List Int} (hs : ks.Pairwise (· < ·)) (hl : ks.length ≤ 4000) (m : List Cell) : m_ascends [.lst (ks.map T1)] m = .ok (.bl true) m := by
  have sz : sizeLine = 16777216 := szl
  by_cases h0 : ks = []
  · subst h0
    kernel_rfl
  have hp : 0 < ks.length := List.length_pos_iff.2 h0
  have ei : ((ks.length : Int) - 1) = ((ks.length - 1 : Nat) : Int) := by omega
  have rg : ∀ r, rng1I [.int ((ks.length : Int) - 1)] ⟨r, m⟩ = .ok (rngL 0 (ks.length - 1)) ⟨r, m⟩ := fun r => by
    rw [ei]; exact rngS _ _ (by omega)
  have L := lc_map 1 (e2 (cmpD ltDt) (e2 ixD (eVar 0) (eVar 1)) (e2 ixD (eVar 0) (e2 addD (eVar 1) (eC (.int 1))))) [some (.lst (ks.map T1)), none] m (fun i : Nat => D.int (0 + (i : Int))) (fun _ => .bl true) (List.range (ks.length - 1)) fun i hi => by
    have hi := List.mem_range.1 hi
    have i1 : i < ks.length := by omega
    have i2 : i + 1 < ks.length := by omega
    have a1 : L2.atI (ks.map T1) (i : Int) = some (T1 ks[i]) := by
      rw [atN _ _ (by simpa using i1)]
      simp [i1]
    have a2 : L2.atI (ks.map T1) ((i : Int) + 1) = some (T1 ks[i + 1]) := by
      rw [show (i : Int) + 1 = ((i + 1 : Nat) : Int) from rfl, atN _ _ (by simpa using i2)]
      simp [i2]
    have q := lt1 ks[i] ks[i + 1] (List.pairwise_iff_getElem.1 hs i (i + 1) i1 i2 (by omega))
    simp [isOkM, e2, eVar, eC, R.bind, R.then, ixl, a1, a2, addD, cmpD, q]
  have L2 : lcL (.one 1) tYesS (e2 (cmpD ltDt) (e2 ixD (eVar 0) (eVar 1)) (e2 ixD (eVar 0) (e2 addD (eVar 1) (eC (.int 1))))) [some (.lst (ks.map T1)), none] (rngL 0 (ks.length - 1)) m = some ((List.range (ks.length - 1)).map fun _ => .bl true, m) := L
  have ln : (rngL 0 (ks.length - 1)).length ≤ sizeLine := by
    simp only [rngL, List.length_map, List.length_range]
    omega
  simp [m_ascends, q_ascends, mkF, sRet, e1, eLc, iN, e2, lenD, eVar, eC, aCons, aNil, R.bind, R.then, subD, rg, L2, ln, allT]
theorem e_tupP {ks : List Int} (hl : ks.length ≤ 4000) (m : List Cell) : m_tupledP [.tup (ks.map tm)] m = .ok (.pt (ks.map tm)) m := by
  have sz : sizeLine = 16777216 := szl
  have one : ∀ k : Int, m_tupled 5 [tm k] m = .ok (tm k) m := fun k => by kernel_rfl
  have L := lc_map 1 (eCallN 1 (m_tupled 5) (aCons (eVar 1) aNil)) [some (.tup (ks.map tm)), none] m tm tm ks fun k _ => by
    simp [isOkM, eCallN, aCons, aNil, eVar, callR, R.bind, R.then, one]
  have ln : ks.length ≤ sizeLine := by omega
  simp [m_tupledP, q_tupledP, mkF, sRet, eIf, tTru, e1, isi2D, isTy, eVar, truB, truD, eLc, i1, seqI, R.bind, R.then, L, ln, tuplePD]
theorem e_sum {ks : List Int} (hs : ks.Pairwise (· < ·)) (hl : ks.length ≤ 4000) (m : List Cell) : m_is_sum_of [.int 1, .tup (ks.map tm)] m = .ok (.bl true) m := by
  have sz : sizeLine = 16777216 := szl
  have ln : (ks.map tm).length ≤ sizeLine := by rw [List.length_map]; omega
  have ln' : ks.length ≤ sizeLine := by omega
  have asc := e_asc hs hl m
  have lg1 : ∀ k : Int, m_is_long [tm k, .int 2] m = .ok (.bl true) m := fun k => by kernel_rfl
  have lg2 : ∀ k : Int, m_is_long [T1 k, .int 1] m = .ok (.bl true) m := fun k => by kernel_rfl
  have x0 : ∀ (k : Int) (r : List (Option D)), ixD (tm k) (.int 0) ⟨r, m⟩ = .ok (T1 k) ⟨r, m⟩ := fun k r => by kernel_rfl
  have x1 : ∀ (k : Int) (r : List (Option D)), ixD (tm k) (.int 1) ⟨r, m⟩ = .ok (.int 1) ⟨r, m⟩ := fun k r => by kernel_rfl
  have n1 : neD (.int 1) (.int 0) = some true := by rw [neI]; rfl
  have LA := lc_map 2 (eAndB (eCallN 2 m_is_long (aCons (eVar 2) (aCons (eC (.int 2)) aNil))) (eCallN 2 m_is_long (aCons (e2 ixD (eVar 2) (eC (.int 0))) (aCons (eVar 0) aNil)))) [some (.int 1), some (.tup (ks.map tm)), none, none] m tm (fun _ => .bl true) ks fun k _ => by
    simp [isOkM, eAndB, e2, eCallN, aCons, aNil, eVar, eC, callR, R.bind, R.then, lg1, lg2, x0]
  have ones : ∀ (k : Int) (r : List (Option D)), lcL (.one 3) tYesS (eCallN 1 m_is_number (aCons (eVar 3) aNil)) [some (.int 1), some (.tup (ks.map tm)), some (tm k), none] [.int k] m = some ([.bl true], m) := fun k r => by
    simp [lcL, asgD, Tg.vs, wipeD, tYesS, eCallN, aCons, aNil, eVar, callR, R.bind, R.then, num_ok, DL.setL]
  have s1 : (1 : Nat) ≤ sizeLine := by omega
  have LB := lc_map 2 (eAndB (eCallN 1 m_is_number (aCons (e2 ixD (eVar 2) (eC (.int 1))) aNil)) (eAndB (e2 (cmpD neD) (e2 ixD (eVar 2) (eC (.int 1))) (eC (.int 0))) (e1 allD (eLc (i1 seqI (e2 ixD (eVar 2) (eC (.int 0)))) (.one 3) tYesS (eCallN 1 m_is_number (aCons (eVar 3) aNil)))))) [some (.int 1), some (.tup (ks.map tm)), none, none] m tm (fun _ => .bl true) ks fun k _ => by
    have o := ones k []
    simp [isOkM, eAndB, e1, e2, eCallN, aCons, aNil, eVar, eC, callR, R.bind, R.then, num_ok, x0, x1, cmpD, n1, eLc, i1, T1, seqI, s1, o, allD, blsD]
  have LC := lc_map 2 (e2 ixD (eVar 2) (eC (.int 0))) [some (.int 1), some (.tup (ks.map tm)), none, none] m tm T1 ks fun k _ => by
    simp [isOkM, e2, eVar, eC, R.bind, R.then, x0]
  simp [m_is_sum_of, q_is_sum_of, mkF, sSeq, sIf, sNil, sRet, tOrS, tNotS, tTru, e1, isiD, isTy, eVar, eC, truB, truD, eLc, i1, seqI, R.bind, R.then, eCallN, aCons, aNil, callR, LA, LB, LC, ln, ln', allT, asc]
theorem e_sure {ks : List Int} (hs : ks.Pairwise (· < ·)) (hl : ks.length ≤ 4000) (m : List Cell) : m_sure_sum [.int 1, .tup (ks.map tm)] m = .ok (.pt (ks.map tm)) m := by
  have a := e_tupP hl m
  have b := e_sum hs hl m
  have u : unD (.pt (ks.map tm)) = .tup (ks.map tm) := by rw [unD, unT]
  simp [m_sure_sum, q_sure_sum, mkF, sSeq, sAsg, sIf, sNil, sRet, tNotS, tTru, eVar, eUnD, truB, truD, R.bind, R.then, eCallN, aCons, aNil, callR, asgD, a, b, u]
theorem e_many (m : List Cell) : m_sure_many [.int 1] m = .ok (.int 1) m := by kernel_rfl
theorem e_times {is js : List Int} (hi : is.Pairwise (· < ·)) (hj : js.Pairwise (· < ·)) (li : is.length ≤ 4000) (lj : js.length ≤ 4000) {m : List Cell} (hm : m.all nrC = true) (hn : (is.flatMap fun i => js.map (i + ·)).Nodup) (h : 2000 < (is.flatMap fun i => js.map (i + ·)).length) (h2 : (is.flatMap fun i => js.map (i + ·)).length ≤ 4000) :
    m_sum_times [.int 1, .tup (is.map tm), .tup (js.map tm)] m = .raise (.mk 3 []) m := by
  have a := e_sure hi li m
  have b := e_sure hj lj m
  have c := e_mul (m := m) is js hn h h2
  have d : trimF m_multiplied [.pt (is.map tm), .pt (js.map tm)] m = .raise (.mk 3 []) m := by
    unfold trimF
    rw [c]
    simp [hm, nrE, nrs]
  simp [m_sum_times, q_sum_times, mkF, sRet, eVar, R.bind, R.then, eCallN, aCons, aNil, callR, a, b, d, e_many]
theorem e_added {is js : List Int} (hi : is.Pairwise (· < ·)) (hj : js.Pairwise (· < ·)) (li : is.length ≤ 4000) (lj : js.length ≤ 4000) {m : List Cell} (hm : m.all nrC = true) (hn : (is ++ js).Nodup) (h : 2000 < (is ++ js).length) (h2 : (is ++ js).length ≤ 4000) :
    m_sum_added [.int 1, .tup (is.map tm), .tup (js.map tm)] m = .raise (.mk 3 []) m := by
  have a := e_sure hi li m
  have b := e_sure hj lj m
  have c := e_plus (m := m) is js hn h h2
  have d : trimF m_plus [.pt (is.map tm), .pt (js.map tm), .int 1] m = .raise (.mk 3 []) m := by
    unfold trimF
    rw [c]
    simp [hm, nrE, nrs]
  simp [m_sum_added, q_sum_added, mkF, sRet, eVar, R.bind, R.then, eCallN, eCallD, aCons, aNil, callR, a, b, d, e_many]
theorem heard3 {f : Nat} {mf : MF} (hf : mfV f = mf) (ha : arV f = 3) {a b c : D} {m : List Cell} (h : mf [a, b, c] m = .raise (.mk 3 []) m) : m__law_heard [.fn f, .lst [a, b, c]] m = .ok tD m := by
  subst hf
  have x0 : ∀ r, ixD (.lst [a, b, c]) (.int 0) ⟨r, m⟩ = .ok a ⟨r, m⟩ := fun r => rfl
  have x1 : ∀ r, ixD (.lst [a, b, c]) (.int 1) ⟨r, m⟩ = .ok b ⟨r, m⟩ := fun r => rfl
  have x2 : ∀ r, ixD (.lst [a, b, c]) (.int 2) ⟨r, m⟩ = .ok c ⟨r, m⟩ := fun r => rfl
  have l3 : ltB 3 3 = false := by decide
  have q3 : eqD (.int 3) (.int 3) = some true := by rw [eqI]; rfl
  have qn : isND (.lst [.str "TooMany", .bl true]) .non = some false := rfl
  simp [m__law_heard, q__law_heard, mkF, sSeq, sAsg, sRet, sTry, sIf, t2, cmpB, iCmp, e1, e2, eTup, eLst, eIf, eVar, eC, lenD, aCons, aNil, R.bind, R.then, asgD, DL.setL, l3, q3, x0, x1, x2, eCallV, ha, h, callR, hSay, hSayF, hNil, Ex.ix, qn, tD, szl]
end A12
set_option linter.all false
set_option maxRecDepth 100000
set_option maxHeartbeats 1000000
namespace A12
open PySem PySem.Spec PyProof.Rows L2 DL
/-! the end of the law -/
def wideL : List Int := (List.range 1001).map fun k => ((k : Nat) : Int)
def steepL : List Int := (List.range 3).map fun k => 1001 * ((k : Nat) : Int)
def farL : List Int := (List.range 1000).map fun k => 2000 + ((k : Nat) : Int)
theorem rng_tm {F : S → R D} {N : Nat} {f : Nat → Int} (s : S) (hF : ∀ k : Nat, k < N → F ⟨s.r.set 20 (some (.int (k : Int))), s.m⟩ = .ok (.int (f k)) ⟨s.r.set 20 (some (.int (k : Int))), s.m⟩) (hN : N ≤ 4000) :
    e1 tupleC (eLc (iN rng1I (aCons (eC (.int N)) aNil)) (.one 20) tYesS (eTup (aCons (eTup (aCons F aNil)) (aCons (eC (.int 1)) aNil)))) s = .ok (.tup (((List.range N).map f).map tm)) s := by
  have sz : sizeLine = 16777216 := szl
  obtain ⟨r, m⟩ := s
  have L := lc_map 20 (eTup (aCons (eTup (aCons F aNil)) (aCons (eC (.int 1)) aNil))) r m (fun i : Nat => D.int (0 + (i : Int))) (fun i => tm (f i)) (List.range N) fun k hk => by
    have q := hF k (List.mem_range.1 hk)
    simp only at q
    simp [isOkM, eTup, aCons, aNil, eC, R.bind, R.then, q, tm, T1, szl]
  have L2 : lcL (.one 20) tYesS (eTup (aCons (eTup (aCons F aNil)) (aCons (eC (.int 1)) aNil))) r (rngL 0 N) m = some (((List.range N).map f).map tm, m) := by
    rw [List.map_map]; exact L
  have ln : (rngL 0 N).length ≤ sizeLine := by
    simp only [rngL, List.length_map, List.length_range]
    omega
  have rg : rng1I [.int N] ⟨r, m⟩ = .ok (rngL 0 N) ⟨r, m⟩ := rngS _ _ (by omega)
  simp [e1, eLc, iN, eC, aCons, aNil, R.bind, R.then, rg, L2, ln, tupleC, tupleD]
theorem prods_len : ∀ is : List Int, (is.flatMap fun i => steepL.map (i + ·)).length = 3 * is.length
  | [] => rfl
  | i :: is => by
    have ih := prods_len is
    rw [List.flatMap_cons, List.length_append, ih, List.length_map, List.length_cons]
    have : steepL.length = 3 := by decide
    omega
theorem st_mem {x : Int} (h : x ∈ steepL) : x = 0 ∨ x = 1001 ∨ x = 2002 := by
  have e : steepL = [0, 1001, 2002] := by decide
  rw [e] at h
  simpa using h
theorem wide_mem {x : Int} (h : x ∈ wideL) : 0 ≤ x ∧ x < 1001 := by
  obtain ⟨k, hk, rfl⟩ := List.mem_map.1 h
  have := List.mem_range.1 hk
  omega
theorem far_mem {x : Int} (h : x ∈ farL) : 2000 ≤ x := by
  obtain ⟨k, hk, rfl⟩ := List.mem_map.1 h
  omega
theorem wide_lt : wideL.Pairwise (· < ·) := by
  unfold wideL
  rw [List.pairwise_map]
  exact List.pairwise_lt_range.imp fun {a b} h => by omega
theorem steep_lt : steepL.Pairwise (· < ·) := by decide
theorem far_lt : farL.Pairwise (· < ·) := by
  unfold farL
  rw [List.pairwise_map]
  exact List.pairwise_lt_range.imp fun {a b} h => by omega
theorem prods_nodup : (wideL.flatMap fun i => steepL.map (i + ·)).Nodup := by
  unfold List.Nodup
  rw [List.pairwise_flatMap]
  refine ⟨fun i _ => ?_, ?_⟩
  · rw [List.pairwise_map]
    exact steep_lt.imp fun {a b} h e => by omega
  · refine wide_lt.imp_of_mem fun {i j} hi hj h x hx y hy e => ?_
    obtain ⟨a, ha, rfl⟩ := List.mem_map.1 hx
    obtain ⟨b, hb, rfl⟩ := List.mem_map.1 hy
    have := wide_mem hi
    have := wide_mem hj
    rcases st_mem ha with rfl | rfl | rfl <;> rcases st_mem hb with rfl | rfl | rfl <;> omega
theorem both_nodup : (wideL ++ farL).Nodup := by
  rw [List.nodup_append]
  refine ⟨wide_lt.imp fun {a b} h e => by omega, far_lt.imp fun {a b} h e => by omega, fun a ha b hb e => ?_⟩
  have := wide_mem ha
  have := far_mem hb
  omega
theorem wide_len : wideL.length = 1001 := by simp [wideL]
theorem steep_len : steepL.length = 3 := by decide
theorem far_len : farL.length = 1000 := by simp [farL]
theorem over_ok (m : List Cell) : m__law_heard [.fn 20, .lst [.int 1, oneSD, .tup []]] m = .ok kD m := by kernel_rfl
theorem times_ok {m : List Cell} (hm : m.all nrC = true) : m__law_heard [.fn 19, .lst [.int 1, .tup (wideL.map tm), .tup (steepL.map tm)]] m = .ok tD m :=
  heard3 (mf := m_sum_times) rfl rfl (e_times wide_lt steep_lt (by rw [wide_len]; omega) (by rw [steep_len]; omega) hm prods_nodup (by rw [prods_len, wide_len]; omega) (by rw [prods_len, wide_len]; omega))
theorem added_ok {m : List Cell} (hm : m.all nrC = true) : m__law_heard [.fn 18, .lst [.int 1, .tup (wideL.map tm), .tup (farL.map tm)]] m = .ok tD m :=
  heard3 (mf := m_sum_added) rfl rfl (e_added wide_lt far_lt (by rw [wide_len]; omega) (by rw [far_len]; omega) hm both_nodup (by rw [List.length_append, wide_len, far_len]; omega) (by rw [List.length_append, wide_len, far_len]; omega))
theorem same_2 (m : List Cell) : m__law_same 8 [.lst (dueL 2 ++ [kD, tD, tD]), .lst (dueL 2 ++ [kD, tD, tD])] m = .ok (.bl true) m := by kernel_rfl
theorem same_3 (m : List Cell) : m__law_same 8 [.lst (dueL 3 ++ [kD, tD, tD]), .lst (dueL 3 ++ [kD, tD, tD])] m = .ok (.bl true) m := by kernel_rfl
theorem same_4 (m : List Cell) : m__law_same 8 [.lst (dueL 4 ++ [kD, tD, tD]), .lst (dueL 4 ++ [kD, tD, tD])] m = .ok (.bl true) m := by kernel_rfl
theorem same_5 (m : List Cell) : m__law_same 8 [.lst (dueL 5 ++ [kD, tD, tD]), .lst (dueL 5 ++ [kD, tD, tD])] m = .ok (.bl true) m := by kernel_rfl
theorem same_6 (m : List Cell) : m__law_same 8 [.lst (dueL 6 ++ [kD, tD, tD]), .lst (dueL 6 ++ [kD, tD, tD])] m = .ok (.bl true) m := by kernel_rfl
theorem same_7 (m : List Cell) : m__law_same 8 [.lst (dueL 7 ++ [kD, tD, tD]), .lst (dueL 7 ++ [kD, tD, tD])] m = .ok (.bl true) m := by kernel_rfl
theorem same_8 (m : List Cell) : m__law_same 8 [.lst (dueL 8 ++ [kD, tD, tD]), .lst (dueL 8 ++ [kD, tD, tD])] m = .ok (.bl true) m := by kernel_rfl
theorem same_9 (m : List Cell) : m__law_same 8 [.lst (dueL 9 ++ [kD, tD, tD]), .lst (dueL 9 ++ [kD, tD, tD])] m = .ok (.bl true) m := by kernel_rfl
theorem same_10 (m : List Cell) : m__law_same 8 [.lst (dueL 10 ++ [kD, tD, tD]), .lst (dueL 10 ++ [kD, tD, tD])] m = .ok (.bl true) m := by kernel_rfl
theorem same_ok (m : List Cell) (far : Int) (h1 : 2 ≤ far) (h2 : far ≤ 10) : m__law_same 8 [.lst (dueL far ++ [kD, tD, tD]), .lst (dueL far ++ [kD, tD, tD])] m = .ok (.bl true) m := by
  have hf : far = 2 ∨ far = 3 ∨ far = 4 ∨ far = 5 ∨ far = 6 ∨ far = 7 ∨ far = 8 ∨ far = 9 ∨ far = 10 := by omega
  rcases hf with rfl | rfl | rfl | rfl | rfl | rfl | rfl | rfl | rfl
  · exact same_2 m
  · exact same_3 m
  · exact same_4 m
  · exact same_5 m
  · exact same_6 m
  · exact same_7 m
  · exact same_8 m
  · exact same_9 m
  · exact same_10 m
def eWide : S → R D := e1 tupleC (eLc (iN rng1I (aCons (eC (.int 1001)) aNil)) (.one 20) tYesS (eTup (aCons (eTup (aCons (eVar 20) aNil)) (aCons (eC (.int 1)) aNil))))
def eSteep : S → R D := e1 tupleC (eLc (iN rng1I (aCons (eC (.int 3)) aNil)) (.one 20) tYesS (eTup (aCons (eTup (aCons (e2 mulD (eC (.int 1001)) (eVar 20)) aNil)) (aCons (eC (.int 1)) aNil))))
def eFar : S → R D := e1 tupleC (eLc (iN rng1I (aCons (eC (.int 1000)) aNil)) (.one 20) tYesS (eTup (aCons (eTup (aCons (e2 addD (eC (.int 2000)) (eVar 20)) aNil)) (aCons (eC (.int 1)) aNil))))
theorem wide_ok (s : S) (h : 20 < s.r.length) : eWide s = .ok (.tup (wideL.map tm)) s :=
  rng_tm (F := eVar 20) (N := 1001) (f := fun k => (k : Int)) s (fun k _ => by simp [eVar, h]) (by omega)
theorem steep_ok (s : S) (h : 20 < s.r.length) : eSteep s = .ok (.tup (steepL.map tm)) s :=
  rng_tm (F := e2 mulD (eC (.int 1001)) (eVar 20)) (N := 3) (f := fun k => 1001 * (k : Int)) s (fun k hk => by
    have hm := mulK (a := 1001) (b := (k : Int)) (j := 10) (k := 10) (s := ⟨s.r.set 20 (some (.int (k : Int))), s.m⟩) (by decide) (by omega) (by decide) (by decide)
    simp [e2, eC, eVar, R.bind, R.then, h, hm]) (by omega)
theorem far_ok' (s : S) (h : 20 < s.r.length) : eFar s = .ok (.tup (farL.map tm)) s :=
  rng_tm (F := e2 addD (eC (.int 2000)) (eVar 20)) (N := 1000) (f := fun k => 2000 + (k : Int)) s (fun k _ => by simp [e2, eC, eVar, R.bind, R.then, h, addD]) (by omega)
def st3 (sc w : D) (far : Int) (m : List Cell) (g d a b : Option D) : S := ⟨[some sc, some (.ref 0), some w, some websD, some onesD, some unitsD, some placesD, some wayzD, some wrongD, some (rowsW w), some (.fn 20), some shadzD, some sumzD, some maniesD, some oneSD, some (.int far), some sixD, g, d, a, none, b], m⟩
theorem e_c1' (sc w A B C : D) (far : Int) {m : List Cell} (hA : ∀ s : S, 20 < s.r.length → eWide s = .ok A s) (hB : ∀ s : S, 20 < s.r.length → eSteep s = .ok B s) (hC : ∀ s : S, 20 < s.r.length → eFar s = .ok C s)
    (t1 : m__law_heard [.fn 20, .lst [.int 1, oneSD, .tup []]] m = .ok kD m) (t2' : m__law_heard [.fn 19, .lst [.int 1, A, B]] m = .ok tD m) (t3 : m__law_heard [.fn 18, .lst [.int 1, A, C]] m = .ok tD m)
    (q : m__law_same 8 [.lst (dueL far ++ [kD, tD, tD]), .lst (dueL far ++ [kD, tD, tD])] m = .ok (.bl true) m) : ∃ s, q_law_c1 (st2 sc w far m) = .ret (.bl true) s := by
  obtain ⟨G, hG⟩ : ∃ G, G = dueL far := ⟨_, rfl⟩
  have hl : G.length = 13 := by rw [hG]; rfl
  refine ⟨st3 sc w far m (some (.lst (G ++ [kD, tD, tD]))) (some (.lst (G ++ [kD, tD, tD]))) (some A) (some B), ?_⟩
  have e0 : st2 sc w far m = st3 sc w far m (some (.lst G)) (some (.lst G)) none none := by rw [hG]; rfl
  rw [e0]
  rw [← hG] at q
  clear e0 hG
  have x1 := hA (st3 sc w far m (some (.lst G)) (some (.lst G)) none none) (by simp [st3])
  have x2 := hB (st3 sc w far m (some (.lst G)) (some (.lst G)) (some A) none) (by simp [st3])
  have x3 := hC (st3 sc w far m (some (.lst G)) (some (.lst G)) (some A) (some B)) (by simp [st3])
  unfold q_law_c1
  refine (seq_nx (s' := st3 sc w far m (some (.lst G)) (some (.lst G)) (some A) none) ?_).trans ?_
  · show sAsg (.one 19) eWide _ = _
    unfold sAsg
    rw [x1]
    rfl
  refine (seq_nx (s' := st3 sc w far m (some (.lst G)) (some (.lst G)) (some A) (some B)) ?_).trans ?_
  · show sAsg (.one 21) eSteep _ = _
    unfold sAsg
    rw [x2]
    rfl
  refine (seq_nx (s' := st3 sc w far m (some (.lst (G ++ [kD, tD, tD]))) (some (.lst G)) (some A) (some B)) ?_).trans ?_
  · show sAsg (.one 17) (e2 addD (eVar 17) (eLst (aCons (eCallN 2 m__law_heard (aCons (eC (.fn 20)) (aCons (eLst (aCons (eC (.int 1)) (aCons (eVar 14) (aCons (eTup aNil) aNil)))) aNil))) (aCons (eCallN 2 m__law_heard (aCons (eC (.fn 19)) (aCons (eLst (aCons (eC (.int 1)) (aCons (eVar 19) (aCons (eVar 21) aNil)))) aNil))) (aCons (eCallN 2 m__law_heard (aCons (eC (.fn 18)) (aCons (eLst (aCons (eC (.int 1)) (aCons (eVar 19) (aCons eFar aNil)))) aNil))) aNil))))) _ = _
    generalize eFar = ef at x3
    simp [sAsg, e2, eVar, eC, eLst, eTup, eCallN, aCons, aNil, R.bind, R.then, st3, callR, asgD, szl, t1, t2']
    simp only [st3] at x3
    simp [x3, R.bind, R.then, t3, callR, addD, szl, hl, asgD]
  refine (seq_nx (s' := st3 sc w far m (some (.lst (G ++ [kD, tD, tD]))) (some (.lst (G ++ [kD, tD, tD]))) (some A) (some B)) ?_).trans ?_
  · simp [sAsg, e2, eVar, eC, eLst, aCons, aNil, R.bind, R.then, st3, addD, asgD, szl, hl]
    exact ⟨rfl, rfl⟩
  · simp [sRet, eCallN, aCons, aNil, eVar, callR, R.bind, R.then, st3, q]
theorem e_c1 (sc w : D) (far : Int) (h1 : 2 ≤ far) (h2 : far ≤ 10) {m : List Cell} (hm : m.all nrC = true) : ∃ s, q_law_c1 (st2 sc w far m) = .ret (.bl true) s :=
  e_c1' sc w _ _ _ far wide_ok steep_ok far_ok' (over_ok m) (times_ok hm) (added_ok hm) (same_ok m far h1 h2)
theorem kw_a2_0 {a b c a' b' c' : Int} (e : m__law_take [.ref 0, .int 2] [.lst [.int a, .int b, .int c], .lst [.int 0, .int 0], .lst [.int 0, .int 0]] = .ok (.int 0) [.lst [.int a', .int b', .int c'], .lst [.int 0, .int 0], .lst [.int 0, .int 0]]) :
    m__law_kind_web [.ref 0, .str "a2"] [.lst [.int a, .int b, .int c]] = .ok (wB 1 (-1)) (cB a' b' c' 1 (-1)) := by
  have hb : q__law_kind_web_b1 ⟨[some (.ref 0), some (.str "a2"), some (.int 2), some (.lst [.ref 1, .ref 2]), none, some (.int 0), some (.int 1), some (.int 1), some (.int 1), none, none], [.lst [.int a, .int b, .int c], .lst [.int 0, .int 0], .lst [.int 0, .int 0]]⟩ = .next ⟨[some (.ref 0), some (.str "a2"), some (.int 2), some (.lst [.ref 1, .ref 2]), none, some (.int 0), some (.int 1), some (.int 1), some (.int 1), some (.int 1), none], cB a' b' c' 1 (-1)⟩ := by
    unfold q__law_kind_web_b1
    refine (seq_nx (s' := ⟨[some (.ref 0), some (.str "a2"), some (.int 2), some (.lst [.ref 1, .ref 2]), none, some (.int 0), some (.int 1), some (.int 1), some (.int 1), some (.int 1), none], [.lst [.int a', .int b', .int c'], .lst [.int 0, .int 0], .lst [.int 0, .int 0]]⟩) ?_).trans (by kernel_rfl)
    have l2 : Nat.log2 2 = 1 := by decide
    simp [sAsg, e2, eC, eCallN, aCons, aNil, eVar, callR, R.bind, R.then, e, mulD, subD, asgD, l1, l2]
  have hf : sFor (i1 seqI (eCallN 1 m__law_joins (aCons (eVar 1) aNil))) (.manyL [5, 6, 7, 8]) q__law_kind_web_b1 ⟨[some (.ref 0), some (.str "a2"), some (.int 2), some (.lst [.ref 1, .ref 2]), none, none, none, none, none, none, none], [.lst [.int a, .int b, .int c], .lst [.int 0, .int 0], .lst [.int 0, .int 0]]⟩ = .next ⟨[some (.ref 0), some (.str "a2"), some (.int 2), some (.lst [.ref 1, .ref 2]), none, some (.int 0), some (.int 1), some (.int 1), some (.int 1), some (.int 1), none], cB a' b' c' 1 (-1)⟩ := by
    unfold sFor
    rw [show (i1 seqI (eCallN 1 m__law_joins (aCons (eVar 1) aNil))) ⟨[some (.ref 0), some (.str "a2"), some (.int 2), some (.lst [.ref 1, .ref 2]), none, none, none, none, none, none, none], [.lst [.int a, .int b, .int c], .lst [.int 0, .int 0], .lst [.int 0, .int 0]]⟩ = .ok [.lst [.int 0, .int 1, .int 1, .int 1]] ⟨[some (.ref 0), some (.str "a2"), some (.int 2), some (.lst [.ref 1, .ref 2]), none, none, none, none, none, none, none], [.lst [.int a, .int b, .int c], .lst [.int 0, .int 0], .lst [.int 0, .int 0]]⟩ from by kernel_rfl]
    show forL (.manyL [5, 6, 7, 8]) q__law_kind_web_b1 [.lst [.int 0, .int 1, .int 1, .int 1]] _ = _
    unfold forL
    rw [show asgD (.manyL [5, 6, 7, 8]) (.lst [.int 0, .int 1, .int 1, .int 1]) ⟨[some (.ref 0), some (.str "a2"), some (.int 2), some (.lst [.ref 1, .ref 2]), none, none, none, none, none, none, none], [.lst [.int a, .int b, .int c], .lst [.int 0, .int 0], .lst [.int 0, .int 0]]⟩ = some ⟨[some (.ref 0), some (.str "a2"), some (.int 2), some (.lst [.ref 1, .ref 2]), none, some (.int 0), some (.int 1), some (.int 1), some (.int 1), none, none], [.lst [.int a, .int b, .int c], .lst [.int 0, .int 0], .lst [.int 0, .int 0]]⟩ from by kernel_rfl]
    simp only [hb, forL]
  have hq : q__law_kind_web ⟨[some (.ref 0), some (.str "a2"), none, none, none, none, none, none, none, none, none], [.lst [.int a, .int b, .int c]]⟩ = .ret (wB 1 (-1)) ⟨[some (.ref 0), some (.str "a2"), some (.int 2), some (.lst [.ref 1, .ref 2]), none, some (.int 0), some (.int 1), some (.int 1), some (.int 1), some (.int 1), none], cB a' b' c' 1 (-1)⟩ := by
    unfold q__law_kind_web
    refine (seq_nx (s' := ⟨[some (.ref 0), some (.str "a2"), some (.int 2), none, none, none, none, none, none, none, none], [.lst [.int a, .int b, .int c]]⟩) (by kernel_rfl)).trans ?_
    refine (seq_nx (s' := ⟨[some (.ref 0), some (.str "a2"), some (.int 2), some (.lst [.ref 1, .ref 2]), none, none, none, none, none, none, none], [.lst [.int a, .int b, .int c], .lst [.int 0, .int 0], .lst [.int 0, .int 0]]⟩) (by kernel_rfl)).trans ?_
    refine (seq_nx hf).trans (by kernel_rfl)
  show (match q__law_kind_web ⟨[some (.ref 0), some (.str "a2"), none, none, none, none, none, none, none, none, none], [.lst [.int a, .int b, .int c]]⟩ with
    | .next s => RF.ok .non s.m | .ret d s => .ok d s.m | .raise e s => .raise e s.m | _ => .stuck) = _
  rw [hq]
theorem kw_a2_1 {a b c a' b' c' : Int} (e : m__law_take [.ref 0, .int 2] [.lst [.int a, .int b, .int c], .lst [.int 0, .int 0], .lst [.int 0, .int 0]] = .ok (.int 1) [.lst [.int a', .int b', .int c'], .lst [.int 0, .int 0], .lst [.int 0, .int 0]]) :
    m__law_kind_web [.ref 0, .str "a2"] [.lst [.int a, .int b, .int c]] = .ok (wB (-1) 1) (cB a' b' c' (-1) 1) := by
  have hb : q__law_kind_web_b1 ⟨[some (.ref 0), some (.str "a2"), some (.int 2), some (.lst [.ref 1, .ref 2]), none, some (.int 0), some (.int 1), some (.int 1), some (.int 1), none, none], [.lst [.int a, .int b, .int c], .lst [.int 0, .int 0], .lst [.int 0, .int 0]]⟩ = .next ⟨[some (.ref 0), some (.str "a2"), some (.int 2), some (.lst [.ref 1, .ref 2]), none, some (.int 0), some (.int 1), some (.int 1), some (.int 1), some (.int (-1)), none], cB a' b' c' (-1) 1⟩ := by
    unfold q__law_kind_web_b1
    refine (seq_nx (s' := ⟨[some (.ref 0), some (.str "a2"), some (.int 2), some (.lst [.ref 1, .ref 2]), none, some (.int 0), some (.int 1), some (.int 1), some (.int 1), some (.int (-1)), none], [.lst [.int a', .int b', .int c'], .lst [.int 0, .int 0], .lst [.int 0, .int 0]]⟩) ?_).trans (by kernel_rfl)
    have l2 : Nat.log2 2 = 1 := by decide
    simp [sAsg, e2, eC, eCallN, aCons, aNil, eVar, callR, R.bind, R.then, e, mulD, subD, asgD, l1, l2]
  have hf : sFor (i1 seqI (eCallN 1 m__law_joins (aCons (eVar 1) aNil))) (.manyL [5, 6, 7, 8]) q__law_kind_web_b1 ⟨[some (.ref 0), some (.str "a2"), some (.int 2), some (.lst [.ref 1, .ref 2]), none, none, none, none, none, none, none], [.lst [.int a, .int b, .int c], .lst [.int 0, .int 0], .lst [.int 0, .int 0]]⟩ = .next ⟨[some (.ref 0), some (.str "a2"), some (.int 2), some (.lst [.ref 1, .ref 2]), none, some (.int 0), some (.int 1), some (.int 1), some (.int 1), some (.int (-1)), none], cB a' b' c' (-1) 1⟩ := by
    unfold sFor
    rw [show (i1 seqI (eCallN 1 m__law_joins (aCons (eVar 1) aNil))) ⟨[some (.ref 0), some (.str "a2"), some (.int 2), some (.lst [.ref 1, .ref 2]), none, none, none, none, none, none, none], [.lst [.int a, .int b, .int c], .lst [.int 0, .int 0], .lst [.int 0, .int 0]]⟩ = .ok [.lst [.int 0, .int 1, .int 1, .int 1]] ⟨[some (.ref 0), some (.str "a2"), some (.int 2), some (.lst [.ref 1, .ref 2]), none, none, none, none, none, none, none], [.lst [.int a, .int b, .int c], .lst [.int 0, .int 0], .lst [.int 0, .int 0]]⟩ from by kernel_rfl]
    show forL (.manyL [5, 6, 7, 8]) q__law_kind_web_b1 [.lst [.int 0, .int 1, .int 1, .int 1]] _ = _
    unfold forL
    rw [show asgD (.manyL [5, 6, 7, 8]) (.lst [.int 0, .int 1, .int 1, .int 1]) ⟨[some (.ref 0), some (.str "a2"), some (.int 2), some (.lst [.ref 1, .ref 2]), none, none, none, none, none, none, none], [.lst [.int a, .int b, .int c], .lst [.int 0, .int 0], .lst [.int 0, .int 0]]⟩ = some ⟨[some (.ref 0), some (.str "a2"), some (.int 2), some (.lst [.ref 1, .ref 2]), none, some (.int 0), some (.int 1), some (.int 1), some (.int 1), none, none], [.lst [.int a, .int b, .int c], .lst [.int 0, .int 0], .lst [.int 0, .int 0]]⟩ from by kernel_rfl]
    simp only [hb, forL]
  have hq : q__law_kind_web ⟨[some (.ref 0), some (.str "a2"), none, none, none, none, none, none, none, none, none], [.lst [.int a, .int b, .int c]]⟩ = .ret (wB (-1) 1) ⟨[some (.ref 0), some (.str "a2"), some (.int 2), some (.lst [.ref 1, .ref 2]), none, some (.int 0), some (.int 1), some (.int 1), some (.int 1), some (.int (-1)), none], cB a' b' c' (-1) 1⟩ := by
    unfold q__law_kind_web
    refine (seq_nx (s' := ⟨[some (.ref 0), some (.str "a2"), some (.int 2), none, none, none, none, none, none, none, none], [.lst [.int a, .int b, .int c]]⟩) (by kernel_rfl)).trans ?_
    refine (seq_nx (s' := ⟨[some (.ref 0), some (.str "a2"), some (.int 2), some (.lst [.ref 1, .ref 2]), none, none, none, none, none, none, none], [.lst [.int a, .int b, .int c], .lst [.int 0, .int 0], .lst [.int 0, .int 0]]⟩) (by kernel_rfl)).trans ?_
    refine (seq_nx hf).trans (by kernel_rfl)
  show (match q__law_kind_web ⟨[some (.ref 0), some (.str "a2"), none, none, none, none, none, none, none, none, none], [.lst [.int a, .int b, .int c]]⟩ with
    | .next s => RF.ok .non s.m | .ret d s => .ok d s.m | .raise e s => .raise e s.m | _ => .stuck) = _
  rw [hq]
theorem kw_b2_0 {a b c a' b' c' : Int} (e : m__law_take [.ref 0, .int 2] [.lst [.int a, .int b, .int c], .lst [.int 0, .int 0], .lst [.int 0, .int 0]] = .ok (.int 0) [.lst [.int a', .int b', .int c'], .lst [.int 0, .int 0], .lst [.int 0, .int 0]]) :
    m__law_kind_web [.ref 0, .str "b2"] [.lst [.int a, .int b, .int c]] = .ok (wB 1 (-2)) (cB a' b' c' 1 (-2)) := by
  have hb : q__law_kind_web_b1 ⟨[some (.ref 0), some (.str "b2"), some (.int 2), some (.lst [.ref 1, .ref 2]), none, some (.int 0), some (.int 1), some (.int 1), some (.int 2), none, none], [.lst [.int a, .int b, .int c], .lst [.int 0, .int 0], .lst [.int 0, .int 0]]⟩ = .next ⟨[some (.ref 0), some (.str "b2"), some (.int 2), some (.lst [.ref 1, .ref 2]), none, some (.int 0), some (.int 1), some (.int 1), some (.int 2), some (.int 1), none], cB a' b' c' 1 (-2)⟩ := by
    unfold q__law_kind_web_b1
    refine (seq_nx (s' := ⟨[some (.ref 0), some (.str "b2"), some (.int 2), some (.lst [.ref 1, .ref 2]), none, some (.int 0), some (.int 1), some (.int 1), some (.int 2), some (.int 1), none], [.lst [.int a', .int b', .int c'], .lst [.int 0, .int 0], .lst [.int 0, .int 0]]⟩) ?_).trans (by kernel_rfl)
    have l2 : Nat.log2 2 = 1 := by decide
    simp [sAsg, e2, eC, eCallN, aCons, aNil, eVar, callR, R.bind, R.then, e, mulD, subD, asgD, l1, l2]
  have hf : sFor (i1 seqI (eCallN 1 m__law_joins (aCons (eVar 1) aNil))) (.manyL [5, 6, 7, 8]) q__law_kind_web_b1 ⟨[some (.ref 0), some (.str "b2"), some (.int 2), some (.lst [.ref 1, .ref 2]), none, none, none, none, none, none, none], [.lst [.int a, .int b, .int c], .lst [.int 0, .int 0], .lst [.int 0, .int 0]]⟩ = .next ⟨[some (.ref 0), some (.str "b2"), some (.int 2), some (.lst [.ref 1, .ref 2]), none, some (.int 0), some (.int 1), some (.int 1), some (.int 2), some (.int 1), none], cB a' b' c' 1 (-2)⟩ := by
    unfold sFor
    rw [show (i1 seqI (eCallN 1 m__law_joins (aCons (eVar 1) aNil))) ⟨[some (.ref 0), some (.str "b2"), some (.int 2), some (.lst [.ref 1, .ref 2]), none, none, none, none, none, none, none], [.lst [.int a, .int b, .int c], .lst [.int 0, .int 0], .lst [.int 0, .int 0]]⟩ = .ok [.lst [.int 0, .int 1, .int 1, .int 2]] ⟨[some (.ref 0), some (.str "b2"), some (.int 2), some (.lst [.ref 1, .ref 2]), none, none, none, none, none, none, none], [.lst [.int a, .int b, .int c], .lst [.int 0, .int 0], .lst [.int 0, .int 0]]⟩ from by kernel_rfl]
    show forL (.manyL [5, 6, 7, 8]) q__law_kind_web_b1 [.lst [.int 0, .int 1, .int 1, .int 2]] _ = _
    unfold forL
    rw [show asgD (.manyL [5, 6, 7, 8]) (.lst [.int 0, .int 1, .int 1, .int 2]) ⟨[some (.ref 0), some (.str "b2"), some (.int 2), some (.lst [.ref 1, .ref 2]), none, none, none, none, none, none, none], [.lst [.int a, .int b, .int c], .lst [.int 0, .int 0], .lst [.int 0, .int 0]]⟩ = some ⟨[some (.ref 0), some (.str "b2"), some (.int 2), some (.lst [.ref 1, .ref 2]), none, some (.int 0), some (.int 1), some (.int 1), some (.int 2), none, none], [.lst [.int a, .int b, .int c], .lst [.int 0, .int 0], .lst [.int 0, .int 0]]⟩ from by kernel_rfl]
    simp only [hb, forL]
  have hq : q__law_kind_web ⟨[some (.ref 0), some (.str "b2"), none, none, none, none, none, none, none, none, none], [.lst [.int a, .int b, .int c]]⟩ = .ret (wB 1 (-2)) ⟨[some (.ref 0), some (.str "b2"), some (.int 2), some (.lst [.ref 1, .ref 2]), none, some (.int 0), some (.int 1), some (.int 1), some (.int 2), some (.int 1), none], cB a' b' c' 1 (-2)⟩ := by
    unfold q__law_kind_web
    refine (seq_nx (s' := ⟨[some (.ref 0), some (.str "b2"), some (.int 2), none, none, none, none, none, none, none, none], [.lst [.int a, .int b, .int c]]⟩) (by kernel_rfl)).trans ?_
    refine (seq_nx (s' := ⟨[some (.ref 0), some (.str "b2"), some (.int 2), some (.lst [.ref 1, .ref 2]), none, none, none, none, none, none, none], [.lst [.int a, .int b, .int c], .lst [.int 0, .int 0], .lst [.int 0, .int 0]]⟩) (by kernel_rfl)).trans ?_
    refine (seq_nx hf).trans (by kernel_rfl)
  show (match q__law_kind_web ⟨[some (.ref 0), some (.str "b2"), none, none, none, none, none, none, none, none, none], [.lst [.int a, .int b, .int c]]⟩ with
    | .next s => RF.ok .non s.m | .ret d s => .ok d s.m | .raise e s => .raise e s.m | _ => .stuck) = _
  rw [hq]
theorem kw_b2_1 {a b c a' b' c' : Int} (e : m__law_take [.ref 0, .int 2] [.lst [.int a, .int b, .int c], .lst [.int 0, .int 0], .lst [.int 0, .int 0]] = .ok (.int 1) [.lst [.int a', .int b', .int c'], .lst [.int 0, .int 0], .lst [.int 0, .int 0]]) :
    m__law_kind_web [.ref 0, .str "b2"] [.lst [.int a, .int b, .int c]] = .ok (wB (-1) 2) (cB a' b' c' (-1) 2) := by
  have hb : q__law_kind_web_b1 ⟨[some (.ref 0), some (.str "b2"), some (.int 2), some (.lst [.ref 1, .ref 2]), none, some (.int 0), some (.int 1), some (.int 1), some (.int 2), none, none], [.lst [.int a, .int b, .int c], .lst [.int 0, .int 0], .lst [.int 0, .int 0]]⟩ = .next ⟨[some (.ref 0), some (.str "b2"), some (.int 2), some (.lst [.ref 1, .ref 2]), none, some (.int 0), some (.int 1), some (.int 1), some (.int 2), some (.int (-1)), none], cB a' b' c' (-1) 2⟩ := by
    unfold q__law_kind_web_b1
    refine (seq_nx (s' := ⟨[some (.ref 0), some (.str "b2"), some (.int 2), some (.lst [.ref 1, .ref 2]), none, some (.int 0), some (.int 1), some (.int 1), some (.int 2), some (.int (-1)), none], [.lst [.int a', .int b', .int c'], .lst [.int 0, .int 0], .lst [.int 0, .int 0]]⟩) ?_).trans (by kernel_rfl)
    have l2 : Nat.log2 2 = 1 := by decide
    simp [sAsg, e2, eC, eCallN, aCons, aNil, eVar, callR, R.bind, R.then, e, mulD, subD, asgD, l1, l2]
  have hf : sFor (i1 seqI (eCallN 1 m__law_joins (aCons (eVar 1) aNil))) (.manyL [5, 6, 7, 8]) q__law_kind_web_b1 ⟨[some (.ref 0), some (.str "b2"), some (.int 2), some (.lst [.ref 1, .ref 2]), none, none, none, none, none, none, none], [.lst [.int a, .int b, .int c], .lst [.int 0, .int 0], .lst [.int 0, .int 0]]⟩ = .next ⟨[some (.ref 0), some (.str "b2"), some (.int 2), some (.lst [.ref 1, .ref 2]), none, some (.int 0), some (.int 1), some (.int 1), some (.int 2), some (.int (-1)), none], cB a' b' c' (-1) 2⟩ := by
    unfold sFor
    rw [show (i1 seqI (eCallN 1 m__law_joins (aCons (eVar 1) aNil))) ⟨[some (.ref 0), some (.str "b2"), some (.int 2), some (.lst [.ref 1, .ref 2]), none, none, none, none, none, none, none], [.lst [.int a, .int b, .int c], .lst [.int 0, .int 0], .lst [.int 0, .int 0]]⟩ = .ok [.lst [.int 0, .int 1, .int 1, .int 2]] ⟨[some (.ref 0), some (.str "b2"), some (.int 2), some (.lst [.ref 1, .ref 2]), none, none, none, none, none, none, none], [.lst [.int a, .int b, .int c], .lst [.int 0, .int 0], .lst [.int 0, .int 0]]⟩ from by kernel_rfl]
    show forL (.manyL [5, 6, 7, 8]) q__law_kind_web_b1 [.lst [.int 0, .int 1, .int 1, .int 2]] _ = _
    unfold forL
    rw [show asgD (.manyL [5, 6, 7, 8]) (.lst [.int 0, .int 1, .int 1, .int 2]) ⟨[some (.ref 0), some (.str "b2"), some (.int 2), some (.lst [.ref 1, .ref 2]), none, none, none, none, none, none, none], [.lst [.int a, .int b, .int c], .lst [.int 0, .int 0], .lst [.int 0, .int 0]]⟩ = some ⟨[some (.ref 0), some (.str "b2"), some (.int 2), some (.lst [.ref 1, .ref 2]), none, some (.int 0), some (.int 1), some (.int 1), some (.int 2), none, none], [.lst [.int a, .int b, .int c], .lst [.int 0, .int 0], .lst [.int 0, .int 0]]⟩ from by kernel_rfl]
    simp only [hb, forL]
  have hq : q__law_kind_web ⟨[some (.ref 0), some (.str "b2"), none, none, none, none, none, none, none, none, none], [.lst [.int a, .int b, .int c]]⟩ = .ret (wB (-1) 2) ⟨[some (.ref 0), some (.str "b2"), some (.int 2), some (.lst [.ref 1, .ref 2]), none, some (.int 0), some (.int 1), some (.int 1), some (.int 2), some (.int (-1)), none], cB a' b' c' (-1) 2⟩ := by
    unfold q__law_kind_web
    refine (seq_nx (s' := ⟨[some (.ref 0), some (.str "b2"), some (.int 2), none, none, none, none, none, none, none, none], [.lst [.int a, .int b, .int c]]⟩) (by kernel_rfl)).trans ?_
    refine (seq_nx (s' := ⟨[some (.ref 0), some (.str "b2"), some (.int 2), some (.lst [.ref 1, .ref 2]), none, none, none, none, none, none, none], [.lst [.int a, .int b, .int c], .lst [.int 0, .int 0], .lst [.int 0, .int 0]]⟩) (by kernel_rfl)).trans ?_
    refine (seq_nx hf).trans (by kernel_rfl)
  show (match q__law_kind_web ⟨[some (.ref 0), some (.str "b2"), none, none, none, none, none, none, none, none, none], [.lst [.int a, .int b, .int c]]⟩ with
    | .next s => RF.ok .non s.m | .ret d s => .ok d s.m | .raise e s => .raise e s.m | _ => .stuck) = _
  rw [hq]
theorem kw_g2_0 {a b c a' b' c' : Int} (e : m__law_take [.ref 0, .int 2] [.lst [.int a, .int b, .int c], .lst [.int 0, .int 0], .lst [.int 0, .int 0]] = .ok (.int 0) [.lst [.int a', .int b', .int c'], .lst [.int 0, .int 0], .lst [.int 0, .int 0]]) :
    m__law_kind_web [.ref 0, .str "g2"] [.lst [.int a, .int b, .int c]] = .ok (wB 1 (-3)) (cB a' b' c' 1 (-3)) := by
  have hb : q__law_kind_web_b1 ⟨[some (.ref 0), some (.str "g2"), some (.int 2), some (.lst [.ref 1, .ref 2]), none, some (.int 0), some (.int 1), some (.int 1), some (.int 3), none, none], [.lst [.int a, .int b, .int c], .lst [.int 0, .int 0], .lst [.int 0, .int 0]]⟩ = .next ⟨[some (.ref 0), some (.str "g2"), some (.int 2), some (.lst [.ref 1, .ref 2]), none, some (.int 0), some (.int 1), some (.int 1), some (.int 3), some (.int 1), none], cB a' b' c' 1 (-3)⟩ := by
    unfold q__law_kind_web_b1
    refine (seq_nx (s' := ⟨[some (.ref 0), some (.str "g2"), some (.int 2), some (.lst [.ref 1, .ref 2]), none, some (.int 0), some (.int 1), some (.int 1), some (.int 3), some (.int 1), none], [.lst [.int a', .int b', .int c'], .lst [.int 0, .int 0], .lst [.int 0, .int 0]]⟩) ?_).trans (by kernel_rfl)
    have l2 : Nat.log2 2 = 1 := by decide
    simp [sAsg, e2, eC, eCallN, aCons, aNil, eVar, callR, R.bind, R.then, e, mulD, subD, asgD, l1, l2]
  have hf : sFor (i1 seqI (eCallN 1 m__law_joins (aCons (eVar 1) aNil))) (.manyL [5, 6, 7, 8]) q__law_kind_web_b1 ⟨[some (.ref 0), some (.str "g2"), some (.int 2), some (.lst [.ref 1, .ref 2]), none, none, none, none, none, none, none], [.lst [.int a, .int b, .int c], .lst [.int 0, .int 0], .lst [.int 0, .int 0]]⟩ = .next ⟨[some (.ref 0), some (.str "g2"), some (.int 2), some (.lst [.ref 1, .ref 2]), none, some (.int 0), some (.int 1), some (.int 1), some (.int 3), some (.int 1), none], cB a' b' c' 1 (-3)⟩ := by
    unfold sFor
    rw [show (i1 seqI (eCallN 1 m__law_joins (aCons (eVar 1) aNil))) ⟨[some (.ref 0), some (.str "g2"), some (.int 2), some (.lst [.ref 1, .ref 2]), none, none, none, none, none, none, none], [.lst [.int a, .int b, .int c], .lst [.int 0, .int 0], .lst [.int 0, .int 0]]⟩ = .ok [.lst [.int 0, .int 1, .int 1, .int 3]] ⟨[some (.ref 0), some (.str "g2"), some (.int 2), some (.lst [.ref 1, .ref 2]), none, none, none, none, none, none, none], [.lst [.int a, .int b, .int c], .lst [.int 0, .int 0], .lst [.int 0, .int 0]]⟩ from by kernel_rfl]
    show forL (.manyL [5, 6, 7, 8]) q__law_kind_web_b1 [.lst [.int 0, .int 1, .int 1, .int 3]] _ = _
    unfold forL
    rw [show asgD (.manyL [5, 6, 7, 8]) (.lst [.int 0, .int 1, .int 1, .int 3]) ⟨[some (.ref 0), some (.str "g2"), some (.int 2), some (.lst [.ref 1, .ref 2]), none, none, none, none, none, none, none], [.lst [.int a, .int b, .int c], .lst [.int 0, .int 0], .lst [.int 0, .int 0]]⟩ = some ⟨[some (.ref 0), some (.str "g2"), some (.int 2), some (.lst [.ref 1, .ref 2]), none, some (.int 0), some (.int 1), some (.int 1), some (.int 3), none, none], [.lst [.int a, .int b, .int c], .lst [.int 0, .int 0], .lst [.int 0, .int 0]]⟩ from by kernel_rfl]
    simp only [hb, forL]
  have hq : q__law_kind_web ⟨[some (.ref 0), some (.str "g2"), none, none, none, none, none, none, none, none, none], [.lst [.int a, .int b, .int c]]⟩ = .ret (wB 1 (-3)) ⟨[some (.ref 0), some (.str "g2"), some (.int 2), some (.lst [.ref 1, .ref 2]), none, some (.int 0), some (.int 1), some (.int 1), some (.int 3), some (.int 1), none], cB a' b' c' 1 (-3)⟩ := by
    unfold q__law_kind_web
    refine (seq_nx (s' := ⟨[some (.ref 0), some (.str "g2"), some (.int 2), none, none, none, none, none, none, none, none], [.lst [.int a, .int b, .int c]]⟩) (by kernel_rfl)).trans ?_
    refine (seq_nx (s' := ⟨[some (.ref 0), some (.str "g2"), some (.int 2), some (.lst [.ref 1, .ref 2]), none, none, none, none, none, none, none], [.lst [.int a, .int b, .int c], .lst [.int 0, .int 0], .lst [.int 0, .int 0]]⟩) (by kernel_rfl)).trans ?_
    refine (seq_nx hf).trans (by kernel_rfl)
  show (match q__law_kind_web ⟨[some (.ref 0), some (.str "g2"), none, none, none, none, none, none, none, none, none], [.lst [.int a, .int b, .int c]]⟩ with
    | .next s => RF.ok .non s.m | .ret d s => .ok d s.m | .raise e s => .raise e s.m | _ => .stuck) = _
  rw [hq]
theorem kw_g2_1 {a b c a' b' c' : Int} (e : m__law_take [.ref 0, .int 2] [.lst [.int a, .int b, .int c], .lst [.int 0, .int 0], .lst [.int 0, .int 0]] = .ok (.int 1) [.lst [.int a', .int b', .int c'], .lst [.int 0, .int 0], .lst [.int 0, .int 0]]) :
    m__law_kind_web [.ref 0, .str "g2"] [.lst [.int a, .int b, .int c]] = .ok (wB (-1) 3) (cB a' b' c' (-1) 3) := by
  have hb : q__law_kind_web_b1 ⟨[some (.ref 0), some (.str "g2"), some (.int 2), some (.lst [.ref 1, .ref 2]), none, some (.int 0), some (.int 1), some (.int 1), some (.int 3), none, none], [.lst [.int a, .int b, .int c], .lst [.int 0, .int 0], .lst [.int 0, .int 0]]⟩ = .next ⟨[some (.ref 0), some (.str "g2"), some (.int 2), some (.lst [.ref 1, .ref 2]), none, some (.int 0), some (.int 1), some (.int 1), some (.int 3), some (.int (-1)), none], cB a' b' c' (-1) 3⟩ := by
    unfold q__law_kind_web_b1
    refine (seq_nx (s' := ⟨[some (.ref 0), some (.str "g2"), some (.int 2), some (.lst [.ref 1, .ref 2]), none, some (.int 0), some (.int 1), some (.int 1), some (.int 3), some (.int (-1)), none], [.lst [.int a', .int b', .int c'], .lst [.int 0, .int 0], .lst [.int 0, .int 0]]⟩) ?_).trans (by kernel_rfl)
    have l2 : Nat.log2 2 = 1 := by decide
    simp [sAsg, e2, eC, eCallN, aCons, aNil, eVar, callR, R.bind, R.then, e, mulD, subD, asgD, l1, l2]
  have hf : sFor (i1 seqI (eCallN 1 m__law_joins (aCons (eVar 1) aNil))) (.manyL [5, 6, 7, 8]) q__law_kind_web_b1 ⟨[some (.ref 0), some (.str "g2"), some (.int 2), some (.lst [.ref 1, .ref 2]), none, none, none, none, none, none, none], [.lst [.int a, .int b, .int c], .lst [.int 0, .int 0], .lst [.int 0, .int 0]]⟩ = .next ⟨[some (.ref 0), some (.str "g2"), some (.int 2), some (.lst [.ref 1, .ref 2]), none, some (.int 0), some (.int 1), some (.int 1), some (.int 3), some (.int (-1)), none], cB a' b' c' (-1) 3⟩ := by
    unfold sFor
    rw [show (i1 seqI (eCallN 1 m__law_joins (aCons (eVar 1) aNil))) ⟨[some (.ref 0), some (.str "g2"), some (.int 2), some (.lst [.ref 1, .ref 2]), none, none, none, none, none, none, none], [.lst [.int a, .int b, .int c], .lst [.int 0, .int 0], .lst [.int 0, .int 0]]⟩ = .ok [.lst [.int 0, .int 1, .int 1, .int 3]] ⟨[some (.ref 0), some (.str "g2"), some (.int 2), some (.lst [.ref 1, .ref 2]), none, none, none, none, none, none, none], [.lst [.int a, .int b, .int c], .lst [.int 0, .int 0], .lst [.int 0, .int 0]]⟩ from by kernel_rfl]
    show forL (.manyL [5, 6, 7, 8]) q__law_kind_web_b1 [.lst [.int 0, .int 1, .int 1, .int 3]] _ = _
    unfold forL
    rw [show asgD (.manyL [5, 6, 7, 8]) (.lst [.int 0, .int 1, .int 1, .int 3]) ⟨[some (.ref 0), some (.str "g2"), some (.int 2), some (.lst [.ref 1, .ref 2]), none, none, none, none, none, none, none], [.lst [.int a, .int b, .int c], .lst [.int 0, .int 0], .lst [.int 0, .int 0]]⟩ = some ⟨[some (.ref 0), some (.str "g2"), some (.int 2), some (.lst [.ref 1, .ref 2]), none, some (.int 0), some (.int 1), some (.int 1), some (.int 3), none, none], [.lst [.int a, .int b, .int c], .lst [.int 0, .int 0], .lst [.int 0, .int 0]]⟩ from by kernel_rfl]
    simp only [hb, forL]
  have hq : q__law_kind_web ⟨[some (.ref 0), some (.str "g2"), none, none, none, none, none, none, none, none, none], [.lst [.int a, .int b, .int c]]⟩ = .ret (wB (-1) 3) ⟨[some (.ref 0), some (.str "g2"), some (.int 2), some (.lst [.ref 1, .ref 2]), none, some (.int 0), some (.int 1), some (.int 1), some (.int 3), some (.int (-1)), none], cB a' b' c' (-1) 3⟩ := by
    unfold q__law_kind_web
    refine (seq_nx (s' := ⟨[some (.ref 0), some (.str "g2"), some (.int 2), none, none, none, none, none, none, none, none], [.lst [.int a, .int b, .int c]]⟩) (by kernel_rfl)).trans ?_
    refine (seq_nx (s' := ⟨[some (.ref 0), some (.str "g2"), some (.int 2), some (.lst [.ref 1, .ref 2]), none, none, none, none, none, none, none], [.lst [.int a, .int b, .int c], .lst [.int 0, .int 0], .lst [.int 0, .int 0]]⟩) (by kernel_rfl)).trans ?_
    refine (seq_nx hf).trans (by kernel_rfl)
  show (match q__law_kind_web ⟨[some (.ref 0), some (.str "g2"), none, none, none, none, none, none, none, none, none], [.lst [.int a, .int b, .int c]]⟩ with
    | .next s => RF.ok .non s.m | .ret d s => .ok d s.m | .raise e s => .raise e s.m | _ => .stuck) = _
  rw [hq]
/-- the web that is drawn -/
theorem e_first {k : Nat} (hk : k < 900000) {m : List Cell} (h : TinR [] k m) : ∃ (p q : Int) (a b c : Int), ((p = 1 ∧ q = (-1)) ∨ (p = (-1) ∧ q = 1) ∨ (p = 1 ∧ q = (-2)) ∨ (p = (-1) ∧ q = 2) ∨ (p = 1 ∧ q = (-3)) ∨ (p = (-1) ∧ q = 3)) ∧
    (∃ w m1, m__law_of [.ref 0, .lst [.str "a2", .str "b2", .str "g2"]] m = .ok w m1 ∧ m__law_kind_web [.ref 0, w] m1 = .ok (wB p q) (cB a b c p q)) ∧ TinR [.lst [.int 0, .int p], .lst [.int q, .int 0]] (k + 2) (cB a b c p q) := by
  obtain ⟨w, m1, hw, e, t⟩ := e_ofR (by omega) h [.str "a2", .str "b2", .str "g2"] (by simp) (by simp)
  obtain ⟨a, b, c, rfl, h1, h2, h3, h4, h5⟩ := t
  have t2 : TinR [.lst [.int 0, .int 0], .lst [.int 0, .int 0]] (k + 1) [.lst [.int a, .int b, .int c], .lst [.int 0, .int 0], .lst [.int 0, .int 0]] := ⟨a, b, c, rfl, h1, h2, h3, h4, h5⟩
  obtain ⟨r, m2, e2', r0, r1, a', b', c', rfl, i1, i2, i3, i4, i5⟩ := e_takeR (by omega) t2 (w := 2) (by decide) (by decide)
  have hr : r = 0 ∨ r = 1 := by omega
  simp only [List.mem_cons, List.not_mem_nil, or_false] at hw
  rcases hw with rfl | rfl | rfl <;> rcases hr with rfl | rfl
  · exact ⟨1, (-1), a', b', c', by decide, ⟨_, _, e, kw_a2_0 e2'⟩, ⟨a', b', c', rfl, i1, i2, i3, i4, i5⟩⟩
  · exact ⟨(-1), 1, a', b', c', by decide, ⟨_, _, e, kw_a2_1 e2'⟩, ⟨a', b', c', rfl, i1, i2, i3, i4, i5⟩⟩
  · exact ⟨1, (-2), a', b', c', by decide, ⟨_, _, e, kw_b2_0 e2'⟩, ⟨a', b', c', rfl, i1, i2, i3, i4, i5⟩⟩
  · exact ⟨(-1), 2, a', b', c', by decide, ⟨_, _, e, kw_b2_1 e2'⟩, ⟨a', b', c', rfl, i1, i2, i3, i4, i5⟩⟩
  · exact ⟨1, (-3), a', b', c', by decide, ⟨_, _, e, kw_g2_0 e2'⟩, ⟨a', b', c', rfl, i1, i2, i3, i4, i5⟩⟩
  · exact ⟨(-1), 3, a', b', c', by decide, ⟨_, _, e, kw_g2_1 e2'⟩, ⟨a', b', c', rfl, i1, i2, i3, i4, i5⟩⟩
theorem sif_ok (mf : MF) {s : S} {d : D} (h1 : s.r.getD 9 none = some d) (h2 : mf [d] s.m = .ok (.bl true) s.m) : sIf (tNotS (tTru (eCallN 1 mf (aCons (eVar 9) aNil)))) (sRet (eC (.bl false))) sNil s = .next s := by
  rw [List.getD_eq_getElem?_getD] at h1
  simp [sIf, tNotS, tTru, eCallN, aCons, aNil, eVar, callR, R.bind, R.then, truB, truD, sNil, h1, h2]
theorem far_ok (mf : MF) {sc w : D} {m m' : List Cell} {r : Int} (h2 : mf [.ref 0, .int 9] m = .ok (.int r) m') : sAsg (.many [15, 16]) (eTup (aCons (e2 addD (eC (.int 2)) (eCallN 2 mf (aCons (eVar 1) (aCons (eC (.int 9)) aNil)))) (aCons (e2 mulE (eTup (aCons (e2 mulE (eTup (aCons (eC (.int 0)) aNil)) (eC (.int 6))) aNil)) (eC (.int 6))) aNil))) (st0 sc w m) = .next (st1 sc w (2 + r) m') := by
  have six : ∀ s : S, e2 mulE (eTup (aCons (e2 mulE (eTup (aCons (eC (.int 0)) aNil)) (eC (.int 6))) aNil)) (eC (.int 6)) s = .ok sixD s := fun s => by kernel_rfl
  simp [sAsg, e2, st0, eC, eCallN, aCons, aNil, eVar, callR, R.bind, R.then, addD, h2] at six ⊢
  simp [eTup, aCons, aNil, e2, eC, eCallN, eVar, callR, R.bind, R.then, addD, h2, six]
  rfl
theorem web_ok (mf mg : MF) {s : S} {w d : D} {m1 m2 : List Cell} (h1 : s.r.getD 1 none = some (.ref 0)) (h2 : mg [.ref 0, .lst [.str "a2", .str "b2", .str "g2"]] s.m = .ok w m1) (h3 : mf [.ref 0, w] m1 = .ok d m2) :
    sAsg (.one 2) (eCallN 2 mf (aCons (eVar 1) (aCons (eCallN 2 mg (aCons (eVar 1) (aCons (eLst (aCons (eC (.str "a2")) (aCons (eC (.str "b2")) (aCons (eC (.str "g2")) aNil)))) aNil))) aNil))) s = .next ⟨s.r.set 2 (some d), m2⟩ := by
  rw [List.getD_eq_getElem?_getD] at h1
  simp [sAsg, eCallN, aCons, aNil, eVar, eC, eLst, callR, R.bind, R.then, asgD, szl, h1, h2, h3]
theorem box_ok (mf mg : MF) {s : S} {c A b : Int} {x : D} (h0 : s.r.getD 0 none = some x) (h1 : mg [x, .int 1] s.m = .ok (.lst [.int c]) s.m) (h2 : mf [.lst [.int c], .int 0] s.m = .ok (.lst [.int A, .int b, .int 0]) s.m) :
    sAsgC 1 (eCallN 2 mf (aCons (eCallN 2 mg (aCons (eVar 0) (aCons (eC (.int 1)) aNil))) (aCons (eC (.int 0)) aNil))) s = .next ⟨s.r.set 1 (some (.ref s.m.length)), s.m ++ [.lst [.int A, .int b, .int 0]]⟩ := by
  rw [List.getD_eq_getElem?_getD] at h0
  simp [sAsgC, eCallN, aCons, aNil, eVar, eC, callR, R.bind, R.then, h0, h1, h2, mLst]
theorem e_end {p q a b c : Int} {k : Nat} (X : D) (hk : k < 900000) (hpq : (p = 1 ∧ q = (-1)) ∨ (p = (-1) ∧ q = 1) ∨ (p = 1 ∧ q = (-2)) ∨ (p = (-1) ∧ q = 2) ∨ (p = 1 ∧ q = (-3)) ∨ (p = (-1) ∧ q = 3)) (h : TinR [.lst [.int 0, .int p], .lst [.int q, .int 0]] k (cB a b c p q)) :
    ∃ s, q_law_c6 ⟨[some X, some (.ref 0), some (wB p q), none, none, none, none, none, none, none, none, none, none, none, none, none, none, none, none, none, none, none], cB a b c p q⟩ = .ret (.bl true) s := by
  obtain ⟨r, m2, e, r0, r1, a', b', c', rfl, -⟩ := e_takeR (by omega) h (w := 9) (by decide) (by decide)
  have far : q_law_c4 (st0 X (wB p q) (cB a b c p q)) = q_law_c3 (st1 X (wB p q) (2 + r) (cB a' b' c' p q)) := by
    unfold q_law_c4
    exact seq_nx (far_ok m__law_take e)
  have go : ∀ (far : Int), 2 ≤ far → far ≤ 10 → ∃ s, q_law_c3 (st1 X (wB p q) far (cB a' b' c' p q)) = .ret (.bl true) s := by
    intro far h1 h2
    have hf : far = 2 ∨ far = 3 ∨ far = 4 ∨ far = 5 ∨ far = 6 ∨ far = 7 ∨ far = 8 ∨ far = 9 ∨ far = 10 := by omega
    rcases hpq with ⟨rfl, rfl⟩ | ⟨rfl, rfl⟩ | ⟨rfl, rfl⟩ | ⟨rfl, rfl⟩ | ⟨rfl, rfl⟩ | ⟨rfl, rfl⟩ <;> rcases hf with rfl | rfl | rfl | rfl | rfl | rfl | rfl | rfl | rfl
    · rw [mid_p1_2]; exact e_c1 _ _ 2 (by omega) (by omega) rfl
    · rw [mid_p1_3]; exact e_c1 _ _ 3 (by omega) (by omega) rfl
    · rw [mid_p1_4]; exact e_c1 _ _ 4 (by omega) (by omega) rfl
    · rw [mid_p1_5]; exact e_c1 _ _ 5 (by omega) (by omega) rfl
    · rw [mid_p1_6]; exact e_c1 _ _ 6 (by omega) (by omega) rfl
    · rw [mid_p1_7]; exact e_c1 _ _ 7 (by omega) (by omega) rfl
    · rw [mid_p1_8]; exact e_c1 _ _ 8 (by omega) (by omega) rfl
    · rw [mid_p1_9]; exact e_c1 _ _ 9 (by omega) (by omega) rfl
    · rw [mid_p1_10]; exact e_c1 _ _ 10 (by omega) (by omega) rfl
    · rw [mid_m1_2]; exact e_c1 _ _ 2 (by omega) (by omega) rfl
    · rw [mid_m1_3]; exact e_c1 _ _ 3 (by omega) (by omega) rfl
    · rw [mid_m1_4]; exact e_c1 _ _ 4 (by omega) (by omega) rfl
    · rw [mid_m1_5]; exact e_c1 _ _ 5 (by omega) (by omega) rfl
    · rw [mid_m1_6]; exact e_c1 _ _ 6 (by omega) (by omega) rfl
    · rw [mid_m1_7]; exact e_c1 _ _ 7 (by omega) (by omega) rfl
    · rw [mid_m1_8]; exact e_c1 _ _ 8 (by omega) (by omega) rfl
    · rw [mid_m1_9]; exact e_c1 _ _ 9 (by omega) (by omega) rfl
    · rw [mid_m1_10]; exact e_c1 _ _ 10 (by omega) (by omega) rfl
    · rw [mid_p2_2]; exact e_c1 _ _ 2 (by omega) (by omega) rfl
    · rw [mid_p2_3]; exact e_c1 _ _ 3 (by omega) (by omega) rfl
    · rw [mid_p2_4]; exact e_c1 _ _ 4 (by omega) (by omega) rfl
    · rw [mid_p2_5]; exact e_c1 _ _ 5 (by omega) (by omega) rfl
    · rw [mid_p2_6]; exact e_c1 _ _ 6 (by omega) (by omega) rfl
    · rw [mid_p2_7]; exact e_c1 _ _ 7 (by omega) (by omega) rfl
    · rw [mid_p2_8]; exact e_c1 _ _ 8 (by omega) (by omega) rfl
    · rw [mid_p2_9]; exact e_c1 _ _ 9 (by omega) (by omega) rfl
    · rw [mid_p2_10]; exact e_c1 _ _ 10 (by omega) (by omega) rfl
    · rw [mid_m2_2]; exact e_c1 _ _ 2 (by omega) (by omega) rfl
    · rw [mid_m2_3]; exact e_c1 _ _ 3 (by omega) (by omega) rfl
    · rw [mid_m2_4]; exact e_c1 _ _ 4 (by omega) (by omega) rfl
    · rw [mid_m2_5]; exact e_c1 _ _ 5 (by omega) (by omega) rfl
    · rw [mid_m2_6]; exact e_c1 _ _ 6 (by omega) (by omega) rfl
    · rw [mid_m2_7]; exact e_c1 _ _ 7 (by omega) (by omega) rfl
    · rw [mid_m2_8]; exact e_c1 _ _ 8 (by omega) (by omega) rfl
    · rw [mid_m2_9]; exact e_c1 _ _ 9 (by omega) (by omega) rfl
    · rw [mid_m2_10]; exact e_c1 _ _ 10 (by omega) (by omega) rfl
    · rw [mid_p3_2]; exact e_c1 _ _ 2 (by omega) (by omega) rfl
    · rw [mid_p3_3]; exact e_c1 _ _ 3 (by omega) (by omega) rfl
    · rw [mid_p3_4]; exact e_c1 _ _ 4 (by omega) (by omega) rfl
    · rw [mid_p3_5]; exact e_c1 _ _ 5 (by omega) (by omega) rfl
    · rw [mid_p3_6]; exact e_c1 _ _ 6 (by omega) (by omega) rfl
    · rw [mid_p3_7]; exact e_c1 _ _ 7 (by omega) (by omega) rfl
    · rw [mid_p3_8]; exact e_c1 _ _ 8 (by omega) (by omega) rfl
    · rw [mid_p3_9]; exact e_c1 _ _ 9 (by omega) (by omega) rfl
    · rw [mid_p3_10]; exact e_c1 _ _ 10 (by omega) (by omega) rfl
    · rw [mid_m3_2]; exact e_c1 _ _ 2 (by omega) (by omega) rfl
    · rw [mid_m3_3]; exact e_c1 _ _ 3 (by omega) (by omega) rfl
    · rw [mid_m3_4]; exact e_c1 _ _ 4 (by omega) (by omega) rfl
    · rw [mid_m3_5]; exact e_c1 _ _ 5 (by omega) (by omega) rfl
    · rw [mid_m3_6]; exact e_c1 _ _ 6 (by omega) (by omega) rfl
    · rw [mid_m3_7]; exact e_c1 _ _ 7 (by omega) (by omega) rfl
    · rw [mid_m3_8]; exact e_c1 _ _ 8 (by omega) (by omega) rfl
    · rw [mid_m3_9]; exact e_c1 _ _ 9 (by omega) (by omega) rfl
    · rw [mid_m3_10]; exact e_c1 _ _ 10 (by omega) (by omega) rfl
  rw [rows_ok]
  refine Exists.imp (fun s hs => ?_) (go (2 + r) (by omega) (by omega))
  rw [← hs, ← far]
  unfold q_law_c5
  refine seq_nx (sif_ok m__law_all_unfit (d := rowsW (wB p q)) rfl ?_)
  rcases hpq with ⟨rfl, rfl⟩ | ⟨rfl, rfl⟩ | ⟨rfl, rfl⟩ | ⟨rfl, rfl⟩ | ⟨rfl, rfl⟩ | ⟨rfl, rfl⟩
  · exact unfit_p1 a b c
  · exact unfit_m1 a b c
  · exact unfit_p2 a b c
  · exact unfit_m2 a b c
  · exact unfit_p3 a b c
  · exact unfit_m3 a b c
theorem law_plain (ns : List Int) (B : Nat) (hL : ∀ y : Nat, y ≤ 8192 * B → y.log2 < 90000000) (hb : ∀ z ∈ ns, z.natAbs ≤ B) (hn : ns.length ≤ 63) : ∃ m', m_law [.scr ns] [] = .ok (.bl true) m' := by
  obtain ⟨c, e1', hc⟩ := e_cells ns B hL hb hn []
  obtain ⟨A, b, e2', h1, h2, h3⟩ := e_box c [] (hL _ hc)
  have t0 : TinR [] 0 [.lst [.int A, .int b, .int 0]] := ⟨A, b, 0, rfl, h1, h2, h3, by omega, by omega⟩
  obtain ⟨p, q, a', b', c', hpq, ⟨w, m1, e3, e4⟩, t2⟩ := e_first (by omega) t0
  obtain ⟨s, hs⟩ := e_end (.scr ns) (by omega) hpq t2
  refine ⟨s.m, ?_⟩
  have hq : q_law ⟨[some (.scr ns), none, none, none, none, none, none, none, none, none, none, none, none, none, none, none, none, none, none, none, none, none], []⟩ = .ret (.bl true) s := by
    unfold q_law
    refine (seq_nx (s' := ⟨[some (.scr ns), some (.ref 0), none, none, none, none, none, none, none, none, none, none, none, none, none, none, none, none, none, none, none, none], [.lst [.int A, .int b, .int 0]]⟩) (box_ok m__law_box m__law_cells (s := ⟨[some (.scr ns), none, none, none, none, none, none, none, none, none, none, none, none, none, none, none, none, none, none, none, none, none], []⟩) (x := .scr ns) (c := c) (A := A) (b := b) rfl e1' e2')).trans ?_
    exact (seq_nx (s' := ⟨[some (.scr ns), some (.ref 0), some (wB p q), none, none, none, none, none, none, none, none, none, none, none, none, none, none, none, none, none, none, none], cB a' b' c' p q⟩) (web_ok m__law_kind_web m__law_of (s := ⟨[some (.scr ns), some (.ref 0), none, none, none, none, none, none, none, none, none, none, none, none, none, none, none, none, none, none, none, none], [.lst [.int A, .int b, .int 0]]⟩) (w := w) (d := wB p q) (m1 := m1) (m2 := cB a' b' c' p q) rfl e3 e4)).trans hs
  show (match q_law ⟨[some (.scr ns), none, none, none, none, none, none, none, none, none, none, none, none, none, none, none, none, none, none, none, none, none], []⟩ with
    | .next s => RF.ok .non s.m | .ret d s => .ok d s.m | .raise e s => .raise e s.m | _ => .stuck) = _
  rw [hq]
theorem lawTrue : DL.LawTrue m_law := fun ns hn hb => let ⟨B, hL, h⟩ := DL.bits_B hb; law_plain ns B hL h hn
end A12
set_option Elab.async false
set_option linter.all false
set_option maxRecDepth 100000
open PySem PySem.W PyProof.Rows
set_option maxHeartbeats 0 in
theorem PySem.Challenge.cw_hingewebs_k12_values_and_letters_refused_holds : PySem.Challenge.rw_hingewebs_k12_values_and_letters_refused.Holds := by
  w_on; o_law; k_head; (case hw => w_witness2)
  k_fill
  refine DL.walk_ofS (l := PySem.Challenge.rw_hingewebs_k12_values_and_letters_refused) (n := 63) (k := 73) (x := "script") rfl (by decide) (by decide) rfl ⟨rfl, by decide, by decide⟩ (by first | rfl | decide +kernel) rfl (fun w h Y => PySem.W.kIn_of Y) ?F
  case F =>
    intro w mg fa h KX G hmg
    refine' A12.all_mk A12.lawTrue KX G hmg ?a__law_box ?l__law_box ?cc__law_box ?k__law_box ?a__law_joins ?l__law_joins ?cc__law_joins ?k__law_joins ?a__law_take ?l__law_take ?cc__law_take ?k__law_take ?a__law_kind_web ?l__law_kind_web ?cc__law_kind_web ?k__law_kind_web ?a_tupled ?l_tupled ?cc_tupled ?k_tupled ?a_is_long ?l_is_long ?cc_is_long ?k_is_long ?a_is_number ?l_is_number ?cc_is_number ?k_is_number ?a_is_table ?l_is_table ?cc_is_table ?k_is_table ?a_beside ?l_beside ?cc_beside ?k_beside ?a_part_from ?l_part_from ?cc_part_from ?k_part_from ?a_whole_weights ?l_whole_weights ?cc_whole_weights ?k_whole_weights ?a_lowest_ratio ?l_lowest_ratio ?cc_lowest_ratio ?k_lowest_ratio ?a_sign ?l_sign ?cc_sign ?k_sign ?a_part_weights ?l_part_weights ?cc_part_weights ?k_part_weights ?a_weights_in ?l_weights_in ?cc_weights_in ?k_weights_in ?a_is_web ?l_is_web ?cc_is_web ?k_is_web ?a_sure_web ?l_sure_web ?cc_sure_web ?k_sure_web ?a_new_value ?l_new_value ?cc_new_value ?k_new_value ?a_turned_values ?l_turned_values ?cc_turned_values ?k_turned_values ?a_is_from ?l_is_from ?cc_is_from ?k_is_from ?a_is_fraction ?l_is_fraction ?cc_is_fraction ?k_is_fraction ?a_is_values_of ?l_is_values_of ?cc_is_values_of ?k_is_values_of ?a_sure_values ?l_sure_values ?cc_sure_values ?k_sure_values ?a_sure_number ?l_sure_number ?cc_sure_number ?k_sure_number ?a_is_below ?l_is_below ?cc_is_below ?k_is_below ?a_known_place ?l_known_place ?cc_known_place ?k_known_place ?a_values_hinged ?l_values_hinged ?cc_values_hinged ?k_values_hinged ?a_lowest ?l_lowest ?cc_lowest ?k_lowest ?a_over ?l_over ?cc_over ?k_over ?a_times ?l_times ?cc_times ?k_times ?a_power ?l_power ?cc_power ?k_power ?a_added ?l_added ?cc_added ?k_added ?a_carried ?l_carried ?cc_carried ?k_carried ?a_turned_ratios ?l_turned_ratios ?cc_turned_ratios ?k_turned_ratios ?a_sure_ratios ?l_sure_ratios ?cc_sure_ratios ?k_sure_ratios ?a_ratios_hinged ?l_ratios_hinged ?cc_ratios_hinged ?k_ratios_hinged ?a_sure_row ?l_sure_row ?cc_sure_row ?k_sure_row ?a_walked_values ?l_walked_values ?cc_walked_values ?k_walked_values ?a_known_row ?l_known_row ?cc_known_row ?k_known_row ?a_values_after ?l_values_after ?cc_values_after ?k_values_after ?a_new_values ?l_new_values ?cc_new_values ?k_new_values ?a_hinge ?l_hinge ?cc_hinge ?k_hinge ?a_ratios_after ?l_ratios_after ?cc_ratios_after ?k_ratios_after ?a_walked_shades ?l_walked_shades ?cc_walked_shades ?k_walked_shades ?a_unit_row ?l_unit_row ?cc_unit_row ?k_unit_row ?a_first_in ?l_first_in ?cc_first_in ?k_first_in ?a_shades_after ?l_shades_after ?cc_shades_after ?k_shades_after ?a_goes_up ?l_goes_up ?cc_goes_up ?k_goes_up ?a_green_path ?l_green_path ?cc_green_path ?k_green_path ?a_is_green_row ?l_is_green_row ?cc_is_green_row ?k_is_green_row ?a_walked_sums ?l_walked_sums ?cc_walked_sums ?k_walked_sums ?a_sums_after ?l_sums_after ?cc_sums_after ?k_sums_after ?a_gathered ?l_gathered ?cc_gathered ?k_gathered ?a_plus ?l_plus ?lT_plus ?cc_plus ?k_plus ?a_ascends ?l_ascends ?cc_ascends ?k_ascends ?a_is_sum_of ?l_is_sum_of ?cc_is_sum_of ?k_is_sum_of ?a_sure_sum ?l_sure_sum ?cc_sure_sum ?k_sure_sum ?a_sure_many ?l_sure_many ?cc_sure_many ?k_sure_many ?a_sum_added ?l_sum_added ?cc_sum_added ?k_sum_added ?a_shifted ?l_shifted ?cc_shifted ?k_shifted ?a_multiplied ?l_multiplied ?cc_multiplied ?k_multiplied ?a_sum_times ?l_sum_times ?cc_sum_times ?k_sum_times ?a_quotient ?l_quotient ?cc_quotient ?k_quotient ?a_sum_over ?l_sum_over ?cc_sum_over ?k_sum_over ?a__law_same ?l__law_same ?cc__law_same ?k__law_same ?a__law_cells ?l__law_cells ?cc__law_cells ?k__law_cells ?a__law_of ?l__law_of ?cc__law_of ?k__law_of ?a__law_bad_webs ?l__law_bad_webs ?cc__law_bad_webs ?k__law_bad_webs ?a_product_of ?l_product_of ?cc_product_of ?k_product_of ?a_ratio_at ?l_ratio_at ?cc_ratio_at ?k_ratio_at ?a_ratios_of ?l_ratios_of ?cc_ratios_of ?k_ratios_of ?a_even_values ?l_even_values ?cc_even_values ?k_even_values ?a_are_whole ?l_are_whole ?cc_are_whole ?k_are_whole ?a_is_values ?l_is_values ?cc_is_values ?k_is_values ?a_is_shades_of ?l_is_shades_of ?cc_is_shades_of ?k_is_shades_of ?a_is_shades ?l_is_shades ?cc_is_shades ?k_is_shades ?a_shaded ?l_shaded ?cc_shaded ?k_shaded ?a_sure_shades ?l_sure_shades ?cc_sure_shades ?k_sure_shades ?a_shades_hinged ?l_shades_hinged ?cc_shades_hinged ?k_shades_hinged ?a_green_in ?l_green_in ?cc_green_in ?k_green_in ?a_is_full_row ?l_is_full_row ?cc_is_full_row ?k_is_full_row ?a_full_row ?l_full_row ?cc_full_row ?k_full_row ?a_first_shades ?l_first_shades ?cc_first_shades ?k_first_shades ?a_greens ?l_greens ?cc_greens ?k_greens ?a_value_of ?l_value_of ?cc_value_of ?k_value_of ?a_sum_value ?l_sum_value ?cc_sum_value ?k_sum_value ?a_bottoms ?l_bottoms ?cc_bottoms ?k_bottoms ?a_letter_in ?l_letter_in ?cc_letter_in ?k_letter_in ?a_letter ?l_letter ?cc_letter ?k_letter ?a_is_letter_sum ?l_is_letter_sum ?cc_is_letter_sum ?k_is_letter_sum ?a__law_heard ?l__law_heard ?cc__law_heard ?k__law_heard ?a__law_all_unfit ?l__law_all_unfit ?cc__law_all_unfit ?k__law_all_unfit ?a_law ?l_law ?cc_law ?k_law ?n_LookupError ?n_ValueError ?n_abs ?n_all ?n_any ?n_bool ?n_dict ?n_enumerate ?n_int ?n_isinstance ?n_len ?n_list ?n_max ?n_min ?n_range ?n_sorted ?n_str ?n_super ?n_tuple ?n_zip ?u_MOST_LETTERS ?u_MOST_TERMS ?u_ONE ?v_ONE ?b_gcd ?a_Search ?a_BadText ?s_BadText ?y_BadText ?a_CanNot ?s_CanNot ?y_CanNot ?a_NoPlace ?s_NoPlace ?y_NoPlace ?a_TooMany ?s_TooMany ?y_TooMany ?a_Unfit ?s_Unfit ?y_Unfit ?d_BadText ?d_CanNot ?d_NoPlace ?d_TooMany ?d_Unfit ?q_Unfit ?k_Unfit ?k_NoPlace ?q_NoPlace ?o_NoPlace ?sa_NoPlace ?ta_NoPlace ?sB_NoPlace ?sC_NoPlace ?op_NoPlace ?su_NoPlace ?ii_NoPlace ?it_NoPlace ?l_NoPlace ?cc_NoPlace ?lc_NoPlace ?lv_NoPlace ?lf_NoPlace ?lx_NoPlace ?lC_NoPlace ?tp_NoPlace ?q_CanNot ?k_CanNot ?q_TooMany ?k_TooMany ?r_Unfit_BadText ?r_NoPlace_BadText ?r_CanNot_BadText ?r_TooMany_BadText ?r_Unfit_CanNot ?r_NoPlace_CanNot ?r_CanNot_CanNot ?r_TooMany_CanNot ?r_Unfit_NoPlace ?r_NoPlace_NoPlace ?r_CanNot_NoPlace ?r_TooMany_NoPlace ?r_Unfit_TooMany ?r_NoPlace_TooMany ?r_CanNot_TooMany ?r_TooMany_TooMany ?r_Unfit_Unfit ?r_NoPlace_Unfit ?r_CanNot_Unfit ?r_TooMany_Unfit ?hg_CanNot ?hk_CanNot ?ha_CanNot ?hm_CanNot ?ko_CanNot ?hg_TooMany ?hk_TooMany ?ha_TooMany ?hm_TooMany ?ko_TooMany ?hg_Unfit ?hk_Unfit ?ha_Unfit ?hm_Unfit ?ko_Unfit ?hg_NoPlace ?hk_NoPlace ?ha_NoPlace ?hf_NoPlace ?hm_NoPlace ?ko_NoPlace ?hn0 ?ht0
    (case a__law_box => k_is); (case l__law_box => k_is); (case cc__law_box => k_is); (case k__law_box => k_is); (case a__law_joins => k_is); (case l__law_joins => k_is); (case cc__law_joins => k_is); (case k__law_joins => k_is); (case a__law_take => k_is); (case l__law_take => k_is); (case cc__law_take => k_is); (case k__law_take => k_is); (case a__law_kind_web => k_is); (case l__law_kind_web => k_is); (case cc__law_kind_web => k_is); (case k__law_kind_web => k_is); (case a_tupled => k_is); (case l_tupled => k_is); (case cc_tupled => k_is); (case k_tupled => k_is); (case a_is_long => k_is); (case l_is_long => k_is); (case cc_is_long => k_is); (case k_is_long => k_is); (case a_is_number => k_is); (case l_is_number => k_is); (case cc_is_number => k_is); (case k_is_number => k_is); (case a_is_table => k_is); (case l_is_table => k_is); (case cc_is_table => k_is); (case k_is_table => k_is); (case a_beside => k_is); (case l_beside => k_is); (case cc_beside => k_is); (case k_beside => k_is); (case a_part_from => k_is); (case l_part_from => k_is); (case cc_part_from => k_is); (case k_part_from => k_is); (case a_whole_weights => k_is); (case l_whole_weights => k_is); (case cc_whole_weights => k_is); (case k_whole_weights => k_is); (case a_lowest_ratio => k_is); (case l_lowest_ratio => k_is); (case cc_lowest_ratio => k_is); (case k_lowest_ratio => k_is); (case a_sign => k_is); (case l_sign => k_is); (case cc_sign => k_is); (case k_sign => k_is); (case a_part_weights => k_is); (case l_part_weights => k_is); (case cc_part_weights => k_is); (case k_part_weights => k_is); (case a_weights_in => k_is); (case l_weights_in => k_is); (case cc_weights_in => k_is); (case k_weights_in => k_is); (case a_is_web => k_is); (case l_is_web => k_is); (case cc_is_web => k_is); (case k_is_web => k_is); (case a_sure_web => k_is); (case l_sure_web => k_is); (case cc_sure_web => k_is); (case k_sure_web => k_is); (case a_new_value => k_is); (case l_new_value => k_is); (case cc_new_value => k_is); (case k_new_value => k_is); (case a_turned_values => k_is); (case l_turned_values => k_is); (case cc_turned_values => k_is); (case k_turned_values => k_is); (case a_is_from => k_is); (case l_is_from => k_is); (case cc_is_from => k_is); (case k_is_from => k_is); (case a_is_fraction => k_is); (case l_is_fraction => k_is); (case cc_is_fraction => k_is); (case k_is_fraction => k_is); (case a_is_values_of => k_is); (case l_is_values_of => k_is); (case cc_is_values_of => k_is); (case k_is_values_of => k_is); (case a_sure_values => k_is); (case l_sure_values => k_is); (case cc_sure_values => k_is); (case k_sure_values => k_is); (case a_sure_number => k_is); (case l_sure_number => k_is); (case cc_sure_number => k_is); (case k_sure_number => k_is); (case a_is_below => k_is); (case l_is_below => k_is); (case cc_is_below => k_is); (case k_is_below => k_is); (case a_known_place => k_is); (case l_known_place => k_is); (case cc_known_place => k_is); (case k_known_place => k_is); (case a_values_hinged => k_is); (case l_values_hinged => k_is); (case cc_values_hinged => k_is); (case k_values_hinged => k_is); (case a_lowest => k_is); (case l_lowest => k_is); (case cc_lowest => k_is); (case k_lowest => k_is); (case a_over => k_is); (case l_over => k_is); (case cc_over => k_is); (case k_over => k_is); (case a_times => k_is); (case l_times => k_is); (case cc_times => k_is); (case k_times => k_is); (case a_power => k_is); (case l_power => k_is); (case cc_power => k_is); (case k_power => k_is); (case a_added => k_is); (case l_added => k_is); (case cc_added => k_is); (case k_added => k_is); (case a_carried => k_is); (case l_carried => k_is); (case cc_carried => k_is); (case k_carried => k_is); (case a_turned_ratios => k_is); (case l_turned_ratios => k_is); (case cc_turned_ratios => k_is); (case k_turned_ratios => k_is); (case a_sure_ratios => k_is); (case l_sure_ratios => k_is); (case cc_sure_ratios => k_is); (case k_sure_ratios => k_is); (case a_ratios_hinged => k_is); (case l_ratios_hinged => k_is); (case cc_ratios_hinged => k_is); (case k_ratios_hinged => k_is); (case a_sure_row => k_is); (case l_sure_row => k_is); (case cc_sure_row => k_is); (case k_sure_row => k_is); (case a_walked_values => k_is); (case l_walked_values => k_is); (case cc_walked_values => k_is); (case k_walked_values => k_is); (case a_known_row => k_is); (case l_known_row => k_is); (case cc_known_row => k_is); (case k_known_row => k_is); (case a_values_after => k_is); (case l_values_after => k_is); (case cc_values_after => k_is); (case k_values_after => k_is); (case a_new_values => k_is); (case l_new_values => k_is); (case cc_new_values => k_is); (case k_new_values => k_is); (case a_hinge => k_is); (case l_hinge => k_is); (case cc_hinge => k_is); (case k_hinge => k_is); (case a_ratios_after => k_is); (case l_ratios_after => k_is); (case cc_ratios_after => k_is); (case k_ratios_after => k_is); (case a_walked_shades => k_is); (case l_walked_shades => k_is); (case cc_walked_shades => k_is); (case k_walked_shades => k_is); (case a_unit_row => k_is); (case l_unit_row => k_is); (case cc_unit_row => k_is); (case k_unit_row => k_is); (case a_first_in => k_is); (case l_first_in => k_is); (case cc_first_in => k_is); (case k_first_in => k_is); (case a_shades_after => k_is); (case l_shades_after => k_is); (case cc_shades_after => k_is); (case k_shades_after => k_is); (case a_goes_up => k_is); (case l_goes_up => k_is); (case cc_goes_up => k_is); (case k_goes_up => k_is); (case a_green_path => k_is); (case l_green_path => k_is); (case cc_green_path => k_is); (case k_green_path => k_is); (case a_is_green_row => k_is); (case l_is_green_row => k_is); (case cc_is_green_row => k_is); (case k_is_green_row => k_is); (case a_walked_sums => k_is); (case l_walked_sums => k_is); (case cc_walked_sums => k_is); (case k_walked_sums => k_is); (case a_sums_after => k_is); (case l_sums_after => k_is); (case cc_sums_after => k_is); (case k_sums_after => k_is); (case a_gathered => k_is); (case l_gathered => k_is); (case cc_gathered => k_is); (case k_gathered => k_is); (case a_plus => k_is); (case l_plus => k_is); (case lT_plus => k_is); (case cc_plus => k_is); (case k_plus => k_is); (case a_ascends => k_is); (case l_ascends => k_is); (case cc_ascends => k_is); (case k_ascends => k_is); (case a_is_sum_of => k_is); (case l_is_sum_of => k_is); (case cc_is_sum_of => k_is); (case k_is_sum_of => k_is); (case a_sure_sum => k_is); (case l_sure_sum => k_is); (case cc_sure_sum => k_is); (case k_sure_sum => k_is); (case a_sure_many => k_is); (case l_sure_many => k_is); (case cc_sure_many => k_is); (case k_sure_many => k_is); (case a_sum_added => k_is); (case l_sum_added => k_is); (case cc_sum_added => k_is); (case k_sum_added => k_is); (case a_shifted => k_is); (case l_shifted => k_is); (case cc_shifted => k_is); (case k_shifted => k_is); (case a_multiplied => k_is); (case l_multiplied => k_is); (case cc_multiplied => k_is); (case k_multiplied => k_is); (case a_sum_times => k_is); (case l_sum_times => k_is); (case cc_sum_times => k_is); (case k_sum_times => k_is); (case a_quotient => k_is); (case l_quotient => k_is); (case cc_quotient => k_is); (case k_quotient => k_is); (case a_sum_over => k_is); (case l_sum_over => k_is); (case cc_sum_over => k_is); (case k_sum_over => k_is); (case a__law_same => k_is); (case l__law_same => k_is); (case cc__law_same => k_is); (case k__law_same => k_is); (case a__law_cells => k_is); (case l__law_cells => k_is); (case cc__law_cells => k_is); (case k__law_cells => k_is); (case a__law_of => k_is); (case l__law_of => k_is); (case cc__law_of => k_is); (case k__law_of => k_is); (case a__law_bad_webs => k_is); (case l__law_bad_webs => k_is); (case cc__law_bad_webs => k_is); (case k__law_bad_webs => k_is); (case a_product_of => k_is); (case l_product_of => k_is); (case cc_product_of => k_is); (case k_product_of => k_is); (case a_ratio_at => k_is); (case l_ratio_at => k_is); (case cc_ratio_at => k_is); (case k_ratio_at => k_is); (case a_ratios_of => k_is); (case l_ratios_of => k_is); (case cc_ratios_of => k_is); (case k_ratios_of => k_is); (case a_even_values => k_is); (case l_even_values => k_is); (case cc_even_values => k_is); (case k_even_values => k_is); (case a_are_whole => k_is); (case l_are_whole => k_is); (case cc_are_whole => k_is); (case k_are_whole => k_is); (case a_is_values => k_is); (case l_is_values => k_is); (case cc_is_values => k_is); (case k_is_values => k_is); (case a_is_shades_of => k_is); (case l_is_shades_of => k_is); (case cc_is_shades_of => k_is); (case k_is_shades_of => k_is); (case a_is_shades => k_is); (case l_is_shades => k_is); (case cc_is_shades => k_is); (case k_is_shades => k_is); (case a_shaded => k_is); (case l_shaded => k_is); (case cc_shaded => k_is); (case k_shaded => k_is); (case a_sure_shades => k_is); (case l_sure_shades => k_is); (case cc_sure_shades => k_is); (case k_sure_shades => k_is); (case a_shades_hinged => k_is); (case l_shades_hinged => k_is); (case cc_shades_hinged => k_is); (case k_shades_hinged => k_is); (case a_green_in => k_is); (case l_green_in => k_is); (case cc_green_in => k_is); (case k_green_in => k_is); (case a_is_full_row => k_is); (case l_is_full_row => k_is); (case cc_is_full_row => k_is); (case k_is_full_row => k_is); (case a_full_row => k_is); (case l_full_row => k_is); (case cc_full_row => k_is); (case k_full_row => k_is); (case a_first_shades => k_is); (case l_first_shades => k_is); (case cc_first_shades => k_is); (case k_first_shades => k_is); (case a_greens => k_is); (case l_greens => k_is); (case cc_greens => k_is); (case k_greens => k_is); (case a_value_of => k_is); (case l_value_of => k_is); (case cc_value_of => k_is); (case k_value_of => k_is); (case a_sum_value => k_is); (case l_sum_value => k_is); (case cc_sum_value => k_is); (case k_sum_value => k_is); (case a_bottoms => k_is); (case l_bottoms => k_is); (case cc_bottoms => k_is); (case k_bottoms => k_is); (case a_letter_in => k_is); (case l_letter_in => k_is); (case cc_letter_in => k_is); (case k_letter_in => k_is); (case a_letter => k_is); (case l_letter => k_is); (case cc_letter => k_is); (case k_letter => k_is); (case a_is_letter_sum => k_is); (case l_is_letter_sum => k_is); (case cc_is_letter_sum => k_is); (case k_is_letter_sum => k_is); (case a__law_heard => k_is); (case l__law_heard => k_is); (case cc__law_heard => k_is); (case k__law_heard => k_is); (case a__law_all_unfit => k_is); (case l__law_all_unfit => k_is); (case cc__law_all_unfit => k_is); (case k__law_all_unfit => k_is); (case a_law => k_is); (case l_law => k_is); (case cc_law => k_is); (case k_law => k_is); (case n_LookupError => k_is); (case n_ValueError => k_is); (case n_abs => k_is); (case n_all => k_is); (case n_any => k_is); (case n_bool => k_is); (case n_dict => k_is); (case n_enumerate => k_is); (case n_int => k_is); (case n_isinstance => k_is); (case n_len => k_is); (case n_list => k_is); (case n_max => k_is); (case n_min => k_is); (case n_range => k_is); (case n_sorted => k_is); (case n_str => k_is); (case n_super => k_is); (case n_tuple => k_is); (case n_zip => k_is); (case u_MOST_LETTERS => k_is); (case u_MOST_TERMS => k_is); (case u_ONE => k_is); (case v_ONE => k_is); (case b_gcd => k_is); (case a_Search => k_is); (case a_BadText => k_is); (case s_BadText => k_is); (case y_BadText => k_is); (case a_CanNot => k_is); (case s_CanNot => k_is); (case y_CanNot => k_is); (case a_NoPlace => k_is); (case s_NoPlace => k_is); (case y_NoPlace => k_is); (case a_TooMany => k_is); (case s_TooMany => k_is); (case y_TooMany => k_is); (case a_Unfit => k_is); (case s_Unfit => k_is); (case y_Unfit => k_is); (case d_BadText => k_is); (case d_CanNot => k_is); (case d_NoPlace => k_is); (case d_TooMany => k_is); (case d_Unfit => k_is); (case q_Unfit => k_exc); (case k_Unfit => k_is); (case k_NoPlace => k_is); (case q_NoPlace => kx_is); (case o_NoPlace => kx_is); (case sa_NoPlace => k_is); (case ta_NoPlace => k_is); (case sB_NoPlace => k_is); (case sC_NoPlace => k_is); (case op_NoPlace => k_is); (case su_NoPlace => ks_is); (case ii_NoPlace => k_is); (case it_NoPlace => k_is); (case l_NoPlace => k_is); (case cc_NoPlace => k_is); (case lc_NoPlace => k_is); (case lv_NoPlace => rfl); (case lf_NoPlace => first | rfl | decide +kernel); (case lx_NoPlace => k_is); (case lC_NoPlace => k_is); (case tp_NoPlace => first | rfl | decide +kernel); (case q_CanNot => k_exc); (case k_CanNot => k_is); (case q_TooMany => k_exc); (case k_TooMany => k_is); (case r_Unfit_BadText => k_is); (case r_NoPlace_BadText => k_is); (case r_CanNot_BadText => k_is); (case r_TooMany_BadText => k_is); (case r_Unfit_CanNot => k_is); (case r_NoPlace_CanNot => k_is); (case r_CanNot_CanNot => k_is); (case r_TooMany_CanNot => k_is); (case r_Unfit_NoPlace => k_is); (case r_NoPlace_NoPlace => k_is); (case r_CanNot_NoPlace => k_is); (case r_TooMany_NoPlace => k_is); (case r_Unfit_TooMany => k_is); (case r_NoPlace_TooMany => k_is); (case r_CanNot_TooMany => k_is); (case r_TooMany_TooMany => k_is); (case r_Unfit_Unfit => k_is); (case r_NoPlace_Unfit => k_is); (case r_CanNot_Unfit => k_is); (case r_TooMany_Unfit => k_is); (case hg_CanNot => k_is); (case hk_CanNot => k_is); (case ha_CanNot => k_is); (case hm_CanNot => k_is); (case ko_CanNot => kit_is); (case hg_TooMany => k_is); (case hk_TooMany => k_is); (case ha_TooMany => k_is); (case hm_TooMany => k_is); (case ko_TooMany => kit_is); (case hg_Unfit => k_is); (case hk_Unfit => k_is); (case ha_Unfit => k_is); (case hm_Unfit => k_is); (case ko_Unfit => kit_is); (case hg_NoPlace => k_is); (case hk_NoPlace => k_is); (case ha_NoPlace => k_is); (case hf_NoPlace => k_is); (case hm_NoPlace => k_is); (case ko_NoPlace => kit_is); (case hn0 => k_is); (case ht0 => k_is)
