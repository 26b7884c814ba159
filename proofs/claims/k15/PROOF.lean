import PyProof.Rows.All
import PySem.Challenge.RW_hingewebs_k15_whole_all_green_rows
import HandS.ForExc
import HandS.Comp
import HandS.IsInst
import HandS.Wide
import HandS.Gcd
import HandS.TryMany
import HandS.CallSlots
import HandS.Flow
import HandS.Zip
import HandS.Iter
import HandS.NoneIn
import KE.KDictKeyed
import HandS.TupAny
import HandS.TupMul
import HandS.ExcIs
import HandS.Style
import HandS.EndBits
import HandS.ForMost
import HandS.Dict
import HandS.Deep
import HandS.More
import HandS.Walk
import KE.GoesEnum
import KE.GoesZip
import KE.DataMinMax
import HandS.Conv
import HandS.SortInts
import HandS.Strs
import HandS.Replace
import HandS.FStr
import HandS.StrSplit
import KE.KExcSuper
import HandS.ExcInit
import HandS.ExcField
import KE.KExcLine
import HandS.SetFor
import HandS.TupSets
import KE.SortData
import KE.KDictSum
import KE.DataCmp
import HandS.Defaults
import KE.KDictDisplayH
import HandS.TupLen
set_option linter.all false
set_option Elab.async false
set_option maxRecDepth 100000
/-! The D layer: values as trees. -/
namespace DL
open PySem PySem.Spec PyProof.Rows L2
inductive D where
  | non | bl (b : Bool) | int (i : Int) | str (x : Str)
  | tup (xs : List D) | lst (xs : List D)
  | fn (i : Nat) | ref (n : Nat) | scr (xs : List Int)
  /-- a tuple that is known to have no dict of its own -/
  | pt (xs : List D)
inductive Cell where
  | lst (xs : List D)
  | dic (locked : Bool) (kvs : List (Key × D))
  /-- a dict whose keys are tuples (of tuples) of whole numbers -/
  | dit (kvs : List (D × D))
  /-- an instance of the class c, its attributes -/
  | obj (c : Nat) (fs : List (Str × D))
mutual
def nkD : D → Option NestedKey
  | .int i => some (.num i)
  | .tup ds => (match nkDs ds with
    | some ks => some (.tup ks)
    | none => none)
  | .pt ds => (match nkDs ds with
    | some ks => some (.tup ks)
    | none => none)
  | _ => none
def nkDs : List D → Option (List NestedKey)
  | [] => some []
  | d :: ds => (match nkD d, nkDs ds with
    | some k, some ks => some (k :: ks)
    | _, _ => none)
end
/-- at a stands the dict of these keys (each with its tuple), these values -/
def RawN (a : Addr) (xs : List (NestedKey × Addr × Value)) (h : Heap) : Prop :=
  ∃ o es ep, h.get? a = some o ∧ o.ExactDict ∧ o.data = .dict es ep ∧ ∀ w, es.toList = xs.map fun x => ⟨x.1.hash w, .ref x.2.1, x.2.2⟩
structure S where
  r : List (Option D)
  m : List Cell
inductive Ex where
  | mk (i : Nat) (fs : List D)
inductive R (α : Type) where
  | ok (a : α) (s : S)
  | raise (e : Ex) (s : S)
  | stuck
structure Gh where
  A : Addr → Prop
  fp : Nat → List Addr
  mu : List Addr
def Gh.Own (g : Gh) (b : Addr) : Prop := (∃ i, b ∈ g.fp i) ∨ b ∈ g.mu
structure Tb where
  fn : Nat → Option Addr
  exc : Nat → Option Addr
  fld : Nat → List Str
def imm : HO → Bool
  | .tup _ => true
  | .frz _ _ => true
  | _ => false
/-- what no cell is -/
def imo : HO → Bool
  | .tup _ => true
  | .frz _ (.tup _) => true
  | .frz _ (.lst _) => true
  | _ => false
theorem imo_imm {o : HO} (h : imo o = true) : imm o = true := by
  cases o <;> simp [imo, imm] at h ⊢
structure Step (g : Gh) (H : Hp) (g' : Gh) (H' : Hp) : Prop where
  aa : ∀ b, g.A b → g'.A b
  an : ∀ b, g'.A b → g.A b ∨ g.Own b ∨ H b = none
  on : ∀ b, g'.Own b → g.Own b ∨ H b = none
  fr : ∀ b o, H b = some o → ¬ g.Own b → H' b = some o
  im : ∀ b o, H b = some o → imm o = true → H' b = some o
  tr : ∀ b, H' b = none → H b = none
  mu : g.mu <+: g'.mu
theorem Step.refl (g : Gh) (H : Hp) : Step g H g H :=
  ⟨fun _ h => h, fun _ h => .inl h, fun _ h => .inl h, fun _ _ h _ => h, fun _ _ h _ => h, fun _ h => h, List.prefix_refl _⟩
theorem Step.trans {g g1 g2 : Gh} {H H1 H2 : Hp} (a : Step g H g1 H1) (b : Step g1 H1 g2 H2) : Step g H g2 H2 where
  aa := fun x h => b.aa x (a.aa x h)
  an := fun x h => by
    rcases b.an x h with h | h | h
    · exact a.an x h
    · exact .inr (a.on x h)
    · exact .inr (.inr (a.tr x h))
  on := fun x h => by
    rcases b.on x h with h | h
    · exact a.on x h
    · exact .inr (a.tr x h)
  fr := fun x o h n => b.fr x o (a.fr x o h n) fun q => by
    rcases a.on x q with q | q
    · exact n q
    · rw [h] at q; cases q
  im := fun x o h i => b.im x o (a.im x o h i) i
  tr := fun x h => a.tr x (b.tr x h)
  mu := a.mu.trans b.mu
structure WF (g : Gh) (H : Hp) : Prop where
  ta : ∀ b, g.A b → ∃ o, H b = some o
  ot : ∀ b, g.Own b → ∃ o, H b = some o ∧ imo o = false
  ao : ∀ b, g.A b → ¬ g.Own b
  nf : ∀ i, (g.fp i).Nodup
  df : ∀ i j b, b ∈ g.fp i → b ∈ g.fp j → i = j
  fm : ∀ i b, b ∈ g.fp i → b ∉ g.mu
  nm : g.mu.Nodup
/-! ### what a value stands for -/
section
variable (K : PySem.W.Frag) (T : Tb) (g : Gh) (H : Hp)
def ScrOk (a : Addr) (xs : List V) : Prop :=
  (g.A a ∧ H a = some (.lst xs)) ∨ (∃ o, H a = some (.frz o (.lst xs))) ∨
    ∃ (o : Obj) (its : Array Value) (n : Nat), K.lookup a = some o ∧ o.cls = .type "list" ∧ o.dict = none ∧ o.data = .seq its n ∧ its.size ≤ sizeLine ∧ Vals xs its.toList
mutual
def Rp : D → V → Prop
  | .non, v => v = .non
  | .bl b, v => v = .bl b
  | .int i, v => v = .int i
  | .str x, v => v = .str x
  | .tup ds, v => ∃ a vs, v = .ref a ∧ SqT K H a vs ∧ Rps ds vs
  | .lst ds, v => ∃ a vs, v = .ref a ∧ g.A a ∧ H a = some (.lst vs) ∧ Rps ds vs
  | .fn i, v => ∃ a, v = .ref a ∧ T.fn i = some a
  | .ref n, v => ∃ a, v = .ref a ∧ g.mu[n]? = some a
  | .scr xs, v => ∃ a, v = .ref a ∧ ScrOk K g H a (xs.map V.int)
  | .pt ds, v => ∃ a vs o, v = .ref a ∧ H a = some (.frz o (.tup vs)) ∧ o.dict = none ∧ Rps ds vs
def Rps : List D → List V → Prop
  | [], vs => vs = []
  | d :: ds, vs => ∃ v r, vs = v :: r ∧ Rp d v ∧ Rps ds r
end
end
section
variable {K : PySem.W.Frag} {T : Tb} {g g' : Gh} {H H' : Hp}
/-- what a value leans on stays -/
structure Sub (g : Gh) (H : Hp) (g' : Gh) (H' : Hp) : Prop where
  aa : ∀ b, g.A b → g'.A b
  fa : ∀ b o, g.A b → H b = some o → H' b = some o
  im : ∀ b o, H b = some o → imo o = true → H' b = some o
  mu : g.mu <+: g'.mu
theorem Step.sub (wf : WF g H) (s : Step g H g' H') : Sub g H g' H' := ⟨s.aa, fun b o a h => s.fr b o h (wf.ao b a), fun b o h i => s.im b o h (imo_imm i), s.mu⟩
theorem SqT.sub (s : Sub g H g' H') {a : Addr} {vs : List V} (h : SqT K H a vs) : SqT K H' a vs := by
  rcases h with (h | ⟨o, h⟩) | h
  · exact .inl (.inl (s.im _ _ h rfl))
  · exact .inl (.inr ⟨o, s.im _ _ h rfl⟩)
  · exact .inr h
theorem ScrOk.sub (s : Sub g H g' H') {a : Addr} {vs : List V} (h : ScrOk K g H a vs) : ScrOk K g' H' a vs := by
  rcases h with ⟨h1, h2⟩ | ⟨o, h⟩ | h
  · exact .inl ⟨s.aa _ h1, s.fa _ _ h1 h2⟩
  · exact .inr (.inl ⟨o, s.im _ _ h rfl⟩)
  · exact .inr (.inr h)
mutual
theorem Rp.sub (s : Sub g H g' H') : ∀ {d : D} {v : V}, Rp K T g H d v → Rp K T g' H' d v
  | .non, v, h => by simpa [Rp] using h
  | .bl b, v, h => by simpa [Rp] using h
  | .int i, v, h => by simpa [Rp] using h
  | .str x, v, h => by simpa [Rp] using h
  | .tup ds, v, h => by
    simp only [Rp] at h ⊢
    obtain ⟨a, vs, e, q, r⟩ := h
    exact ⟨a, vs, e, SqT.sub s q, Rps.sub s r⟩
  | .lst ds, v, h => by
    simp only [Rp] at h ⊢
    obtain ⟨a, vs, e, q1, q2, r⟩ := h
    exact ⟨a, vs, e, s.aa _ q1, s.fa _ _ q1 q2, Rps.sub s r⟩
  | .fn i, v, h => by simpa [Rp] using h
  | .ref n, v, h => by
    simp only [Rp] at h ⊢
    obtain ⟨a, e, q⟩ := h
    refine ⟨a, e, ?_⟩
    obtain ⟨t, ht⟩ := s.mu
    rw [← ht]
    rw [List.getElem?_append_left]
    · exact q
    · exact (List.getElem?_eq_some_iff.mp q).1
  | .scr xs, v, h => by
    simp only [Rp] at h ⊢
    obtain ⟨a, e, q⟩ := h
    exact ⟨a, e, ScrOk.sub s q⟩
  | .pt ds, v, h => by
    simp only [Rp] at h ⊢
    obtain ⟨a, vs, o, e, q, z, r⟩ := h
    exact ⟨a, vs, o, e, s.im _ _ q rfl, z, Rps.sub s r⟩
theorem Rps.sub (s : Sub g H g' H') : ∀ {ds : List D} {vs : List V}, Rps K T g H ds vs → Rps K T g' H' ds vs
  | [], vs, h => by simpa [Rps] using h
  | d :: ds, vs, h => by
    simp only [Rps] at h ⊢
    obtain ⟨v, r, e, h1, h2⟩ := h
    exact ⟨v, r, e, Rp.sub s h1, Rps.sub s h2⟩
end
theorem SqT.step (wf : WF g H) (s : Step g H g' H') {a : Addr} {vs : List V} (h : SqT K H a vs) : SqT K H' a vs := SqT.sub (s.sub wf) h
theorem ScrOk.step (wf : WF g H) (s : Step g H g' H') {a : Addr} {vs : List V} (h : ScrOk K g H a vs) : ScrOk K g' H' a vs := ScrOk.sub (s.sub wf) h
theorem Rp.step (wf : WF g H) (s : Step g H g' H') {d : D} {v : V} (h : Rp K T g H d v) : Rp K T g' H' d v := Rp.sub (s.sub wf) h
theorem Rps.step (wf : WF g H) (s : Step g H g' H') {ds : List D} {vs : List V} (h : Rps K T g H ds vs) : Rps K T g' H' ds vs := Rps.sub (s.sub wf) h
theorem Rps.length : ∀ {ds : List D} {vs : List V}, Rps K T g H ds vs → vs.length = ds.length
  | [], vs, h => by
    simp only [Rps] at h
    rw [h]
    rfl
  | d :: ds, vs, h => by
    simp only [Rps] at h
    obtain ⟨v, r, e, _, h2⟩ := h
    rw [e, List.length_cons, List.length_cons, h2.length]
theorem Rps.get : ∀ {ds : List D} {vs : List V} {i : Nat} {d : D}, Rps K T g H ds vs → ds[i]? = some d → ∃ v, vs[i]? = some v ∧ Rp K T g H d v
  | [], _, _, _, _, e => by simp at e
  | d :: ds, vs, 0, d', h, e => by
    simp only [Rps] at h
    obtain ⟨v, r, e1, h1, _⟩ := h
    simp at e
    subst e e1
    exact ⟨v, rfl, h1⟩
  | d :: ds, vs, i + 1, d', h, e => by
    simp only [Rps] at h
    obtain ⟨v, r, e1, _, h2⟩ := h
    subst e1
    obtain ⟨v', q1, q2⟩ := Rps.get h2 (i := i) (by simpa using e)
    exact ⟨v', by simpa using q1, q2⟩
theorem Rps.append : ∀ {ds es : List D} {vs ws : List V}, Rps K T g H ds vs → Rps K T g H es ws → Rps K T g H (ds ++ es) (vs ++ ws)
  | [], es, vs, ws, h, h' => by
    simp only [Rps] at h
    subst h
    exact h'
  | d :: ds, es, vs, ws, h, h' => by
    simp only [Rps] at h
    obtain ⟨v, r, e1, h1, h2⟩ := h
    subst e1
    show Rps K T g H (d :: (ds ++ es)) (v :: (r ++ ws))
    simp only [Rps]
    exact ⟨v, _, rfl, h1, h2.append h'⟩
theorem Rps.one {d : D} {v : V} (h : Rp K T g H d v) : Rps K T g H [d] [v] := by
  simp only [Rps]
  exact ⟨v, [], rfl, h, rfl⟩
theorem Rps.cons {d : D} {v : V} {ds : List D} {vs : List V} (h : Rp K T g H d v) (h2 : Rps K T g H ds vs) : Rps K T g H (d :: ds) (v :: vs) := by
  simp only [Rps]
  exact ⟨v, vs, rfl, h, h2⟩
theorem Rps.nil : Rps K T g H [] [] := by simp only [Rps]
theorem Rps.set : ∀ {ds : List D} {vs : List V} {d : D} {v : V} (i : Nat), Rps K T g H ds vs → Rp K T g H d v → Rps K T g H (ds.set i d) (vs.set i v)
  | [], vs, d, v, i, h, _ => by
    simp only [Rps] at h
    subst h
    exact Rps.nil
  | d :: ds, vs, d', v', 0, h, h' => by
    simp only [Rps] at h
    obtain ⟨v, r, e1, h1, h2⟩ := h
    subst e1
    exact Rps.cons h' h2
  | d :: ds, vs, d', v', i + 1, h, h' => by
    simp only [Rps] at h
    obtain ⟨v, r, e1, h1, h2⟩ := h
    subst e1
    exact Rps.cons h1 (h2.set i h')
theorem Rps.take : ∀ {ds : List D} {vs : List V} (n : Nat), Rps K T g H ds vs → Rps K T g H (ds.take n) (vs.take n)
  | _, _, 0, _ => by simpa using Rps.nil
  | [], vs, n + 1, h => by
    simp only [Rps] at h
    subst h
    exact Rps.nil
  | d :: ds, vs, n + 1, h => by
    simp only [Rps] at h
    obtain ⟨v, r, e1, h1, h2⟩ := h
    subst e1
    exact Rps.cons h1 (h2.take n)
theorem Rps.drop : ∀ {ds : List D} {vs : List V} (n : Nat), Rps K T g H ds vs → Rps K T g H (ds.drop n) (vs.drop n)
  | _, _, 0, h => by simpa using h
  | [], vs, n + 1, h => by
    simp only [Rps] at h
    subst h
    simpa using Rps.nil
  | d :: ds, vs, n + 1, h => by
    simp only [Rps] at h
    obtain ⟨v, r, e1, h1, h2⟩ := h
    subst e1
    exact h2.drop n
theorem Rps.reverse : ∀ {ds : List D} {vs : List V}, Rps K T g H ds vs → Rps K T g H ds.reverse vs.reverse
  | [], vs, h => by
    simp only [Rps] at h
    subst h
    exact Rps.nil
  | d :: ds, vs, h => by
    simp only [Rps] at h
    obtain ⟨v, r, e1, h1, h2⟩ := h
    subst e1
    rw [List.reverse_cons, List.reverse_cons]
    exact h2.reverse.append (.one h1)
/-! ### the state -/
inductive Fl where
  | sh | o1 | o2
abbrev Fls := List Fl
def fl (Γ : Fls) (i : Nat) : Fl := Γ.getD i .sh
def L2R (K : PySem.W.Frag) (T : Tb) (g : Gh) (H : Hp) : List Addr → List (List D) → Prop
  | [], dss => dss = []
  | b :: bs, dss => ∃ ds r ws, dss = ds :: r ∧ H b = some (.lst ws) ∧ Rps K T g H ds ws ∧ L2R K T g H bs r
def SlR (K : PySem.W.Frag) (T : Tb) (g : Gh) (H : Hp) (i : Nat) : Fl → Option V → Option D → Prop
  | .sh, some v, some d => Rp K T g H d v
  | .sh, none, none => True
  | .o1, some v, some d => ∃ a vs ds, v = .ref a ∧ d = .lst ds ∧ g.fp i = [a] ∧ H a = some (.lst vs) ∧ Rps K T g H ds vs
  | .o2, some v, some d => ∃ a bs dss, v = .ref a ∧ d = .lst (dss.map D.lst) ∧ g.fp i = a :: bs ∧ H a = some (.lst (bs.map V.ref)) ∧ L2R K T g H bs dss
  | _, _, _ => False
def CellR (K : PySem.W.Frag) (T : Tb) (g : Gh) (H : Hp) (a : Addr) : Cell → Prop
  | .lst ds => ∃ vs, H a = some (.lst vs) ∧ Rps K T g H ds vs
  | .dic false kvs => ∃ vs, H a = some (.dK ((kvs.map (·.1)).zip vs)) ∧ Rps K T g H (kvs.map (·.2)) vs
  | .dic true kvs => ∃ vs od, H a = some (.frz od (.dK ((kvs.map (·.1)).zip vs))) ∧ Rps K T g H (kvs.map (·.2)) vs
  | .dit kvs => ∃ xs vs, H a = some (.ext (RawN a xs)) ∧ (a == sysModules) = false ∧ kvs.map (fun kv => nkD kv.1) = xs.map (fun x => some x.1) ∧ (xs.map (·.1)).Nodup ∧ (∀ x ∈ xs, x.1.depth ≤ 8) ∧
      Vals vs (xs.map (·.2.2)) ∧ Rps K T g H (kvs.map (·.1)) (xs.map fun x => V.ref x.2.1) ∧ Rps K T g H (kvs.map (·.2)) vs
  | .obj c fs => ∃ C dx vs, H a = some (.ins C dx ((fs.map (·.1)).zip vs)) ∧ T.exc c = some C ∧ Rps K T g H (fs.map (·.2)) vs
structure MR (K : PySem.W.Frag) (T : Tb) (g : Gh) (H : Hp) (m : List Cell) : Prop where
  len : g.mu.length = m.length
  at_ : ∀ (n : Nat) (c : Cell) (a : Addr), m[n]? = some c → g.mu[n]? = some a → CellR K T g H a c
structure SR (K : PySem.W.Frag) (T : Tb) (Γ : Fls) (g : Gh) (σ : L2.St) (H : Hp) (st : S) : Prop where
  wf : WF g H
  len : σ.length = st.r.length
  sl : ∀ i, i < σ.length → SlR K T g H i (fl Γ i) (σ.getD i none) (st.r.getD i none)
  me : MR K T g H st.m
theorem L2R.sub (s : Sub g H g' H') : ∀ {bs : List Addr} {dss : List (List D)}, (∀ b ∈ bs, H' b = H b) → L2R K T g H bs dss → L2R K T g' H' bs dss
  | [], _, _, h => h
  | b :: bs, dss, k, h => by
    obtain ⟨ds, r, ws, e, h1, h2, h3⟩ := h
    exact ⟨ds, r, ws, e, (k b List.mem_cons_self).trans h1, h2.sub s, h3.sub s fun b hb => k b (List.mem_cons_of_mem _ hb)⟩
theorem L2R.step (wf : WF g H) (s : Step g H g' H') {bs : List Addr} {dss : List (List D)} (k : ∀ b ∈ bs, H' b = H b) (h : L2R K T g H bs dss) : L2R K T g' H' bs dss := h.sub (s.sub wf) k
theorem SlR.sub (s : Sub g H g' H') {i : Nat} (hf : g'.fp i = g.fp i) (k : ∀ b ∈ g.fp i, H' b = H b) :
    ∀ {f : Fl} {v : Option V} {d : Option D}, SlR K T g H i f v d → SlR K T g' H' i f v d
  | .sh, some v, some d, h => Rp.sub s h
  | .sh, none, none, _ => True.intro
  | .sh, none, some _, h => h.elim
  | .sh, some _, none, h => h.elim
  | .o1, some v, some d, h => by
    obtain ⟨a, vs, ds, e1, e2, e3, h1, h2⟩ := h
    exact ⟨a, vs, ds, e1, e2, hf.trans e3, (k a (by rw [e3]; exact List.mem_cons_self)).trans h1, h2.sub s⟩
  | .o1, none, _, h => by cases ‹Option D› <;> exact h.elim
  | .o1, some _, none, h => h.elim
  | .o2, some v, some d, h => by
    obtain ⟨a, bs, dss, e1, e2, e3, h1, h2⟩ := h
    exact ⟨a, bs, dss, e1, e2, hf.trans e3, (k a (by rw [e3]; exact List.mem_cons_self)).trans h1, h2.sub s fun b hb => k b (by rw [e3]; exact List.mem_cons_of_mem _ hb)⟩
  | .o2, none, _, h => by cases ‹Option D› <;> exact h.elim
  | .o2, some _, none, h => h.elim
theorem SlR.step (wf : WF g H) (s : Step g H g' H') {i : Nat} (hf : g'.fp i = g.fp i) (k : ∀ b ∈ g.fp i, H' b = H b) {f : Fl} {v : Option V} {d : Option D} (h : SlR K T g H i f v d) : SlR K T g' H' i f v d := h.sub (s.sub wf) hf k
theorem CellR.sub (s : Sub g H g' H') {a : Addr} (k : H' a = H a) {c : Cell} (q : CellR K T g H a c) : CellR K T g' H' a c := by
  cases c with
  | lst ds =>
    obtain ⟨vs, q1, q2⟩ := q
    exact ⟨vs, k.trans q1, q2.sub s⟩
  | dic lk kvs =>
    cases lk with
    | false =>
      obtain ⟨vs, q1, q2⟩ := q
      exact ⟨vs, k.trans q1, q2.sub s⟩
    | true =>
      obtain ⟨vs, od, q1, q2⟩ := q
      exact ⟨vs, od, k.trans q1, q2.sub s⟩
  | dit kvs =>
    obtain ⟨xs, vs, q1, q2, q3, q4, q5, q6, q7, q8⟩ := q
    exact ⟨xs, vs, k.trans q1, q2, q3, q4, q5, q6, q7.sub s, q8.sub s⟩
  | obj c fs =>
    obtain ⟨C, dx, vs, q1, q2, q3⟩ := q
    exact ⟨C, dx, vs, k.trans q1, q2, q3.sub s⟩
theorem MR.sub (s : Sub g H g' H') (hm : g'.mu = g.mu) (k : ∀ b ∈ g.mu, H' b = H b) {m : List Cell} (h : MR K T g H m) : MR K T g' H' m where
  len := by rw [hm]; exact h.len
  at_ := fun n c a h1 h2 => by
    rw [hm] at h2
    exact CellR.sub s (k a (List.mem_of_getElem? h2)) (h.at_ n c a h1 h2)
theorem MR.step (wf : WF g H) (s : Step g H g' H') (hm : g'.mu = g.mu) (k : ∀ b ∈ g.mu, H' b = H b) {m : List Cell} (h : MR K T g H m) : MR K T g' H' m := h.sub (s.sub wf) hm k
/-- own cells kept -/
theorem SR.sub {Γ : Fls} {σ : L2.St} {st : S} (h : SR K T Γ g σ H st) (s : Sub g H g' H') (wf' : WF g' H') (hf : g'.fp = g.fp) (hm : g'.mu = g.mu) (k : ∀ b, g.Own b → H' b = H b) : SR K T Γ g' σ H' st where
  wf := wf'
  len := h.len
  sl := fun i hi => (h.sl i hi).sub s (by rw [hf]) fun b hb => k b (.inl ⟨i, hb⟩)
  me := h.me.sub s hm fun b hb => k b (.inr hb)
theorem SR.step {Γ : Fls} {σ : L2.St} {st : S} (h : SR K T Γ g σ H st) (s : Step g H g' H') (wf' : WF g' H') (hf : g'.fp = g.fp) (hm : g'.mu = g.mu) (k : ∀ b, g.Own b → H' b = H b) : SR K T Γ g' σ H' st := h.sub (s.sub h.wf) wf' hf hm k
/-- the slots' own cells kept, the store another -/
theorem SR.re {Γ : Fls} {σ : L2.St} {st : S} {m : List Cell} (h : SR K T Γ g σ H st) (s : Sub g H g' H') (wf' : WF g' H') (hf : g'.fp = g.fp) (k : ∀ i b, b ∈ g.fp i → H' b = H b) (me : MR K T g' H' m) : SR K T Γ g' σ H' { st with m := m } where
  wf := wf'
  len := h.len
  sl := fun i hi => (h.sl i hi).sub s (by rw [hf]) fun b hb => k i b hb
  me := me
/-- a new object, not listed -/
theorem Step.new {p : Addr} {o : HO} (hp : H p = none) : Step g H g (upd H p o) :=
  ⟨fun _ h => h, fun _ h => .inl h, fun _ h => .inl h, fun b o' h _ => by rw [upd_ne (ne_of_none h hp)]; exact h, fun b o' h _ => by rw [upd_ne (ne_of_none h hp)]; exact h,
    fun b h => by
      by_cases e : b = p
      · rw [e]; exact hp
      · rw [upd_ne e] at h; exact h, List.prefix_refl _⟩
theorem WF.new {p : Addr} {o : HO} (h : WF g H) (hp : H p = none) : WF g (upd H p o) where
  ta := fun b hb => by
    obtain ⟨o', e⟩ := h.ta b hb
    exact ⟨o', by rw [upd_ne (ne_of_none e hp)]; exact e⟩
  ot := fun b hb => by
    obtain ⟨o', e, i⟩ := h.ot b hb
    exact ⟨o', by rw [upd_ne (ne_of_none e hp)]; exact e, i⟩
  ao := h.ao
  nf := h.nf
  df := h.df
  fm := h.fm
  nm := h.nm
theorem WF.nota {p : Addr} (h : WF g H) (hp : H p = none) : ¬ g.A p := fun q => by
  obtain ⟨o, e⟩ := h.ta p q
  rw [hp] at e; cases e
theorem WF.noto {p : Addr} (h : WF g H) (hp : H p = none) : ¬ g.Own p := fun q => by
  obtain ⟨o, e, _⟩ := h.ot p q
  rw [hp] at e; cases e
theorem SR.new {Γ : Fls} {σ : L2.St} {st : S} {p : Addr} {o : HO} (h : SR K T Γ g σ H st) (hp : H p = none) : SR K T Γ g σ (upd H p o) st :=
  h.step (.new hp) (h.wf.new hp) rfl rfl fun b hb => by
    obtain ⟨o', e, _⟩ := h.wf.ot b hb
    rw [upd_ne (ne_of_none e hp)]
/-- a tracked object becomes listed -/
def Gh.add (g : Gh) (p : Addr) : Gh := { g with A := fun b => g.A b ∨ b = p }
theorem Step.add {p : Addr} {Hs : Hp} {gs : Gh} (s : Step gs Hs g H) (hp : Hs p = none) : Step gs Hs (g.add p) H where
  aa := fun b h => .inl (s.aa b h)
  an := fun b h => by
    rcases h with h | h
    · exact s.an b h
    · rw [h]; exact .inr (.inr hp)
  on := s.on
  fr := s.fr
  im := s.im
  tr := s.tr
  mu := s.mu
theorem WF.add {p : Addr} {o : HO} (h : WF g H) (ho : H p = some o) (no : ¬ g.Own p) : WF (g.add p) H where
  ta := fun b hb => by
    rcases hb with hb | hb
    · exact h.ta b hb
    · rw [hb]; exact ⟨o, ho⟩
  ot := h.ot
  ao := fun b hb => by
    rcases hb with hb | hb
    · exact h.ao b hb
    · rw [hb]; exact no
  nf := h.nf
  df := h.df
  fm := h.fm
  nm := h.nm
/-- the ghost alone grows -/
theorem Step.grow {p : Addr} : ∀ (b : Addr), g.A b → (g.add p).A b := fun _ h => .inl h
mutual
theorem Rp.add {p : Addr} : ∀ {d : D} {v : V}, Rp K T g H d v → Rp K T (g.add p) H d v
  | .non, v, h => by simpa [Rp] using h
  | .bl b, v, h => by simpa [Rp] using h
  | .int i, v, h => by simpa [Rp] using h
  | .str x, v, h => by simpa [Rp] using h
  | .tup ds, v, h => by
    simp only [Rp] at h ⊢
    obtain ⟨a, vs, e, q, r⟩ := h
    exact ⟨a, vs, e, q, Rps.add r⟩
  | .lst ds, v, h => by
    simp only [Rp] at h ⊢
    obtain ⟨a, vs, e, q1, q2, r⟩ := h
    exact ⟨a, vs, e, .inl q1, q2, Rps.add r⟩
  | .fn i, v, h => by simpa [Rp] using h
  | .ref n, v, h => by
    simp only [Rp] at h ⊢
    exact h
  | .scr xs, v, h => by
    simp only [Rp] at h ⊢
    obtain ⟨a, e, q⟩ := h
    refine ⟨a, e, ?_⟩
    rcases q with ⟨q1, q2⟩ | q | q
    · exact .inl ⟨.inl q1, q2⟩
    · exact .inr (.inl q)
    · exact .inr (.inr q)
  | .pt ds, v, h => by
    simp only [Rp] at h ⊢
    obtain ⟨a, vs, o, e, q, z, r⟩ := h
    exact ⟨a, vs, o, e, q, z, Rps.add r⟩
theorem Rps.add {p : Addr} : ∀ {ds : List D} {vs : List V}, Rps K T g H ds vs → Rps K T (g.add p) H ds vs
  | [], vs, h => by simpa [Rps] using h
  | d :: ds, vs, h => by
    simp only [Rps] at h ⊢
    obtain ⟨v, r, e, h1, h2⟩ := h
    exact ⟨v, r, e, Rp.add h1, Rps.add h2⟩
end
theorem L2R.add {p : Addr} : ∀ {bs : List Addr} {dss : List (List D)}, L2R K T g H bs dss → L2R K T (g.add p) H bs dss
  | [], _, h => h
  | b :: bs, dss, h => by
    obtain ⟨ds, r, ws, e, h1, h2, h3⟩ := h
    exact ⟨ds, r, ws, e, h1, h2.add, h3.add⟩
theorem SR.add {Γ : Fls} {σ : L2.St} {st : S} {p : Addr} {o : HO} (h : SR K T Γ g σ H st) (ho : H p = some o) (no : ¬ g.Own p) : SR K T Γ (g.add p) σ H st where
  wf := h.wf.add ho no
  len := h.len
  sl := fun i hi => by
    have q := h.sl i hi
    generalize σ.getD i none = v at q
    generalize st.r.getD i none = d at q
    generalize fl Γ i = f at q
    cases f <;> cases v <;> cases d <;> first
      | exact q
      | exact Rp.add q
      | (obtain ⟨a, vs, ds, e1, e2, e3, h1, h2⟩ := q; exact ⟨a, vs, ds, e1, e2, e3, h1, h2.add⟩)
      | (obtain ⟨a, vs, ds, e1, e2, e3, h1, h2⟩ := q; exact ⟨a, vs, ds, e1, e2, e3, h1, L2R.add h2⟩)
  me := ⟨h.me.len, fun n c a h1 h2 => by
    have q := h.me.at_ n c a h1 h2
    cases c with
    | lst ds =>
      obtain ⟨vs, q1, q2⟩ := q
      exact ⟨vs, q1, q2.add⟩
    | dic lk kvs =>
      cases lk with
      | false =>
        obtain ⟨vs, q1, q2⟩ := q
        exact ⟨vs, q1, q2.add⟩
      | true =>
        obtain ⟨vs, od, q1, q2⟩ := q
        exact ⟨vs, od, q1, q2.add⟩
    | dit kvs =>
      obtain ⟨xs, vs, q1, q2, q3, q4, q5, q6, q7, q8⟩ := q
      exact ⟨xs, vs, q1, q2, q3, q4, q5, q6, q7.add, q8.add⟩
    | obj c fs =>
      obtain ⟨C, dx, vs, q1, q2, q3⟩ := q
      exact ⟨C, dx, vs, q1, q2, q3.add⟩⟩
end
end DL
set_option linter.all false
set_option Elab.async false
set_option maxRecDepth 100000
namespace DL
open PySem PySem.Spec PyProof.Rows L2
/-- a step of an expression: the slots' own cells stay -/
structure QStep (g : Gh) (H : Hp) (g' : Gh) (H' : Hp) : Prop extends Step g H g' H' where
  qf : g'.fp = g.fp
  qo : ∀ i b, b ∈ g.fp i → H' b = H b
theorem QStep.refl (g : Gh) (H : Hp) : QStep g H g H := ⟨.refl g H, rfl, fun _ _ _ => rfl⟩
theorem QStep.trans {g g1 g2 : Gh} {H H1 H2 : Hp} (a : QStep g H g1 H1) (b : QStep g1 H1 g2 H2) : QStep g H g2 H2 :=
  ⟨a.toStep.trans b.toStep, b.qf.trans a.qf, fun i x h => (b.qo i x (by rw [a.qf]; exact h)).trans (a.qo i x h)⟩
inductive Mo where
  | sh | f1 | f2 | b1 | b2
/-- a fresh address -/
def Fresh (g : Gh) (H0 : Hp) (a : Addr) : Prop := ¬ g.A a ∧ ¬ g.Own a ∧ H0 a = none
def RpM (K : PySem.W.Frag) (T : Tb) (g : Gh) (H0 H : Hp) : Mo → D → V → Prop
  | .sh, d, v => Rp K T g H d v
  | .f1, d, v => match d with
    | .lst ds => ∃ a vs, v = .ref a ∧ H a = some (.lst vs) ∧ Fresh g H0 a ∧ Rps K T g H ds vs
    | d => Rp K T g H d v
  | .b1, d, v => match d with
    | .lst ds => ∃ a vs, v = .ref a ∧ H a = some (.lst vs) ∧ a ∉ g.mu ∧ Rps K T g H ds vs
    | d => Rp K T g H d v
  | .f2, d, v => match d with
    | .lst es => ∃ a bs dss, v = .ref a ∧ es = dss.map D.lst ∧ H a = some (.lst (bs.map V.ref)) ∧ (a :: bs).Nodup ∧ (∀ b ∈ a :: bs, Fresh g H0 b) ∧ L2R K T g H bs dss
    | d => Rp K T g H d v
  | .b2, d, v => match d with
    | .lst es => ∃ a bs dss, v = .ref a ∧ es = dss.map D.lst ∧ H a = some (.lst (bs.map V.ref)) ∧ (∀ b ∈ a :: bs, b ∉ g.mu) ∧ L2R K T g H bs dss
    | d => Rp K T g H d v
section
variable {K : PySem.W.Frag} {T : Tb} {g g' : Gh} {H H' H0 H1 : Hp} {d : D} {v : V}
theorem Fresh.step {a : Addr} {o : HO} (s : Step g H g' H') (e : H a = some o) (f : Fresh g H0 a) : Fresh g' H0 a := by
  refine ⟨fun q => ?_, fun q => ?_, f.2.2⟩
  · rcases s.an a q with q | q | q
    · exact f.1 q
    · exact f.2.1 q
    · rw [e] at q; cases q
  · rcases s.on a q with q | q
    · exact f.2.1 q
    · rw [e] at q; cases q
theorem L2R.tracked : ∀ {bs : List Addr} {dss : List (List D)}, L2R K T g H bs dss → ∀ b ∈ bs, ∃ ws, H b = some (.lst ws)
  | [], _, _, b, hb => by simp at hb
  | b :: bs, dss, h, c, hc => by
    obtain ⟨ds, r, ws, e, h1, h2, h3⟩ := h
    rcases List.mem_cons.mp hc with rfl | hc
    · exact ⟨ws, h1⟩
    · exact h3.tracked c hc
theorem stay_fresh {a : Addr} {o : HO} (s : Step g H g' H') (f : Fresh g H0 a) (e : H a = some o) : H' a = some o := s.fr a o e f.2.1
theorem stay_b {a : Addr} {o : HO} (s : QStep g H g' H') (f : a ∉ g.mu) (e : H a = some o) : H' a = some o := by
  by_cases q : ∃ i, a ∈ g.fp i
  · obtain ⟨i, q⟩ := q
    exact (s.qo i a q).trans e
  · exact s.fr a o e fun z => by
      rcases z with z | z
      · exact q z
      · exact f z
theorem mu_b {a : Addr} {o : HO} (wf' : WF g' H') (s : QStep g H g' H') (f : a ∉ g.mu) (e : H a = some o) : a ∉ g'.mu := fun z => by
  rcases s.on a (.inr z) with (⟨i, q⟩ | q) | q
  · exact wf'.fm i a (by rw [s.qf]; exact q) z
  · exact f q
  · rw [e] at q; cases q
theorem RpM.step (wf : WF g H) (wf' : WF g' H') (s : QStep g H g' H') {m : Mo} (h : RpM K T g H0 H m d v) : RpM K T g' H0 H' m d v := by
  cases m with
  | sh => exact Rp.step wf s.toStep h
  | f1 =>
    cases d with
    | lst ds =>
      obtain ⟨a, vs, e, h1, h2, h3⟩ := h
      exact ⟨a, vs, e, stay_fresh s.toStep h2 h1, h2.step s.toStep h1, h3.step wf s.toStep⟩
    | _ => exact Rp.step wf s.toStep h
  | b1 =>
    cases d with
    | lst ds =>
      obtain ⟨a, vs, e, h1, h2, h3⟩ := h
      exact ⟨a, vs, e, stay_b s h2 h1, mu_b wf' s h2 h1, h3.step wf s.toStep⟩
    | _ => exact Rp.step wf s.toStep h
  | f2 =>
    cases d with
    | lst ds =>
      obtain ⟨a, bs, dss, e, e2, h1, nd, h2, h3⟩ := h
      refine ⟨a, bs, dss, e, e2, stay_fresh s.toStep (h2 a List.mem_cons_self) h1, nd, fun b hb => ?_, h3.step wf s.toStep fun b hb => ?_⟩
      · rcases List.mem_cons.mp hb with rfl | hb'
        · exact (h2 _ hb).step s.toStep h1
        · obtain ⟨ws, z⟩ := h3.tracked b hb'
          exact (h2 b hb).step s.toStep z
      · obtain ⟨ws, z⟩ := h3.tracked b hb
        rw [stay_fresh s.toStep (h2 b (List.mem_cons_of_mem _ hb)) z, z]
    | _ => exact Rp.step wf s.toStep h
  | b2 =>
    cases d with
    | lst ds =>
      obtain ⟨a, bs, dss, e, e2, h1, h2, h3⟩ := h
      refine ⟨a, bs, dss, e, e2, stay_b s (h2 a List.mem_cons_self) h1, fun b hb => ?_, h3.step wf s.toStep fun b hb => ?_⟩
      · rcases List.mem_cons.mp hb with rfl | hb'
        · exact mu_b wf' s (h2 _ hb) h1
        · obtain ⟨ws, z⟩ := h3.tracked b hb'
          exact mu_b wf' s (h2 b hb) z
      · obtain ⟨ws, z⟩ := h3.tracked b hb
        rw [stay_b s (h2 b (List.mem_cons_of_mem _ hb)) z, z]
    | _ => exact Rp.step wf s.toStep h
theorem RpM.base {m : Mo} (tr : ∀ b, H1 b = none → H0 b = none) (h : RpM K T g H1 H m d v) : RpM K T g H0 H m d v := by
  cases m with
  | sh => exact h
  | b1 => exact h
  | b2 => exact h
  | f1 =>
    cases d with
    | lst ds =>
      obtain ⟨a, vs, e, h1, h2, h3⟩ := h
      exact ⟨a, vs, e, h1, ⟨h2.1, h2.2.1, tr _ h2.2.2⟩, h3⟩
    | _ => exact h
  | f2 =>
    cases d with
    | lst ds =>
      obtain ⟨a, bs, dss, e, e2, h1, nd, h2, h3⟩ := h
      exact ⟨a, bs, dss, e, e2, h1, nd, fun b hb => ⟨(h2 b hb).1, (h2 b hb).2.1, tr _ (h2 b hb).2.2⟩, h3⟩
    | _ => exact h
end
/-! ### exceptions -/
def ExR (K : PySem.W.Frag) (T : Tb) (g : Gh) (H : Hp) : Ex → Value → Option Addr → Prop
  | .mk i fs, cls, dd => ∃ C, T.exc i = some C ∧ cls = .ref C ∧ (fs = [] ∧ dd = none ∨ fs ≠ [] ∧ ∃ dx vs, dd = some dx ∧ H dx = some (.xd ((T.fld i).zip vs)) ∧ Rps K T g H fs vs ∧ (T.fld i).length = fs.length)
/-! ### what is wanted behind an expression -/
section
variable (K : PySem.W.Frag) (T : Tb) (Γ : Fls) (σ : L2.St) (g : Gh) (H : Hp)
def PostX (W : WX) (e : Ex) (st : S) : Prop := ∀ cls dd H' g', Step g H g' H' → SR K T [] g' σ H' st → ExR K T g' H' e cls dd → W cls dd σ H'
def PostE (m : Mo) (W : WX) (Q : VK) : R D → Prop
  | .ok d st => ∀ v H' g', QStep g H g' H' → SR K T Γ g' σ H' st → RpM K T g' H H' m d v → Q v H'
  | .raise e st => PostX K T σ g H W e st
  | .stuck => False
def PostA (W : WX) (Q : List V → Hp → Prop) : R (List D) → Prop
  | .ok ds st => ∀ vs H' g', QStep g H g' H' → SR K T Γ g' σ H' st → Rps K T g' H' ds vs → Q vs H'
  | .raise e st => PostX K T σ g H W e st
  | .stuck => False
def PostT (W : WX) (Q : Bool → Hp → Prop) : R Bool → Prop
  | .ok b st => ∀ H' g', QStep g H g' H' → SR K T Γ g' σ H' st → Q b H'
  | .raise e st => PostX K T σ g H W e st
  | .stuck => False
end
def te (K : PySem.W.Frag) (T : Tb) (Γ : Fls) (m : Mo) (W : WX) (f : S → R D) : TE := fun σ H Q => ∃ g st, SR K T Γ g σ H st ∧ PostE K T Γ σ g H m W Q (f st)
def ta (K : PySem.W.Frag) (T : Tb) (Γ : Fls) (W : WX) (f : S → R (List D)) : TA := fun σ H Q => ∃ g st, SR K T Γ g σ H st ∧ PostA K T Γ σ g H W Q (f st)
def tt (K : PySem.W.Frag) (T : Tb) (Γ : Fls) (W : WX) (f : S → R Bool) : TT := fun σ H Q => ∃ g st, SR K T Γ g σ H st ∧ PostT K T Γ σ g H W Q (f st)
structure JE (T : Tb) (X : Cx) (Γ : Fls) (e : Expr) (m : Mo) (f : S → R D) : Prop where
  run : ∀ W, Takes X W → PE X e (te X.K T Γ m W f)
structure JA (T : Tb) (X : Cx) (Γ : Fls) (es : List Expr) (f : S → R (List D)) : Prop where
  run : ∀ W, Takes X W → PA X es (ta X.K T Γ W f)
structure JT (T : Tb) (X : Cx) (Γ : Fls) (e : Expr) (f : S → R Bool) : Prop where
  run : ∀ W, Takes X W → PT X e (tt X.K T Γ W f)
structure JW (T : Tb) (X : Cx) (Γ : Fls) (e : Expr) (f : S → R Bool) : Prop where
  run : ∀ W, Takes X W → PW X e (tt X.K T Γ W f)
section
variable {K : PySem.W.Frag} {T : Tb} {Γ : Fls} {σ : L2.St} {g g' : Gh} {H H' : Hp} {m : Mo} {W : WX}
theorem PostX.shift {e : Ex} {st : S} (s : Step g H g' H') (h : PostX K T σ g H W e st) : PostX K T σ g' H' W e st := fun cls dd H2 g2 s2 => h cls dd H2 g2 (s.trans s2)
theorem PostE.shift {Q : VK} {r : R D} (s : QStep g H g' H') (h : PostE K T Γ σ g H m W Q r) : PostE K T Γ σ g' H' m W Q r := by
  cases r with
  | ok d st => exact fun v H2 g2 s2 r2 p => h v H2 g2 (s.trans s2) r2 (p.base s.tr)
  | raise e st => exact PostX.shift s.toStep h
  | stuck => exact h
theorem PostA.shift {Q : List V → Hp → Prop} {r : R (List D)} (s : QStep g H g' H') (h : PostA K T Γ σ g H W Q r) : PostA K T Γ σ g' H' W Q r := by
  cases r with
  | ok d st => exact fun v H2 g2 s2 r2 p => h v H2 g2 (s.trans s2) r2 p
  | raise e st => exact PostX.shift s.toStep h
  | stuck => exact h
theorem PostT.shift {Q : Bool → Hp → Prop} {r : R Bool} (s : QStep g H g' H') (h : PostT K T Γ σ g H W Q r) : PostT K T Γ σ g' H' W Q r := by
  cases r with
  | ok d st => exact fun H2 g2 s2 r2 => h H2 g2 (s.trans s2) r2
  | raise e st => exact PostX.shift s.toStep h
  | stuck => exact h
end
/-! ### the monad -/
def R.bind {α β : Type} (r : R α) (k : α → S → R β) : R β := match r with
  | .ok a s => k a s
  | .raise e s => .raise e s
  | .stuck => .stuck
theorem PE.imp {X : Cx} {e : Expr} {t t' : TE} (h : PE X e t) (i : ∀ σ H Q, t' σ H Q → t σ H Q) : PE X e t' := ⟨fun pins s σ H Q I q => h.run pins s σ H Q I (i σ H Q q)⟩
theorem PA.imp {X : Cx} {e : List Expr} {t t' : TA} (h : PA X e t) (i : ∀ σ H Q, t' σ H Q → t σ H Q) : PA X e t' := ⟨fun pos pins s σ H Q I q => h.run pos pins s σ H Q I (i σ H Q q)⟩
theorem PT.imp {X : Cx} {e : Expr} {t t' : TT} (h : PT X e t) (i : ∀ σ H Q, t' σ H Q → t σ H Q) : PT X e t' := ⟨fun pins s σ H Q I q => h.run pins s σ H Q I (i σ H Q q)⟩
theorem PW.imp {X : Cx} {e : Expr} {t t' : TT} (h : PW X e t) (i : ∀ σ H Q, t' σ H Q → t σ H Q) : PW X e t' := ⟨fun wh pins s σ H Q I q => h.run wh pins s σ H Q I (i σ H Q q)⟩
/-- what any post bears -/
structure IsPost (K : PySem.W.Frag) (T : Tb) (σ : L2.St) (W : WX) {α : Type} (P : Gh → Hp → R α → Prop) : Prop where
  px : ∀ g H e s, P g H (.raise e s) → PostX K T σ g H W e s
  xp : ∀ g H e s, PostX K T σ g H W e s → P g H (.raise e s)
  ps : ∀ g H, ¬ P g H .stuck
  sh : ∀ g H g' H' r, QStep g H g' H' → P g H r → P g' H' r
section
variable {K : PySem.W.Frag} {T : Tb} {Γ : Fls} {σ : L2.St} {g : Gh} {H : Hp} {st : S} {m m' : Mo} {W : WX} {α : Type} {P : Gh → Hp → R α → Prop}
theorem ipE {Q : VK} : IsPost K T σ W (fun g H => PostE K T Γ σ g H m W Q) := ⟨fun _ _ _ _ h => h, fun _ _ _ _ h => h, fun _ _ h => h, fun _ _ _ _ _ s h => h.shift s⟩
theorem ipA {Q : List V → Hp → Prop} : IsPost K T σ W (fun g H => PostA K T Γ σ g H W Q) := ⟨fun _ _ _ _ h => h, fun _ _ _ _ h => h, fun _ _ h => h, fun _ _ _ _ _ s h => h.shift s⟩
theorem ipT {Q : Bool → Hp → Prop} : IsPost K T σ W (fun g H => PostT K T Γ σ g H W Q) := ⟨fun _ _ _ _ h => h, fun _ _ _ _ h => h, fun _ _ h => h, fun _ _ _ _ _ s h => h.shift s⟩
/-- from the post of a bind: the first part's reading, with the second part's post behind it -/
theorem te_bind {f : S → R D} {k : D → S → R α} {Q : VK} (ip : IsPost K T σ W P) (I : SR K T Γ g σ H st) (h : P g H ((f st).bind k))
    (hk : ∀ d st' v H' g', QStep g H g' H' → SR K T Γ g' σ H' st' → RpM K T g' H H' m d v → P g' H' (k d st') → Q v H') : te K T Γ m W f σ H Q := by
  refine ⟨g, st, I, ?_⟩
  cases e : f st with
  | ok d st' =>
    rw [e] at h
    exact fun v H' g' s r p => hk d st' v H' g' s r p (ip.sh _ _ _ _ _ s h)
  | raise ex st' =>
    rw [e] at h
    exact ip.px _ _ _ _ h
  | stuck =>
    rw [e] at h
    exact ip.ps g H h
theorem ta_bind {f : S → R (List D)} {k : List D → S → R α} {Q : List V → Hp → Prop} (ip : IsPost K T σ W P) (I : SR K T Γ g σ H st) (h : P g H ((f st).bind k))
    (hk : ∀ ds st' vs H' g', QStep g H g' H' → SR K T Γ g' σ H' st' → Rps K T g' H' ds vs → P g' H' (k ds st') → Q vs H') : ta K T Γ W f σ H Q := by
  refine ⟨g, st, I, ?_⟩
  cases e : f st with
  | ok d st' =>
    rw [e] at h
    exact fun v H' g' s r p => hk d st' v H' g' s r p (ip.sh _ _ _ _ _ s h)
  | raise ex st' =>
    rw [e] at h
    exact ip.px _ _ _ _ h
  | stuck =>
    rw [e] at h
    exact ip.ps g H h
theorem tt_bind {f : S → R Bool} {k : Bool → S → R α} {Q : Bool → Hp → Prop} (ip : IsPost K T σ W P) (I : SR K T Γ g σ H st) (h : P g H ((f st).bind k))
    (hk : ∀ b st' H' g', QStep g H g' H' → SR K T Γ g' σ H' st' → P g' H' (k b st') → Q b H') : tt K T Γ W f σ H Q := by
  refine ⟨g, st, I, ?_⟩
  cases e : f st with
  | ok d st' =>
    rw [e] at h
    exact fun H' g' s r => hk d st' H' g' s r (ip.sh _ _ _ _ _ s h)
  | raise ex st' =>
    rw [e] at h
    exact ip.px _ _ _ _ h
  | stuck =>
    rw [e] at h
    exact ip.ps g H h
end
/-! ### the semantics of expressions -/
def eVar (i : Nat) : S → R D := fun st => match st.r.getD i none with
  | some d => .ok d st
  | none => .stuck
def eC (d : D) : S → R D := fun st => .ok d st
/-- two parts, then an operation by values -/
def e2 (op : D → D → S → R D) (f1 f2 : S → R D) : S → R D := fun st => (f1 st).bind fun d1 s1 => (f2 s1).bind fun d2 s2 => op d1 d2 s2
def e1 (op : D → S → R D) (f : S → R D) : S → R D := fun st => (f st).bind op
def aNil : S → R (List D) := fun st => .ok [] st
def aCons (f : S → R D) (r : S → R (List D)) : S → R (List D) := fun st => (f st).bind fun d s1 => (r s1).bind fun ds s2 => .ok (d :: ds) s2
def eIf (c : S → R Bool) (a b : S → R D) : S → R D := fun st => (c st).bind fun k s => if k then a s else b s
def tNotS (c : S → R Bool) : S → R Bool := fun st => (c st).bind fun k s => .ok (!k) s
def tAndS (c d : S → R Bool) : S → R Bool := fun st => (c st).bind fun k s => if k then d s else .ok false s
def tOrS (c d : S → R Bool) : S → R Bool := fun st => (c st).bind fun k s => if k then .ok true s else d s
def toB (f : S → R D) : S → R Bool := fun st => (f st).bind fun d s => match d with
  | .bl b => .ok b s
  | _ => .stuck
section
variable {T : Tb} {X : Cx} {Γ : Fls} {e a b c : Expr} {m m1 m2 : Mo} {f f1 f2 : S → R D} {pos : Pos}
theorem SR.slot {K : PySem.W.Frag} {g : Gh} {σ : L2.St} {H : Hp} {st : S} {i : Nat} {d : D} (I : SR K T Γ g σ H st) (e : st.r.getD i none = some d) :
    ∃ v, σ[i]? = some (some v) ∧ SlR K T g H i (fl Γ i) (some v) (some d) := by
  have hi : i < st.r.length := by
    by_cases h : i < st.r.length
    · exact h
    · rw [List.getD_eq_getElem?_getD, List.getElem?_eq_none (by omega)] at e
      cases e
  have hs : i < σ.length := by rw [I.len]; exact hi
  have q := I.sl i hs
  rw [e] at q
  cases v : σ.getD i none with
  | none =>
    rw [v] at q
    cases h : fl Γ i <;> rw [h] at q <;> exact q.elim
  | some x =>
    rw [v] at q
    refine ⟨x, ?_, q⟩
    rw [List.getD_eq_getElem?_getD, List.getElem?_eq_getElem hs] at v
    rw [List.getElem?_eq_getElem hs]
    exact congrArg some v
theorem je_var (i : Nat) {x : Str} (hN : X.N[i]? = some x := by rfl) (hv : Vis X.env.scope x := by first | exact Or.inl rfl | exact Or.inr (Or.inl rfl) | exact Or.inr (Or.inr rfl)) (hd : (x == ("__debug__" : Str)) = false := by decide)
    (hcd : (x == ("__classdict__" : Str)) = false := by decide) (hf : fl Γ i = .sh := by rfl) : JE T X Γ (.Name x pos) .sh (eVar i) := by
  refine ⟨fun W tk => PE.imp (pe_var hN hv hd hcd) fun σ H Q h => ?_⟩
  obtain ⟨g, st, I, p⟩ := h
  unfold eVar at p
  cases e : st.r.getD i none with
  | none =>
    rw [e] at p
    exact p.elim
  | some d =>
    rw [e] at p
    obtain ⟨v, h1, h2⟩ := I.slot e
    rw [hf] at h2
    exact ⟨v, h1, p v H g (.refl g H) I h2⟩
/-- a slot's own list, read -/
theorem je_varB (i : Nat) {x : Str} (hN : X.N[i]? = some x := by rfl) (hv : Vis X.env.scope x := by first | exact Or.inl rfl | exact Or.inr (Or.inl rfl) | exact Or.inr (Or.inr rfl)) (hd : (x == ("__debug__" : Str)) = false := by decide)
    (hcd : (x == ("__classdict__" : Str)) = false := by decide) (hf : fl Γ i = .o1 := by rfl) : JE T X Γ (.Name x pos) .b1 (eVar i) := by
  refine ⟨fun W tk => PE.imp (pe_var hN hv hd hcd) fun σ H Q h => ?_⟩
  obtain ⟨g, st, I, p⟩ := h
  unfold eVar at p
  cases e : st.r.getD i none with
  | none =>
    rw [e] at p
    exact p.elim
  | some d =>
    rw [e] at p
    obtain ⟨v, h1, h2⟩ := I.slot e
    rw [hf] at h2
    obtain ⟨ad, vs, ds, e1, e2, e3, h3, h4⟩ := h2
    subst e1 e2
    exact ⟨_, h1, p _ H g (.refl g H) I ⟨ad, vs, rfl, h3, I.wf.fm i ad (by rw [e3]; exact List.mem_cons_self), h4⟩⟩
theorem je_int {i j} : JE T X Γ (.Constant (.int i) j pos) .sh (eC (.int i)) := ⟨fun W tk => PE.imp pe_int fun σ H Q ⟨g, st, I, p⟩ => p _ H g (.refl g H) I rfl⟩
theorem je_bl {i j} : JE T X Γ (.Constant (.bool i) j pos) .sh (eC (.bl i)) := ⟨fun W tk => PE.imp pe_bl fun σ H Q ⟨g, st, I, p⟩ => p _ H g (.refl g H) I rfl⟩
theorem je_non {j} : JE T X Γ (.Constant .none j pos) .sh (eC .non) := ⟨fun W tk => PE.imp pe_non fun σ H Q ⟨g, st, I, p⟩ => p _ H g (.refl g H) I rfl⟩
theorem je_str {i j} : JE T X Γ (.Constant (.str i) j pos) .sh (eC (.str i)) := ⟨fun W tk => PE.imp pe_str fun σ H Q ⟨g, st, I, p⟩ => p _ H g (.refl g H) I rfl⟩
/-! ### modes -/
theorem je_sub (h : JE T X Γ e m1 f) (k : ∀ (K : PySem.W.Frag) g0 σ H0 H st d v, SR K T Γ g0 σ H st → RpM K T g0 H0 H m1 d v → (∀ g', QStep g0 H g' H → SR K T Γ g' σ H st → RpM K T g' H0 H m d v → False) → False) : JE T X Γ e m f := by
  refine ⟨fun W tk => PE.imp (h.run W tk) fun σ H Q ⟨g, st, I, p⟩ => ⟨g, st, I, ?_⟩⟩
  cases e : f st with
  | ok d st' =>
    rw [e] at p
    intro v H' g' s r q
    refine Classical.byContradiction fun nq => k X.K g' σ H H' st' d v r q fun g2 s2 r2 q2 => nq (p v H' g2 (s.trans s2) r2 q2)
  | raise ex st' => rw [e] at p; exact p
  | stuck => rw [e] at p; exact p
/-- shared to borrowed -/
theorem je_b (h : JE T X Γ e .sh f) : JE T X Γ e .b1 f := by
  refine je_sub h fun K g σ H0 H st d v I q k => k g (.refl g H) I ?_
  cases d with
  | lst ds =>
    simp only [RpM, Rp] at q
    obtain ⟨a, vs, e, h1, h2, h3⟩ := q
    exact ⟨a, vs, e, h2, fun z => I.wf.ao a h1 (.inr z), h3⟩
  | _ => exact q
theorem je_fb (h : JE T X Γ e .f1 f) : JE T X Γ e .b1 f := by
  refine je_sub h fun K g σ H0 H st d v I q k => k g (.refl g H) I ?_
  cases d with
  | lst ds =>
    obtain ⟨a, vs, e, h1, h2, h3⟩ := q
    exact ⟨a, vs, e, h1, fun z => h2.2.1 (.inr z), h3⟩
  | _ => exact q
/-- a fresh list becomes shared -/
theorem je_f (h : JE T X Γ e .f1 f) : JE T X Γ e .sh f := by
  refine ⟨fun W tk => PE.imp (h.run W tk) fun σ H Q ⟨g, st, I, p⟩ => ⟨g, st, I, ?_⟩⟩
  cases e : f st with
  | ok d st' =>
    rw [e] at p
    intro v H' g' s r q
    cases d with
    | lst ds =>
      obtain ⟨a, vs, e, h1, h2, h3⟩ := q
      subst e
      refine p _ H' (g'.add a) ⟨s.toStep.add h2.2.2, s.qf, s.qo⟩ (r.add h1 h2.2.1) ?_
      simp only [RpM, Rp]
      exact ⟨a, vs, rfl, .inr rfl, h1, h3.add⟩
    | _ => exact p v H' g' s r q
  | raise ex st' => rw [e] at p; exact p
  | stuck => rw [e] at p; exact p
end
end DL
set_option linter.all false
set_option Elab.async false
set_option maxRecDepth 100000
namespace DL
open PySem PySem.Spec PyProof.Rows L2
/-! ### operators -/
structure BinR (X : Cx) (T : Tb) (op : Operator) (m1 m2 m : Mo) (o : D → D → S → R D) : Prop where
  ex : ∃ r : R2, OpR X (binaryOp op) r ∧ ∀ (Γ : Fls) g σ H st W (Q : VK) x y d1 d2 H0 H1, SR X.K T Γ g σ H st → RpM X.K T g H0 H m1 d1 x → RpM X.K T g H1 H m2 d2 y → PostE X.K T Γ σ g H m W Q (o d1 d2 st) → r x y H Q
section
variable {T : Tb} {X : Cx} {Γ : Fls} {e a b c : Expr} {m m1 m2 m3 : Mo} {f f1 f2 f3 : S → R D} {pos : Pos}
theorem je_op {op : Operator} {o : D → D → S → R D} (h : BinR X T op m1 m2 m o) (ha : JE T X Γ a m1 f1) (hb : JE T X Γ b m2 f2) : JE T X Γ (.BinOp a op b pos) m (e2 o f1 f2) := by
  obtain ⟨r, ho, key⟩ := h.ex
  refine ⟨fun W tk => PE.imp (pe_op ho (ha.run W tk) (hb.run W tk)) fun σ H Q ⟨g, st, I, p⟩ => ?_⟩
  refine te_bind ipE I p fun d1 s1 x H1 g1 q1 I1 r1 p1 => te_bind ipE I1 p1 fun d2 s2 y H2 g2 q2 I2 r2 p2 => ?_
  exact key Γ g2 σ H2 s2 W Q x y d1 d2 H H1 I2 (r1.step I1.wf I2.wf q2) r2 p2
def addD : D → D → S → R D
  | .int i, .int j, s => .ok (.int (i + j)) s
  | .int i, .bl k, s => .ok (.int (i + b2i k)) s
  | .str x, .str y, s => if x.length + y.length ≤ sizeLine then .ok (.str (x ++ y)) s else .stuck
  | .tup xs, .tup ys, s => if xs.length + ys.length ≤ sizeLine then .ok (.tup (xs ++ ys)) s else .stuck
  | .lst xs, .lst ys, s => if xs.length + ys.length ≤ sizeLine then .ok (.lst (xs ++ ys)) s else .stuck
  | _, _, _ => .stuck
def subD : D → D → S → R D
  | .int i, .int j, s => .ok (.int (i - j)) s
  | .bl i, .bl j, s => .ok (.int (b2i i - b2i j)) s
  | _, _, _ => .stuck
def mulD : D → D → S → R D
  | .int i, .int j, s => if i.natAbs.log2 + j.natAbs.log2 < 100000000 then .ok (.int (i * j)) s else .stuck
  | .lst xs, .int k, s => if k.natAbs < 2 ^ 63 ∧ xs.length * k.toNat ≤ sizeLine then .ok (.lst (List.replicate k.toNat xs).flatten) s else .stuck
  | .tup xs, .int k, s => if xs ≠ [] ∧ 2 ≤ k.toNat ∧ k.toNat ≤ 1000 ∧ xs.length ≤ 1000 then .ok (.tup (List.replicate k.toNat xs).flatten) s else .stuck
  | _, _, _ => .stuck
def fdivD : D → D → S → R D
  | .int i, .int j, s => if j ≠ 0 ∧ j.natAbs.log2 < 9000 then .ok (.int (i.fdiv j)) s else .stuck
  | _, _, _ => .stuck
def modD : D → D → S → R D
  | .int i, .int j, s => if j ≠ 0 then .ok (.int (i.fmod j)) s else .stuck
  | _, _, _ => .stuck
def powD : D → D → S → R D
  | .int i, .int j, s => if 0 ≤ j ∧ j.toNat ≤ 1000000 ∧ i.natAbs < 2 ^ 64 then .ok (.int (i ^ j.toNat)) s else .stuck
  | _, _, _ => .stuck
theorem Rps.repl {K : PySem.W.Frag} {g : Gh} {H : Hp} {ds : List D} {vs : List V} (h : Rps K T g H ds vs) : ∀ n : Nat, Rps K T g H (List.replicate n ds).flatten (List.replicate n vs).flatten
  | 0 => by simpa using Rps.nil
  | n + 1 => by
    rw [List.replicate_succ, List.replicate_succ, List.flatten_cons, List.flatten_cons]
    exact h.append (Rps.repl h n)
/-- a new tuple -/
theorem post_tup {K : PySem.W.Frag} {σ : L2.St} {g : Gh} {H : Hp} {st : S} {W : WX} {Q : VK} {ds : List D} {vs : List V} {p : Addr} (I : SR K T Γ g σ H st) (r : Rps K T g H ds vs) (hp : H p = none)
    (q : PostE K T Γ σ g H .sh W Q (.ok (.tup ds) st)) : Q (.ref p) (upd H p (.tup vs)) := by
  refine q _ _ g ⟨.new hp, rfl, fun i b hb => ?_⟩ (I.new hp) ?_
  · obtain ⟨o, e, _⟩ := I.wf.ot b (.inl ⟨i, hb⟩)
    rw [upd_ne (ne_of_none e hp)]
  · simp only [RpM, Rp]
    exact ⟨p, vs, rfl, .of upd_same, r.step I.wf (.new hp)⟩
theorem post_tup1 {K : PySem.W.Frag} {σ : L2.St} {g : Gh} {H : Hp} {st : S} {W : WX} {Q : VK} {ds : List D} {vs : List V} {p : Addr} (I : SR K T Γ g σ H st) (r : Rps K T g H ds vs) (hp : H p = none)
    (q : PostE K T Γ σ g H .f1 W Q (.ok (.tup ds) st)) : Q (.ref p) (upd H p (.tup vs)) := by
  refine q _ _ g ⟨.new hp, rfl, fun i b hb => ?_⟩ (I.new hp) ?_
  · obtain ⟨o, e, _⟩ := I.wf.ot b (.inl ⟨i, hb⟩)
    rw [upd_ne (ne_of_none e hp)]
  · simp only [RpM, Rp]
    exact ⟨p, vs, rfl, .of upd_same, r.step I.wf (.new hp)⟩
/-- a new list -/
theorem post_lst {K : PySem.W.Frag} {σ : L2.St} {g : Gh} {H : Hp} {st : S} {W : WX} {Q : VK} {ds : List D} {vs : List V} {p : Addr} (I : SR K T Γ g σ H st) (r : Rps K T g H ds vs) (hp : H p = none)
    (q : PostE K T Γ σ g H .f1 W Q (.ok (.lst ds) st)) : Q (.ref p) (upd H p (.lst vs)) := by
  refine q _ _ g ⟨.new hp, rfl, fun i b hb => ?_⟩ (I.new hp) ?_
  · obtain ⟨o, e, _⟩ := I.wf.ot b (.inl ⟨i, hb⟩)
    rw [upd_ne (ne_of_none e hp)]
  · exact ⟨p, vs, rfl, upd_same, ⟨I.wf.nota hp, I.wf.noto hp, hp⟩, r.step I.wf (.new hp)⟩
/-- a value that is no list, whatever the mode -/
theorem post_v {K : PySem.W.Frag} {σ : L2.St} {g : Gh} {H : Hp} {st : S} {W : WX} {Q : VK} {d : D} {v : V} {m : Mo} (I : SR K T Γ g σ H st) (q : PostE K T Γ σ g H m W Q (.ok d st)) (r : RpM K T g H H m d v) : Q v H := q v H g (.refl g H) I r
theorem b_lst {K : PySem.W.Frag} {g : Gh} {H0 H : Hp} {ds : List D} {v : V} (h : RpM K T g H0 H .b1 (.lst ds) v) : ∃ a vs, v = .ref a ∧ H a = some (.lst vs) ∧ a ∉ g.mu ∧ Rps K T g H ds vs := h
theorem b_int {K : PySem.W.Frag} {g : Gh} {H0 H : Hp} {i : Int} {v : V} (h : RpM K T g H0 H .b1 (.int i) v) : v = .int i := by simpa [RpM, Rp] using h
theorem b_bl {K : PySem.W.Frag} {g : Gh} {H0 H : Hp} {i : Bool} {v : V} (h : RpM K T g H0 H .b1 (.bl i) v) : v = .bl i := by simpa [RpM, Rp] using h
theorem b_str {K : PySem.W.Frag} {g : Gh} {H0 H : Hp} {i : Str} {v : V} (h : RpM K T g H0 H .b1 (.str i) v) : v = .str i := by simpa [RpM, Rp] using h
theorem b_non {K : PySem.W.Frag} {g : Gh} {H0 H : Hp} {v : V} (h : RpM K T g H0 H .b1 .non v) : v = .non := by simpa [RpM, Rp] using h
theorem b_tup {K : PySem.W.Frag} {g : Gh} {H0 H : Hp} {ds : List D} {v : V} (h : RpM K T g H0 H .b1 (.tup ds) v) : ∃ a vs, v = .ref a ∧ SqT K H a vs ∧ Rps K T g H ds vs := by simpa [RpM, Rp] using h
theorem rm_int {K : PySem.W.Frag} {g : Gh} {H0 H : Hp} {i : Int} {m : Mo} : RpM K T g H0 H m (.int i) (.int i) := by cases m <;> simp only [RpM, Rp]
theorem rm_bl {K : PySem.W.Frag} {g : Gh} {H0 H : Hp} {i : Bool} {m : Mo} : RpM K T g H0 H m (.bl i) (.bl i) := by cases m <;> simp only [RpM, Rp]
theorem rm_str {K : PySem.W.Frag} {g : Gh} {H0 H : Hp} {i : Str} {m : Mo} : RpM K T g H0 H m (.str i) (.str i) := by cases m <;> simp only [RpM, Rp]
theorem rm_non {K : PySem.W.Frag} {g : Gh} {H0 H : Hp} {m : Mo} : RpM K T g H0 H m .non .non := by cases m <;> simp only [RpM, Rp]
theorem rp_int {K : PySem.W.Frag} {g : Gh} {H : Hp} {i : Int} : Rp K T g H (.int i) (.int i) := by simp only [Rp]
theorem bin_add : BinR X T .Add .b1 .b1 .f1 addD := by
  refine ⟨_, (op_add (X := X)).or (op_add_ib.or (op_add_str.or (op_catA.or op_cat))), fun Γ g σ H st W Q x y d1 d2 H0 H1 I r1 r2 p => ?_⟩
  unfold addD at p
  split at p
  · rename_i i j
    exact .inl ⟨i, j, b_int r1, b_int r2, post_v I p rm_int⟩
  · rename_i i j
    exact .inr (.inl ⟨i, j, b_int r1, b_bl r2, post_v I p rm_int⟩)
  · rename_i i j
    split at p
    · exact .inr (.inr (.inl ⟨i, j, b_str r1, b_str r2, by assumption, post_v I p rm_str⟩))
    · exact p.elim
  · rename_i xs ys
    split at p
    · rename_i hz
      obtain ⟨a, vs, e1, s1, q1⟩ := b_tup r1
      obtain ⟨b, ws, e2, s2, q2⟩ := b_tup r2
      subst e1 e2
      refine .inr (.inr (.inr (.inl ⟨a, b, vs, ws, rfl, rfl, s1, s2, by rw [q1.length, q2.length]; exact hz, fun e => ?_, fun _ e => ?_, fun _ _ p' hp => post_tup1 I (q1.append q2) hp p⟩)))
      · have e0 : xs = [] := by
          have := q1.length
          rw [e] at this
          exact List.eq_nil_of_length_eq_zero this.symm
        subst e0
        refine post_v I p ?_
        simp only [RpM, Rp, List.nil_append]
        exact ⟨b, ws, rfl, s2, q2⟩
      · have e0 : ys = [] := by
          have := q2.length
          rw [e] at this
          exact List.eq_nil_of_length_eq_zero this.symm
        subst e0
        refine post_v I p ?_
        simp only [RpM, Rp, List.append_nil]
        exact ⟨a, vs, rfl, s1, q1⟩
    · exact p.elim
  · rename_i xs ys
    split at p
    · rename_i hz
      obtain ⟨a, vs, e1, s1, _, q1⟩ := b_lst r1
      obtain ⟨b, ws, e2, s2, _, q2⟩ := b_lst r2
      subst e1 e2
      exact .inr (.inr (.inr (.inr ⟨a, b, vs, ws, rfl, rfl, s1, s2, by rw [q1.length, q2.length]; exact hz, fun p' hp => post_lst I (q1.append q2) hp p⟩)))
    · exact p.elim
  · exact p.elim
theorem op_subB : OpR X (binaryOp .Sub) (fun x y H Q => ∃ i k, x = .bl i ∧ y = .bl k ∧ Q (.int (b2i i - b2i k)) H) := by
  intro pins s σ H x y v u Q I rx ry h
  obtain ⟨i, k, rfl, rfl, q⟩ := h
  cases rx
  cases ry
  exact sub_bool ⟨.int (b2i i - b2i k), H, I.tok _, ⟨_, rfl⟩, q⟩
theorem bin_sub : BinR X T .Sub .b1 .b1 .sh subD := by
  refine ⟨_, (op_sub (X := X)).or op_subB, fun Γ g σ H st W Q x y d1 d2 H0 H1 I r1 r2 p => ?_⟩
  unfold subD at p
  split at p
  · rename_i i j
    exact .inl ⟨i, j, b_int r1, b_int r2, post_v I p rm_int⟩
  · rename_i i j
    exact .inr ⟨i, j, b_bl r1, b_bl r2, post_v I p rm_int⟩
  · exact p.elim
theorem mulOkX {i j : Int} (h : i.natAbs.log2 + j.natAbs.log2 < 100000000) : IntMulOk i j := by
  have b : ∀ x : Int, Builtin.Int.intBits x ≤ x.natAbs.log2 + 1 := by
    intro x
    unfold Builtin.Int.intBits
    split <;> omega
  exact mulOk_of_bits (b i) (b j) (by omega)
theorem op_mulX : OpR X (binaryOp .Mult) (rI (fun i j => i.natAbs.log2 + j.natAbs.log2 < 100000000) fun i j => .int (i * j)) := opI fun _ _ _ _ _ _ _ hc q => mul_int q (mulOkX hc)
theorem bin_mul : BinR X T .Mult .b1 .b1 .f1 mulD := by
  refine ⟨_, (op_mulX (X := X)).or (op_rep.or op_repT), fun Γ g σ H st W Q x y d1 d2 H0 H1 I r1 r2 p => ?_⟩
  unfold mulD at p
  split at p
  · rename_i i j
    split at p
    · exact .inl ⟨i, j, b_int r1, b_int r2, by assumption, post_v I p rm_int⟩
    · exact p.elim
  · rename_i xs k
    split at p
    · rename_i hz
      obtain ⟨a, vs, e1, s1, _, q1⟩ := b_lst r1
      subst e1
      exact .inr (.inl ⟨a, k, vs, rfl, b_int r2, s1, by have := hz.1; omega, by have := hz.1; omega, by rw [q1.length]; exact hz.2, fun p' hp => post_lst I (q1.repl _) hp p⟩)
    · exact p.elim
  · rename_i xs k
    split at p
    · rename_i hz
      obtain ⟨a, vs, e1, s1, q1⟩ := b_tup r1
      subst e1
      exact .inr (.inr ⟨a, k, vs, rfl, b_int r2, s1, fun e => hz.1 (by
        have := q1.length
        rw [e] at this
        exact List.eq_nil_of_length_eq_zero this.symm), by have := hz.2.1; omega, by have := hz.2.2.1; omega, by rw [q1.length]; exact hz.2.2.2, fun p' hp => post_tup1 I (q1.repl _) hp p⟩)
    · exact p.elim
  · exact p.elim
theorem op_fdivG : OpR X (binaryOp .FloorDiv) (rI (fun _ j => j ≠ 0 ∧ j.natAbs.log2 < 9000) fun i j => .int (i.fdiv j)) := opI fun _ _ _ _ _ _ _ hc q => floordiv_int hc.1 q (.inl (PyProof.noPylong_of_log2 hc.2))
theorem bin_fdiv : BinR X T .FloorDiv .b1 .b1 .sh fdivD := by
  refine ⟨_, op_fdivG (X := X), fun Γ g σ H st W Q x y d1 d2 H0 H1 I r1 r2 p => ?_⟩
  unfold fdivD at p
  split at p
  · rename_i i j
    split at p
    · exact ⟨i, j, b_int r1, b_int r2, by assumption, post_v I p rm_int⟩
    · exact p.elim
  · exact p.elim
theorem bin_mod : BinR X T .Mod .b1 .b1 .sh modD := by
  refine ⟨_, op_modN (X := X), fun Γ g σ H st W Q x y d1 d2 H0 H1 I r1 r2 p => ?_⟩
  unfold modD at p
  split at p
  · rename_i i j
    split at p
    · exact ⟨i, j, b_int r1, b_int r2, by assumption, post_v I p rm_int⟩
    · exact p.elim
  · exact p.elim
theorem bin_pow : BinR X T .Pow .b1 .b1 .sh powD := by
  refine ⟨_, op_pow (X := X), fun Γ g σ H st W Q x y d1 d2 H0 H1 I r1 r2 p => ?_⟩
  unfold powD at p
  split at p
  · rename_i i j
    split at p
    · rename_i hz
      exact ⟨i, j, b_int r1, b_int r2, ⟨hz.1, by have := hz.2.1; omega, hz.2.2⟩, post_v I p rm_int⟩
    · exact p.elim
  · exact p.elim
/-! one place -/
structure UniR (X : Cx) (T : Tb) (op : UnaryOp) (m1 m : Mo) (o : D → S → R D) : Prop where
  ex : ∃ r : V → Hp → VK → Prop, UnR X (unaryOp op) r ∧ ∀ (Γ : Fls) g σ H st W (Q : VK) x d H0, SR X.K T Γ g σ H st → RpM X.K T g H0 H m1 d x → PostE X.K T Γ σ g H m W Q (o d st) → r x H Q
theorem je_un {op : UnaryOp} {o : D → S → R D} (h : UniR X T op m1 m o) (ha : JE T X Γ a m1 f1) : JE T X Γ (.UnaryOp op a pos) m (e1 o f1) := by
  obtain ⟨r, ho, key⟩ := h.ex
  refine ⟨fun W tk => PE.imp (pe_un ho (ha.run W tk)) fun σ H Q ⟨g, st, I, p⟩ => ?_⟩
  exact te_bind ipE I p fun d1 s1 x H1 g1 q1 I1 r1 p1 => key Γ g1 σ H1 s1 W Q x d1 H I1 r1 p1
def negD : D → S → R D
  | .int i, s => .ok (.int (-i)) s
  | _, _ => .stuck
theorem uni_neg : UniR X T .USub .b1 .sh negD := by
  refine ⟨_, un_neg (X := X), fun Γ g σ H st W Q x d H0 I r1 p => ?_⟩
  unfold negD at p
  split at p
  · exact ⟨_, b_int r1, post_v I p rm_int⟩
  · exact p.elim
/-! comparisons -/
structure CmpR (X : Cx) (T : Tb) (op : CmpOp) (m1 m2 : Mo) (o : D → D → Option Bool) : Prop where
  ex : ∃ r : R2, OpR X (compareOp op) r ∧ ∀ (Γ : Fls) g σ H st (Q : VK) x y d1 d2 H0 H1 k, SR X.K T Γ g σ H st → RpM X.K T g H0 H m1 d1 x → RpM X.K T g H1 H m2 d2 y → o d1 d2 = some k → Q (.bl k) H → r x y H Q
def cmpD (o : D → D → Option Bool) : D → D → S → R D := fun d1 d2 s => match o d1 d2 with
  | some k => .ok (.bl k) s
  | none => .stuck
def cmpB (o : D → D → Option Bool) : D → D → S → R Bool := fun d1 d2 s => match o d1 d2 with
  | some k => .ok k s
  | none => .stuck
def t2 (op : D → D → S → R Bool) (f1 f2 : S → R D) : S → R Bool := fun st => (f1 st).bind fun d1 s1 => (f2 s1).bind fun d2 s2 => op d1 d2 s2
theorem je_cmp {op : CmpOp} {o : D → D → Option Bool} (h : CmpR X T op m1 m2 o) (ha : JE T X Γ a m1 f1) (hb : JE T X Γ b m2 f2) (hm : behindInMarks op b = false := by first | exact nomark _ (by decide) (by decide) | rfl) :
    JE T X Γ (.Compare a [op] [b] pos) .sh (e2 (cmpD o) f1 f2) := by
  obtain ⟨r, ho, key⟩ := h.ex
  refine ⟨fun W tk => PE.imp (pe_cmpR ho (ha.run W tk) (hb.run W tk) hm) fun σ H Q ⟨g, st, I, p⟩ => ?_⟩
  refine te_bind ipE I p fun d1 s1 x H1 g1 q1 I1 r1 p1 => te_bind ipE I1 p1 fun d2 s2 y H2 g2 q2 I2 r2 p2 => ?_
  unfold cmpD at p2
  split at p2
  · rename_i k e
    exact key Γ g2 σ H2 s2 Q x y d1 d2 H H1 k I2 (r1.step I1.wf I2.wf q2) r2 e (post_v I2 p2 rm_bl)
  · exact p2.elim
theorem jt_cmp {op : CmpOp} {o : D → D → Option Bool} (h : CmpR X T op m1 m2 o) (ha : JE T X Γ a m1 f1) (hb : JE T X Γ b m2 f2) (hm : behindInMarks op b = false := by first | exact nomark _ (by decide) (by decide) | rfl) :
    JT T X Γ (.Compare a [op] [b] pos) (t2 (cmpB o) f1 f2) := by
  obtain ⟨r, ho, key⟩ := h.ex
  refine ⟨fun W tk => PT.imp (pt_cmpR ho (ha.run W tk) (hb.run W tk) hm) fun σ H Q ⟨g, st, I, p⟩ => ?_⟩
  refine te_bind ipT I p fun d1 s1 x H1 g1 q1 I1 r1 p1 => te_bind ipT I1 p1 fun d2 s2 y H2 g2 q2 I2 r2 p2 => ?_
  unfold cmpB at p2
  split at p2
  · rename_i k e
    exact key Γ g2 σ H2 s2 _ x y d1 d2 H H1 k I2 (r1.step I1.wf I2.wf q2) r2 e ⟨k, rfl, p2 H2 g2 (.refl g2 H2) I2⟩
  · exact p2.elim
/-- < of whole numbers, by cases: it stands still where one of them is not known -/
def ltB : Int → Int → Bool
  | .ofNat a, .ofNat b => Nat.blt a b
  | .ofNat _, .negSucc _ => false
  | .negSucc _, .ofNat _ => true
  | .negSucc a, .negSucc b => Nat.blt b a
theorem ltB_eq (i j : Int) : ltB i j = decide (i < j) := by
  cases i with
  | ofNat a =>
    cases j with
    | ofNat b =>
      rw [Bool.eq_iff_iff]
      simp only [ltB, Nat.blt_eq, decide_eq_true_eq, Int.ofNat_eq_natCast]
      omega
    | negSucc b =>
      have h : ¬ (Int.ofNat a < Int.negSucc b) := by
        rw [Int.negSucc_eq, Int.ofNat_eq_natCast]
        omega
      rw [decide_eq_false h]
      rfl
  | negSucc a =>
    cases j with
    | ofNat b =>
      have h : Int.negSucc a < Int.ofNat b := by
        rw [Int.negSucc_eq, Int.ofNat_eq_natCast]
        omega
      rw [decide_eq_true h]
      rfl
    | negSucc b =>
      rw [Bool.eq_iff_iff]
      simp only [ltB, Nat.blt_eq, decide_eq_true_eq, Int.negSucc_eq]
      omega
theorem leB_eq (i j : Int) : (!ltB j i) = decide (i ≤ j) := by
  rw [ltB_eq, Bool.eq_iff_iff]
  simp
def iCmp (p : Int → Int → Bool) : D → D → Option Bool
  | .int i, .int j => some (p i j)
  | _, _ => none
theorem cmp_lt : CmpR X T .Lt .b1 .b1 (iCmp ltB) := by
  refine ⟨_, op_lt (X := X), fun Γ g σ H st Q x y d1 d2 H0 H1 k I r1 r2 e p => ?_⟩
  unfold iCmp at e
  split at e
  · cases e
    have p' : Q (.bl (ltB _ _)) H := p
    rw [ltB_eq] at p'
    exact ⟨_, _, b_int r1, b_int r2, p'⟩
  · cases e
theorem cmp_le : CmpR X T .LtE .b1 .b1 (iCmp fun i j => !ltB j i) := by
  refine ⟨_, op_le (X := X), fun Γ g σ H st Q x y d1 d2 H0 H1 k I r1 r2 e p => ?_⟩
  unfold iCmp at e
  split at e
  · cases e
    have p' : Q (.bl (!ltB _ _)) H := p
    rw [leB_eq] at p'
    exact ⟨_, _, b_int r1, b_int r2, p'⟩
  · cases e
theorem cmp_gt : CmpR X T .Gt .b1 .b1 (iCmp fun i j => ltB j i) := by
  refine ⟨_, op_gt (X := X), fun Γ g σ H st Q x y d1 d2 H0 H1 k I r1 r2 e p => ?_⟩
  unfold iCmp at e
  split at e
  · cases e
    have p' : Q (.bl (ltB _ _)) H := p
    rw [ltB_eq] at p'
    exact ⟨_, _, b_int r1, b_int r2, p'⟩
  · cases e
theorem cmp_ge : CmpR X T .GtE .b1 .b1 (iCmp fun i j => !ltB i j) := by
  refine ⟨_, op_ge (X := X), fun Γ g σ H st Q x y d1 d2 H0 H1 k I r1 r2 e p => ?_⟩
  unfold iCmp at e
  split at e
  · cases e
    have p' : Q (.bl (!ltB _ _)) H := p
    rw [leB_eq] at p'
    exact ⟨_, _, b_int r1, b_int r2, p'⟩
  · cases e
/-! equality, of data of any depth -/
mutual
def toP : D → Option PyData
  | .non => some .none
  | .bl b => some (.bool b)
  | .int i => some (.int i)
  | .str x => some (.str x)
  | .tup xs => (toPs xs).map .tuple
  | .lst xs => (toPs xs).map .list
  | .fn _ => none
  | .ref _ => none
  | .scr _ => none
  | .pt _ => none
def toPs : List D → Option (List PyData)
  | [] => some []
  | d :: ds => match toP d, toPs ds with
    | some p, some ps => some (p :: ps)
    | _, _ => none
end
mutual
theorem dp_of {K : PySem.W.Frag} {g : Gh} {H : Hp} : ∀ {d : D} {v : V} {p : PyData}, Rp K T g H d v → toP d = some p → Dp K H v p
  | .non, v, p, h, e => by
    simp only [Rp] at h
    simp only [toP] at e
    cases e
    subst h
    constructor
  | .bl b, v, p, h, e => by
    simp only [Rp] at h
    simp only [toP] at e
    cases e
    subst h
    constructor
  | .int b, v, p, h, e => by
    simp only [Rp] at h
    simp only [toP] at e
    cases e
    subst h
    constructor
  | .str b, v, p, h, e => by
    simp only [Rp] at h
    simp only [toP] at e
    cases e
    subst h
    constructor
  | .tup ds, v, p, h, e => by
    simp only [Rp] at h
    simp only [toP] at e
    obtain ⟨a, vs, rfl, h1, h2⟩ := h
    cases q : toPs ds with
    | none => rw [q] at e; cases e
    | some ps =>
      rw [q] at e
      cases e
      exact .tup h1 (dps_of h2 q)
  | .lst ds, v, p, h, e => by
    simp only [Rp] at h
    simp only [toP] at e
    obtain ⟨a, vs, rfl, h0, h1, h2⟩ := h
    cases q : toPs ds with
    | none => rw [q] at e; cases e
    | some ps =>
      rw [q] at e
      cases e
      exact .lst (.inl (.inl h1)) (dps_of h2 q)
  | .fn _, _, _, _, e => by simp only [toP] at e; cases e
  | .ref _, _, _, _, e => by simp only [toP] at e; cases e
  | .scr _, _, _, _, e => by simp only [toP] at e; cases e
  | .pt _, _, _, _, e => by simp only [toP] at e; cases e
theorem dps_of {K : PySem.W.Frag} {g : Gh} {H : Hp} : ∀ {ds : List D} {vs : List V} {ps : List PyData}, Rps K T g H ds vs → toPs ds = some ps → DpAll K H vs ps
  | [], vs, ps, h, e => by
    simp only [Rps] at h
    simp only [toPs] at e
    cases e
    subst h
    constructor
  | d :: ds, vs, ps, h, e => by
    simp only [Rps] at h
    simp only [toPs] at e
    obtain ⟨v, r, rfl, h1, h2⟩ := h
    cases q1 : toP d with
    | none => rw [q1] at e; cases e
    | some p =>
      cases q2 : toPs ds with
      | none => rw [q1, q2] at e; cases e
      | some ps' =>
        rw [q1, q2] at e
        cases e
        exact .cons (dp_of h1 q1) (dps_of h2 q2)
end
theorem dp_b {K : PySem.W.Frag} {g : Gh} {H0 H : Hp} {d : D} {v : V} {p : PyData} (h : RpM K T g H0 H .b1 d v) (e : toP d = some p) : Dp K H v p := by
  cases d with
  | lst ds =>
    obtain ⟨a, vs, rfl, h1, _, h2⟩ := h
    simp only [toP] at e
    cases q : toPs ds with
    | none => rw [q] at e; cases e
    | some ps =>
      rw [q] at e
      cases e
      exact .lst (.inl (.inl h1)) (dps_of h2 q)
  | _ => exact dp_of h e
def eqD (d e : D) : Option Bool := match toP d, toP e with
  | some p, some q => if SeqAt.shaped p && SeqAt.shaped q then some (PyData.eqv p q) else none
  | _, _ => none
def neD (d e : D) : Option Bool := (eqD d e).map (!·)
theorem cmp_eq (hu : X.A.units + 64 < cLine) : CmpR X T .Eq .b1 .b1 eqD := by
  refine ⟨_, op_eqD (X := X) hu, fun Γ g σ H st Q x y d1 d2 H0 H1 k I r1 r2 e p => ?_⟩
  unfold eqD at e
  split at e
  · rename_i p1 p2 h1 h2
    split at e
    · rename_i hs
      rw [Bool.and_eq_true] at hs
      cases e
      exact ⟨p1, p2, dp_b r1 h1, dp_b r2 h2, hs.1, hs.2, p⟩
    · cases e
  · cases e
theorem cmp_ne (hu : X.A.units + 64 < cLine) : CmpR X T .NotEq .b1 .b1 neD := by
  refine ⟨_, op_neD (X := X) hu, fun Γ g σ H st Q x y d1 d2 H0 H1 k I r1 r2 e p => ?_⟩
  unfold neD eqD at e
  split at e
  · rename_i p1 p2 h1 h2
    split at e
    · rename_i hs
      rw [Bool.and_eq_true] at hs
      cases e
      exact ⟨p1, p2, dp_b r1 h1, dp_b r2 h2, hs.1, hs.2, p⟩
    · cases e
  · cases e
/-- is None -/
def isNon : D → Bool
  | .non => true
  | _ => false
def isND (d e : D) : Option Bool := if isNon e then some (isNon d) else none
def notND (d e : D) : Option Bool := if isNon e then some (!isNon d) else none
theorem non_dec {K : PySem.W.Frag} {g : Gh} {H0 H : Hp} {d : D} {v : V} (h : RpM K T g H0 H .b1 d v) : decide (v = V.non) = isNon d := by
  cases d with
  | non => have e := b_non h; subst e; rfl
  | bl _ => have e := b_bl h; subst e; rfl
  | int _ => have e := b_int h; subst e; rfl
  | str _ => have e := b_str h; subst e; rfl
  | tup _ => obtain ⟨a, vs, e, _⟩ := b_tup h; subst e; rfl
  | lst _ => obtain ⟨a, vs, e, _⟩ := b_lst h; subst e; rfl
  | fn _ => simp only [RpM, Rp] at h; obtain ⟨a, e, _⟩ := h; subst e; rfl
  | ref _ => simp only [RpM, Rp] at h; obtain ⟨a, e, _⟩ := h; subst e; rfl
  | scr _ => simp only [RpM, Rp] at h; obtain ⟨a, e, _⟩ := h; subst e; rfl
  | pt _ => simp only [RpM, Rp] at h; obtain ⟨a, vs, o, e, _⟩ := h; subst e; rfl
theorem isNon_eq {d : D} (h : isNon d = true) : d = .non := by
  cases d <;> first | rfl | cases h
theorem cmp_isN : CmpR X T .Is .b1 .b1 isND := by
  refine ⟨_, op_isN (X := X), fun Γ g σ H st Q x y d1 d2 H0 H1 k I r1 r2 e p => ?_⟩
  unfold isND at e
  split at e
  · rename_i hn
    have e2 := isNon_eq hn
    subst e2
    have e' := Option.some.inj e
    refine ⟨b_non r2, ?_⟩
    rw [non_dec r1, e']
    exact p
  · cases e
theorem cmp_notN : CmpR X T .IsNot .b1 .b1 notND := by
  refine ⟨_, op_notN (X := X), fun Γ g σ H st Q x y d1 d2 H0 H1 k I r1 r2 e p => ?_⟩
  unfold notND at e
  split at e
  · rename_i hn
    have e2 := isNon_eq hn
    subst e2
    have e' := Option.some.inj e
    refine ⟨b_non r2, ?_⟩
    rw [non_dec r1, e']
    exact p
  · cases e
end
end DL
set_option linter.all false
set_option Elab.async false
set_option maxRecDepth 100000
namespace DL
open PySem PySem.Spec PyProof.Rows L2
section
variable {T : Tb} {X : Cx} {Γ : Fls} {e a b c : Expr} {m m1 m2 m3 : Mo} {f f1 f2 f3 : S → R D} {pos : Pos} {es rest : List Expr} {k1 k2 : S → R Bool} {fs : S → R (List D)}
/-! ### tests -/
theorem toB_spec {K : PySem.W.Frag} {σ : L2.St} {g : Gh} {H : Hp} {st : S} {W : WX} {Q : Bool → Hp → Prop} {d : D} (h : PostT K T Γ σ g H W Q (match d with | .bl b => .ok b st | _ => .stuck)) : ∃ b, d = .bl b ∧ PostT K T Γ σ g H W Q (.ok b st) := by
  split at h
  · exact ⟨_, rfl, h⟩
  · exact h.elim
/-- a value's truth -/
def truD : D → Option Bool
  | .non => some false
  | .bl b => some b
  | .int i => some (i != 0)
  | .str x => if x.length ≤ sizeLine then some ((x.length : Int) != 0) else none
  | .tup xs => some (!xs.isEmpty)
  | .lst xs => some (!xs.isEmpty)
  | _ => none
def truB : D → S → R Bool := fun d s => match truD d with
  | some k => .ok k s
  | none => .stuck
def tTru (f : S → R D) : S → R Bool := fun st => (f st).bind truB
theorem Rps.isEmpty {K : PySem.W.Frag} {g : Gh} {H : Hp} {ds : List D} {vs : List V} (h : Rps K T g H ds vs) : vs.isEmpty = ds.isEmpty := by
  have := h.length
  cases ds <;> cases vs <;> simp_all
theorem tru_of {K : PySem.W.Frag} {g : Gh} {H0 H : Hp} {d : D} {v : V} {k : Bool} (r : RpM K T g H0 H .b1 d v) (e : truD d = some k) : TruV K v H k := by
  unfold truD at e
  split at e
  · have z := b_non r; subst z; cases e; exact rfl
  · have z := b_bl r; subst z; cases e; exact rfl
  · have z := b_int r; subst z; cases e; exact rfl
  · have z := b_str r; subst z
    split at e
    · cases e; exact ⟨by assumption, rfl⟩
    · cases e
  · obtain ⟨p, vs, z, h1, h2⟩ := b_tup r
    subst z
    cases e
    exact .inr (.inl ⟨vs, h1, by rw [h2.isEmpty]⟩)
  · obtain ⟨p, vs, z, h1, _, h2⟩ := b_lst r
    subst z
    cases e
    exact .inl ⟨vs, .inl (.inl h1), by rw [h2.isEmpty]⟩
  · cases e
theorem jt_tru (ha : JE T X Γ a .b1 f) (he : ∀ whole, isTrue a X.env whole = (do let v ← whole; standAt a.pos; holding [v] (truthy v)) := by intro _; rfl) : JT T X Γ a (tTru f) := by
  refine ⟨fun W tk => PT.imp (pt_truth (ha.run W tk) he) fun σ H Q ⟨g, st, I, p⟩ => ?_⟩
  refine te_bind ipT I p fun d1 s1 x H1 g1 q1 I1 r1 p1 => ?_
  unfold truB at p1
  split at p1
  · rename_i k e
    exact ⟨k, tru_of r1 e, p1 H1 g1 (.refl g1 H1) I1⟩
  · exact p1.elim
theorem jw_pt (h : JW T X Γ e k1) : JT T X Γ e k1 := ⟨fun W tk => (h.run W tk).pt⟩
theorem jw_and1 (ha : JT T X Γ a k1) : JW T X Γ (.BoolOp .And [a] pos) k1 := ⟨fun W tk => pw_and1 (ha.run W tk)⟩
theorem jw_or1 (ha : JT T X Γ a k1) : JW T X Γ (.BoolOp .Or [a] pos) k1 := ⟨fun W tk => pw_or1 (ha.run W tk)⟩
theorem jw_and (ha : JT T X Γ a k1) (hb : JW T X Γ (.BoolOp .And (b :: rest) pos) k2) : JW T X Γ (.BoolOp .And (a :: b :: rest) pos) (tAndS k1 k2) := by
  refine ⟨fun W tk => PW.imp (pw_and (ha.run W tk) (hb.run W tk)) fun σ H Q ⟨g, st, I, p⟩ => ?_⟩
  refine tt_bind ipT I p fun k s1 H1 g1 q1 I1 p1 => ?_
  cases k with
  | true => exact ⟨g1, s1, I1, p1⟩
  | false => exact p1 H1 g1 (.refl g1 H1) I1
theorem jw_or (ha : JT T X Γ a k1) (hb : JW T X Γ (.BoolOp .Or (b :: rest) pos) k2) : JW T X Γ (.BoolOp .Or (a :: b :: rest) pos) (tOrS k1 k2) := by
  refine ⟨fun W tk => PW.imp (pw_or (ha.run W tk) (hb.run W tk)) fun σ H Q ⟨g, st, I, p⟩ => ?_⟩
  refine tt_bind ipT I p fun k s1 H1 g1 q1 I1 p1 => ?_
  cases k with
  | true => exact p1 H1 g1 (.refl g1 H1) I1
  | false => exact ⟨g1, s1, I1, p1⟩
theorem jt_not (ha : JT T X Γ a k1) : JT T X Γ (.UnaryOp .Not a pos) (tNotS k1) := by
  refine ⟨fun W tk => PT.imp (pt_not (ha.run W tk)) fun σ H Q ⟨g, st, I, p⟩ => ?_⟩
  exact tt_bind ipT I p fun k s1 H1 g1 q1 I1 p1 => p1 H1 g1 (.refl g1 H1) I1
/-! ### and, or, not, if as values -/
theorem je_if (hc : JT T X Γ c k1) (ha : JE T X Γ a m f1) (hb : JE T X Γ b m f2) : JE T X Γ (.IfExp c a b pos) m (eIf k1 f1 f2) := by
  refine ⟨fun W tk => PE.imp (pe_ifExp (hc.run W tk) (ha.run W tk) (hb.run W tk)) fun σ H Q ⟨g, st, I, p⟩ => ?_⟩
  refine tt_bind ipE I p fun k s1 H1 g1 q1 I1 p1 => ?_
  cases k with
  | true => exact ⟨g1, s1, I1, p1⟩
  | false => exact ⟨g1, s1, I1, p1⟩
def eAndB (f r : S → R D) : S → R D := fun st => (f st).bind fun d s => match d with
  | .bl true => r s
  | .bl false => .ok (.bl false) s
  | _ => .stuck
def eOrB (f r : S → R D) : S → R D := fun st => (f st).bind fun d s => match d with
  | .bl true => .ok (.bl true) s
  | .bl false => r s
  | _ => .stuck
theorem je_and (ha : JE T X Γ a .b1 f1) (hb : JE T X Γ (.BoolOp .And (b :: rest) pos) .sh f2) : JE T X Γ (.BoolOp .And (a :: b :: rest) pos) .sh (eAndB f1 f2) := by
  refine ⟨fun W tk => PE.imp (pe_and (ha.run W tk) (hb.run W tk)) fun σ H Q ⟨g, st, I, p⟩ => ?_⟩
  refine te_bind ipE I p fun d s1 x H1 g1 q1 I1 r1 p1 => ?_
  split at p1
  · exact ⟨true, b_bl r1, by rw [if_pos rfl]; exact ⟨g1, s1, I1, p1⟩⟩
  · exact ⟨false, b_bl r1, by rw [if_neg Bool.false_ne_true]; exact post_v I1 p1 rm_bl⟩
  · exact p1.elim
theorem je_one {op} (h : JE T X Γ a m f) : JE T X Γ (.BoolOp op [a] pos) m f := ⟨fun W tk => pe_one (h.run W tk)⟩
def eNotB (f : S → R D) : S → R D := fun st => (f st).bind fun d s => match d with
  | .bl k => .ok (.bl (!k)) s
  | _ => .stuck
theorem je_not (ha : JE T X Γ a .b1 f1) : JE T X Γ (.UnaryOp .Not a pos) .sh (eNotB f1) := by
  refine ⟨fun W tk => PE.imp (pe_not (ha.run W tk)) fun σ H Q ⟨g, st, I, p⟩ => ?_⟩
  refine te_bind ipE I p fun d s1 x H1 g1 q1 I1 r1 p1 => ?_
  split at p1
  · exact ⟨_, b_bl r1, post_v I1 p1 rm_bl⟩
  · exact p1.elim
/-- x or y, by truth -/
def eOrV (f r : S → R D) : S → R D := fun st => (f st).bind fun d s => match truD d with
  | some true => .ok d s
  | some false => r s
  | none => .stuck
theorem m_b {K : PySem.W.Frag} {g : Gh} {H0 H : Hp} {d : D} {v : V} (wf : WF g H) (hm : m = .sh ∨ m = .f1 ∨ m = .b1) (r : RpM K T g H0 H m d v) : RpM K T g H0 H .b1 d v := by
  rcases hm with rfl | rfl | rfl
  · cases d with
    | lst ds =>
      simp only [RpM, Rp] at r
      obtain ⟨a, vs, e, h1, h2, h3⟩ := r
      exact ⟨a, vs, e, h2, fun z => wf.ao a h1 (.inr z), h3⟩
    | _ => exact r
  · cases d with
    | lst ds =>
      obtain ⟨a, vs, e, h1, h2, h3⟩ := r
      exact ⟨a, vs, e, h1, fun z => h2.2.1 (.inr z), h3⟩
    | _ => exact r
  · exact r
theorem je_orV (hm : m = .sh ∨ m = .f1 ∨ m = .b1) (ha : JE T X Γ a m f1) (hb : JE T X Γ (.BoolOp .Or (b :: rest) pos) m f2) : JE T X Γ (.BoolOp .Or (a :: b :: rest) pos) m (eOrV f1 f2) := by
  refine ⟨fun W tk => PE.imp (pe_orT (ha.run W tk) (hb.run W tk)) fun σ H Q ⟨g, st, I, p⟩ => ?_⟩
  refine ⟨g, st, I, ?_⟩
  unfold eOrV at p
  cases e : f1 st with
  | ok d s1 =>
    rw [e] at p
    intro x H1 g1 q1 I1 r1
    have p' : PostE X.K T Γ σ g H m W Q (match truD d with
      | some true => .ok d s1
      | some false => f2 s1
      | none => .stuck) := p
    split at p'
    · rename_i e'
      exact ⟨true, tru_of (m_b I1.wf hm r1) e', by rw [if_pos rfl]; exact p' x H1 g1 q1 I1 r1⟩
    · rename_i e'
      exact ⟨false, tru_of (m_b I1.wf hm r1) e', by rw [if_neg Bool.false_ne_true]; exact ⟨g1, s1, I1, p'.shift q1⟩⟩
    · exact p'.elim
  | raise x s => rw [e] at p; exact p
  | stuck => rw [e] at p; exact p
/-! ### argument lists, displays -/
theorem ja_nil : JA T X Γ [] aNil := ⟨fun W tk => PA.imp pa_nil fun σ H Q ⟨g, st, I, p⟩ => p [] H g (.refl g H) I .nil⟩
theorem ja_cons (ha : JE T X Γ e .sh f) (hr : JA T X Γ es fs) (hs : starEach (e :: es) X.env = (false, eval e X.env) :: starEach es X.env := by rfl) : JA T X Γ (e :: es) (aCons f fs) := by
  refine ⟨fun W tk => PA.imp (pa_cons (ha.run W tk) (hr.run W tk) hs) fun σ H Q ⟨g, st, I, p⟩ => ?_⟩
  refine te_bind ipA I p fun d1 s1 x H1 g1 q1 I1 r1 p1 => ta_bind ipA I1 p1 fun ds s2 xs H2 g2 q2 I2 r2 p2 => ?_
  exact p2 _ H2 g2 (.refl g2 H2) I2 (.cons (Rp.step I1.wf q2.toStep r1) r2)
def eTup (fs : S → R (List D)) : S → R D := fun st => (fs st).bind fun ds s => if ds.length ≤ sizeLine then .ok (.tup ds) s else .stuck
def eLst (fs : S → R (List D)) : S → R D := fun st => (fs st).bind fun ds s => if ds.length ≤ sizeLine then .ok (.lst ds) s else .stuck
theorem je_tup {x1} (h : JA T X Γ es fs) : JE T X Γ (.Tuple es x1 pos) .sh (eTup fs) := by
  refine ⟨fun W tk => PE.imp (pe_tup (h.run W tk)) fun σ H Q ⟨g, st, I, p⟩ => ?_⟩
  refine ta_bind ipE I p fun ds s1 vs H1 g1 q1 I1 r1 p1 => ?_
  split at p1
  · exact ⟨by rw [r1.length]; assumption, fun p' hp => post_tup I1 r1 hp p1⟩
  · exact p1.elim
theorem je_lst (h : JA T X Γ es fs) : JE T X Γ (.List es pos) .f1 (eLst fs) := by
  refine ⟨fun W tk => PE.imp (pe_lst (h.run W tk)) fun σ H Q ⟨g, st, I, p⟩ => ?_⟩
  refine ta_bind ipE I p fun ds s1 vs H1 g1 q1 I1 r1 p1 => ?_
  split at p1
  · exact ⟨by rw [r1.length]; assumption, fun p' hp => post_lst I1 r1 hp p1⟩
  · exact p1.elim
/-! ### subscripts -/
def mLst (s : S) (n : Nat) : Option (List D) := match s.m[n]? with
  | some (.lst ds) => some ds
  | _ => none
def ixD : D → D → S → R D
  | .lst xs, .int i, s => match atI xs i with
    | some d => .ok d s
    | none => .stuck
  | .tup xs, .int i, s => match atI xs i with
    | some d => .ok d s
    | none => .stuck
  | .scr xs, .int i, s => match atI xs i with
    | some d => .ok (.int d) s
    | none => .stuck
  | .str x, .int i, s => if x.length ≤ sizeLine then match atI x.cps.toList i with
      | some c => .ok (.str ⟨#[c]⟩) s
      | none => .stuck
    else .stuck
  | .ref n, .int i, s => match mLst s n with
    | some xs => (match atI xs i with
      | some d => .ok d s
      | none => .stuck)
    | none => .stuck
  | _, _, _ => .stuck
theorem Rps.atI {K : PySem.W.Frag} {g : Gh} {H : Hp} {ds : List D} {vs : List V} {i : Int} {d : D} (h : Rps K T g H ds vs) (e : L2.atI ds i = some d) : ∃ v, L2.atI vs i = some v ∧ Rp K T g H d v := by
  unfold L2.atI at e ⊢
  rw [h.length]
  cases q : ixN ds.length i with
  | none => rw [q] at e; cases e
  | some j =>
    rw [q] at e
    exact h.get e
theorem atI_map {α β : Type} (F : α → β) (xs : List α) (i : Int) : L2.atI (xs.map F) i = (L2.atI xs i).map F := by
  unfold L2.atI
  rw [List.length_map]
  cases ixN xs.length i with
  | none => rfl
  | some j => simp
theorem ScrOk.sq {K : PySem.W.Frag} {g : Gh} {H : Hp} {a : Addr} {vs : List V} (h : ScrOk K g H a vs) : SqL K H a vs := by
  rcases h with ⟨_, h⟩ | ⟨o, h⟩ | h
  · exact .inl (.inl h)
  · exact .inl (.inr ⟨o, h⟩)
  · exact .inr h
theorem mcell {K : PySem.W.Frag} {g : Gh} {σ : L2.St} {H : Hp} {st : S} {n : Nat} {ds : List D} {a : Addr} (I : SR K T Γ g σ H st) (h : mLst st n = some ds) (ha : g.mu[n]? = some a) : ∃ vs, H a = some (.lst vs) ∧ Rps K T g H ds vs := by
  unfold mLst at h
  split at h
  · rename_i ds' e
    cases h
    exact I.me.at_ n _ a e ha
  · cases h
theorem je_ix (ha : JE T X Γ a .b1 f1) (hb : JE T X Γ b .b1 f2) (hs : PlainIx b := by exact fun _ _ => rfl) : JE T X Γ (.Subscript a b pos) .sh (e2 ixD f1 f2) := by
  refine ⟨fun W tk => PE.imp (pe_ix ix_seq (ha.run W tk) (hb.run W tk) hs) fun σ H Q ⟨g, st, I, p⟩ => ?_⟩
  refine te_bind ipE I p fun d1 s1 x H1 g1 q1 I1 r1 p1 => te_bind ipE I1 p1 fun d2 s2 y H2 g2 q2 I2 r2 p2 => ?_
  have r1' := r1.step I1.wf I2.wf q2
  unfold ixD at p2
  split at p2
  · obtain ⟨p', vs, e1, s1, _, h1⟩ := b_lst r1'
    split at p2
    · rename_i d e
      obtain ⟨v, e2, h2⟩ := h1.atI e
      exact .inl ⟨p', vs, _, v, e1, b_int r2, .inl (.inl s1), e2, p2 v H2 g2 (.refl g2 H2) I2 h2⟩
    · exact p2.elim
  · obtain ⟨p', vs, e1, s1, h1⟩ := b_tup r1'
    split at p2
    · rename_i d e
      obtain ⟨v, e2, h2⟩ := h1.atI e
      exact .inr (.inl ⟨p', vs, _, v, e1, b_int r2, s1, e2, p2 v H2 g2 (.refl g2 H2) I2 h2⟩)
    · exact p2.elim
  · simp only [RpM, Rp] at r1'
    obtain ⟨p', e1, s1⟩ := r1'
    split at p2
    · rename_i d e
      exact .inl ⟨p', _, _, .int d, e1, b_int r2, s1.sq, by rw [atI_map, e]; rfl, p2 _ H2 g2 (.refl g2 H2) I2 rm_int⟩
    · exact p2.elim
  · split at p2
    · rename_i hl
      split at p2
      · rename_i cc e
        exact .inr (.inr ⟨_, _, cc, b_str r1', b_int r2, hl, e, p2 _ H2 g2 (.refl g2 H2) I2 rm_str⟩)
      · exact p2.elim
    · exact p2.elim
  · simp only [RpM, Rp] at r1'
    obtain ⟨p', e1, s1⟩ := r1'
    split at p2
    · rename_i xs hm
      obtain ⟨vs, h0, h1⟩ := mcell I2 hm s1
      split at p2
      · rename_i d e
        obtain ⟨v, e2, h2⟩ := h1.atI e
        exact .inl ⟨p', vs, _, v, e1, b_int r2, .inl (.inl h0), e2, p2 v H2 g2 (.refl g2 H2) I2 h2⟩
      · exact p2.elim
    · exact p2.elim
  · exact p2.elim
end
end DL
set_option linter.all false
set_option Elab.async false
set_option maxRecDepth 100000
namespace DL
open PySem PySem.Spec PyProof.Rows L2
section
variable {T : Tb} {X : Cx} {Γ : Fls} {e a b c lo hi : Expr} {m m1 m2 m3 : Mo} {f f1 f2 f3 : S → R D} {pos p2 : Pos} {es rest : List Expr} {k1 k2 : S → R Bool} {fs : S → R (List D)}
/-! ### slices -/
def cutG {α : Type} (xs : List α) (lo hi : Option Int) : List α := (xs.drop (HT.sIx xs.length 0 lo)).take (HT.sIx xs.length xs.length hi - HT.sIx xs.length 0 lo)
theorem cutG_V (xs : List V) (lo hi : Option Int) : cutV xs lo hi = cutG xs lo hi := rfl
theorem cutG_map {α β : Type} (F : α → β) (xs : List α) (lo hi : Option Int) : cutG (xs.map F) lo hi = (cutG xs lo hi).map F := by
  unfold cutG
  rw [List.length_map, List.map_take, List.map_drop]
theorem Rps.cut {K : PySem.W.Frag} {g : Gh} {H : Hp} {ds : List D} {vs : List V} (h : Rps K T g H ds vs) (lo hi : Option Int) : Rps K T g H (cutG ds lo hi) (cutV vs lo hi) := by
  rw [cutG_V]
  unfold cutG
  rw [h.length]
  exact (h.drop _).take _
theorem Rps.ints {K : PySem.W.Frag} {g : Gh} {H : Hp} : ∀ ns : List Int, Rps K T g H (ns.map D.int) (ns.map V.int)
  | [] => Rps.nil
  | n :: ns => Rps.cons (by simp only [Rp]) (Rps.ints ns)
def slD : D → Option Int → Option Int → S → R D
  | .lst xs, lo, hi, s => .ok (.lst (cutG xs lo hi)) s
  | .scr xs, lo, hi, s => .ok (.lst ((cutG xs lo hi).map D.int)) s
  | .tup xs, lo, hi, s => .ok (.tup (cutG xs lo hi)) s
  | _, _, _, _ => .stuck
/-- a slice's part -/
def pNone : S → R (Option Int) := fun st => .ok none st
def pSome (f : S → R D) : S → R (Option Int) := fun st => (f st).bind fun d s => match d with
  | .int i => .ok (some i) s
  | _ => .stuck
def PostO (K : PySem.W.Frag) (T : Tb) (Γ : Fls) (σ : L2.St) (g : Gh) (H : Hp) (W : WX) (Q : Option Int → Hp → Prop) : R (Option Int) → Prop
  | .ok b st => ∀ H' g', QStep g H g' H' → SR K T Γ g' σ H' st → Q b H'
  | .raise e st => PostX K T σ g H W e st
  | .stuck => False
def to_ (K : PySem.W.Frag) (T : Tb) (Γ : Fls) (W : WX) (f : S → R (Option Int)) : TO := fun σ H Q => ∃ g st, SR K T Γ g σ H st ∧ PostO K T Γ σ g H W Q (f st)
theorem PostO.shift {K : PySem.W.Frag} {σ : L2.St} {g g' : Gh} {H H' : Hp} {W : WX} {Q : Option Int → Hp → Prop} {r : R (Option Int)} (s : QStep g H g' H') (h : PostO K T Γ σ g H W Q r) : PostO K T Γ σ g' H' W Q r := by
  cases r with
  | ok d st => exact fun H2 g2 s2 r2 => h H2 g2 (s.trans s2) r2
  | raise e st => exact PostX.shift s.toStep h
  | stuck => exact h
theorem ipO {K : PySem.W.Frag} {σ : L2.St} {W : WX} {Q : Option Int → Hp → Prop} : IsPost K T σ W (fun g H => PostO K T Γ σ g H W Q) := ⟨fun _ _ _ _ h => h, fun _ _ _ _ h => h, fun _ _ h => h, fun _ _ _ _ _ s h => h.shift s⟩
structure JO (T : Tb) (X : Cx) (Γ : Fls) (e : Option Expr) (f : S → R (Option Int)) : Prop where
  run : ∀ W, Takes X W → PO X e (to_ X.K T Γ W f)
theorem PO.imp {X : Cx} {e : Option Expr} {t t' : TO} (h : PO X e t) (i : ∀ σ H Q, t' σ H Q → t σ H Q) : PO X e t' := ⟨fun pins s σ H Q I q => h.run pins s σ H Q I (i σ H Q q)⟩
theorem jo_none : JO T X Γ none pNone := ⟨fun W tk => PO.imp po_none fun σ H Q ⟨g, st, I, p⟩ => p H g (.refl g H) I⟩
theorem jo_some (h : JE T X Γ e .b1 f) : JO T X Γ (some e) (pSome f) := by
  refine ⟨fun W tk => PO.imp (po_some (h.run W tk)) fun σ H Q ⟨g, st, I, p⟩ => ?_⟩
  refine te_bind ipO I p fun d s1 x H1 g1 q1 I1 r1 p1 => ?_
  split at p1
  · exact ⟨_, b_int r1, p1 H1 g1 (.refl g1 H1) I1⟩
  · exact p1.elim
def eSl (f : S → R D) (l h : S → R (Option Int)) : S → R D := fun st => (f st).bind fun d s => (l s).bind fun i s1 => (h s1).bind fun j s2 => slD d i j s2
theorem to_bind {K : PySem.W.Frag} {σ : L2.St} {g : Gh} {H : Hp} {st : S} {W : WX} {α : Type} {P : Gh → Hp → R α → Prop} {f : S → R (Option Int)} {k : Option Int → S → R α} {Q : Option Int → Hp → Prop} (ip : IsPost K T σ W P) (I : SR K T Γ g σ H st) (h : P g H ((f st).bind k))
    (hk : ∀ b st' H' g', QStep g H g' H' → SR K T Γ g' σ H' st' → P g' H' (k b st') → Q b H') : to_ K T Γ W f σ H Q := by
  refine ⟨g, st, I, ?_⟩
  cases e : f st with
  | ok d st' =>
    rw [e] at h
    exact fun H' g' s r => hk d st' H' g' s r (ip.sh _ _ _ _ _ s h)
  | raise ex st' =>
    rw [e] at h
    exact ip.px _ _ _ _ h
  | stuck =>
    rw [e] at h
    exact ip.ps g H h
theorem je_sl {lo hi : Option Expr} {fl fh : S → R (Option Int)} (ha : JE T X Γ a .b1 f) (hl : JO T X Γ lo fl) (hh : JO T X Γ hi fh) : JE T X Γ (.Subscript a (.Slice lo hi none p2) pos) .f1 (eSl f fl fh) := by
  refine ⟨fun W tk => PE.imp (pe_slice ((sl_list (X := X)).or sl_tupA) (ha.run W tk) (hl.run W tk) (hh.run W tk)) fun σ H Q ⟨g, st, I, p⟩ => ?_⟩
  refine te_bind ipE I p fun d s1 x H1 g1 q1 I1 r1 p1 => to_bind ipE I1 p1 fun i s2 H2 g2 q2 I2 p2 => to_bind ipE I2 p2 fun j s3 H3 g3 q3 I3 p3 => ?_
  have r3 := (r1.step I1.wf I2.wf q2).step I2.wf I3.wf q3
  unfold slD at p3
  split at p3
  · obtain ⟨ad, vs, e1, h1, _, h2⟩ := b_lst r3
    exact .inl ⟨ad, vs, e1, .inl (.inl h1), fun p' hp => post_lst I3 (h2.cut i j) hp p3⟩
  · simp only [RpM, Rp] at r3
    obtain ⟨ad, e1, h1⟩ := r3
    refine .inl ⟨ad, _, e1, h1.sq, fun p' hp => ?_⟩
    rw [cutG_V, cutG_map]
    exact post_lst I3 (Rps.ints _) hp p3
  · obtain ⟨ad, vs, e1, h1, h2⟩ := b_tup r3
    refine .inr ⟨ad, vs, e1, h1, fun hw => ?_, fun _ p' hp => post_tup1 I3 (h2.cut i j) hp p3⟩
    subst e1
    refine post_v I3 p3 ?_
    simp only [RpM, Rp]
    refine ⟨ad, vs, rfl, h1, ?_⟩
    have z := h2.cut i j
    have e0 : cutV vs i j = vs := by
      rw [cutG_V]
      unfold cutG
      rw [hw.1, hw.2]
      simp
    rw [e0] at z
    exact z
  · exact p3.elim
/-! ### built-ins of one place -/
structure Bi1 (X : Cx) (T : Tb) (u : Value) (m1 m : Mo) (o : D → S → R D) : Prop where
  ex : ∃ r : List V → Hp → VK → Prop, CallR X u r ∧ ∀ (Γ : Fls) g σ H st W (Q : VK) x d H0, SR X.K T Γ g σ H st → RpM X.K T g H0 H m1 d x → PostE X.K T Γ σ g H m W Q (o d st) → r [x] H Q
theorem je_bi {x : Str} {p : Pos} {id : String} {o : D → S → R D} (h : Bi1 X T (.builtin id) m1 m o) (hg : Gl X x) (hm : X.mg x = none) (ha : JE T X Γ e m1 f) (hv : bootBuiltins x = some (.builtin id) := by decide +kernel) (hn : x ≠ "__name__" := by decide) (hdb : (x == ("__debug__" : Str)) = false := by decide)
    (he : starEach [e] X.env = (false, eval e X.env) :: starEach [] X.env := by rfl) (hpl : (backTo pos (starEach [] X.env)).any (·.1) = false := by rfl) : JE T X Γ (.Call (.Name x p) [e] [] pos) m (e1 o f) := by
  obtain ⟨r, hc, key⟩ := h.ex
  refine ⟨fun W tk => PE.imp (pe_callB hc hg hm hv (pa_cons (ha.run W tk) pa_nil he) hn hdb he hpl) fun σ H Q ⟨g, st, I, p⟩ => ?_⟩
  exact te_bind ipE I p fun d1 s1 x H1 g1 q1 I1 r1 p1 => key Γ g1 σ H1 s1 W Q x d1 H I1 r1 p1
theorem je_bty {x : Str} {p : Pos} {id : String} {o : D → S → R D} (h : Bi1 X T (.type id) m1 m o) (hg : Gl X x) (hm : X.mg x = none) (ha : JE T X Γ e m1 f) (hv : bootBuiltins x = some (.type id) := by decide +kernel) (hn : x ≠ "__name__" := by decide) (hdb : (x == ("__debug__" : Str)) = false := by decide)
    (he : starEach [e] X.env = (false, eval e X.env) :: starEach [] X.env := by rfl) (hpl : (backTo pos (starEach [] X.env)).any (·.1) = false := by rfl) : JE T X Γ (.Call (.Name x p) [e] [] pos) m (e1 o f) := by
  obtain ⟨r, hc, key⟩ := h.ex
  refine ⟨fun W tk => PE.imp (pe_callTy hc hg hm hv (pa_cons (ha.run W tk) pa_nil he) hn hdb he hpl) fun σ H Q ⟨g, st, I, p⟩ => ?_⟩
  exact te_bind ipE I p fun d1 s1 x H1 g1 q1 I1 r1 p1 => key Γ g1 σ H1 s1 W Q x d1 H I1 r1 p1
theorem CallR.or {u : Value} {r r' : List V → Hp → VK → Prop} (h : CallR X u r) (h' : CallR X u r') : CallR X u (fun xs H Q => r xs H Q ∨ r' xs H Q) := by
  intro pins s σ H xs us Q I rx q
  rcases q with q | q
  · exact h pins s σ H xs us Q I rx q
  · exact h' pins s σ H xs us Q I rx q
def lenD : D → S → R D
  | .lst xs, s => .ok (.int xs.length) s
  | .tup xs, s => .ok (.int xs.length) s
  | .scr xs, s => .ok (.int xs.length) s
  | .str x, s => if x.length ≤ sizeLine then .ok (.int x.length) s else .stuck
  | _, _ => .stuck
theorem bi_len : Bi1 X T (.builtin "len") .b1 .sh lenD := by
  refine ⟨_, CallR.or (call_len_seq (X := X)) call_len_str, fun Γ g σ H st W Q x d H0 I r p => ?_⟩
  unfold lenD at p
  split at p
  · obtain ⟨ad, vs, e1, h1, _, h2⟩ := b_lst r
    subst e1
    exact .inl ⟨ad, vs, rfl, .inl (.inl (.inl h1)), by rw [h2.length]; exact post_v I p rm_int⟩
  · obtain ⟨ad, vs, e1, h1, h2⟩ := b_tup r
    subst e1
    exact .inl ⟨ad, vs, rfl, .inr h1, by rw [h2.length]; exact post_v I p rm_int⟩
  · simp only [RpM, Rp] at r
    obtain ⟨ad, e1, h1⟩ := r
    subst e1
    exact .inl ⟨ad, _, rfl, .inl h1.sq, by rw [List.length_map]; exact post_v I p rm_int⟩
  · have e1 := b_str r
    subst e1
    split at p
    · exact .inr ⟨_, rfl, by assumption, post_v I p rm_int⟩
    · exact p.elim
  · exact p.elim
def absD : D → S → R D
  | .int i, s => .ok (.int (if i < 0 then -i else i)) s
  | _, _ => .stuck
theorem bi_abs : Bi1 X T (.builtin "abs") .b1 .sh absD := by
  refine ⟨_, call_abs (X := X), fun Γ g σ H st W Q x d H0 I r p => ?_⟩
  unfold absD at p
  split at p
  · have e1 := b_int r
    subst e1
    exact ⟨_, rfl, post_v I p rm_int⟩
  · exact p.elim
def intD : D → S → R D
  | .int i, s => .ok (.int i) s
  | .bl k, s => .ok (.int (if k then 1 else 0)) s
  | _, _ => .stuck
theorem bi_int : Bi1 X T (.type "int") .b1 .sh intD := by
  refine ⟨_, call_int1 (X := X), fun Γ g σ H st W Q x d H0 I r p => ?_⟩
  unfold intD at p
  split at p
  · have e1 := b_int r
    subst e1
    exact .inl ⟨_, rfl, post_v I p rm_int⟩
  · have e1 := b_bl r
    subst e1
    exact .inr ⟨_, rfl, post_v I p rm_int⟩
  · exact p.elim
def tupleD : D → S → R D
  | .lst xs, s => .ok (.tup xs) s
  | .tup xs, s => .ok (.tup xs) s
  | _, _ => .stuck
theorem bi_tuple : Bi1 X T (.type "tuple") .b1 .sh tupleD := by
  refine ⟨_, call_tuple_of (X := X), fun Γ g σ H st W Q x d H0 I r p => ?_⟩
  unfold tupleD at p
  split at p
  · obtain ⟨ad, vs, e1, h1, _, h2⟩ := b_lst r
    subst e1
    exact ⟨ad, vs, rfl, .inl ⟨.inl (.inl h1), fun l hl => post_tup I h2 hl p⟩⟩
  · obtain ⟨ad, vs, e1, h1, h2⟩ := b_tup r
    subst e1
    exact ⟨ad, vs, rfl, .inr ⟨h1, post_v I p r⟩⟩
  · exact p.elim
def listD : D → S → R D
  | .lst xs, s => .ok (.lst xs) s
  | .tup xs, s => .ok (.lst xs) s
  | .scr xs, s => .ok (.lst (xs.map D.int)) s
  | _, _ => .stuck
theorem bi_list : Bi1 X T (.type "list") .b1 .f1 listD := by
  refine ⟨_, call_list_of (X := X), fun Γ g σ H st W Q x d H0 I r p => ?_⟩
  unfold listD at p
  split at p
  · obtain ⟨ad, vs, e1, h1, _, h2⟩ := b_lst r
    subst e1
    exact ⟨ad, vs, rfl, .inl (.inl (.inl h1)), fun l hl => post_lst I h2 hl p⟩
  · obtain ⟨ad, vs, e1, h1, h2⟩ := b_tup r
    subst e1
    exact ⟨ad, vs, rfl, .inr h1, fun l hl => post_lst I h2 hl p⟩
  · simp only [RpM, Rp] at r
    obtain ⟨ad, e1, h1⟩ := r
    subst e1
    exact ⟨ad, _, rfl, .inl h1.sq, fun l hl => post_lst I (Rps.ints _) hl p⟩
  · exact p.elim
/-- a list of bools -/
def blsD : List D → Option (List Bool)
  | [] => some []
  | .bl b :: r => (blsD r).map (b :: ·)
  | _ :: _ => none
theorem bls_of {K : PySem.W.Frag} {g : Gh} {H : Hp} : ∀ {ds : List D} {vs : List V} {bs : List Bool}, Rps K T g H ds vs → blsD ds = some bs → vs = bs.map V.bl
  | [], vs, bs, h, e => by
    simp only [Rps] at h
    cases e
    exact h
  | d :: ds, vs, bs, h, e => by
    simp only [Rps] at h
    obtain ⟨v, r, e1, h1, h2⟩ := h
    cases d with
    | bl b =>
      simp only [blsD] at e
      cases q : blsD ds with
      | none => rw [q] at e; cases e
      | some l =>
        rw [q] at e
        cases e
        simp only [Rp] at h1
        rw [e1, h1, bls_of h2 q]
        rfl
    | _ => cases e
def allD : D → S → R D
  | .lst xs, s => (match blsD xs with
    | some bs => .ok (.bl (bs.all id)) s
    | none => .stuck)
  | _, _ => .stuck
def anyD : D → S → R D
  | .lst xs, s => (match blsD xs with
    | some bs => .ok (.bl (bs.any id)) s
    | none => .stuck)
  | _, _ => .stuck
theorem bi_all (hc : X.calm = true) : Bi1 X T (.builtin "all") .b1 .sh allD := by
  refine ⟨_, cr_all (X := X) hc, fun Γ g σ H st W Q x d H0 I r p => ?_⟩
  unfold allD at p
  split at p
  · split at p
    · rename_i bs e
      obtain ⟨ad, vs, e1, h1, _, h2⟩ := b_lst r
      subst e1
      rw [bls_of h2 e] at h1
      exact ⟨ad, bs, rfl, .inl (.inl h1), post_v I p rm_bl⟩
    · exact p.elim
  · exact p.elim
theorem bi_any (hc : X.calm = true) : Bi1 X T (.builtin "any") .b1 .sh anyD := by
  refine ⟨_, cr_any (X := X) hc, fun Γ g σ H st W Q x d H0 I r p => ?_⟩
  unfold anyD at p
  split at p
  · split at p
    · rename_i bs e
      obtain ⟨ad, vs, e1, h1, _, h2⟩ := b_lst r
      subst e1
      rw [bls_of h2 e] at h1
      exact ⟨ad, bs, rfl, .inl (.inl h1), post_v I p rm_bl⟩
    · exact p.elim
  · exact p.elim
/-! ### built-ins of several places -/
structure BiN (X : Cx) (T : Tb) (u : Value) (m : Mo) (o : List D → S → R D) : Prop where
  ex : ∃ r : List V → Hp → VK → Prop, CallR X u r ∧ ∀ (Γ : Fls) g σ H st W (Q : VK) xs ds, SR X.K T Γ g σ H st → Rps X.K T g H ds xs → PostE X.K T Γ σ g H m W Q (o ds st) → r xs H Q
def eBi (o : List D → S → R D) (fs : S → R (List D)) : S → R D := fun st => (fs st).bind o
/-- a built-in function of a module -/
theorem je_biM {x : Str} {p : Pos} {id : String} {o : List D → S → R D} (h : BiN X T (.builtin id) m o) (hg : Gl X x) (hm : X.mg x = some (.builtin id)) (ha : JA T X Γ (e :: es) fs) (hdb : (x == ("__debug__" : Str)) = false := by decide)
    (he : starEach (e :: es) X.env = (false, eval e X.env) :: starEach es X.env := by rfl) (hpl : (backTo pos (starEach es X.env)).any (·.1) = false := by rfl) : JE T X Γ (.Call (.Name x p) (e :: es) [] pos) m (eBi o fs) := by
  obtain ⟨r, hc, key⟩ := h.ex
  refine ⟨fun W tk => PE.imp (pe_callBfun hc hg hm (ha.run W tk) hdb he hpl) fun σ H Q ⟨g, st, I, p⟩ => ?_⟩
  exact ta_bind ipE I p fun ds s1 xs H1 g1 q1 I1 r1 p1 => key Γ g1 σ H1 s1 W Q xs ds I1 r1 p1
theorem rps2 {K : PySem.W.Frag} {g : Gh} {H : Hp} {i j : Int} {vs : List V} (h : Rps K T g H [.int i, .int j] vs) : vs = [.int i, .int j] := by
  simp only [Rps, Rp] at h
  obtain ⟨v, r, e1, h1, v2, r2, e2, h2, h3⟩ := h
  rw [e1, h1, e2, h2, h3]
def gcdD : List D → S → R D
  | [.int i, .int j], s => .ok (.int (Nat.gcd i.natAbs j.natAbs : Nat)) s
  | _, _ => .stuck
theorem bi_gcd : BiN X T (.builtin "math.gcd") .sh gcdD := by
  refine ⟨_, cr_gcd (X := X), fun Γ g σ H st W Q xs ds I r p => ?_⟩
  unfold gcdD at p
  split at p
  · exact ⟨_, _, rps2 r, post_v I p rm_int⟩
  · exact p.elim
/-! ### isinstance -/
inductive Ty where
  | int | bool | str | list | tuple
def Ty.nm : Ty → String
  | .int => "int"
  | .bool => "bool"
  | .str => "str"
  | .list => "list"
  | .tuple => "tuple"
def tyD : D → Option String
  | .non => some "NoneType"
  | .bl _ => some "bool"
  | .int _ => some "int"
  | .str _ => some "str"
  | .tup _ => some "tuple"
  | .lst _ => some "list"
  | .scr _ => some "list"
  | _ => none
def isTy : Ty → D → Option Bool
  | .int, .int _ => some true
  | .int, .bl _ => some true
  | .bool, .bl _ => some true
  | .str, .str _ => some true
  | .list, .lst _ => some true
  | .list, .scr _ => some true
  | .tuple, .tup _ => some true
  | _, .fn _ => none
  | _, .ref _ => none
  | _, .pt _ => none
  | _, _ => some false
theorem isTy_kit {t : Ty} {d : D} {k : Bool} (h : isTy t d = some k) : ∃ s, tyD d = some s ∧ kitB s t.nm = some k := by
  cases t <;> cases d <;> first
    | (cases h; done)
    | (cases h; exact ⟨_, rfl, by decide +kernel⟩)
theorem tyX_of {K : PySem.W.Frag} {g : Gh} {H0 H : Hp} {d : D} {v : V} {s : String} (r : RpM K T g H0 H .b1 d v) (h : tyD d = some s) : TyX K H v (.type s) := by
  cases d with
  | non => cases h; rw [b_non r]; exact .base .non
  | bl b => cases h; rw [b_bl r]; exact .base (.bl _)
  | int b => cases h; rw [b_int r]; exact .base (.int _)
  | str b => cases h; rw [b_str r]; exact .base (.str _)
  | tup ds =>
    cases h
    obtain ⟨ad, vs, e1, h1, _⟩ := b_tup r
    rw [e1]
    rcases h1 with (h1 | ⟨o, h1⟩) | ⟨o, its, n, h1, h2, _⟩
    · exact .base (.tup h1)
    · exact .fTuple h1
    · exact .kTuple h1 h2
  | lst ds =>
    cases h
    obtain ⟨ad, vs, e1, h1, _⟩ := b_lst r
    rw [e1]
    exact .base (.lst h1)
  | scr ds =>
    cases h
    simp only [RpM, Rp] at r
    obtain ⟨ad, e1, h1⟩ := r
    rw [e1]
    rcases h1 with ⟨_, h1⟩ | ⟨o, h1⟩ | ⟨o, its, n, h1, h2, _⟩
    · exact .base (.lst h1)
    · exact .base (.frz h1)
    · exact .kList h1 h2
  | fn _ => cases h
  | pt _ => cases h
  | ref _ => cases h
def isiD (t : Ty) : D → S → R D := fun d s => match isTy t d with
  | some k => .ok (.bl k) s
  | none => .stuck
def isi2D (t t' : Ty) : D → S → R D := fun d s => match isTy t d, isTy t' d with
  | some k, some k' => .ok (.bl (k || k')) s
  | _, _ => .stuck
theorem je_isi (t : Ty) {x : Str} {p p2 : Pos} (hg : Gl X x) (hm : X.mg x = none) (hg' : Gl X (.ofString t.nm)) (hm' : X.mg (.ofString t.nm) = none) (ha : JE T X Γ e .b1 f) (hx : x = "isinstance" := by rfl) (hv' : bootBuiltins (.ofString t.nm) = some (.type t.nm) := by decide +kernel)
    (hn : (.ofString t.nm : Str) ≠ "__name__" := by decide) (hdb : ((.ofString t.nm : Str) == ("__debug__" : Str)) = false := by decide)
    (he : starEach [e, .Name (.ofString t.nm) p2] X.env = (false, eval e X.env) :: starEach [.Name (.ofString t.nm) p2] X.env := by rfl) (he2 : starEach [.Name (.ofString t.nm) p2] X.env = (false, eval (.Name (.ofString t.nm) p2) X.env) :: starEach [] X.env := by rfl) (hpl : (backTo pos (starEach [.Name (.ofString t.nm) p2] X.env)).any (·.1) = false := by rfl) :
    JE T X Γ (.Call (.Name x p) [e, .Name (.ofString t.nm) p2] [] pos) .sh (e1 (isiD t) f) := by
  subst hx
  refine ⟨fun W tk => PE.imp (pe_callB call_isi hg hm (by decide +kernel) (pa_cons (ha.run W tk) (pa_cons (pe_bltn (v := .ty t.nm) hg' hm' hv' rfl hn hdb) pa_nil he2) he) (by decide) (by decide) he hpl) fun σ H Q ⟨g, st, I, p⟩ => ?_⟩
  refine te_bind ipE I p fun d1 s1 x H1 g1 q1 I1 r1 p1 => ?_
  unfold isiD at p1
  split at p1
  · rename_i k e
    obtain ⟨s, h1, h2⟩ := isTy_kit e
    exact ⟨x, .ty t.nm, .type s, .type t.nm, k, rfl, .ty _, tyX_of r1 h1, kit_ty h2, post_v I1 p1 rm_bl⟩
  · exact p1.elim
theorem je_isi2 (t t' : Ty) {x : Str} {p p2 p3 p4 : Pos} {kk : Nat} (hg : Gl X x) (hm : X.mg x = none) (hg' : Gl X (.ofString t.nm)) (hm' : X.mg (.ofString t.nm) = none) (hg2 : Gl X (.ofString t'.nm)) (hm2 : X.mg (.ofString t'.nm) = none) (ha : JE T X Γ e .b1 f) (hx : x = "isinstance" := by rfl)
    (hv' : bootBuiltins (.ofString t.nm) = some (.type t.nm) := by decide +kernel) (hv2 : bootBuiltins (.ofString t'.nm) = some (.type t'.nm) := by decide +kernel) (hn : (.ofString t.nm : Str) ≠ "__name__" := by decide) (hdb : ((.ofString t.nm : Str) == ("__debug__" : Str)) = false := by decide) (hn2 : (.ofString t'.nm : Str) ≠ "__name__" := by decide) (hdb2 : ((.ofString t'.nm : Str) == ("__debug__" : Str)) = false := by decide)
    (he : starEach [e, .Tuple [.Name (.ofString t.nm) p2, .Name (.ofString t'.nm) p3] kk p4] X.env = (false, eval e X.env) :: starEach [.Tuple [.Name (.ofString t.nm) p2, .Name (.ofString t'.nm) p3] kk p4] X.env := by rfl)
    (he2 : starEach [.Tuple [.Name (.ofString t.nm) p2, .Name (.ofString t'.nm) p3] kk p4] X.env = (false, eval (.Tuple [.Name (.ofString t.nm) p2, .Name (.ofString t'.nm) p3] kk p4) X.env) :: starEach [] X.env := by rfl)
    (he3 : starEach [.Name (.ofString t.nm) p2, .Name (.ofString t'.nm) p3] X.env = (false, eval (.Name (.ofString t.nm) p2) X.env) :: starEach [.Name (.ofString t'.nm) p3] X.env := by rfl) (he4 : starEach [.Name (.ofString t'.nm) p3] X.env = (false, eval (.Name (.ofString t'.nm) p3) X.env) :: starEach [] X.env := by rfl)
    (hpl : (backTo pos (starEach [.Tuple [.Name (.ofString t.nm) p2, .Name (.ofString t'.nm) p3] kk p4] X.env)).any (·.1) = false := by rfl) :
    JE T X Γ (.Call (.Name x p) [e, .Tuple [.Name (.ofString t.nm) p2, .Name (.ofString t'.nm) p3] kk p4] [] pos) .sh (e1 (isi2D t t') f) := by
  subst hx
  refine ⟨fun W tk => PE.imp (pe_callB call_isiT hg hm (by decide +kernel) (pa_cons (ha.run W tk) (pa_cons (pe_tup (pa_cons (pe_bltn (v := .ty t.nm) hg' hm' hv' rfl hn hdb) (pa_cons (pe_bltn (v := .ty t'.nm) hg2 hm2 hv2 rfl hn2 hdb2) pa_nil he4) he3)) pa_nil he2) he) (by decide) (by decide) he hpl) fun σ H Q ⟨g, st, I, p⟩ => ?_⟩
  refine te_bind ipE I p fun d1 s1 x H1 g1 q1 I1 r1 p1 => ?_
  refine ⟨by show 2 ≤ sizeLine; decide, fun tp hp => ?_⟩
  unfold isi2D at p1
  split at p1
  · rename_i k k' e e'
    obtain ⟨s, h1, h2⟩ := isTy_kit e
    obtain ⟨s', h1', h2'⟩ := isTy_kit e'
    have es : s' = s := Option.some.inj (h1'.symm.trans h1)
    subst es
    have I2 := I1.new (o := .tup [V.ty t.nm, V.ty t'.nm]) hp
    have qs : QStep g1 H1 g1 (upd H1 tp (.tup [V.ty t.nm, V.ty t'.nm])) := ⟨.new hp, rfl, fun i b hb => by
      obtain ⟨o, eo, _⟩ := I1.wf.ot b (.inl ⟨i, hb⟩)
      rw [upd_ne (ne_of_none eo hp)]⟩
    have ty := tyX_of (r1.step I1.wf I2.wf qs) h1
    refine ⟨x, tp, [.ty t.nm, .ty t'.nm], .type s', [.type t.nm, .type t'.nm], k || k', rfl, upd_same, .cons (.ty _) (.cons (.ty _) .nil), ty, ?_, post_v I2 (p1.shift qs) rm_bl⟩
    exact kitAny_cons (kit_ty h2) (fun hk => kitAny_cons (kit_ty h2') (fun hk' => by rw [hk, hk']; exact kitAny_nil) (fun hk' => by rw [hk, hk']; rfl)) (fun hk => by rw [hk]; rfl)
  · exact p1.elim
end
end DL
set_option linter.all false
set_option Elab.async false
set_option maxRecDepth 100000
namespace DL
open PySem PySem.Spec PyProof.Rows L2
/-! ### targets -/
inductive Tg where
  | one (i : Nat) | many (is : List Nat) | manyL (is : List Nat)
def setL : List Nat → List D → List (Option D) → List (Option D)
  | i :: is, d :: ds, r => setL is ds (r.set i (some d))
  | _, _, r => r
def setV : List Nat → List V → L2.St → L2.St
  | i :: is, v :: vs, r => setV is vs (r.set i (some v))
  | _, _, r => r
def asgD : Tg → D → S → Option S
  | .one i, d, s => some { s with r := s.r.set i (some d) }
  | .many is, .tup ds, s => if ds.length = is.length then some { s with r := setL is ds s.r } else none
  | .manyL is, .lst ds, s => if ds.length = is.length then some { s with r := setL is ds s.r } else none
  | _, _, _ => none
def Tg.vs : Tg → List Nat
  | .one i => [i]
  | .many is => is
  | .manyL is => is
section
variable {K : PySem.W.Frag} {T : Tb} {g : Gh} {H : Hp} {Γ : Fls} {σ : L2.St} {st : S}
theorem SR.set (I : SR K T Γ g σ H st) {i : Nat} {d : D} {v : V} (hf : fl Γ i = .sh) (r : Rp K T g H d v) : SR K T Γ g (σ.set i (some v)) H { st with r := st.r.set i (some d) } where
  wf := I.wf
  len := by simpa using I.len
  sl := fun j hj => by
    have hj' : j < σ.length := by simpa using hj
    by_cases h : i = j
    · subst h
      rw [List.getD_eq_getElem?_getD, List.getElem?_set_self hj', List.getD_eq_getElem?_getD, List.getElem?_set_self (by rw [← I.len]; exact hj'), hf]
      exact r
    · rw [List.getD_eq_getElem?_getD, List.getElem?_set_ne h, List.getD_eq_getElem?_getD, List.getElem?_set_ne h, ← List.getD_eq_getElem?_getD, ← List.getD_eq_getElem?_getD]
      exact I.sl j hj'
  me := I.me
end
theorem SR.setL {K : PySem.W.Frag} {T : Tb} {g : Gh} {H : Hp} {Γ : Fls} : ∀ {is : List Nat} {ds : List D} {vs : List V} {τ : L2.St} {su : S}, SR K T Γ g τ H su → (∀ i ∈ is, fl Γ i = .sh) → Rps K T g H ds vs → SR K T Γ g (setV is vs τ) H { su with r := DL.setL is ds su.r }
  | [], _, _, _, _, I, _, _ => I
  | i :: is, [], vs, τ, su, I, _, r => by
    simp only [Rps] at r
    subst r
    exact I
  | i :: is, d :: ds, vs, τ, su, I, hf, r => by
    simp only [Rps] at r
    obtain ⟨v, r', e, h1, h2⟩ := r
    subst e
    exact SR.setL (is := is) (ds := ds) (vs := r') (τ := τ.set i (some v)) (su := { su with r := su.r.set i (some d) }) (I.set (hf i List.mem_cons_self) h1) (fun j hj => hf j (List.mem_cons_of_mem _ hj)) h2
/-- a target's reading -/
def tgR (K : PySem.W.Frag) (T : Tb) (t : Tg) : TG := fun v σ H Q => match t with
  | .one i => Q (σ.set i (some v)) H
  | .many is => ∃ a vs, v = .ref a ∧ SqT K H a vs ∧ vs.length = is.length ∧ Q (setV is vs σ) H
  | .manyL is => ∃ a vs, v = .ref a ∧ SqL K H a vs ∧ vs.length = is.length ∧ Q (setV is vs σ) H
structure JG (T : Tb) (X : Cx) (tg : Expr) (t : Tg) : Prop where
  run : PG X tg (tgR X.K T t)
structure JGs (X : Cx) (es : List Expr) (is : List Nat) : Prop where
  run : PGs X es (fun vs σ H Q => vs.length = is.length ∧ Q (setV is vs σ) H)
theorem PG.imp {X : Cx} {e : Expr} {t t' : TG} (h : PG X e t) (i : ∀ v σ H Q, t' v σ H Q → t v σ H Q) : PG X e t' := ⟨fun pins s σ H v u Q I r q => h.run pins s σ H v u Q I r (i v σ H Q q)⟩
theorem PGs.imp {X : Cx} {e : List Expr} {t t' : TGs} (h : PGs X e t) (i : ∀ v σ H Q, t' v σ H Q → t v σ H Q) : PGs X e t' := ⟨fun pins s σ H v u Q I r q => h.run pins s σ H v u Q I r (i v σ H Q q)⟩
section
variable {T : Tb} {X : Cx} {Γ : Fls} {e a b c : Expr} {m m1 m2 m3 : Mo} {f f1 f2 f3 : S → R D} {pos p2 : Pos} {es rest : List Expr} {k1 k2 : S → R Bool} {fs : S → R (List D)} {is : List Nat}
theorem jg_one (i : Nat) {x : Str} (hN : X.N.Nodup) (hi : X.N[i]? = some x := by rfl) (hx : Loc X.env.scope x := by first | exact Or.inl rfl | exact Or.inr rfl) (hf : X.fn x = true ∨ X.env.scope.names.lookup x = some .local := by first | exact .inl rfl | exact .inr rfl | assumption) : JG T X (.Name x pos) (.one i) := ⟨pg_name hN hi hx hf⟩
theorem jgs_nil : JGs X [] [] := ⟨PGs.imp pgs_nil fun vs σ H Q h => ⟨List.eq_nil_of_length_eq_zero h.1, by
  have := List.eq_nil_of_length_eq_zero h.1
  subst this
  exact h.2⟩⟩
theorem jgs_cons (i : Nat) {x : Str} (hN : X.N.Nodup) (h2 : JGs X es is) (hi : X.N[i]? = some x := by rfl) (hx : Loc X.env.scope x := by first | exact Or.inl rfl | exact Or.inr rfl) (hf : X.fn x = true ∨ X.env.scope.names.lookup x = some .local := by first | exact .inl rfl | exact .inr rfl | assumption)
    (hs : (assignEach (.Name x pos :: es) X.env).map (·.2) = assign (.Name x pos) X.env :: (assignEach es X.env).map (·.2) := by rfl) : JGs X (.Name x pos :: es) (i :: is) := by
  refine ⟨PGs.imp (pgs_cons (pg_name hN hi hx hf) h2.run hs) fun vs σ H Q h => ?_⟩
  obtain ⟨hl, q⟩ := h
  cases vs with
  | nil => cases hl
  | cons v r => exact ⟨v, r, rfl, by simpa using hl, q⟩
theorem jg_many {k : Nat} (hc : X.calm = true) (h : JGs X es is) (hn : (assignEach es X.env).length = is.length := by rfl) (hst : (assignEach es X.env).findIdx? (·.1) = none := by rfl) : JG T X (.Tuple es k pos) (.many is) :=
  ⟨PG.imp (pg_tup hc h.run hn hst) fun v σ H Q ⟨a, vs, e, q, hl, hq⟩ => ⟨a, vs, e, q, hl, hl, hq⟩⟩
theorem jg_manyL {k : Nat} (hc : X.calm = true) (h : JGs X es is) (hn : (assignEach es X.env).length = is.length := by rfl) (hst : (assignEach es X.env).findIdx? (·.1) = none := by rfl) : JG T X (.Tuple es k pos) (.manyL is) :=
  ⟨PG.imp (pg_unl hc h.run hn hst) fun v σ H Q ⟨a, vs, e, q, hl, hq⟩ => ⟨a, vs, e, q, hl, hl, hq⟩⟩
/-- the reading of a target from its D-semantics -/
theorem tgR_of {K : PySem.W.Frag} {g : Gh} {σ : L2.St} {H : Hp} {st st' : S} {t : Tg} {d : D} {v : V} {Q : L2.St → Hp → Prop} (I : SR K T Γ g σ H st) (r : Rp K T g H d v) (hf : ∀ i ∈ t.vs, fl Γ i = .sh) (e : asgD t d st = some st')
    (h : ∀ σ', SR K T Γ g σ' H st' → (∀ vs, (∀ i ∈ t.vs, i ∈ vs) → wipe σ' vs = wipe σ vs) → Q σ' H) : tgR K T t v σ H Q := by
  have wip : ∀ (is : List Nat) (vs : List V) (σ : L2.St) (ws : List Nat), (∀ i ∈ is, i ∈ ws) → wipe (setV is vs σ) ws = wipe σ ws := by
    have one : ∀ (ws : List Nat) (σ : L2.St) (i : Nat) (v : V), i ∈ ws → wipe (σ.set i (some v)) ws = wipe σ ws := by
      intro ws
      induction ws with
      | nil => intro σ i v h; cases h
      | cons w ws ih =>
        intro σ i v h
        show (wipe (σ.set i (some v)) ws).set w none = (wipe σ ws).set w none
        by_cases hm : i ∈ ws
        · rw [ih σ i v hm]
        · have hw : i = w := by
            rcases List.mem_cons.mp h with z | z
            · exact z
            · exact absurd z hm
          subst hw
          have comm : ∀ (us : List Nat) (τ : L2.St), i ∉ us → wipe (τ.set i (some v)) us = (wipe τ us).set i (some v) := by
            intro us
            induction us with
            | nil => intro τ _; rfl
            | cons u us ihu =>
              intro τ hu
              show (wipe (τ.set i (some v)) us).set u none = ((wipe τ us).set u none).set i (some v)
              rw [ihu τ fun z => hu (List.mem_cons_of_mem _ z), List.set_comm]
              intro z
              exact hu (by rw [z]; exact List.mem_cons_self)
          rw [comm ws σ hm, List.set_set]
    intro is
    induction is with
    | nil => intro vs σ ws _; rfl
    | cons i is ih =>
      intro vs σ ws h
      cases vs with
      | nil => rfl
      | cons v vs =>
        show wipe (setV is vs (σ.set i (some v))) ws = _
        rw [ih vs _ ws fun j hj => h j (List.mem_cons_of_mem _ hj), one ws σ i v (h i List.mem_cons_self)]
  cases t with
  | one i =>
    cases e
    exact h _ (I.set (hf i List.mem_cons_self) r) fun ws hw => wip [i] [v] σ ws hw
  | many is =>
    cases d with
    | tup ds =>
      simp only [asgD] at e
      split at e
      · rename_i hl
        cases e
        simp only [Rp] at r
        obtain ⟨a, vs, e1, h1, h2⟩ := r
        exact ⟨a, vs, e1, h1, h2.length.trans hl, h _ (I.setL hf h2) fun ws hw => wip is vs σ ws hw⟩
      · cases e
    | _ => cases e
  | manyL is =>
    cases d with
    | lst ds =>
      simp only [asgD] at e
      split at e
      · rename_i hl
        cases e
        simp only [Rp] at r
        obtain ⟨a, vs, e1, _, h1, h2⟩ := r
        exact ⟨a, vs, e1, .inl (.inl h1), h2.length.trans hl, h _ (I.setL hf h2) fun ws hw => wip is vs σ ws hw⟩
      · cases e
    | _ => cases e
/-! ### what is walked -/
structure Wlk (K : PySem.W.Frag) (T : Tb) (g : Gh) (H : Hp) (J : It) (ds : List D) : Prop where
  go : ∀ i d g' H', Step g H g' H' → WF g' H' → ds[i]? = some d → J.go i H'
  stop : ∀ g' H', Step g H g' H' → WF g' H' → J.stop ds.length H'
  yld : ∀ i d g' H' x H'', Step g H g' H' → WF g' H' → ds[i]? = some d → J.yld i H' x H'' → (H'' = H' ∧ Rp K T g' H' d x) ∨ (∃ p vs, H' p = none ∧ H'' = upd H' p (.tup vs) ∧ Rp K T g' H'' d x)
def PostI (K : PySem.W.Frag) (T : Tb) (Γ : Fls) (σ : L2.St) (g : Gh) (H : Hp) (W : WX) (Q : It → Hp → Prop) : R (List D) → Prop
  | .ok ds st => ∀ J H' g', QStep g H g' H' → SR K T Γ g' σ H' st → Wlk K T g' H' J ds → Q J H'
  | .raise e st => PostX K T σ g H W e st
  | .stuck => False
def ti (K : PySem.W.Frag) (T : Tb) (Γ : Fls) (W : WX) (f : S → R (List D)) : TI := fun σ H R => ∃ g st, SR K T Γ g σ H st ∧ PostI K T Γ σ g H W R (f st)
structure JI (T : Tb) (X : Cx) (Γ : Fls) (tg e : Expr) (f : S → R (List D)) : Prop where
  run : ∀ W, Takes X W → PI X tg e (ti X.K T Γ W f)
theorem PostI.shift {K : PySem.W.Frag} {σ : L2.St} {g g' : Gh} {H H' : Hp} {W : WX} {Q : It → Hp → Prop} {r : R (List D)} (s : QStep g H g' H') (h : PostI K T Γ σ g H W Q r) : PostI K T Γ σ g' H' W Q r := by
  cases r with
  | ok d st => exact fun J H2 g2 s2 r2 p => h J H2 g2 (s.trans s2) r2 p
  | raise e st => exact PostX.shift s.toStep h
  | stuck => exact h
theorem ipI {K : PySem.W.Frag} {σ : L2.St} {W : WX} {Q : It → Hp → Prop} : IsPost K T σ W (fun g H => PostI K T Γ σ g H W Q) := ⟨fun _ _ _ _ h => h, fun _ _ _ _ h => h, fun _ _ h => h, fun _ _ _ _ _ s h => h.shift s⟩
theorem PI.imp {X : Cx} {tg e : Expr} {t t' : TI} (h : PI X tg e t) (i : ∀ σ H Q, t' σ H Q → t σ H Q) : PI X tg e t' := ⟨fun pins s σ H R I q => h.run pins s σ H R I (i σ H R q)⟩
def seqI : D → S → R (List D)
  | .lst xs, s => .ok xs s
  | .tup xs, s => .ok xs s
  | .scr xs, s => .ok (xs.map D.int) s
  | _, _ => .stuck
def i1 (o : D → S → R (List D)) (f : S → R D) : S → R (List D) := fun st => (f st).bind o
def iSeq (K : PySem.W.Frag) (tl : TE) : TI := fun σ H R => tl σ H fun x H1 => ∃ a, x = .ref a ∧ (((∃ xs, SqL K H1 a xs) ∧ R (Itl K a) H1) ∨ ((∃ xs, SqT K H1 a xs) ∧ R (Itt K a) H1))
theorem pi_seq {tg l : Expr} {tl : TE} (hl : PE X l tl) : PI X tg l (iSeq X.K tl) := by
  refine ⟨fun pins s σ H R I h => ?_⟩
  refine thn (hl.run pins s σ H _ I h) fun v s1 ⟨x, H1, I1, r1, q1⟩ => ?_
  obtain ⟨a, e, q⟩ := q1
  subst e
  cases r1
  rcases q with ⟨⟨xs, hq⟩, q⟩ | ⟨⟨xs, hq⟩, q⟩
  · obtain ⟨its, rv, p, hz⟩ := I1.list hq
    refine wpAny_pyIter_list p.isList ?_
    refine ⟨s1.heap.objs.size, [s1.heap.objs.size], _, _, H1, rfl, I1.kept (t' := s1.toks) fun b o e => Heap.get?_push_of_some _ e, turn_list a _, ⟨_, Heap.get?_push_size _ rfl, rfl, rfl⟩, fun b hb => ?_, q⟩
    have e : b = s1.heap.objs.size := by simpa using hb
    subst e
    exact I1.fpOk (Nat.le_refl _) (I1.hok.fresh (Nat.le_refl _))
  · obtain ⟨its, rv, p, hz⟩ := I1.tuple hq
    refine wpAny_pyIter_tuple (show s1.heap.IsTuple a its.toArray from p) ?_
    refine ⟨s1.heap.objs.size, [s1.heap.objs.size], _, _, H1, rfl, I1.kept (t' := s1.toks) fun b o e => Heap.get?_push_of_some _ e, turn_tuple a _, ⟨_, Heap.get?_push_size _ rfl, rfl, rfl⟩, fun b hb => ?_, q⟩
    have e : b = s1.heap.objs.size := by simpa using hb
    subst e
    exact I1.fpOk (Nat.le_refl _) (I1.hok.fresh (Nat.le_refl _))
theorem wlk_l {K : PySem.W.Frag} {g : Gh} {H : Hp} {a : Addr} {vs : List V} {ds : List D} (wf : WF g H) (h : ∀ g' H', Step g H g' H' → WF g' H' → SqL K H' a vs) (r : Rps K T g H ds vs) : Wlk K T g H (Itl K a) ds where
  go := fun i d g' H' s w e => by
    obtain ⟨v, q, _⟩ := r.get e
    exact ⟨vs, v, h g' H' s w, q⟩
  stop := fun g' H' s w => ⟨vs, h g' H' s w, by rw [r.length]; exact Nat.le_refl _⟩
  yld := fun i d g' H' x H'' s w e y => by
    obtain ⟨v, q, rv⟩ := r.get e
    obtain ⟨e1, y⟩ := y
    have := (y vs (h g' H' s w)).symm.trans q
    cases this
    exact .inl ⟨e1, Rp.step wf s rv⟩
theorem wlk_t {K : PySem.W.Frag} {g : Gh} {H : Hp} {a : Addr} {vs : List V} {ds : List D} (wf : WF g H) (h : SqT K H a vs) (r : Rps K T g H ds vs) : Wlk K T g H (Itt K a) ds where
  go := fun i d g' H' s w e => by
    obtain ⟨v, q, _⟩ := r.get e
    exact ⟨vs, v, SqT.step wf s h, q⟩
  stop := fun g' H' s w => ⟨vs, SqT.step wf s h, by rw [r.length]; exact Nat.le_refl _⟩
  yld := fun i d g' H' x H'' s w e y => by
    obtain ⟨v, q, rv⟩ := r.get e
    obtain ⟨e1, y⟩ := y
    have := (y vs (SqT.step wf s h)).symm.trans q
    cases this
    exact .inl ⟨e1, Rp.step wf s rv⟩
theorem sql_st {K : PySem.W.Frag} {g : Gh} {H : Hp} {a : Addr} {vs : List V} (wf : WF g H) (h0 : g.A a) (h : H a = some (.lst vs)) : ∀ g' H', Step g H g' H' → WF g' H' → SqL K H' a vs := fun g' H' s _ => .inl (.inl (s.fr _ _ h (wf.ao _ h0)))
theorem ji_seq {tg : Expr} (ha : JE T X Γ e .sh f) : JI T X Γ tg e (i1 seqI f) := by
  refine ⟨fun W tk => PI.imp (pi_seq (ha.run W tk)) fun σ H R ⟨g, st, I, p⟩ => ?_⟩
  refine te_bind ipI I p fun d s1 x H1 g1 q1 I1 r1 p1 => ?_
  unfold seqI at p1
  split at p1
  · simp only [RpM, Rp] at r1
    obtain ⟨a, vs, e1, h0, h1, h2⟩ := r1
    exact ⟨a, e1, .inl ⟨⟨vs, .inl (.inl h1)⟩, p1 _ H1 g1 (.refl g1 H1) I1 (wlk_l I1.wf (sql_st I1.wf h0 h1) h2)⟩⟩
  · simp only [RpM, Rp] at r1
    obtain ⟨a, vs, e1, h1, h2⟩ := r1
    exact ⟨a, e1, .inr ⟨⟨vs, h1⟩, p1 _ H1 g1 (.refl g1 H1) I1 (wlk_t I1.wf h1 h2)⟩⟩
  · simp only [RpM, Rp] at r1
    obtain ⟨a, e1, h1⟩ := r1
    exact ⟨a, e1, .inl ⟨⟨_, h1.sq⟩, p1 _ H1 g1 (.refl g1 H1) I1 (wlk_l I1.wf (fun g' H' s _ => (h1.step I1.wf s).sq) (Rps.ints _))⟩⟩
  · exact p1.elim
/-- range -/
def rngL (lo : Int) (n : Nat) : List D := (List.range n).map fun (i : Nat) => D.int (lo + (i : Int))
theorem wlk_r {K : PySem.W.Frag} {g : Gh} {H : Hp} {lo : Int} {n : Nat} : Wlk K T g H (Itr lo n) (rngL lo n) where
  go := fun i d g' H' s w e => by
    have := (List.getElem?_eq_some_iff.mp e).1
    show i < n
    simpa [rngL] using this
  stop := fun g' H' s w => by
    show n ≤ (rngL lo n).length
    simp [rngL]
  yld := fun i d g' H' x H'' s w e y => by
    obtain ⟨e1, e2⟩ := y
    refine .inl ⟨e1, ?_⟩
    have hi := (List.getElem?_eq_some_iff.mp e).1
    have hi' : i < n := by simpa [rngL] using hi
    have : d = .int (lo + (i : Int)) := by
      unfold rngL at e
      rw [List.getElem?_map, List.getElem?_range hi'] at e
      exact (Option.some.inj e).symm
    rw [this, e2]
    simp only [Rp]
def rng1I : List D → S → R (List D)
  | [.int j], s => if j.natAbs < 2 ^ 62 then .ok (rngL 0 j.toNat) s else .stuck
  | _, _ => .stuck
def iN (o : List D → S → R (List D)) (fs : S → R (List D)) : S → R (List D) := fun st => (fs st).bind o
theorem rps1 {K : PySem.W.Frag} {g : Gh} {H : Hp} {i : Int} {vs : List V} (h : Rps K T g H [.int i] vs) : vs = [.int i] := by
  simp only [Rps, Rp] at h
  obtain ⟨v, r, e1, h1, h2⟩ := h
  rw [e1, h1, h2]
theorem ji_range1 {tg : Expr} {p : Pos} (hg : Gl X "range") (hm : X.mg "range" = none) (ha : JA T X Γ [a] fs) (hs : starEach [a] X.env = [(false, eval a X.env)] := by rfl) : JI T X Γ tg (.Call (.Name "range" p) [a] [] pos) (iN rng1I fs) := by
  refine ⟨fun W tk => PI.imp (pi_range1 hg hm (ha.run W tk) hs) fun σ H R ⟨g, st, I, p⟩ => ?_⟩
  refine ta_bind ipI I p fun ds s1 vs H1 g1 q1 I1 r1 p1 => ?_
  unfold rng1I at p1
  split at p1
  · split at p1
    · rename_i hz
      exact ⟨_, rps1 r1, by omega, by omega, p1 _ H1 g1 (.refl g1 H1) I1 wlk_r⟩
    · exact p1.elim
  · exact p1.elim
/-- enumerate of a list -/
def enumL (xs : List D) : List D := (xs.zipIdx 0).map fun p => .tup [.int (p.2 : Int), p.1]
theorem enumL_get {xs : List D} {i : Nat} {d : D} (h : (enumL xs)[i]? = some d) : ∃ x, xs[i]? = some x ∧ d = .tup [.int (i : Int), x] := by
  unfold enumL at h
  rw [List.getElem?_map, List.getElem?_zipIdx] at h
  cases q : xs[i]? with
  | none => rw [q] at h; cases h
  | some x =>
    rw [q] at h
    refine ⟨x, rfl, ?_⟩
    have := Option.some.inj h
    rw [← this]
    simp
theorem enumL_len (xs : List D) : (enumL xs).length = xs.length := by simp [enumL]
def enumI : List D → S → R (List D)
  | [.lst xs], s => .ok (enumL xs) s
  | _, _ => .stuck
theorem ji_enum {p tpos : Pos} {elts : List Expr} {kk : Nat} (hg : Gl X "enumerate") (hm : X.mg "enumerate" = none) (ha : JA T X Γ [e] fs) (hs : starEach [e] X.env = [(false, eval e X.env)] := by rfl) : JI T X Γ (.Tuple elts kk tpos) (.Call (.Name "enumerate" p) [e] [] pos) (iN enumI fs) := by
  refine ⟨fun W tk => PI.imp (pi_enum hg hm (ha.run W tk) hs) fun σ H R ⟨g, st, I, p⟩ => ?_⟩
  refine ta_bind ipI I p fun ds s1 vs H1 g1 q1 I1 r1 p1 => ?_
  unfold enumI at p1
  split at p1
  · rename_i xs
    simp only [Rps, Rp] at r1
    obtain ⟨v, r, e1, ⟨a, ws, e2, h0, h1, h2⟩, e3⟩ := r1
    subst e1 e2 e3
    refine ⟨a, ws, rfl, .inl (.inl h1), p1 _ H1 g1 (.refl g1 H1) I1 ⟨fun i d g' H' s w e => ?_, fun g' H' s w => ?_, fun i d g' H' x H'' s w e y => ?_⟩⟩
    · obtain ⟨x, q, _⟩ := enumL_get e
      obtain ⟨v, q2, _⟩ := h2.get q
      exact ⟨ws, v, sql_st I1.wf h0 h1 g' H' s w, q2⟩
    · exact ⟨ws, sql_st I1.wf h0 h1 g' H' s w, by rw [enumL_len, h2.length]; exact Nat.le_refl _⟩
    · obtain ⟨z, q, ed⟩ := enumL_get e
      obtain ⟨v, q2, rv⟩ := h2.get q
      obtain ⟨t, x', ex, ht, eH, y⟩ := y
      have := (y ws (sql_st I1.wf h0 h1 g' H' s w)).symm.trans q2
      cases this
      refine .inr ⟨t, _, ht, eH, ?_⟩
      rw [ed, ex, eH]
      simp only [Rp]
      exact ⟨t, _, rfl, .of upd_same, Rps.cons (by simp only [Rp]) (.one (Rp.step w (.new ht) (Rp.step I1.wf s rv)))⟩
  · exact p1.elim
/-- zip of two lists, of two tuples -/
def zipL (xs ys : List D) : List D := (xs.zip ys).map fun p => .tup [p.1, p.2]
theorem zipL_get {xs ys : List D} {i : Nat} {d : D} (h : (zipL xs ys)[i]? = some d) : ∃ x y, xs[i]? = some x ∧ ys[i]? = some y ∧ d = .tup [x, y] := by
  unfold zipL at h
  rw [List.getElem?_map] at h
  cases q : (xs.zip ys)[i]? with
  | none => rw [q] at h; cases h
  | some z =>
    rw [q] at h
    obtain ⟨h1, h2⟩ := List.getElem?_zip_eq_some.mp q
    exact ⟨z.1, z.2, h1, h2, (Option.some.inj h).symm⟩
theorem zipL_len (xs ys : List D) : (zipL xs ys).length = min xs.length ys.length := by simp [zipL]
end
end DL
set_option linter.all false
set_option Elab.async false
set_option maxRecDepth 100000
namespace DL
open PySem PySem.Spec PyProof.Rows L2
/-! ### list comprehensions -/
def wipeD (r : List (Option D)) : List Nat → List (Option D)
  | [] => r
  | v :: vs => (wipeD r vs).set v none
def lcL (t : Tg) (ct : S → R Bool) (fe : S → R D) (r0 : List (Option D)) : List D → List Cell → Option (List D × List Cell)
  | [], m => some ([], m)
  | d :: ds, m => match asgD t d ⟨wipeD r0 t.vs, m⟩ with
    | none => none
    | some s2 => match ct s2 with
      | .ok true s3 => (match fe s3 with
        | .ok y s4 => (match lcL t ct fe r0 ds s4.m with
          | some (ys, m') => some (y :: ys, m')
          | none => none)
        | _ => none)
      | .ok false s3 => lcL t ct fe r0 ds s3.m
      | _ => none
def eLc (fi : S → R (List D)) (t : Tg) (ct : S → R Bool) (fe : S → R D) : S → R D := fun st => (fi st).bind fun ds s =>
  if ds.length ≤ sizeLine then (match lcL t ct fe s.r ds s.m with
    | some (ys, m) => .ok (.lst ys) ⟨s.r, m⟩
    | none => .stuck) else .stuck
def tYesS : S → R Bool := fun s => .ok true s
section
variable {K : PySem.W.Frag} {T : Tb} {g g' g1 : Gh} {H H' H1 : Hp} {Γ : Fls} {σ : L2.St} {st : S}
theorem SR.wipe (I : SR K T Γ g σ H st) : ∀ {vs : List Nat}, (∀ i ∈ vs, fl Γ i = .sh) → SR K T Γ g (wipe σ vs) H ⟨wipeD st.r vs, st.m⟩
  | [], _ => I
  | v :: vs, h => by
    have J := SR.wipe I (vs := vs) fun i hi => h i (List.mem_cons_of_mem _ hi)
    refine ⟨J.wf, by simpa [L2.wipe, wipeD] using J.len, fun j hj => ?_, J.me⟩
    have hj' : j < (L2.wipe σ vs).length := by simpa [L2.wipe] using hj
    show SlR K T g H j (fl Γ j) (((L2.wipe σ vs).set v none).getD j none) (((wipeD st.r vs).set v none).getD j none)
    by_cases e : v = j
    · subst e
      rw [List.getD_eq_getElem?_getD, List.getElem?_set_self hj', List.getD_eq_getElem?_getD, List.getElem?_set_self (by have := J.len; simp only at this; rw [← this]; exact hj'), h v List.mem_cons_self]
      exact True.intro
    · rw [List.getD_eq_getElem?_getD, List.getElem?_set_ne e, List.getD_eq_getElem?_getD, List.getElem?_set_ne e, ← List.getD_eq_getElem?_getD, ← List.getD_eq_getElem?_getD]
      exact J.sl j hj'
theorem wipe_wipe (σ : L2.St) : ∀ (us vs : List Nat), (∀ i ∈ us, i ∈ vs) → wipe (wipe σ us) vs = wipe σ vs
  | [], _, _ => rfl
  | u :: us, vs, h => by
    show wipe ((wipe σ us).set u none) vs = wipe σ vs
    have one : ∀ (ws : List Nat) (τ : L2.St) (i : Nat), i ∈ ws → wipe (τ.set i none) ws = wipe τ ws := by
      intro ws
      induction ws with
      | nil => intro τ i h; cases h
      | cons w ws ih =>
        intro τ i h
        show (wipe (τ.set i none) ws).set w none = (wipe τ ws).set w none
        by_cases hm : i ∈ ws
        · rw [ih τ i hm]
        · have hw : i = w := by
            rcases List.mem_cons.mp h with z | z
            · exact z
            · exact absurd z hm
          subst hw
          have comm : ∀ (us : List Nat) (τ : L2.St), i ∉ us → wipe (τ.set i none) us = (wipe τ us).set i none := by
            intro us
            induction us with
            | nil => intro τ _; rfl
            | cons u us ihu =>
              intro τ hu
              show (wipe (τ.set i none) us).set u none = ((wipe τ us).set u none).set i none
              rw [ihu τ fun z => hu (List.mem_cons_of_mem _ z), List.set_comm]
              intro z
              exact hu (by rw [z]; exact List.mem_cons_self)
          rw [comm ws τ hm, List.set_set]
    rw [one vs _ u (h u List.mem_cons_self)]
    exact wipe_wipe σ us vs fun i hi => h i (List.mem_cons_of_mem _ hi)
/-- an object of ours, neither listed nor owned, is written -/
structure Tmp (g : Gh) (H : Hp) (a : Addr) : Prop where
  at_ : ∃ xs, H a = some (.lst xs)
  na : ¬ g.A a
  no : ¬ g.Own a
theorem Tmp.step {a : Addr} (t : Tmp g H a) (s : Step g H g' H') : Tmp g' H' a := by
  obtain ⟨xs, e⟩ := t.at_
  refine ⟨⟨xs, s.fr _ _ e t.no⟩, fun q => ?_, fun q => ?_⟩
  · rcases s.an a q with q | q | q
    · exact t.na q
    · exact t.no q
    · rw [e] at q; cases q
  · rcases s.on a q with q | q
    · exact t.no q
    · rw [e] at q; cases q
theorem Tmp.sub {a : Addr} {o : HO} (t : Tmp g H a) : Sub g H g (upd H a o) := by
  obtain ⟨xs, e⟩ := t.at_
  refine ⟨fun _ h => h, fun b ob hb q => ?_, fun b ob q i => ?_, List.prefix_refl _⟩
  · rw [upd_ne fun z => t.na (by rw [← z]; exact hb)]; exact q
  · rw [upd_ne fun z => ?_]
    · exact q
    · rw [z, e] at q
      cases q
      cases i
theorem Tmp.wf {a : Addr} {o : HO} (t : Tmp g H a) (w : WF g H) : WF g (upd H a o) where
  ta := fun b hb => by
    obtain ⟨o', e⟩ := w.ta b hb
    exact ⟨o', by rw [upd_ne fun z => t.na (by rw [← z]; exact hb)]; exact e⟩
  ot := fun b hb => by
    obtain ⟨o', e⟩ := w.ot b hb
    exact ⟨o', by rw [upd_ne fun z => t.no (by rw [← z]; exact hb)]; exact e⟩
  ao := w.ao
  nf := w.nf
  df := w.df
  fm := w.fm
  nm := w.nm
theorem Tmp.sr {a : Addr} {o : HO} (t : Tmp g H a) (I : SR K T Γ g σ H st) : SR K T Γ g σ (upd H a o) st :=
  I.sub t.sub (t.wf I.wf) rfl rfl fun b hb => by rw [upd_ne fun z => t.no (by rw [← z]; exact hb)]
theorem Tmp.q {a : Addr} {o : HO} (t : Tmp g H a) (hn : H1 a = none) (s : QStep g1 H1 g H) (w1 : WF g1 H1) : QStep g1 H1 g (upd H a o) where
  aa := s.aa
  an := s.an
  on := s.on
  fr := fun b o' h n => by rw [upd_ne (ne_of_none h hn)]; exact s.fr b o' h n
  im := fun b o' h i => by rw [upd_ne (ne_of_none h hn)]; exact s.im b o' h i
  tr := fun b h => by
    by_cases e : b = a
    · rw [e]; exact hn
    · rw [upd_ne e] at h; exact s.tr b h
  mu := s.mu
  qf := s.qf
  qo := fun i b hb => by
    obtain ⟨o', e, _⟩ := w1.ot b (.inl ⟨i, hb⟩)
    rw [upd_ne (ne_of_none e hn)]
    exact s.qo i b hb
end
structure JTs (T : Tb) (X : Cx) (Γ : Fls) (es : List Expr) (f : S → R Bool) : Prop where
  run : ∀ W, Takes X W → PTs X es (tt X.K T Γ W f)
theorem PTs.imp {X : Cx} {e : List Expr} {t t' : TT} (h : PTs X e t) (i : ∀ σ H Q, t' σ H Q → t σ H Q) : PTs X e t' := ⟨fun pins s σ H Q I q => h.run pins s σ H Q I (i σ H Q q)⟩
section
variable {T : Tb} {X : Cx} {Γ : Fls} {e a b c tg elt iter : Expr} {m m1 m2 m3 : Mo} {f f1 f2 f3 fe : S → R D} {pos p2 : Pos} {es rest ifs : List Expr} {k1 k2 ct : S → R Bool} {fs fi : S → R (List D)} {is : List Nat} {t : Tg}
theorem jts_nil : JTs T X Γ [] tYesS := ⟨fun W tk => PTs.imp pts_nil fun σ H Q ⟨g, st, I, p⟩ => p H g (.refl g H) I⟩
theorem jts_one (h : JT T X Γ c k1) : JTs T X Γ [c] k1 := ⟨fun W tk => pts_one (h.run W tk)⟩
theorem lc_inv {own : List (Str × Nat)} {W : WX} (tk : Takes X W) (hown : own.map (·.2) = t.vs) (hf : ∀ i ∈ t.vs, fl Γ i = .sh)
    {σ : L2.St} {H1 : Hp} {g1 : Gh} {ds : List D} {s1 : S} {J : It} {ys : List D} {mf : List Cell} (I1 : SR X.K T Γ g1 σ H1 s1) (wl : Wlk X.K T g1 H1 J ds) (hz : ds.length ≤ sizeLine)
    (e : lcL t ct fe s1.r ds s1.m = some (ys, mf)) {Q : VK} (q : PostE X.K T Γ σ g1 H1 .f1 W Q (.ok (.lst ys) ⟨s1.r, mf⟩)) (Dd : Addr) (hD : H1 Dd = none) :
    ∃ Wi : Nat → Nat → Hp → Prop, (∃ m, Wi 0 m (upd H1 Dd (.lst []))) ∧ ∀ i m H, Wi i m H →
      (J.stop i H ∧ Q (.ref Dd) H) ∨ (J.go i H ∧ ∃ Nx : Hp → Prop, (∀ H', Nx H' → ∃ m', m' < m ∧ Wi (i + 1) m' H') ∧ ∀ x H', J.yld i H x H' → tgR X.K T t x (wipe σ (own.map (·.2))) H' fun σ2 H2 => wipe σ2 (own.map (·.2)) = wipe σ (own.map (·.2)) ∧ tt X.K T Γ (fun _ _ _ _ => False) ct σ2 H2 fun b H3 =>
        if b = true then te X.K T Γ .sh (fun _ _ _ _ => False) fe σ2 H3 fun y H4 => ∃ acc, H4 Dd = some (.lst acc) ∧ acc.length < sizeLine ∧ Nx (upd H4 Dd (.lst (acc ++ [y]))) else Nx H3) := by
  rw [hown]
  let Inv : Nat → Hp → Prop := fun i H => ∃ g mc acc vs rs, QStep g1 H1 g H ∧ SR X.K T Γ g σ H ⟨s1.r, mc⟩ ∧ Tmp g H Dd ∧ H Dd = some (.lst vs) ∧ Rps X.K T g H acc vs ∧ acc.length ≤ i ∧ lcL t ct fe s1.r (ds.drop i) mc = some (rs, mf) ∧ acc ++ rs = ys
  refine ⟨fun i m H => i ≤ ds.length ∧ m = ds.length - i ∧ Inv i H, ⟨ds.length, Nat.zero_le _, by simp, ?_⟩, ?_⟩
  · refine ⟨g1, s1.m, [], [], ys, ⟨.new hD, rfl, fun i b hb => ?_⟩, I1.new hD, ⟨⟨[], upd_same⟩, I1.wf.nota hD, I1.wf.noto hD⟩, upd_same, Rps.nil, Nat.le_refl _, by rw [List.drop_zero]; exact e, rfl⟩
    obtain ⟨o, eo, _⟩ := I1.wf.ot b (.inl ⟨i, hb⟩)
    rw [upd_ne (ne_of_none eo hD)]
  · rintro i m H ⟨hi, rfl, g, mc, acc, vs, rs, s, I, tm, eD, ra, hl, el, ey⟩
    by_cases hlt : i < ds.length
    · -- a turn
      have ed : ds.drop i = ds[i] :: ds.drop (i + 1) := (List.drop_eq_getElem_cons hlt)
      have eg : ds[i]? = some ds[i] := List.getElem?_eq_getElem hlt
      refine .inr ⟨wl.go i _ g H s.toStep I.wf eg, Inv (i + 1), fun H' h' => ⟨ds.length - (i + 1), by omega, hlt, rfl, h'⟩, fun x H' y => ?_⟩
      rw [ed] at el
      unfold lcL at el
      -- the item has come
      have hy : ∃ sH : QStep g1 H1 g H', SR X.K T Γ g σ H' ⟨s1.r, mc⟩ ∧ Tmp g H' Dd ∧ H' Dd = some (.lst vs) ∧ Rps X.K T g H' acc vs ∧ Rp X.K T g H' ds[i] x := by
        rcases wl.yld i _ g H x H' s.toStep I.wf eg y with ⟨e1, r⟩ | ⟨p, ws, hp, e1, r⟩
        · subst e1
          exact ⟨s, I, tm, eD, ra, r⟩
        · subst e1
          have st2 : Step g H g (upd H p (.tup ws)) := .new hp
          exact ⟨s.trans ⟨st2, rfl, fun i b hb => by
            obtain ⟨o, eo, _⟩ := I.wf.ot b (.inl ⟨i, hb⟩)
            rw [upd_ne (ne_of_none eo hp)]⟩, I.new hp, tm.step st2, by rw [upd_ne (ne_of_none eD hp)]; exact eD, ra.step I.wf st2, r⟩
      obtain ⟨s', I', tm', eD', ra', rx⟩ := hy
      cases ea : asgD t ds[i] ⟨wipeD s1.r t.vs, mc⟩ with
      | none => rw [ea] at el; cases el
      | some s2 =>
        rw [ea] at el
        simp only at el
        refine tgR_of (I'.wipe hf) rx hf ea fun σ2 I2 hw => ⟨?_, ?_⟩
        · rw [hw t.vs fun _ h => h, wipe_wipe σ t.vs t.vs fun _ h => h]
        · refine ⟨g, s2, I2, ?_⟩
          cases ec : ct s2 with
          | raise _ _ => rw [ec] at el; cases el
          | stuck => rw [ec] at el; cases el
          | ok b s3 =>
            rw [ec] at el
            intro H3 g3 q3 I3
            cases b with
            | false =>
              simp only at el
              rw [if_neg Bool.false_ne_true]
              have eD3 := q3.fr _ _ eD' tm'.no
              exact ⟨g3, s3.m, acc, vs, rs, s'.trans q3, I'.re (q3.toStep.sub I'.wf) I3.wf q3.qf q3.qo I3.me, tm'.step q3.toStep, eD3, ra'.step I'.wf q3.toStep, Nat.le_succ_of_le hl, el, ey⟩
            | true =>
              simp only at el
              rw [if_pos rfl]
              refine ⟨g3, s3, I3, ?_⟩
              cases ef : fe s3 with
              | raise _ _ => rw [ef] at el; cases el
              | stuck => rw [ef] at el; cases el
              | ok yd s4 =>
                rw [ef] at el
                simp only at el
                cases er : lcL t ct fe s1.r (ds.drop (i + 1)) s4.m with
                | none => rw [er] at el; cases el
                | some pr =>
                  rw [er] at el
                  obtain ⟨ys', m'⟩ := pr
                  simp only [Option.some.injEq, Prod.mk.injEq] at el
                  obtain ⟨el1, el2⟩ := el
                  subst el1 el2
                  intro v H4 g4 q4 I4 rv
                  have q34 := q3.trans q4
                  have eD4 := q34.fr _ _ eD' tm'.no
                  have tm4 := tm'.step q34.toStep
                  have ra4 := ra'.step I'.wf q34.toStep
                  refine ⟨vs, eD4, by rw [ra'.length]; omega, ?_⟩
                  refine ⟨g4, s4.m, acc ++ [yd], vs ++ [v], ys', tm4.q hD (s'.trans q34) I1.wf, tm4.sr (I'.re (q34.toStep.sub I'.wf) I4.wf q34.qf q34.qo I4.me), ⟨⟨_, upd_same⟩, tm4.na, tm4.no⟩, upd_same, (ra4.append (.one rv)).sub tm4.sub, by rw [List.length_append]; simp; omega, er, by rw [List.append_assoc]; exact ey⟩
    · have hi' : i = ds.length := by omega
      subst hi'
      refine .inl ⟨wl.stop g H s.toStep I.wf, ?_⟩
      rw [List.drop_length] at el
      simp only [lcL, Option.some.injEq, Prod.mk.injEq] at el
      obtain ⟨e1, e2⟩ := el
      subst e1 e2
      rw [List.append_nil] at ey
      subst ey
      exact q _ H g s I ⟨Dd, vs, rfl, eD, ⟨tm.na, tm.no, hD⟩, ra⟩
theorem je_lc {scope : Scope} (own : List (Str × Nat)) (hc : X.calm = true) (hN : X.N.Nodup) (hi : JI T X Γ tg iter fi) (ok : BlkOk X.N X.env.scope scope own)
    (hg : ∀ (s : Shared) (H : Hp) (C : Addr) (cl : List (Str × Addr)) (fp : List Addr), JG T (X.blk s H scope (compEnvC scope cl C X.env) fp) tg t) (ht : ∀ (s : Shared) (H : Hp) (C : Addr) (cl : List (Str × Addr)) (fp : List Addr), JTs T (X.blk s H scope (compEnvC scope cl C X.env) fp) Γ ifs ct)
    (he : ∀ (s : Shared) (H : Hp) (C : Addr) (cl : List (Str × Addr)) (fp : List Addr), JE T (X.blk s H scope (compEnvC scope cl C X.env) fp) Γ elt .sh fe) (hown : own.map (·.2) = t.vs := by rfl) (hf : ∀ i ∈ t.vs, fl Γ i = .sh := by decide) (hs : ∀ x, foldedSetIterable iter X.env x = pure x := by intro _; rfl) :
    JE T X Γ (.ListComp elt [⟨tg, iter, ifs, 0⟩] scope pos) .f1 (eLc fi t ct fe) := by
  refine ⟨fun W tk => PE.imp (pe_lc (g := tgR X.K T t) (tt := tt X.K T Γ (fun _ _ _ _ => False) ct) (te := te X.K T Γ .sh (fun _ _ _ _ => False) fe) hc hN (hi.run W tk) ok (fun s H C cl fp => (hg s H C cl fp).run) (fun s H C cl fp => (ht s H C cl fp).run _ takes0) (fun s H C cl fp => (he s H C cl fp).run _ takes0) hs) fun σ H Q ⟨g, st, I, p⟩ => ?_⟩
  refine ⟨g, st, I, ?_⟩
  unfold eLc at p
  cases e : fi st with
  | raise _ _ => rw [e] at p; exact p
  | stuck => rw [e] at p; exact p
  | ok ds s1 =>
    rw [e] at p
    intro J H1 g1 q1 I1 wl Dd hD
    simp only [R.bind] at p
    split at p
    · split at p
      · rename_i ys mf el
        exact lc_inv tk hown hf I1 wl (by assumption) el (p.shift q1) Dd hD
      · exact p.elim
    · exact p.elim
end
end DL
set_option linter.all false
set_option Elab.async false
set_option maxRecDepth 100000
namespace DL
open PySem PySem.Spec PyProof.Rows L2
/-! ### giving own lists away -/
def Gh.frz (g : Gh) (p : Nat → Bool) : Gh := ⟨fun b => g.A b ∨ ∃ i, p i = true ∧ b ∈ g.fp i, fun i => if p i = true then [] else g.fp i, g.mu⟩
section
variable {K : PySem.W.Frag} {T : Tb} {g g' g1 : Gh} {H H' H1 : Hp} {Γ Γ' : Fls} {σ : L2.St} {st : S} {p : Nat → Bool}
theorem frz_own {b : Addr} (h : (g.frz p).Own b) : g.Own b := by
  rcases h with ⟨i, h⟩ | h
  · by_cases hp : p i = true
    · simp only [Gh.frz, if_pos hp] at h
      cases h
    · simp only [Gh.frz, if_neg hp] at h
      exact .inl ⟨i, h⟩
  · exact .inr h
theorem Step.frz (wf : WF g H) : Step g H (g.frz p) H where
  aa := fun b h => .inl h
  an := fun b h => by
    rcases h with h | ⟨i, _, h⟩
    · exact .inl h
    · exact .inr (.inl (.inl ⟨i, h⟩))
  on := fun b h => .inl (frz_own h)
  fr := fun b o h _ => h
  im := fun b o h _ => h
  tr := fun b h => h
  mu := List.prefix_refl _
theorem WF.frz (w : WF g H) : WF (g.frz p) H where
  ta := fun b h => by
    rcases h with h | ⟨i, _, h⟩
    · exact w.ta b h
    · obtain ⟨o, e, _⟩ := w.ot b (.inl ⟨i, h⟩)
      exact ⟨o, e⟩
  ot := fun b h => w.ot b (frz_own h)
  ao := fun b h q => by
    rcases h with h | ⟨i, hp, h⟩
    · exact w.ao b h (frz_own q)
    · rcases q with ⟨j, q⟩ | q
      · by_cases hj : p j = true
        · simp only [Gh.frz, if_pos hj] at q
          cases q
        · simp only [Gh.frz, if_neg hj] at q
          have := w.df i j b h q
          subst this
          exact hj hp
      · exact w.fm i b h q
  nf := fun i => by
    by_cases hp : p i = true
    · simp only [Gh.frz, if_pos hp]
      exact List.nodup_nil
    · simp only [Gh.frz, if_neg hp]
      exact w.nf i
  df := fun i j b h1 h2 => by
    by_cases hp : p i = true
    · simp only [Gh.frz, if_pos hp] at h1
      cases h1
    · by_cases hq : p j = true
      · simp only [Gh.frz, if_pos hq] at h2
        cases h2
      · simp only [Gh.frz, if_neg hp] at h1
        simp only [Gh.frz, if_neg hq] at h2
        exact w.df i j b h1 h2
  fm := fun i b h => by
    by_cases hp : p i = true
    · simp only [Gh.frz, if_pos hp] at h
      cases h
    · simp only [Gh.frz, if_neg hp] at h
      exact w.fm i b h
  nm := w.nm
theorem l2_rps : ∀ {bs : List Addr} {dss : List (List D)}, (∀ b ∈ bs, g.A b) → L2R K T g H bs dss → Rps K T g H (dss.map D.lst) (bs.map V.ref)
  | [], dss, _, h => by
    cases h
    exact Rps.nil
  | b :: bs, dss, ha, h => by
    obtain ⟨ds, r, ws, e, h1, h2, h3⟩ := h
    subst e
    refine Rps.cons ?_ (l2_rps (fun c hc => ha c (List.mem_cons_of_mem _ hc)) h3)
    simp only [Rp]
    exact ⟨b, ws, rfl, ha b List.mem_cons_self, h1, h2⟩
theorem SR.frz (I : SR K T Γ g σ H st) (hΓ : ∀ i, fl Γ' i = if p i = true then .sh else fl Γ i) : SR K T Γ' (g.frz p) σ H st where
  wf := I.wf.frz
  len := I.len
  sl := fun i hi => by
    have u : Sub g H (g.frz p) H := (Step.frz I.wf).sub I.wf
    have q := I.sl i hi
    rw [hΓ i]
    by_cases hp : p i = true
    · rw [if_pos hp]
      generalize σ.getD i none = v at q
      generalize st.r.getD i none = d at q
      cases h : fl Γ i with
      | sh =>
        rw [h] at q
        cases v <;> cases d <;> first
          | exact q
          | exact Rp.sub u q
      | o1 =>
        rw [h] at q
        cases v with
        | none => exact q.elim
        | some v =>
          cases d with
          | none => exact q.elim
          | some d =>
            obtain ⟨a, vs, ds, e1, e2, e3, h1, h2⟩ := q
            subst e1 e2
            show Rp K T (g.frz p) H (.lst ds) (.ref a)
            simp only [Rp]
            exact ⟨a, vs, rfl, .inr ⟨i, hp, by rw [e3]; exact List.mem_cons_self⟩, h1, h2.sub u⟩
      | o2 =>
        rw [h] at q
        cases v with
        | none => exact q.elim
        | some v =>
          cases d with
          | none => exact q.elim
          | some d =>
            obtain ⟨a, bs, dss, e1, e2, e3, h1, h2⟩ := q
            subst e1 e2
            show Rp K T (g.frz p) H (.lst _) (.ref a)
            simp only [Rp]
            exact ⟨a, _, rfl, .inr ⟨i, hp, by rw [e3]; exact List.mem_cons_self⟩, h1, l2_rps (fun b hb => .inr ⟨i, hp, by rw [e3]; exact List.mem_cons_of_mem _ hb⟩) (h2.sub u fun _ _ => rfl)⟩
    · rw [if_neg hp]
      refine q.sub u (by simp only [Gh.frz, if_neg hp]) fun _ _ => rfl
  me := I.me.sub ((Step.frz I.wf).sub I.wf) rfl fun _ _ => rfl
theorem SR.frzAll (I : SR K T Γ g σ H st) : SR K T [] (g.frz fun _ => true) σ H st := I.frz fun i => by
  rw [if_pos rfl]
  rfl
end
/-! ### statements -/
inductive RS where
  | next (s : S) | brk (s : S) | cont (s : S) | ret (d : D) (s : S) | raise (e : Ex) (s : S) | stuck
/-- the flags behind a block, at a loop's break and continue; the return's mode -/
structure Fx where
  nx : Fls
  lp : Fls := []
  rm : Mo := .sh
/-- the def's entry -/
structure Bs where
  g : Gh
  H : Hp
structure SB (K : PySem.W.Frag) (T : Tb) (Γ : Fls) (B : Bs) (g : Gh) (σ : L2.St) (H : Hp) (st : S) : Prop extends SR K T Γ g σ H st where
  bs : Step B.g B.H g H
  bf : ∀ i, B.g.fp i = []
theorem SB.go {K : PySem.W.Frag} {T : Tb} {Γ Γ' : Fls} {B : Bs} {g g' : Gh} {σ σ' : L2.St} {H H' : Hp} {st st' : S} (I : SB K T Γ B g σ H st) (s : Step g H g' H') (r : SR K T Γ' g' σ' H' st') : SB K T Γ' B g' σ' H' st' := ⟨r, I.bs.trans s, I.bf⟩
section
variable (K : PySem.W.Frag) (T : Tb) (F : Fx) (B : Bs) (g : Gh) (H : Hp)
def PostS (W : WX) (E : Ends) : RS → Prop
  | .next st => ∀ σ' H' g', Step g H g' H' → SR K T F.nx g' σ' H' st → E.nx σ' H'
  | .brk st => ∀ σ' H' g', Step g H g' H' → SR K T F.lp g' σ' H' st → E.bk σ' H'
  | .cont st => ∀ σ' H' g', Step g H g' H' → SR K T F.lp g' σ' H' st → E.ct σ' H'
  | .ret d st => ∀ v H' g', Step B.g B.H g' H' → WF g' H' → (∀ i, g'.fp i = []) → MR K T g' H' st.m → RpM K T g' B.H H' F.rm d v → E.rt v H'
  | .raise e st => ∀ cls dd σ' H' g', Step g H g' H' → SR K T [] g' σ' H' st → ExR K T g' H' e cls dd → W cls dd σ' H'
  | .stuck => False
end
def ts (K : PySem.W.Frag) (T : Tb) (Γ : Fls) (F : Fx) (W : WX) (f : S → RS) : TS := fun E σ H => ∃ B g st, SB K T Γ B g σ H st ∧ PostS K T F B g H W E (f st)
structure JS (T : Tb) (X : Cx) (Γ : Fls) (F : Fx) (s : Stmt) (f : S → RS) : Prop where
  run : ∀ W, Takes X W → PS X s (ts X.K T Γ F W f)
structure JSs (T : Tb) (X : Cx) (Γ : Fls) (F : Fx) (s : List Stmt) (f : S → RS) : Prop where
  run : ∀ W, Takes X W → PSs X s (ts X.K T Γ F W f)
theorem PS.imp {X : Cx} {e : Stmt} {t t' : TS} (h : PS X e t) (i : ∀ E σ H, t' E σ H → t E σ H) : PS X e t' := ⟨fun pins s σ H Q I q => h.run pins s σ H Q I (i Q σ H q)⟩
theorem PSs.imp {X : Cx} {e : List Stmt} {t t' : TS} (h : PSs X e t) (i : ∀ E σ H, t' E σ H → t E σ H) : PSs X e t' := ⟨fun pins s σ H Q I q => h.run pins s σ H Q I (i Q σ H q)⟩
section
variable {K : PySem.W.Frag} {T : Tb} {F F' : Fx} {B : Bs} {g g' : Gh} {H H' : Hp} {W : WX} {E : Ends} {Γ Γ' : Fls} {σ : L2.St} {st : S} {nx lp : Fls} {rm : Mo}
theorem PostS.shift {r : RS} (s : Step g H g' H') (h : PostS K T F B g H W E r) : PostS K T F B g' H' W E r := by
  cases r with
  | next st => exact fun σ2 H2 g2 s2 r2 => h σ2 H2 g2 (s.trans s2) r2
  | brk st => exact fun σ2 H2 g2 s2 r2 => h σ2 H2 g2 (s.trans s2) r2
  | cont st => exact fun σ2 H2 g2 s2 r2 => h σ2 H2 g2 (s.trans s2) r2
  | ret d st => exact h
  | raise e st => exact fun cls dd σ2 H2 g2 s2 => h cls dd σ2 H2 g2 (s.trans s2)
  | stuck => exact h
end
/-- an expression's result goes on as a statement's -/
def R.then {α : Type} (r : R α) (k : α → S → RS) : RS := match r with
  | .ok a s => k a s
  | .raise e s => .raise e s
  | .stuck => .stuck
section
variable {K : PySem.W.Frag} {T : Tb} {F F' : Fx} {B : Bs} {g g' : Gh} {H H' : Hp} {W : WX} {E : Ends} {Γ Γ' : Fls} {σ : L2.St} {st : S} {m : Mo} {nx lp : Fls} {rm : Mo}
theorem te_then {f : S → R D} {k : D → S → RS} {Q : VK} (I : SR K T Γ g σ H st) (h : PostS K T F B g H W E ((f st).then k))
    (hk : ∀ d st' v H' g', QStep g H g' H' → SR K T Γ g' σ H' st' → RpM K T g' H H' m d v → PostS K T F B g' H' W E (k d st') → Q v H') : te K T Γ m W f σ H Q := by
  refine ⟨g, st, I, ?_⟩
  cases e : f st with
  | ok d st' =>
    rw [e] at h
    exact fun v H' g' s r p => hk d st' v H' g' s r p (h.shift s.toStep)
  | raise ex st' =>
    rw [e] at h
    exact fun cls dd H' g' => h cls dd σ H' g'
  | stuck =>
    rw [e] at h
    exact h
theorem tt_then {f : S → R Bool} {k : Bool → S → RS} {Q : Bool → Hp → Prop} (I : SR K T Γ g σ H st) (h : PostS K T F B g H W E ((f st).then k))
    (hk : ∀ b st' H' g', QStep g H g' H' → SR K T Γ g' σ H' st' → PostS K T F B g' H' W E (k b st') → Q b H') : tt K T Γ W f σ H Q := by
  refine ⟨g, st, I, ?_⟩
  cases e : f st with
  | ok d st' =>
    rw [e] at h
    exact fun H' g' s r => hk d st' H' g' s r (h.shift s.toStep)
  | raise ex st' =>
    rw [e] at h
    exact fun cls dd H' g' => h cls dd σ H' g'
  | stuck =>
    rw [e] at h
    exact h
end
section
variable {T : Tb} {X : Cx} {Γ Γ' : Fls} {F : Fx} {e a b c tg iter : Expr} {m m1 m2 m3 : Mo} {f f1 f2 f3 : S → R D} {pos p2 pos' : Pos} {es rest : List Expr} {k1 k2 : S → R Bool} {fs fi : S → R (List D)} {t : Tg} {s1 s2 : Stmt} {ss ss2 : List Stmt} {q q1 q2 : S → RS} {nx lp : Fls} {rm : Mo}
def sNil : S → RS := fun s => .next s
def sSeq (f g : S → RS) : S → RS := fun s => match f s with
  | .next s' => g s'
  | r => r
theorem jss_nil : JSs T X Γ ⟨Γ, lp, rm⟩ [] sNil := ⟨fun W tk => PSs.imp pss_nil fun E σ H ⟨B, g, st, I, p⟩ => p σ H g (.refl g H) I.toSR⟩
theorem jss_cons (h1 : JS T X Γ ⟨Γ', F.lp, F.rm⟩ s1 q1) (h2 : JSs T X Γ' F ss q2) : JSs T X Γ F (s1 :: ss) (sSeq q1 q2) := by
  refine ⟨fun W tk => PSs.imp (pss_cons (h1.run W tk) (h2.run W tk)) fun E σ H ⟨B, g, st, I, p⟩ => ⟨B, g, st, I, ?_⟩⟩
  unfold sSeq at p
  cases e : q1 st with
  | next s' =>
    rw [e] at p
    exact fun σ' H' g' s r => ⟨B, g', s', I.go s r, p.shift s⟩
  | brk s' => rw [e] at p; exact p
  | cont s' => rw [e] at p; exact p
  | ret d s' => rw [e] at p; exact p
  | raise ex s' => rw [e] at p; exact p
  | stuck => rw [e] at p; exact p
theorem jss_one (h1 : JS T X Γ F s1 q1) : JSs T X Γ F [s1] q1 := ⟨fun W tk => pss_one (h1.run W tk)⟩
/-- own lists are given away ahead of a statement -/
theorem js_frz (p : Nat → Bool) (hΓ : ∀ i, fl Γ' i = if p i = true then .sh else fl Γ i) (h : JS T X Γ' F s1 q) : JS T X Γ F s1 q :=
  ⟨fun W tk => PS.imp (h.run W tk) fun E σ H ⟨B, g, st, I, po⟩ => ⟨B, g.frz p, st, I.go (.frz I.wf) (I.frz hΓ), po.shift (.frz I.wf)⟩⟩
theorem jss_frz (p : Nat → Bool) (hΓ : ∀ i, fl Γ' i = if p i = true then .sh else fl Γ i) (h : JSs T X Γ' F ss q) : JSs T X Γ F ss q :=
  ⟨fun W tk => PSs.imp (h.run W tk) fun E σ H ⟨B, g, st, I, po⟩ => ⟨B, g.frz p, st, I.go (.frz I.wf) (I.frz hΓ), po.shift (.frz I.wf)⟩⟩
def sRet (f : S → R D) : S → RS := fun s => (f s).then fun d s => .ret d s
theorem WF.drop {g : Gh} {H : Hp} (w : WF g H) : WF ⟨g.A, fun _ => [], g.mu⟩ H where
  ta := w.ta
  ot := fun b h => w.ot b (.inr (by
    rcases h with ⟨i, h⟩ | h
    · cases h
    · exact h))
  ao := fun b h q => w.ao b h (.inr (by
    rcases q with ⟨i, q⟩ | q
    · cases q
    · exact q))
  nf := fun _ => List.nodup_nil
  df := fun _ _ _ h => by cases h
  fm := fun _ _ h => by cases h
  nm := w.nm
theorem Step.drop {g : Gh} {H : Hp} : Step g H ⟨g.A, fun _ => [], g.mu⟩ H where
  aa := fun _ h => h
  an := fun _ h => .inl h
  on := fun b h => .inl (by
    rcases h with ⟨i, h⟩ | h
    · cases h
    · exact .inr h)
  fr := fun _ _ h _ => h
  im := fun _ _ h _ => h
  tr := fun _ h => h
  mu := List.prefix_refl _
theorem Sub.drop {g : Gh} {H : Hp} : Sub g H ⟨g.A, fun _ => [], g.mu⟩ H := ⟨fun _ h => h, fun _ _ _ h => h, fun _ _ h _ => h, List.prefix_refl _⟩
theorem MR.drop {K : PySem.W.Frag} {g : Gh} {H : Hp} {m : List Cell} (h : MR K T g H m) : MR K T ⟨g.A, fun _ => [], g.mu⟩ H m := h.sub .drop rfl fun _ _ => rfl
theorem Fresh.drop {g : Gh} {H0 : Hp} {a : Addr} (f : Fresh g H0 a) : Fresh ⟨g.A, fun _ => [], g.mu⟩ H0 a := ⟨f.1, fun q => f.2.1 (.inr (by
  rcases q with ⟨i, q⟩ | q
  · cases q
  · exact q)), f.2.2⟩
theorem RpM.drop {K : PySem.W.Frag} {g : Gh} {H0 H : Hp} {d : D} {v : V} (hm : m = .sh ∨ m = .f1 ∨ m = .f2) (h : RpM K T g H0 H m d v) : RpM K T ⟨g.A, fun _ => [], g.mu⟩ H0 H m d v := by
  rcases hm with rfl | rfl | rfl
  · exact Rp.sub .drop h
  · cases d with
    | lst ds =>
      obtain ⟨a, vs, e, h1, h2, h3⟩ := h
      exact ⟨a, vs, e, h1, h2.drop, h3.sub .drop⟩
    | _ => exact Rp.sub .drop h
  · cases d with
    | lst ds =>
      obtain ⟨a, bs, dss, e, e2, h1, nd, h2, h3⟩ := h
      exact ⟨a, bs, dss, e, e2, h1, nd, fun b hb => (h2 b hb).drop, h3.sub .drop fun _ _ => rfl⟩
    | _ => exact Rp.sub .drop h
theorem js_ret (ha : JE T X Γ e F.rm f) (hm : F.rm = .sh ∨ F.rm = .f1 ∨ F.rm = .f2 := by first | exact .inl rfl | exact .inr (.inl rfl) | exact .inr (.inr rfl)) : JS T X Γ F (.Return (some e) pos) (sRet f) := by
  refine ⟨fun W tk => PS.imp (ps_ret (ha.run W tk)) fun E σ H ⟨B, g, st, I, p⟩ => ?_⟩
  refine ⟨g, st, I.toSR, ?_⟩
  unfold sRet at p
  cases e : f st with
  | ok d s1 =>
    rw [e] at p
    intro v H1 g1 q1 I1 r1
    exact p v H1 ⟨g1.A, fun _ => [], g1.mu⟩ ((I.bs.trans q1.toStep).trans .drop) I1.wf.drop (fun _ => rfl) I1.me.drop ((r1.base I.bs.tr).drop hm)
  | raise ex s1 => rw [e] at p; exact fun cls dd H' g' => p cls dd σ H' g'
  | stuck => rw [e] at p; exact p
/-- an own list is handed back -/
theorem js_retO (i : Nat) {x : Str} {p' : Pos} (hrm : F.rm = .f1) (hN : X.N[i]? = some x := by rfl) (hv : Vis X.env.scope x := by first | exact Or.inl rfl | exact Or.inr (Or.inl rfl) | exact Or.inr (Or.inr rfl)) (hd : (x == ("__debug__" : Str)) = false := by decide)
    (hcd : (x == ("__classdict__" : Str)) = false := by decide) (hf : fl Γ i = .o1 := by rfl) : JS T X Γ F (.Return (some (.Name x p')) pos) (sRet (eVar i)) := by
  refine ⟨fun W tk => PS.imp (ps_ret (pe_var hN hv hd hcd)) fun E σ H ⟨B, g, st, I, p⟩ => ?_⟩
  unfold sRet eVar at p
  cases e : st.r.getD i none with
  | none =>
    rw [e] at p
    exact p.elim
  | some d =>
    rw [e] at p
    obtain ⟨v, h1, h2⟩ := I.slot e
    rw [hf] at h2
    obtain ⟨ad, vs, ds, e1, e2, e3, h3, h4⟩ := h2
    subst e1 e2
    have hm : ad ∈ g.fp i := by rw [e3]; exact List.mem_cons_self
    refine ⟨_, h1, p _ H ⟨g.A, fun _ => [], g.mu⟩ (I.bs.trans .drop) I.wf.drop (fun _ => rfl) I.me.drop ?_⟩
    rw [hrm]
    refine ⟨ad, vs, rfl, h3, ⟨fun q => I.wf.ao ad q (.inl ⟨i, hm⟩), fun q => ?_, ?_⟩, h4.sub .drop⟩
    · rcases q with ⟨j, q⟩ | q
      · cases q
      · exact I.wf.fm i ad hm q
    · rcases I.bs.on ad (.inl ⟨i, hm⟩) with (⟨j, q⟩ | q) | q
      · rw [I.bf j] at q
        cases q
      · exact absurd (I.bs.mu.subset q) (I.wf.fm i ad hm)
      · exact q
def sIf (c : S → R Bool) (a b : S → RS) : S → RS := fun s => (c s).then fun k s => if k then a s else b s
theorem js_if (hc : JT T X Γ c k1) (ha : JSs T X Γ F ss q1) (hb : JSs T X Γ F ss2 q2) : JS T X Γ F (.If c ss ss2 pos) (sIf k1 q1 q2) := by
  refine ⟨fun W tk => PS.imp (ps_if (hc.run W tk) (ha.run W tk) (hb.run W tk)) fun E σ H ⟨B, g, st, I, p⟩ => ?_⟩
  refine tt_then I.toSR p fun k s1 H1 g1 q1 I1 p1 => ?_
  cases k with
  | true => exact ⟨B, g1, s1, I.go q1.toStep I1, p1⟩
  | false => exact ⟨B, g1, s1, I.go q1.toStep I1, p1⟩
def sDrop (f : S → R D) : S → RS := fun s => (f s).then fun _ s => .next s
theorem js_expr (he : JE T X Γ e m f) (hs : swapsWith e none pos.line X.env = pure false := by rfl) : JS T X Γ ⟨Γ, lp, rm⟩ (.Expr e pos) (sDrop f) := by
  refine ⟨fun W tk => PS.imp (ps_expr (he.run W tk) hs) fun E σ H ⟨B, g, st, I, p⟩ => ?_⟩
  exact te_then I.toSR p fun d s1 x H1 g1 q1 I1 r1 p1 => p1 σ H1 g1 (.refl g1 H1) I1
end
end DL
set_option linter.all false
set_option Elab.async false
set_option maxRecDepth 100000
namespace DL
open PySem PySem.Spec PyProof.Rows L2
/-! ### storing into a slot -/
def Gh.slot (g : Gh) (i : Nat) (L : List Addr) : Gh := ⟨g.A, fun j => if j = i then L else g.fp j, g.mu⟩
section
variable {K : PySem.W.Frag} {T : Tb} {g g' g0 : Gh} {H H' H0 : Hp} {Γ Γ' : Fls} {σ : L2.St} {st : S} {i : Nat} {L : List Addr}
theorem slot_own {b : Addr} (h : (g.slot i L).Own b) : g.Own b ∨ b ∈ L := by
  rcases h with ⟨j, h⟩ | h
  · by_cases hj : j = i
    · simp only [Gh.slot, if_pos hj] at h
      exact .inr h
    · simp only [Gh.slot, if_neg hj] at h
      exact .inl (.inl ⟨j, h⟩)
  · exact .inl (.inr h)
theorem Step.slot (s : Step g0 H0 g H) (hL : ∀ b ∈ L, H0 b = none) : Step g0 H0 (g.slot i L) H where
  aa := s.aa
  an := s.an
  on := fun b h => by
    rcases slot_own h with h | h
    · exact s.on b h
    · exact .inr (hL b h)
  fr := s.fr
  im := s.im
  tr := s.tr
  mu := s.mu
theorem WF.slot (w : WF g H) (nd : L.Nodup) (ht : ∀ b ∈ L, ∃ xs, H b = some (.lst xs)) (hA : ∀ b ∈ L, ¬ g.A b) (hO : ∀ b ∈ L, ¬ g.Own b) : WF (g.slot i L) H where
  ta := w.ta
  ot := fun b h => by
    rcases slot_own h with h | h
    · exact w.ot b h
    · obtain ⟨xs, e⟩ := ht b h
      exact ⟨_, e, rfl⟩
  ao := fun b h q => by
    rcases slot_own q with q | q
    · exact w.ao b h q
    · exact hA b q h
  nf := fun j => by
    by_cases hj : j = i
    · simp only [Gh.slot, if_pos hj]; exact nd
    · simp only [Gh.slot, if_neg hj]; exact w.nf j
  df := fun j k b h1 h2 => by
    by_cases hj : j = i
    · simp only [Gh.slot, if_pos hj] at h1
      by_cases hk : k = i
      · rw [hj, hk]
      · simp only [Gh.slot, if_neg hk] at h2
        exact absurd (.inl ⟨k, h2⟩) (hO b h1)
    · simp only [Gh.slot, if_neg hj] at h1
      by_cases hk : k = i
      · simp only [Gh.slot, if_pos hk] at h2
        exact absurd (.inl ⟨j, h1⟩) (hO b h2)
      · simp only [Gh.slot, if_neg hk] at h2
        exact w.df j k b h1 h2
  fm := fun j b h q => by
    by_cases hj : j = i
    · simp only [Gh.slot, if_pos hj] at h
      exact hO b h (.inr q)
    · simp only [Gh.slot, if_neg hj] at h
      exact w.fm j b h q
  nm := w.nm
theorem Sub.slot : Sub g H (g.slot i L) H := ⟨fun _ h => h, fun _ _ _ h => h, fun _ _ h _ => h, List.prefix_refl _⟩
def Mo.fl : Mo → Fl
  | .f1 => .o1
  | .f2 => .o2
  | _ => .sh
/-- does a value of this mode and form own lists when it is stored -/
def flOf : Mo → D → Fl
  | .f1, .lst _ => .o1
  | .f2, .lst _ => .o2
  | _, _ => .sh
theorem SR.asg {d : D} {v : V} {m : Mo} (I : SR K T Γ g σ H st) (s : Step g0 H0 g H) (hm : m = .sh ∨ m = .f1 ∨ m = .f2) (r : RpM K T g H0 H m d v) (hΓ : ∀ j, fl Γ' j = if j = i then flOf m d else fl Γ j) :
    ∃ L, Step g0 H0 (g.slot i L) H ∧ SR K T Γ' (g.slot i L) (σ.set i (some v)) H { st with r := st.r.set i (some d) } ∧ (∀ b ∈ L, Fresh g H0 b) := by
  have other : ∀ (L : List Addr), WF (g.slot i L) H → SlR K T (g.slot i L) H i (flOf m d) (some v) (some d) → SR K T Γ' (g.slot i L) (σ.set i (some v)) H { st with r := st.r.set i (some d) } := fun L w hs => by
    refine ⟨w, by simpa using I.len, fun j hj => ?_, I.me.sub .slot rfl fun _ _ => rfl⟩
    have hj' : j < σ.length := by simpa using hj
    rw [hΓ j]
    by_cases h : i = j
    · subst h
      rw [List.getD_eq_getElem?_getD, List.getElem?_set_self hj', List.getD_eq_getElem?_getD, List.getElem?_set_self (by rw [← I.len]; exact hj'), if_pos rfl]
      exact hs
    · rw [List.getD_eq_getElem?_getD, List.getElem?_set_ne h, List.getD_eq_getElem?_getD, List.getElem?_set_ne h, ← List.getD_eq_getElem?_getD, ← List.getD_eq_getElem?_getD, if_neg (Ne.symm h)]
      exact (I.sl j hj').sub .slot (by simp only [Gh.slot, if_neg (Ne.symm h)]) fun _ _ => rfl
  have plain : Rp K T g H d v → flOf m d = .sh → ∃ L, Step g0 H0 (g.slot i L) H ∧ SR K T Γ' (g.slot i L) (σ.set i (some v)) H { st with r := st.r.set i (some d) } ∧ (∀ b ∈ L, Fresh g H0 b) := fun q e => by
    refine ⟨[], s.slot (fun b hb => by cases hb), other [] (I.wf.slot List.nodup_nil (fun b hb => by cases hb) (fun b hb => by cases hb) (fun b hb => by cases hb)) ?_, fun b hb => by cases hb⟩
    rw [e]
    exact Rp.sub .slot q
  rcases hm with rfl | rfl | rfl
  · exact plain r rfl
  · cases d with
    | lst ds =>
      obtain ⟨a, vs, e, h1, h2, h3⟩ := r
      have one : ∀ b ∈ [a], b = a := fun b hb => by simpa using hb
      refine ⟨[a], s.slot (fun b hb => by rw [one b hb]; exact h2.2.2), other [a] (I.wf.slot (by simp) (fun b hb => ⟨vs, by rw [one b hb]; exact h1⟩) (fun b hb => by rw [one b hb]; exact h2.1) (fun b hb => by rw [one b hb]; exact h2.2.1)) ?_, fun b hb => by rw [one b hb]; exact h2⟩
      exact ⟨a, vs, ds, e, rfl, by simp only [Gh.slot, if_true], h1, h3.sub .slot⟩
    | _ => exact plain r rfl
  · cases d with
    | lst ds =>
      obtain ⟨a, bs, dss, e, e2, h1, nd, h2, h3⟩ := r
      refine ⟨a :: bs, s.slot (fun b hb => (h2 b hb).2.2), other _ (I.wf.slot nd (fun b hb => ?_) (fun b hb => (h2 b hb).1) (fun b hb => (h2 b hb).2.1)) ?_, h2⟩
      · rcases List.mem_cons.mp hb with rfl | hb
        · exact ⟨_, h1⟩
        · exact h3.tracked b hb
      · subst e2
        exact ⟨a, bs, dss, e, rfl, by simp only [Gh.slot, if_true], h1, h3.sub .slot fun _ _ => rfl⟩
    | _ => exact plain r rfl
end
section
variable {T : Tb} {X : Cx} {Γ Γ' : Fls} {F : Fx} {e a b c tg iter : Expr} {m m1 m2 m3 : Mo} {f f1 f2 f3 : S → R D} {pos p2 pos' : Pos} {es rest : List Expr} {k1 k2 : S → R Bool} {fs fi : S → R (List D)} {t : Tg} {s1 s2 : Stmt} {ss ss2 : List Stmt} {q q1 q2 : S → RS} {nx lp : Fls} {rm : Mo}
def sAsg (t : Tg) (f : S → R D) : S → RS := fun s => (f s).then fun d s => match asgD t d s with
  | some s' => .next s'
  | none => .stuck
/-- x = e, of any form of e but a comprehension on one line -/
theorem js_set (i : Nat) {x : Str} (hN : X.N.Nodup) (he : JE T X Γ e .sh f) (hi : X.N[i]? = some x := by rfl) (hx : Loc X.env.scope x := by first | exact Or.inl rfl | exact Or.inr rfl) (hs : swapsWith e (some (.Name x pos')) pos.line X.env = pure false := by rfl)
    (hΓ : fl Γ i = .sh := by rfl) (hf : X.fn x = true ∨ X.env.scope.names.lookup x = some .local := by first | exact .inl rfl | exact .inr rfl | assumption) : JS T X Γ ⟨Γ, lp, rm⟩ (.Assign [.Name x pos'] e pos) (sAsg (.one i) f) := by
  refine ⟨fun W tk => PS.imp (ps_set hN hi hx (he.run W tk) hs hf) fun E σ H ⟨B, g, st, I, p⟩ => ?_⟩
  refine te_then I.toSR p fun d s1 x H1 g1 q1 I1 r1 p1 => ?_
  exact p1 _ H1 g1 (.refl g1 H1) (I1.set hΓ r1)
/-- x = a fresh list (or anything else) -/
def sAsgF (i : Nat) (f : S → R D) : S → RS := fun s => (f s).then fun d s => match d with
  | .lst _ => .next { s with r := s.r.set i (some d) }
  | _ => .stuck
theorem js_setF (i : Nat) {x : Str} (hN : X.N.Nodup) (he : JE T X Γ e m f) (hm : m = .f1 ∨ m = .f2 := by first | exact .inl rfl | exact .inr rfl) (hi : X.N[i]? = some x := by rfl) (hx : Loc X.env.scope x := by first | exact Or.inl rfl | exact Or.inr rfl) (hs : swapsWith e (some (.Name x pos')) pos.line X.env = pure false := by rfl)
    (hΓ : ∀ j, fl Γ' j = if j = i then m.fl else fl Γ j) (hf : X.fn x = true ∨ X.env.scope.names.lookup x = some .local := by first | exact .inl rfl | exact .inr rfl | assumption) : JS T X Γ ⟨Γ', lp, rm⟩ (.Assign [.Name x pos'] e pos) (sAsgF i f) := by
  refine ⟨fun W tk => PS.imp (ps_set hN hi hx (he.run W tk) hs hf) fun E σ H ⟨B, g, st, I, p⟩ => ?_⟩
  refine ⟨g, st, I.toSR, ?_⟩
  unfold sAsgF at p
  cases e : f st with
  | ok d s1 =>
    rw [e] at p
    intro v H1 g1 q1 I1 r1
    cases d with
    | lst ds =>
      have hfl : m.fl = flOf m (.lst ds) := by rcases hm with rfl | rfl <;> rfl
      obtain ⟨L, st2, I2, _⟩ := I1.asg (Γ' := Γ') (i := i) q1.toStep (by rcases hm with rfl | rfl; exact .inr (.inl rfl); exact .inr (.inr rfl)) r1 (fun j => by rw [hΓ j, hfl])
      exact p _ H1 _ st2 I2
    | _ => exact p.elim
  | raise ex s1 => rw [e] at p; exact fun cls dd H' g' => p cls dd σ H' g'
  | stuck => rw [e] at p; exact p
/-- x = [..], a comprehension on one line; x a local -/
theorem js_setLc {y : Str} {py spos : Pos} {elt : Expr} {ifs : List Expr} {scope : Scope} {ct : S → R Bool} {fe : S → R D} (i : Nat) (own : List (Str × Nat)) (hc : X.calm = true) (hN : X.N.Nodup) (hi : JI T X Γ tg iter fi) (ok : BlkOk X.N X.env.scope scope own)
    (hg : ∀ (s : Shared) (H : Hp) (C : Addr) (cl : List (Str × Addr)) (fp : List Addr), JG T (X.blk s H scope (compEnvC scope cl C X.env) fp) tg t) (ht : ∀ (s : Shared) (H : Hp) (C : Addr) (cl : List (Str × Addr)) (fp : List Addr), JTs T (X.blk s H scope (compEnvC scope cl C X.env) fp) Γ ifs ct)
    (he : ∀ (s : Shared) (H : Hp) (C : Addr) (cl : List (Str × Addr)) (fp : List Addr), JE T (X.blk s H scope (compEnvC scope cl C X.env) fp) Γ elt .sh fe)
    (hsw : swapsWith (.ListComp elt [⟨tg, iter, ifs, 0⟩] scope pos) (some (.Name y py)) spos.line X.env = pure true)
    (hΓ : ∀ j, fl Γ' j = if j = i then .o1 else fl Γ j) (hy : X.N[i]? = some y := by rfl) (hyl : X.env.scope.names.lookup y = some .local := by rfl)
    (hown : own.map (·.2) = t.vs := by rfl) (hf : ∀ i ∈ t.vs, fl Γ i = .sh := by decide) (hs : ∀ x, foldedSetIterable iter X.env x = pure x := by intro _; rfl) :
    JS T X Γ ⟨Γ', lp, rm⟩ (.Assign [.Name y py] (.ListComp elt [⟨tg, iter, ifs, 0⟩] scope pos) spos) (sAsgF i (eLc fi t ct fe)) := by
  refine ⟨fun W tk => PS.imp (ps_setLc (g := tgR X.K T t) (tt := tt X.K T Γ (fun _ _ _ _ => False) ct) (te := te X.K T Γ .sh (fun _ _ _ _ => False) fe) hc hN hy hyl hsw (hi.run W tk) ok (fun s H C cl fp => (hg s H C cl fp).run) (fun s H C cl fp => (ht s H C cl fp).run _ takes0) (fun s H C cl fp => (he s H C cl fp).run _ takes0) hs) fun E σ H ⟨B, g, st, I, p⟩ => ?_⟩
  refine ⟨g, st, I.toSR, ?_⟩
  unfold sAsgF eLc at p
  cases e : fi st with
  | raise _ _ => rw [e] at p; exact fun cls dd H' g' => p cls dd σ H' g'
  | stuck => rw [e] at p; exact p
  | ok ds s1 =>
    rw [e] at p
    intro J H1 g1 q1 I1 wl Dd hD
    simp only [R.bind] at p
    split at p
    · split at p
      · rename_i ys mf el
        simp only [R.then] at p
        refine lc_inv (W := W) (Q := fun x H1 => gName i x σ H1 E.nx) tk hown hf I1 wl (by assumption) el (fun v H2 g2 q2 I2 r2 => ?_) Dd hD
        obtain ⟨L, st2, I3, _⟩ := I2.asg (Γ' := Γ') (i := i) (q1.trans q2).toStep (.inr (.inl rfl)) (r2.base q1.tr) (fun j => by rw [hΓ j]; rfl)
        exact p _ H2 _ st2 I3
      · exact p.elim
    · exact p.elim
/-- (a, b, ..) = e -/
theorem js_asgT {tg : Expr} (he : JE T X Γ e .sh f) (hg : JG T X tg t) (hΓ : ∀ i ∈ t.vs, fl Γ i = .sh := by decide) (hs : swapsWithSole [tg] e pos.line X.env = pure false := by rfl) (hw : swappedStores [tg] e X.env = pure none := by rfl)
    (h1 : (assignEach [tg] X.env).map (·.2) = [assign tg X.env] := by rfl) : JS T X Γ ⟨Γ, lp, rm⟩ (.Assign [tg] e pos) (sAsg t f) := by
  refine ⟨fun W tk => PS.imp (ps_asg (he.run W tk) hg.run hs hw h1) fun E σ H ⟨B, g, st, I, p⟩ => ?_⟩
  refine te_then I.toSR p fun d s1 x H1 g1 q1 I1 r1 p1 => ?_
  split at p1
  · rename_i s' ea
    exact tgR_of I1 r1 hΓ ea fun σ' I2 _ => p1 _ H1 g1 (.refl g1 H1) I2
  · exact p1.elim
/-- a, b = x, y -/
def sPar (i j : Nat) (f1 f2 : S → R D) : S → RS := fun s => (f1 s).then fun d1 s1 => (f2 s1).then fun d2 s2 => .next { s2 with r := (s2.r.set i (some d1)).set j (some d2) }
theorem js_par (i j : Nat) {x y : Str} {px py pt : Pos} {kt k2 pt2} (hc : X.calm = true) (hN : X.N.Nodup) (ha : JE T X Γ a .sh f1) (hb : JE T X Γ b .sh f2) (hi : X.N[i]? = some x := by rfl) (hj : X.N[j]? = some y := by rfl) (hij : i ≠ j := by decide)
    (hx : X.env.scope.names.lookup x = some .local := by rfl) (hy : X.env.scope.names.lookup y = some .local := by rfl) (hΓ : fl Γ i = .sh := by rfl) (hΓ' : fl Γ j = .sh := by rfl)
    (hw : swappedStores [.Tuple [.Name x px, .Name y py] kt pt] (.Tuple [a, b] k2 pt2) X.env = pure (some [x, y]) := by rfl) (hs : swapsWithSole [.Tuple [.Name x px, .Name y py] kt pt] (.Tuple [a, b] k2 pt2) pos.line X.env = pure false := by rfl)
    (hst : starEach [a, b] X.env = (false, eval a X.env) :: starEach [b] X.env := by rfl) (hst2 : starEach [b] X.env = (false, eval b X.env) :: starEach [] X.env := by rfl) :
    JS T X Γ ⟨Γ, lp, rm⟩ (.Assign [.Tuple [.Name x px, .Name y py] kt pt] (.Tuple [a, b] k2 pt2) pos) (sPar i j f1 f2) := by
  refine ⟨fun W tk => PS.imp (ps_par hc hN hi hj hij hx hy (pa_cons (ha.run W tk) (pa_cons (hb.run W tk) pa_nil hst2) hst) hw hs) fun E σ H ⟨B, g, st, I, p⟩ => ?_⟩
  refine te_then I.toSR p fun d1 s1 v H1 g1 q1 I1 r1 p1 => te_then I1 p1 fun d2 s2 w H2 g2 q2 I2 r2 p2 => ?_
  exact ⟨v, w, rfl, p2 _ H2 g2 (.refl g2 H2) ((I2.set hΓ (Rp.step I1.wf q2.toStep r1)).set hΓ' r2)⟩
/-- x op= e of whole numbers -/
def sAug (o : D → D → S → R D) (i : Nat) (f : S → R D) : S → RS := fun s => (eVar i s).then fun d s1 => (f s1).then fun e s2 => (o d e s2).then fun z s3 => .next { s3 with r := s3.r.set i (some z) }
theorem js_augAdd (i : Nat) {x : Str} (hN : X.N.Nodup) (he : JE T X Γ e .b1 f) (hi : X.N[i]? = some x := by rfl) (hx : Loc X.env.scope x := by first | exact Or.inl rfl | exact Or.inr rfl) (hΓ : fl Γ i = .sh := by rfl) (hf : X.fn x = true ∨ X.env.scope.names.lookup x = some .local := by first | exact .inl rfl | exact .inr rfl | assumption) :
    JS T X Γ ⟨Γ, lp, rm⟩ (.AugAssign (.Name x pos') .Add e pos) (sAug (fun d e s => match d, e with | .int i, .int j => .ok (.int (i + j)) s | _, _ => .stuck) i f) := by
  refine ⟨fun W tk => PS.imp (ps_aug hN hi hx (he.run W tk) ip_add hf) fun E σ H ⟨B, g, st, I, p⟩ => ?_⟩
  unfold sAug eVar at p
  cases e : st.r.getD i none with
  | none => rw [e] at p; exact p.elim
  | some d =>
    rw [e] at p
    obtain ⟨v, h1, h2⟩ := I.slot e
    rw [hΓ] at h2
    refine ⟨v, h1, te_then I.toSR p fun d2 s1 w H1 g1 q1 I1 r1 p1 => ?_⟩
    simp only at p1
    split at p1
    · simp only [SlR, Rp] at h2
      exact ⟨_, _, h2, b_int r1, p1 _ H1 g1 (.refl g1 H1) (I1.set hΓ (by simp only [Rp]))⟩
    · exact p1.elim
/-! ### own lists changed -/
theorem Step.wr {g : Gh} {H : Hp} {ad : Addr} {ws vs : List V} (own : g.Own ad) (hH : H ad = some (.lst ws)) : Step g H g (upd H ad (.lst vs)) where
  aa := fun _ h => h
  an := fun _ h => .inl h
  on := fun _ h => .inl h
  fr := fun b o h n => by
    rw [upd_ne fun z => n (by rw [z]; exact own)]
    exact h
  im := fun b o h im => by
    rw [upd_ne fun z => ?_]
    · exact h
    · rw [z, hH] at h
      cases h
      cases im
  tr := fun b h => by
    by_cases e : b = ad
    · rw [e, upd_same] at h
      cases h
    · rw [upd_ne e] at h
      exact h
  mu := List.prefix_refl _
theorem WF.wr {g : Gh} {H : Hp} {ad : Addr} {vs : List V} (w : WF g H) (own : g.Own ad) : WF g (upd H ad (.lst vs)) where
  ta := fun b h => by
    obtain ⟨o, e⟩ := w.ta b h
    exact ⟨o, by rw [upd_ne fun z => w.ao b h (by rw [z]; exact own)]; exact e⟩
  ot := fun b h => by
    by_cases e : b = ad
    · exact ⟨_, by rw [e, upd_same], rfl⟩
    · obtain ⟨o, e2, i2⟩ := w.ot b h
      exact ⟨o, by rw [upd_ne e]; exact e2, i2⟩
  ao := w.ao
  nf := w.nf
  df := w.df
  fm := w.fm
  nm := w.nm
/-- an own list of slot i is written -/
theorem SR.own1 {K : PySem.W.Frag} {g : Gh} {σ : L2.St} {H : Hp} {st : S} {i : Nat} {ad : Addr} {vs : List V} {ds : List D} (I : SR K T Γ g σ H st) (hf : fl Γ i = .o1) (ha : g.fp i = [ad]) (hv : σ.getD i none = some (.ref ad)) (hH : ∃ ws, H ad = some (.lst ws)) (r : Rps K T g H ds vs) :
    Step g H g (upd H ad (.lst vs)) ∧ SR K T Γ g σ (upd H ad (.lst vs)) { st with r := st.r.set i (some (.lst ds)) } := by
  obtain ⟨ws, hH⟩ := hH
  have hm : ad ∈ g.fp i := by rw [ha]; exact List.mem_cons_self
  have own : g.Own ad := .inl ⟨i, hm⟩
  have s : Step g H g (upd H ad (.lst vs)) := .wr own hH
  have wf : WF g (upd H ad (.lst vs)) := I.wf.wr own
  have u := s.sub I.wf
  refine ⟨s, wf, by simpa using I.len, fun j hj => ?_, I.me.sub u rfl fun b hb => by rw [upd_ne fun z => I.wf.fm i ad hm (by rw [← z]; exact hb)]⟩
  by_cases h : i = j
  · subst h
    rw [hv, hf, List.getD_eq_getElem?_getD, List.getElem?_set_self (by rw [← I.len]; exact hj)]
    exact ⟨ad, vs, ds, rfl, rfl, ha, upd_same, r.sub u⟩
  · rw [List.getD_eq_getElem?_getD (l := st.r.set i _), List.getElem?_set_ne h, ← List.getD_eq_getElem?_getD]
    exact (I.sl j hj).sub u rfl fun b hb => by rw [upd_ne fun z => h (I.wf.df i j ad hm (by rw [← z]; exact hb))]
theorem SR.getO {K : PySem.W.Frag} {g : Gh} {σ : L2.St} {H : Hp} {st : S} {i : Nat} {d : D} (I : SR K T Γ g σ H st) (hf : fl Γ i = .o1) (e : st.r.getD i none = some d) : ∃ ad vs ds, d = .lst ds ∧ σ[i]? = some (some (.ref ad)) ∧ σ.getD i none = some (.ref ad) ∧ g.fp i = [ad] ∧ H ad = some (.lst vs) ∧ Rps K T g H ds vs := by
  obtain ⟨v, h1, h2⟩ := I.slot e
  rw [hf] at h2
  obtain ⟨ad, vs, ds, e1, e2, e3, h3, h4⟩ := h2
  subst e1
  exact ⟨ad, vs, ds, e2, h1, by rw [List.getD_eq_getElem?_getD, h1]; rfl, e3, h3, h4⟩
def sApp (i : Nat) (f : S → R D) : S → RS := fun s => match s.r.getD i none with
  | some _ => (f s).then fun d s1 => (match s1.r.getD i none with
    | some (.lst xs) => if xs.length < sizeLine then .next { s1 with r := s1.r.set i (some (.lst (xs ++ [d]))) } else .stuck
    | _ => .stuck)
  | none => .stuck
theorem js_app (i : Nat) {x : Str} {p' ap : Pos} (he : JE T X Γ e .sh f) (hN : X.N[i]? = some x := by rfl) (hv : Vis X.env.scope x := by first | exact Or.inl rfl | exact Or.inr (Or.inl rfl) | exact Or.inr (Or.inr rfl)) (hf : fl Γ i = .o1 := by rfl)
    (hd : (x == ("__debug__" : Str)) = false := by decide) (hcd : (x == ("__classdict__" : Str)) = false := by decide)
    (hb : ∀ {te : TE}, PE X e te → PE X (.Call (.Attribute (.Name x p') "append" ap) [e] [] pos') (tBM X.K "list" rAppend (tVar i) (tCons te tNil)) := by
      exact fun h => pe_bm PySem.F.plainAttrs_list PySem.F.slot_list_append PySem.F.type_list_append mt_append (pv _) (pa_cons h pa_nil))
    (hs : swapsWith (.Call (.Attribute (.Name x p') "append" ap) [e] [] pos') none pos.line X.env = pure false := by rfl) : JS T X Γ ⟨Γ, lp, rm⟩ (.Expr (.Call (.Attribute (.Name x p') "append" ap) [e] [] pos') pos) (sApp i f) := by
  refine ⟨fun W tk => PS.imp (ps_expr (hb (he.run W tk)) hs) fun E σ H ⟨B, g, st, I, p⟩ => ?_⟩
  unfold sApp at p
  cases e0 : st.r.getD i none with
  | none => rw [e0] at p; exact p.elim
  | some d0 =>
    rw [e0] at p
    obtain ⟨ad, vs0, ds0, e1, h1, h1', h2, h3, h4⟩ := I.getO hf e0
    refine ⟨_, h1, .inl ⟨rfl, _, .inl (.inl h3)⟩, te_then I.toSR p fun d s1 x H1 g1 q1 I1 r1 p1 => ?_⟩
    cases e2 : s1.r.getD i none with
    | none => rw [e2] at p1; exact p1.elim
    | some d1 =>
      rw [e2] at p1
      obtain ⟨ad', vs, ds, e3, _, h1'', h2', h3', h4'⟩ := I1.getO hf e2
      subst e3
      have ea : ad' = ad := by
        rw [h1'] at h1''
        cases h1''
        rfl
      subst ea
      simp only at p1
      split at p1
      · rename_i hz
        obtain ⟨st2, I2⟩ := I1.own1 hf h2' h1' ⟨vs, h3'⟩ (h4'.append (.one r1))
        exact ⟨ad', vs, x, rfl, rfl, h3', by rw [h4'.length]; exact hz, p1 σ _ g1 st2 I2⟩
      · exact p1.elim
/-- own.extend(e) -/
def sExt (i : Nat) (f : S → R D) : S → RS := fun s => match s.r.getD i none with
  | some _ => (f s).then fun d s1 => (match s1.r.getD i none, d with
    | some (.lst xs), .lst ys => if xs.length + ys.length ≤ sizeLine then .next { s1 with r := s1.r.set i (some (.lst (xs ++ ys))) } else .stuck
    | _, _ => .stuck)
  | none => .stuck
theorem js_ext (i : Nat) {x : Str} {p' ap : Pos} (he : JE T X Γ e .b1 f) (hN : X.N[i]? = some x := by rfl) (hv : Vis X.env.scope x := by first | exact Or.inl rfl | exact Or.inr (Or.inl rfl) | exact Or.inr (Or.inr rfl)) (hf : fl Γ i = .o1 := by rfl)
    (hd : (x == ("__debug__" : Str)) = false := by decide) (hcd : (x == ("__classdict__" : Str)) = false := by decide)
    (hb : ∀ {te : TE}, PE X e te → PE X (.Call (.Attribute (.Name x p') "extend" ap) [e] [] pos') (tBM X.K "list" rExtend (tVar i) (tCons te tNil)) := by
      exact fun h => pe_bm PySem.F.plainAttrs_list PySem.F.slot_list_extend PySem.F.type_list_extend mt_extend (pv _) (pa_cons h pa_nil))
    (hs : swapsWith (.Call (.Attribute (.Name x p') "extend" ap) [e] [] pos') none pos.line X.env = pure false := by rfl) : JS T X Γ ⟨Γ, lp, rm⟩ (.Expr (.Call (.Attribute (.Name x p') "extend" ap) [e] [] pos') pos) (sExt i f) := by
  refine ⟨fun W tk => PS.imp (ps_expr (hb (he.run W tk)) hs) fun E σ H ⟨B, g, st, I, p⟩ => ?_⟩
  unfold sExt at p
  cases e0 : st.r.getD i none with
  | none => rw [e0] at p; exact p.elim
  | some d0 =>
    rw [e0] at p
    obtain ⟨ad, vs0, ds0, e1, h1, h1', h2, h3, h4⟩ := I.getO hf e0
    refine ⟨_, h1, .inl ⟨rfl, _, .inl (.inl h3)⟩, te_then I.toSR p fun d s1 x H1 g1 q1 I1 r1 p1 => ?_⟩
    cases e2 : s1.r.getD i none with
    | none => rw [e2] at p1; exact p1.elim
    | some d1 =>
      rw [e2] at p1
      obtain ⟨ad', vs, ds, e3, _, h1'', h2', h3', h4'⟩ := I1.getO hf e2
      subst e3
      have ea : ad' = ad := by
        rw [h1'] at h1''
        cases h1''
        rfl
      subst ea
      cases d with
      | lst ys =>
        simp only at p1
        split at p1
        · rename_i hz
          obtain ⟨b, ws, eb, hb2, _, rb⟩ := b_lst r1
          subst eb
          obtain ⟨st2, I2⟩ := I1.own1 hf h2' h1' ⟨vs, h3'⟩ (h4'.append rb)
          exact ⟨ad', b, vs, ws, rfl, rfl, h3', hb2, by rw [h4'.length, rb.length]; exact hz, p1 σ _ g1 st2 I2⟩
        · exact p1.elim
      | _ => exact p1.elim
/-- own[k] = e -/
def sSetI (i : Nat) (fk fe : S → R D) : S → RS := fun s => (fe s).then fun d s1 => match s1.r.getD i none with
  | some _ => (fk s1).then fun k s2 => (match s2.r.getD i none, k with
    | some (.lst xs), .int k => (match ixN xs.length k with
      | some j => .next { s2 with r := s2.r.set i (some (.lst (xs.set j d))) }
      | none => .stuck)
    | _, _ => .stuck)
  | none => .stuck
theorem js_setI (i : Nat) {x : Str} {p' : Pos} {kx : Expr} {fk : S → R D} (he : JE T X Γ e .sh f) (hk : JE T X Γ kx .b1 fk) (hN : X.N[i]? = some x := by rfl) (hv : Vis X.env.scope x := by first | exact Or.inl rfl | exact Or.inr (Or.inl rfl) | exact Or.inr (Or.inr rfl)) (hf : fl Γ i = .o1 := by rfl)
    (hd : (x == ("__debug__" : Str)) = false := by decide) (hcd : (x == ("__classdict__" : Str)) = false := by decide)
    (ha : ∀ v, assign (.Subscript (.Name x p') kx pos') X.env v = (do
      let ov ← holding [v] (eval (.Name x p') X.env)
      let iv ← holding [v, ov] (eval kx X.env)
      standAt pos'
      holding [v, ov, iv] (setItem ov iv v)
      release [v, ov, iv] []) := by intro _; rfl)
    (hs : swapsWithSole [.Subscript (.Name x p') kx pos'] e pos.line X.env = pure false := by rfl) (hw : swappedStores [.Subscript (.Name x p') kx pos'] e X.env = pure none := by rfl)
    (h1 : (assignEach [.Subscript (.Name x p') kx pos'] X.env).map (·.2) = [assign (.Subscript (.Name x p') kx pos') X.env] := by rfl) : JS T X Γ ⟨Γ, lp, rm⟩ (.Assign [.Subscript (.Name x p') kx pos'] e pos) (sSetI i fk f) := by
  refine ⟨fun W tk => PS.imp (ps_asg (he.run W tk) (pg_sub (pe_var hN hv hd hcd) (hk.run W tk) set_list ha) hs hw h1) fun E σ H ⟨B, g, st, I, p⟩ => ?_⟩
  unfold sSetI at p
  refine te_then I.toSR p fun d s1 x H1 g1 q1 I1 r1 p1 => ?_
  cases e0 : s1.r.getD i none with
  | none => rw [e0] at p1; exact p1.elim
  | some d0 =>
    rw [e0] at p1
    obtain ⟨ad, vs0, ds0, e1, h1, h1', h2, h3, h4⟩ := I1.getO hf e0
    refine ⟨_, h1, te_then I1 p1 fun k s2 y H2 g2 q2 I2 r2 p2 => ?_⟩
    cases e2 : s2.r.getD i none with
    | none => rw [e2] at p2; exact p2.elim
    | some d1 =>
      rw [e2] at p2
      obtain ⟨ad', vs, ds, e3, _, h1'', h2', h3', h4'⟩ := I2.getO hf e2
      subst e3
      have ea : ad' = ad := by
        rw [h1'] at h1''
        cases h1''
        rfl
      subst ea
      cases k with
      | int k =>
        simp only at p2
        split at p2
        · rename_i j ej
          obtain ⟨st2, I3⟩ := I2.own1 hf h2' h1' ⟨vs, h3'⟩ (h4'.set j (Rp.step I1.wf q2.toStep r1))
          exact ⟨ad', vs, k, j, rfl, b_int r2, h3', by rw [h4'.length]; exact ej, p2 σ _ g2 st2 I3⟩
        · exact p2.elim
      | _ => exact p2.elim
/-! ### a cell changed -/
theorem SR.cell {K : PySem.W.Frag} {g : Gh} {σ : L2.St} {H : Hp} {st : S} {n : Nat} {ad : Addr} {vs : List V} {ds : List D} (I : SR K T Γ g σ H st) (ha : g.mu[n]? = some ad) (hH : ∃ ws, H ad = some (.lst ws)) (r : Rps K T g H ds vs) :
    Step g H g (upd H ad (.lst vs)) ∧ SR K T Γ g σ (upd H ad (.lst vs)) { st with m := st.m.set n (.lst ds) } := by
  obtain ⟨ws, hH⟩ := hH
  have hm : ad ∈ g.mu := List.mem_of_getElem? ha
  have own : g.Own ad := .inr hm
  have s : Step g H g (upd H ad (.lst vs)) := .wr own hH
  have wf : WF g (upd H ad (.lst vs)) := I.wf.wr own
  have u := s.sub I.wf
  refine ⟨s, wf, I.len, fun j hj => (I.sl j hj).sub u rfl fun b hb => by rw [upd_ne fun z => I.wf.fm j b hb (by rw [z]; exact hm)], by simpa using I.me.len, fun k c b h1 h2 => ?_⟩
  by_cases h : n = k
  · subst h
    rw [ha] at h2
    cases h2
    have hl : n < st.m.length := by
      rw [← I.me.len]
      exact (List.getElem?_eq_some_iff.mp ha).1
    rw [List.getElem?_set_self hl] at h1
    cases h1
    exact ⟨vs, upd_same, r.sub u⟩
  · rw [List.getElem?_set_ne h] at h1
    have q := I.me.at_ k c b h1 h2
    have hne : b ≠ ad := fun z => by
      subst z
      obtain ⟨h3, e3⟩ := List.getElem?_eq_some_iff.mp ha
      obtain ⟨h4, e4⟩ := List.getElem?_eq_some_iff.mp h2
      exact h ((List.getElem_inj I.wf.nm).mp (e3.trans e4.symm))
    exact CellR.sub u (upd_ne hne) q
/-- cell[k] = e -/
def sSetM (i : Nat) (fk fe : S → R D) : S → RS := fun s => (fe s).then fun d s1 => match s1.r.getD i none with
  | some (.ref n) => (fk s1).then fun k s2 => (match mLst s2 n, k with
    | some xs, .int k => (match ixN xs.length k with
      | some j => .next { s2 with m := s2.m.set n (.lst (xs.set j d)) }
      | none => .stuck)
    | _, _ => .stuck)
  | _ => .stuck
theorem js_setM (i : Nat) {x : Str} {p' : Pos} {kx : Expr} {fk : S → R D} (he : JE T X Γ e .sh f) (hk : JE T X Γ kx .b1 fk) (hN : X.N[i]? = some x := by rfl) (hv : Vis X.env.scope x := by first | exact Or.inl rfl | exact Or.inr (Or.inl rfl) | exact Or.inr (Or.inr rfl)) (hf : fl Γ i = .sh := by rfl)
    (hd : (x == ("__debug__" : Str)) = false := by decide) (hcd : (x == ("__classdict__" : Str)) = false := by decide)
    (ha : ∀ v, assign (.Subscript (.Name x p') kx pos') X.env v = (do
      let ov ← holding [v] (eval (.Name x p') X.env)
      let iv ← holding [v, ov] (eval kx X.env)
      standAt pos'
      holding [v, ov, iv] (setItem ov iv v)
      release [v, ov, iv] []) := by intro _; rfl)
    (hs : swapsWithSole [.Subscript (.Name x p') kx pos'] e pos.line X.env = pure false := by rfl) (hw : swappedStores [.Subscript (.Name x p') kx pos'] e X.env = pure none := by rfl)
    (h1 : (assignEach [.Subscript (.Name x p') kx pos'] X.env).map (·.2) = [assign (.Subscript (.Name x p') kx pos') X.env] := by rfl) : JS T X Γ ⟨Γ, lp, rm⟩ (.Assign [.Subscript (.Name x p') kx pos'] e pos) (sSetM i fk f) := by
  refine ⟨fun W tk => PS.imp (ps_asg (he.run W tk) (pg_sub (pe_var hN hv hd hcd) (hk.run W tk) set_list ha) hs hw h1) fun E σ H ⟨B, g, st, I, p⟩ => ?_⟩
  unfold sSetM at p
  refine te_then I.toSR p fun d s1 x H1 g1 q1 I1 r1 p1 => ?_
  cases e0 : s1.r.getD i none with
  | none => rw [e0] at p1; exact p1.elim
  | some d0 =>
    rw [e0] at p1
    obtain ⟨v, h1, h2⟩ := I1.slot e0
    rw [hf] at h2
    cases d0 with
    | ref n =>
      simp only [SlR, Rp] at h2
      obtain ⟨ad, ev, ha⟩ := h2
      refine ⟨_, h1, te_then I1 p1 fun k s2 y H2 g2 q2 I2 r2 p2 => ?_⟩
      subst ev
      have ha2 : g2.mu[n]? = some ad := by
        obtain ⟨tl, ht⟩ := q2.mu
        rw [← ht, List.getElem?_append_left (List.getElem?_eq_some_iff.mp ha).1]
        exact ha
      cases em : mLst s2 n with
      | none => rw [em] at p2; exact p2.elim
      | some xs =>
        rw [em] at p2
        obtain ⟨vs, h3', h4'⟩ := mcell I2 em ha2
        cases k with
        | int k =>
          simp only at p2
          split at p2
          · rename_i j ej
            obtain ⟨st2, I3⟩ := I2.cell ha2 ⟨vs, h3'⟩ (h4'.set j (Rp.step I1.wf q2.toStep r1))
            exact ⟨ad, vs, k, j, rfl, b_int r2, h3', by rw [h4'.length]; exact ej, p2 σ _ g2 st2 I3⟩
          · exact p2.elim
        | _ => exact p2.elim
    | _ => exact p1.elim
/-- x = a fresh list that becomes a cell -/
def sAsgC (i : Nat) (f : S → R D) : S → RS := fun s => (f s).then fun d s => match d with
  | .lst xs => .next { r := s.r.set i (some (.ref s.m.length)), m := s.m ++ [.lst xs] }
  | _ => .stuck
def Gh.more (g : Gh) (a : Addr) : Gh := ⟨g.A, g.fp, g.mu ++ [a]⟩
theorem js_setC (i : Nat) {x : Str} (hN : X.N.Nodup) (he : JE T X Γ e .f1 f) (hi : X.N[i]? = some x := by rfl) (hx : Loc X.env.scope x := by first | exact Or.inl rfl | exact Or.inr rfl) (hs : swapsWith e (some (.Name x pos')) pos.line X.env = pure false := by rfl)
    (hΓ : fl Γ i = .sh := by rfl) (hf : X.fn x = true ∨ X.env.scope.names.lookup x = some .local := by first | exact .inl rfl | exact .inr rfl | assumption) : JS T X Γ ⟨Γ, lp, rm⟩ (.Assign [.Name x pos'] e pos) (sAsgC i f) := by
  refine ⟨fun W tk => PS.imp (ps_set hN hi hx (he.run W tk) hs hf) fun E σ H ⟨B, g, st, I, p⟩ => ?_⟩
  refine ⟨g, st, I.toSR, ?_⟩
  unfold sAsgC at p
  cases e : f st with
  | raise ex s1 => rw [e] at p; exact fun cls dd H' g' => p cls dd σ H' g'
  | stuck => rw [e] at p; exact p
  | ok d s1 =>
    rw [e] at p
    intro v H1 g1 q1 I1 r1
    cases d with
    | lst ds =>
      obtain ⟨a, vs, ev, h1, h2, h3⟩ := r1
      subst ev
      have own : ∀ b, (g1.more a).Own b → g1.Own b ∨ b = a := fun b h => by
        rcases h with h | h
        · exact .inl (.inl h)
        · rcases List.mem_append.mp h with h | h
          · exact .inl (.inr h)
          · exact .inr (by simpa using h)
      have st2 : Step g H (g1.more a) H1 := ⟨q1.aa, q1.an, fun b h => by
        rcases own b h with h | h
        · exact q1.on b h
        · rw [h]; exact .inr h2.2.2, q1.fr, q1.im, q1.tr, q1.mu.trans (List.prefix_append _ _)⟩
      have u : Sub g1 H1 (g1.more a) H1 := ⟨fun _ h => h, fun _ _ _ h => h, fun _ _ h _ => h, List.prefix_append _ _⟩
      have wf : WF (g1.more a) H1 := ⟨I1.wf.ta, fun b h => by
        rcases own b h with h | h
        · exact I1.wf.ot b h
        · rw [h]; exact ⟨_, h1, rfl⟩, fun b h q => by
        rcases own b q with q | q
        · exact I1.wf.ao b h q
        · rw [q] at h; exact h2.1 h, I1.wf.nf, I1.wf.df, fun j b h q => by
        rcases List.mem_append.mp q with q | q
        · exact I1.wf.fm j b h q
        · have : b = a := by simpa using q
          rw [this] at h
          exact h2.2.1 (.inl ⟨j, h⟩), by
        rw [show (g1.more a).mu = g1.mu ++ [a] from rfl, List.nodup_append]
        refine ⟨I1.wf.nm, by simp, fun x hx y hy => ?_⟩
        have : y = a := by simpa using hy
        rw [this]
        rintro rfl
        exact h2.2.1 (.inr hx)⟩
      have I2 : SR X.K T Γ (g1.more a) σ H1 { s1 with m := s1.m ++ [.lst ds] } := I1.re u wf rfl (fun _ _ _ => rfl) ⟨by
        show (g1.mu ++ [a]).length = _
        rw [List.length_append, List.length_append, I1.me.len]; rfl, fun n c b e1 e2 => by
        have e2' : (g1.mu ++ [a])[n]? = some b := e2
        by_cases hn : n < s1.m.length
        · rw [List.getElem?_append_left hn] at e1
          rw [List.getElem?_append_left (by rw [I1.me.len]; exact hn)] at e2'
          have q := I1.me.at_ n c b e1 e2'
          exact CellR.sub u rfl q
        · rw [List.getElem?_append_right (by omega)] at e1
          rw [List.getElem?_append_right (by rw [I1.me.len]; omega)] at e2'
          rw [I1.me.len] at e2'
          cases hk : n - s1.m.length with
          | zero =>
            rw [hk] at e1 e2'
            cases e1
            cases e2'
            exact ⟨vs, h1, h3.sub u⟩
          | succ k =>
            rw [hk] at e1
            simp at e1⟩
      refine p _ H1 (g1.more a) st2 (I2.set hΓ ?_)
      simp only [Rp]
      refine ⟨a, rfl, ?_⟩
      show (g1.mu ++ [a])[s1.m.length]? = some a
      rw [List.getElem?_append_right (by rw [I1.me.len]; exact Nat.le_refl _), I1.me.len, Nat.sub_self]
      rfl
    | _ => exact p.elim
end
end DL
set_option linter.all false
set_option Elab.async false
set_option maxRecDepth 100000
namespace DL
open PySem PySem.Spec PyProof.Rows L2
/-! ### loops -/
def forL (t : Tg) (body : S → RS) : List D → S → RS
  | [], s => .next s
  | d :: ds, s => match asgD t d s with
    | none => .stuck
    | some s2 => match body s2 with
      | .next s3 => forL t body ds s3
      | .cont s3 => forL t body ds s3
      | .brk s3 => .next s3
      | r => r
def sFor (fi : S → R (List D)) (t : Tg) (body : S → RS) : S → RS := fun s => (fi s).then fun ds s1 => forL t body ds s1
def whileL (c : S → R Bool) (body : S → RS) : Nat → S → RS
  | 0, _ => .stuck
  | n + 1, s => (c s).then fun k s1 => if k then (match body s1 with
      | .next s2 => whileL c body n s2
      | .cont s2 => whileL c body n s2
      | .brk s2 => .next s2
      | r => r) else .next s1
def sWhile (fuel : S → Nat) (c : S → R Bool) (body : S → RS) : S → RS := fun s => whileL c body (fuel s) s
section
variable {T : Tb} {X : Cx} {Γ Γ' : Fls} {F : Fx} {e a b c tg iter : Expr} {m m1 m2 m3 : Mo} {f f1 f2 f3 : S → R D} {pos p2 pos' : Pos} {es rest : List Expr} {k1 k2 : S → R Bool} {fs fi : S → R (List D)} {t : Tg} {s1 s2 : Stmt} {ss ss2 : List Stmt} {q q1 q2 : S → RS} {nx lp : Fls} {rm : Mo}
theorem ti_then {K : PySem.W.Frag} {B : Bs} {g : Gh} {H : Hp} {W : WX} {E : Ends} {σ : L2.St} {st : S} {fi : S → R (List D)} {k : List D → S → RS} {Q : It → Hp → Prop} (I : SR K T Γ g σ H st) (h : PostS K T F B g H W E ((fi st).then k))
    (hk : ∀ ds st' J H' g', QStep g H g' H' → SR K T Γ g' σ H' st' → Wlk K T g' H' J ds → PostS K T F B g' H' W E (k ds st') → Q J H') : ti K T Γ W fi σ H Q := by
  refine ⟨g, st, I, ?_⟩
  cases e : fi st with
  | ok d st' =>
    rw [e] at h
    exact fun J H' g' s r p => hk d st' J H' g' s r p (h.shift s.toStep)
  | raise ex st' =>
    rw [e] at h
    exact fun cls dd H' g' => h cls dd σ H' g'
  | stuck =>
    rw [e] at h
    exact h
theorem js_for (hp : PassesOwn (model X.prog X.w) X.A X.env X.xe) (hc : X.calm = true) (hi : JI T X Γ tg iter fi) (hg : JG T X tg t) (hb : JSs T X Γ ⟨Γ, Γ, rm⟩ ss q) (hf : ∀ i ∈ t.vs, fl Γ i = .sh := by decide)
    (hs : ∀ x, foldedSetIterable iter X.env x = pure x := by intro _; rfl) : JS T X Γ ⟨Γ, lp, rm⟩ (.For tg iter ss [] pos) (sFor fi t q) := by
  refine ⟨fun W tk => PS.imp (ps_for hp hc (hi.run W tk) hg.run (hb.run W tk) hs) fun E σ H ⟨B, g, st, I, p⟩ => ?_⟩
  refine ti_then I.toSR p fun ds s1 J H1 g1 q1 I1 wl p1 => ?_
  have IB1 := I.go q1.toStep I1
  refine ⟨fun i m σ' H' => i ≤ ds.length ∧ m = ds.length - i ∧ ∃ g' s', Step g1 H1 g' H' ∧ SB X.K T Γ B g' σ' H' s' ∧ PostS X.K T ⟨Γ, lp, rm⟩ B g' H' W E (forL t q (ds.drop i) s'), ⟨ds.length, Nat.zero_le _, by simp, g1, s1, .refl _ _, IB1, by rw [List.drop_zero]; exact p1⟩, ?_⟩
  rintro i m σ' H' ⟨hi, rfl, g', s', st', I', p'⟩
  by_cases hlt : i < ds.length
  · have ed : ds.drop i = ds[i] :: ds.drop (i + 1) := (List.drop_eq_getElem_cons hlt)
    have eg : ds[i]? = some ds[i] := List.getElem?_eq_getElem hlt
    refine .inr ⟨wl.go i _ g' H' st' I'.wf eg, fun σ3 H3 => ∃ g3 s3, Step g1 H1 g3 H3 ∧ SB X.K T Γ B g3 σ3 H3 s3 ∧ PostS X.K T ⟨Γ, lp, rm⟩ B g3 H3 W E (forL t q (ds.drop (i + 1)) s3), fun σ3 H3 h3 => ⟨ds.length - (i + 1), by omega, hlt, rfl, h3⟩, fun x H2 y => ?_⟩
    rw [ed] at p'
    unfold forL at p'
    have hy : ∃ sH : Step g' H' g' H2, SR X.K T Γ g' σ' H2 s' ∧ Rp X.K T g' H2 ds[i] x := by
      rcases wl.yld i _ g' H' x H2 st' I'.wf eg y with ⟨e1, r⟩ | ⟨p, ws, hp, e1, r⟩
      · subst e1
        exact ⟨.refl _ _, I'.toSR, r⟩
      · subst e1
        exact ⟨.new hp, I'.toSR.new hp, r⟩
    obtain ⟨sH, I2, rx⟩ := hy
    cases ea : asgD t ds[i] s' with
    | none => rw [ea] at p'; exact p'.elim
    | some s2 =>
      rw [ea] at p'
      simp only at p'
      refine tgR_of I2 rx hf ea fun σ2 I3 _ => ⟨B, g', s2, I'.go sH I3, ?_⟩
      have st2 := st'.trans sH
      cases eb : q s2 with
      | next s3 =>
        rw [eb] at p'
        exact fun σ3 H3 g3 st3 I4 => ⟨g3, s3, st2.trans st3, (I'.go sH I3).go st3 I4, p'.shift (sH.trans st3)⟩
      | cont s3 =>
        rw [eb] at p'
        exact fun σ3 H3 g3 st3 I4 => ⟨g3, s3, st2.trans st3, (I'.go sH I3).go st3 I4, p'.shift (sH.trans st3)⟩
      | brk s3 =>
        rw [eb] at p'
        exact fun σ3 H3 g3 st3 I4 => p' σ3 H3 g3 (sH.trans st3) I4
      | ret d s3 => rw [eb] at p'; exact p'
      | raise ex s3 =>
        rw [eb] at p'
        exact fun cls dd σ3 H3 g3 st3 => p' cls dd σ3 H3 g3 (sH.trans st3)
      | stuck => rw [eb] at p'; exact p'
  · have hi' : i = ds.length := by omega
    subst hi'
    refine .inl ⟨wl.stop g' H' st' I'.wf, ?_⟩
    rw [List.drop_length] at p'
    exact p' σ' H' g' (.refl _ _) I'.toSR
theorem js_while (fuel : S → Nat) (hp : PassesOwn (model X.prog X.w) X.A X.env X.xe) (hc : JT T X Γ c k1) (hb : JSs T X Γ ⟨Γ, Γ, rm⟩ ss q) : JS T X Γ ⟨Γ, lp, rm⟩ (.While c ss [] pos) (sWhile fuel k1 q) := by
  refine ⟨fun W tk => PS.imp (ps_while hp (hc.run W tk) (hb.run W tk)) fun E σ H ⟨B, g, st, I, p⟩ => ?_⟩
  refine ⟨fun n σ' H' => ∃ g' s', SB X.K T Γ B g' σ' H' s' ∧ PostS X.K T ⟨Γ, lp, rm⟩ B g' H' W E (whileL k1 q n s'), ⟨fuel st, g, st, I, p⟩, ?_⟩
  rintro n σ' H' ⟨g', s', I', p'⟩
  cases n with
  | zero => exact p'.elim
  | succ n =>
    unfold whileL at p'
    refine tt_then I'.toSR p' fun k s1 H1 g1 q1 I1 p1 => ?_
    have IB1 := I'.go q1.toStep I1
    cases k with
    | false =>
      rw [if_neg Bool.false_ne_true] at p1 ⊢
      exact p1 σ' H1 g1 (.refl _ _) I1
    | true =>
      rw [if_pos rfl] at p1 ⊢
      refine ⟨fun σ3 H3 => ∃ g3 s3, SB X.K T Γ B g3 σ3 H3 s3 ∧ PostS X.K T ⟨Γ, lp, rm⟩ B g3 H3 W E (whileL k1 q n s3), fun σ3 H3 h3 => ⟨n, Nat.lt_succ_self n, h3⟩, B, g1, s1, IB1, ?_⟩
      cases eb : q s1 with
      | next s3 =>
        rw [eb] at p1
        exact fun σ3 H3 g3 st3 I4 => ⟨g3, s3, IB1.go st3 I4, p1.shift st3⟩
      | cont s3 =>
        rw [eb] at p1
        exact fun σ3 H3 g3 st3 I4 => ⟨g3, s3, IB1.go st3 I4, p1.shift st3⟩
      | brk s3 =>
        rw [eb] at p1
        exact fun σ3 H3 g3 st3 I4 => p1 σ3 H3 g3 st3 I4
      | ret d s3 => rw [eb] at p1; exact p1
      | raise ex s3 => rw [eb] at p1; exact p1
      | stuck => rw [eb] at p1; exact p1
/-! ### code never come to -/
theorem js_never : JS T X Γ F s1 (fun _ => .stuck) := ⟨fun W tk => ⟨fun pins s σ H Q I ⟨B, g, st, _, p⟩ => p.elim⟩⟩
/-! ### constants, defs as values -/
theorem je_glob (d : D) {x : Str} {v : V} {u : Value} (hg : Gl X x) (hm : X.mg x = some u) (r : RelV v u) (rp : ∀ g H, Rp X.K T g H d v) (hd : (x == ("__debug__" : Str)) = false := by decide) : JE T X Γ (.Name x pos) .sh (eC d) :=
  ⟨fun W tk => PE.imp (L2.pe_glob hg hm r hd) fun σ H Q ⟨g, st, I, p⟩ => p _ H g (.refl g H) I (rp g H)⟩
/-! ### raise -/
theorem pmk_own0 {C : Addr} {bmB : List Value} {B newId initId : String} {x : Str} {p : Pos} (F : ExcBaseFacts B newId initId bmB) (q : PySem.W.excIn X.K C bmB newId = true) (gC : X.mg x = some (.ref C))
    (kC : PySem.W.keepIn X.K (.ref C) = true) (r : Raises X (.ref C)) (hg : Gl X x) (hdb : (x == ("__debug__" : Str)) = false := by decide) :
    PMk X (.Call (.Name x p) [] [] pos) (fun σ H Q => Q (.ref C) none H) := by
  intro pins s σ H Q I h
  refine wpAny_Call_Name_kw (ld_glob I hg gC ?_ hdb)
  refine PySem.W.callWith_K0 I.kIn kC ?_
  show wpAny _ _ (call (.ref C) []) _ _ _
  obtain ⟨bm, N, nm, qn, bs, hdct, sn, sub, ab, col, dd, k0, k1, k2, k3, k5, mN, hC, hN, hni, T⟩ := exc_obj I.kIn q
  refine wpAny_call_exc_subT F T hC hN hni (fun h' e hm => ?_) (Nat.zero_le _)
  exact mk_of I hm r h (I.hok.gone hm.new)
def sRaise (i : Nat) : S → RS := fun s => .raise (.mk i []) s
/-- what an own exception class without an __init__ must have -/
structure Exc0 (K : PySem.W.Frag) (T : Tb) (mg : Str → Option Value) (x : Str) (i : Nat) : Prop where
  ex : ∃ (C : Addr) (bmB : List Value) (B newId initId : String), T.exc i = some C ∧ mg x = some (.ref C) ∧ ExcBaseFacts B newId initId bmB ∧ PySem.W.excIn K C bmB newId = true ∧ PySem.W.keepIn K (.ref C) = true ∧
    PySem.W.subIn K (.ref C) (.type "BaseException") = some true ∧ PySem.W.typeIn K (.ref C) = some (.type "type")
theorem js_raise (i : Nat) {x : Str} {p : Pos} (hc : X.calm = true) (h : Exc0 X.K T X.mg x i) (hg : Gl X x) (hdb : (x == ("__debug__" : Str)) = false := by decide) : JS T X Γ F (.Raise (some (.Call (.Name x p) [] [] pos')) none pos) (sRaise i) := by
  obtain ⟨C, bmB, B, newId, initId, hT, gC, Fc, q, kC, b, t⟩ := h.ex
  refine ⟨fun W tk => PS.imp (L2.ps_raise hc tk (pmk_own0 Fc q gC kC (raises_own b t) hg hdb)) fun E σ H ⟨Bs, g, st, I, p⟩ => ?_⟩
  exact p _ none σ H _ (.frz I.wf) I.toSR.frzAll ⟨C, hT, rfl, .inl ⟨rfl, rfl⟩⟩
end
/-! ### what a def promises -/
inductive RF where
  | ok (d : D) (m : List Cell) | raise (e : Ex) (m : List Cell) | stuck
abbrev MF := List D → List Cell → RF
def spOf (K : PySem.W.Frag) (T : Tb) (n : Nat) (rm : Mo) (mf : MF) : Sp := fun vs H Q E => ∃ ds m g, ds.length = n ∧ WF g H ∧ (∀ i, g.fp i = []) ∧ Rps K T g H ds vs ∧ MR K T g H m ∧ match mf ds m with
  | .ok d m' => ∀ v H' g', Step g H g' H' → WF g' H' → (∀ i, g'.fp i = []) → MR K T g' H' m' → RpM K T g' H H' rm d v → Q v H'
  | .raise e m' => ∀ cls dd H' g', Step g H g' H' → WF g' H' → (∀ i, g'.fp i = []) → MR K T g' H' m' → ExR K T g' H' e cls dd → E cls dd H'
  | .stuck => False
/-- a body as a function -/
def mkF (n : Nat) (q : S → RS) : MF := fun ds m => match q ⟨ds.map some ++ List.replicate (n - ds.length) none, m⟩ with
  | .next s => .ok .non s.m
  | .ret d s => .ok d s.m
  | .raise e s => .raise e s.m
  | _ => .stuck
/-- a def of the module, callable -/
structure Cal (P : Program) (w : World) (K : PySem.W.Frag) (mg : Str → Option Value) (base : Heap) (T : Tb) (x : Str) (k n : Nat) (rm : Mo) (mf : MF) : Prop where
  ex : ∃ f fd ps, FnOk P w K mg base (L2.CX P w) k f fd ps (spOf K T n rm mf) ∧ mg x = some (.ref f) ∧ PySem.W.keepIn K (.ref f) = true ∧ Binds K fd ps []
section
variable {K : PySem.W.Frag} {T : Tb} {g g' : Gh} {H H' : Hp} {Γ : Fls} {σ : L2.St} {st : S} {W : WX} {Q : VK} {m : Mo}
theorem ExR.drop {e : Ex} {cls : Value} {dd : Option Addr} (h : ExR K T g H e cls dd) : ExR K T ⟨g.A, fun _ => [], g.mu⟩ H e cls dd := by
  cases e with
  | mk i fs =>
    obtain ⟨C, h1, h2, h3⟩ := h
    refine ⟨C, h1, h2, ?_⟩
    rcases h3 with h3 | ⟨ne, dx, vs, e1, e2, r, l⟩
    · exact .inl h3
    · exact .inr ⟨ne, dx, vs, e1, e2, r.sub .drop, l⟩
theorem start_get (N : List Str) (vs : List V) (ds : List D) (hl : vs.length = ds.length) (i : Nat) (hi : i < (L2.start N vs).length) (P : Option V → Option D → Prop) (hn : P none none) (hs : ∀ v d, vs[i]? = some v → ds[i]? = some d → P (some v) (some d)) :
    P ((L2.start N vs).getD i none) ((ds.map some ++ List.replicate (N.length - ds.length) none).getD i none) := by
  unfold L2.start at hi ⊢
  rw [← hl]
  by_cases h : i < vs.length
  · rw [List.getD_eq_getElem?_getD, List.getElem?_append_left (by simpa using h), List.getD_eq_getElem?_getD, List.getElem?_append_left (by simpa using (hl ▸ h)), List.getElem?_map, List.getElem?_map]
    have h' : i < ds.length := hl ▸ h
    rw [List.getElem?_eq_getElem h, List.getElem?_eq_getElem h']
    exact hs _ _ (List.getElem?_eq_getElem h) (List.getElem?_eq_getElem h')
  · rw [List.getD_eq_getElem?_getD, List.getElem?_append_right (by simpa using Nat.le_of_not_lt h), List.getD_eq_getElem?_getD, List.getElem?_append_right (by simpa using Nat.le_of_not_lt (hl ▸ h)), List.getElem?_replicate, List.getElem?_replicate]
    have e1 : (if i - (vs.map some).length < N.length - vs.length then some (none : Option V) else none).getD none = none := by split <;> rfl
    have e2 : (if i - (ds.map some).length < N.length - vs.length then some (none : Option D) else none).getD none = none := by split <;> rfl
    rw [e1, e2]
    exact hn
end
section
variable {P : Program} {w : World} {K : PySem.W.Frag} {mg : Str → Option Value} {base : Heap} {T : Tb}
/-- THE RULE for a def -/
theorem fn_mk {x qual : Str} {st : Stmt} {f : Addr} {fd : FuncData} {N ps : List Str} {k n : Nat} {rm : Mo} {q : S → RS} {Γ' : Fls} (F : Fun K x qual st f fd) (Sc : FnScope N ps (defScope st)) (hps : ps.length = n) (hle : n ≤ N.length)
    (hb : ∀ (cdv : Value) (A : Around) (outer : List Env) (s : Shared) (H : Hp) (E : XK), Room k (A.deeper (envOfC qual (defScope st) s.heap.objs.size f cdv)) →
      PassesOwn (model P w) (cxOf (L2.CX P w) P w K mg base N qual (defScope st) f cdv A outer s H E).A (cxOf (L2.CX P w) P w K mg base N qual (defScope st) f cdv A outer s H E).env (cxOf (L2.CX P w) P w K mg base N qual (defScope st) f cdv A outer s H E).xe →
      JSs T (cxOf (L2.CX P w) P w K mg base N qual (defScope st) f cdv A outer s H E) [] ⟨Γ', [], rm⟩ (defBody st) q) :
    FnOk P w K mg base (L2.CX P w) (k + 1) f fd ps (spOf K T n rm (mkF N.length q)) := by
  refine F.okX Sc (fun vs H Q E h => ?_) (fun cdv A outer s H vs Q E hr h => ?_)
  · obtain ⟨ds, m, g, h1, _, _, h2, _⟩ := h
    rw [h2.length, h1, hps]
  · obtain ⟨ds, m, g, hl, wf, hfp, rps, mr, hq⟩ := h
    refine ⟨_, (hb cdv A outer s H E hr (passes_of rfl)).run (fun cls d _ H' => E cls d H') (takes_of rfl rfl rfl rfl), ?_⟩
    have len := rps.length
    have I : SR K T [] g (L2.start N vs) H ⟨ds.map some ++ List.replicate (N.length - ds.length) none, m⟩ := ⟨wf, by
      unfold L2.start
      simp only [List.length_append, List.length_map, List.length_replicate, len], fun i hi => by
      refine start_get N vs ds len i hi (fun v d => SlR K T g H i (fl [] i) v d) True.intro fun v d e1 e2 => ?_
      obtain ⟨v', e3, r⟩ := rps.get e2
      rw [e1] at e3
      cases e3
      exact r, mr⟩
    refine ⟨⟨g, H⟩, g, _, ⟨I, .refl g H, hfp⟩, ?_⟩
    unfold mkF at hq
    cases e : q ⟨ds.map some ++ List.replicate (N.length - ds.length) none, m⟩ with
    | next s' =>
      rw [e] at hq
      exact fun σ' H' g' s2 I2 => hq _ H' ⟨g'.A, fun _ => [], g'.mu⟩ (s2.trans .drop) I2.wf.drop (fun _ => rfl) I2.me.drop rm_non
    | ret d s' =>
      rw [e] at hq
      exact hq
    | raise ex s' =>
      rw [e] at hq
      exact fun cls dd σ' H' g' s2 I2 x => hq cls dd H' ⟨g'.A, fun _ => [], g'.mu⟩ (s2.trans .drop) I2.wf.drop (fun _ => rfl) I2.me.drop x.drop
    | brk _ => rw [e] at hq; exact hq.elim
    | cont _ => rw [e] at hq; exact hq.elim
    | stuck => rw [e] at hq; exact hq.elim
end
end DL
set_option linter.all false
set_option Elab.async false
set_option maxRecDepth 100000
namespace DL
open PySem PySem.Spec PyProof.Rows L2
/-! ### calls -/
def callR (r : RF) (s : S) : R D := match r with
  | .ok d m => .ok d ⟨s.r, m⟩
  | .raise e m => .raise e ⟨s.r, m⟩
  | .stuck => .stuck
/-- what a caller owns, behind a call -/
def Gh.back (g : Gh) (fp : Nat → List Addr) : Gh := ⟨g.A, fp, g.mu⟩
section
variable {K : PySem.W.Frag} {T : Tb} {g g' : Gh} {H H' : Hp} {Γ : Fls} {σ : L2.St} {st : S} {W : WX} {Q : VK} {m : Mo}
theorem Sub.back {fp : Nat → List Addr} : Sub g H (g.back fp) H := ⟨fun _ h => h, fun _ _ _ h => h, fun _ _ h _ => h, List.prefix_refl _⟩
abbrev Gh.dr (g : Gh) : Gh := ⟨g.A, fun _ => [], g.mu⟩
theorem own_dr {b : Addr} (h : g.dr.Own b) : b ∈ g.mu := by
  rcases h with ⟨_, h⟩ | h
  · cases h
  · exact h
theorem back_own (hfp : ∀ i, g'.fp i = []) {b : Addr} {fp : Nat → List Addr} (h : (g'.back fp).Own b) : (∃ i, b ∈ fp i) ∨ g'.Own b := by
  rcases h with h | h
  · exact .inl h
  · exact .inr (.inr h)
theorem QStep.back (w : WF g H) (s : Step g.dr H g' H') (hfp : ∀ i, g'.fp i = []) : QStep g H (g'.back g.fp) H' where
  aa := s.aa
  an := fun b h => by
    rcases s.an b h with h | h | h
    · exact .inl h
    · exact .inr (.inl (.inr (own_dr h)))
    · exact .inr (.inr h)
  on := fun b h => by
    rcases back_own hfp h with h | h
    · exact .inl (.inl h)
    · rcases s.on b h with h | h
      · exact .inl (.inr (own_dr h))
      · exact .inr h
  fr := fun b o h n => s.fr b o h fun q => n (.inr (own_dr q))
  im := s.im
  tr := s.tr
  mu := s.mu
  qf := rfl
  qo := fun i b hb => by
    obtain ⟨o, e, _⟩ := w.ot b (.inl ⟨i, hb⟩)
    rw [s.fr b o e fun q => w.fm i b hb (own_dr q), e]
theorem WF.back (w : WF g H) (s : Step g.dr H g' H') (w' : WF g' H') (hfp : ∀ i, g'.fp i = []) : WF (g'.back g.fp) H' where
  ta := w'.ta
  ot := fun b h => by
    rcases back_own hfp h with ⟨i, h⟩ | h
    · obtain ⟨o, e, im⟩ := w.ot b (.inl ⟨i, h⟩)
      exact ⟨o, s.fr b o e fun q => w.fm i b h (own_dr q), im⟩
    · exact w'.ot b h
  ao := fun b h q => by
    rcases back_own hfp q with ⟨i, q⟩ | q
    · rcases s.an b h with h | h | h
      · exact w.ao b h (.inl ⟨i, q⟩)
      · exact w.fm i b q (own_dr h)
      · obtain ⟨o, e, _⟩ := w.ot b (.inl ⟨i, q⟩)
        rw [h] at e
        cases e
    · exact w'.ao b h q
  nf := w.nf
  df := w.df
  fm := fun i b h q => by
    rcases s.on b (.inr q) with z | z
    · exact w.fm i b h (own_dr z)
    · obtain ⟨o, e, _⟩ := w.ot b (.inl ⟨i, h⟩)
      rw [z] at e
      cases e
  nm := w'.nm
theorem RpM.back (hm : m = .sh ∨ m = .f1 ∨ m = .f2) {H0 : Hp} {d : D} {v : V} (w : WF g H0) (hfp : ∀ i, g'.fp i = []) (h : RpM K T g' H0 H' m d v) : RpM K T (g'.back g.fp) H0 H' m d v := by
  have fr : ∀ {a : Addr}, Fresh g' H0 a → Fresh (g'.back g.fp) H0 a := fun {a} f => ⟨f.1, fun q => by
    rcases back_own hfp q with ⟨i, q⟩ | q
    · obtain ⟨o, e, _⟩ := w.ot a (.inl ⟨i, q⟩)
      rw [f.2.2] at e
      cases e
    · exact f.2.1 q, f.2.2⟩
  rcases hm with rfl | rfl | rfl
  · exact Rp.sub .back h
  · cases d with
    | lst ds =>
      obtain ⟨a, vs, e, h1, h2, h3⟩ := h
      exact ⟨a, vs, e, h1, fr h2, h3.sub .back⟩
    | _ => exact Rp.sub .back h
  · cases d with
    | lst ds =>
      obtain ⟨a, bs, dss, e, e2, h1, nd, h2, h3⟩ := h
      exact ⟨a, bs, dss, e, e2, h1, nd, fun b hb => fr (h2 b hb), h3.sub .back fun _ _ => rfl⟩
    | _ => exact Rp.sub .back h
theorem ExR.back {fp : Nat → List Addr} {e : Ex} {cls : Value} {dd : Option Addr} (h : ExR K T g H e cls dd) : ExR K T (g.back fp) H e cls dd := by
  cases e with
  | mk i fs =>
    obtain ⟨C, h1, h2, h3⟩ := h
    refine ⟨C, h1, h2, ?_⟩
    rcases h3 with h3 | ⟨ne, dx, vs, e1, e2, r, l⟩
    · exact .inl h3
    · exact .inr ⟨ne, dx, vs, e1, e2, r.sub .back, l⟩
/-- a callee's promise from the caller's wish -/
theorem sp_of {n : Nat} {mf : MF} {ds : List D} {vs : List V} (hm : m = .sh ∨ m = .f1 ∨ m = .f2) (I : SR K T Γ g σ H st) (r : Rps K T g H ds vs) (hl : ds.length = n) (p : PostE K T Γ σ g H m W Q (callR (mf ds st.m) st)) : spOf K T n m mf vs H Q (WE W σ) := by
  refine ⟨ds, st.m, g.dr, hl, I.wf.drop, fun _ => rfl, r.sub .drop, I.me.drop, ?_⟩
  cases e : mf ds st.m with
  | ok d m' =>
    rw [e] at p
    intro v H' g' s w' hfp me rv
    have w2 := I.wf.back s w' hfp
    have qs := QStep.back I.wf s hfp
    exact p v H' _ qs (I.re (qs.toStep.sub I.wf) w2 rfl qs.qo (me.sub .back rfl fun _ _ => rfl)) (RpM.back hm I.wf hfp rv)
  | raise ex m' =>
    rw [e] at p
    intro cls dd H' g' s w' hfp me x
    have w2 := I.wf.back s w' hfp
    have qs := QStep.back I.wf s hfp
    have I2 := I.re (qs.toStep.sub I.wf) w2 rfl qs.qo (me.sub .back rfl fun _ _ => rfl)
    refine p cls dd H' _ (qs.toStep.trans (.frz I2.wf (p := fun _ => true))) I2.frzAll ?_
    cases ex with
    | mk i fs =>
      obtain ⟨C, h1, h2, h3⟩ := x
      refine ⟨C, h1, h2, ?_⟩
      rcases h3 with h3 | ⟨ne, dx, vs, e1, e2, r, l⟩
      · exact .inl h3
      · exact .inr ⟨ne, dx, vs, e1, e2, (r.sub .back).sub (g' := (g'.back g.fp).frz fun _ => true) ⟨fun _ h => Or.inl h, fun _ _ _ h => h, fun _ _ h _ => h, List.prefix_refl _⟩, l⟩
  | stuck => rw [e] at p; exact p.elim
end
section
variable {T : Tb} {X : Cx} {Γ Γ' : Fls} {F : Fx} {e a b c tg iter : Expr} {m m1 m2 m3 : Mo} {f f1 f2 f3 : S → R D} {pos p2 pos' : Pos} {es rest : List Expr} {k1 k2 : S → R Bool} {fs fi : S → R (List D)} {t : Tg} {s1 s2 : Stmt} {ss ss2 : List Stmt} {q q1 q2 : S → RS} {k n : Nat} {mf : MF}
def eCallN (n : Nat) (mf : MF) (fs : S → R (List D)) : S → R D := fun st => (fs st).bind fun ds s => if ds.length = n then callR (mf ds s.m) s else .stuck
theorem je_call {x : Str} {p : Pos} (C : Cal X.prog X.w X.K X.mg X.base T x k n m mf) {k0 : Nat} (hr : Room k0 X.A) (hk : k ≤ k0) (hg : Gl X x) (ha : JA T X Γ (e :: es) fs) (hm : m = .sh ∨ m = .f1 ∨ m = .f2 := by first | exact .inl rfl | exact .inr (.inl rfl) | exact .inr (.inr rfl)) (hdb : (x == ("__debug__" : Str)) = false := by decide)
    (he : starEach (e :: es) X.env = (false, eval e X.env) :: starEach es X.env := by rfl) (hpl : (backTo pos (starEach es X.env)).any (·.1) = false := by rfl) : JE T X Γ (.Call (.Name x p) (e :: es) [] pos) m (eCallN n mf fs) := by
  obtain ⟨fa, fd, ps, Fn, hmg, kp, hb⟩ := C.ex
  refine ⟨fun W tk => PE.imp (pe_callS (E := WE W) Fn (hr.mono hk) hg hmg kp hb (passAt tk) (ha.run W tk) hdb he hpl) fun σ H Q ⟨g, st, I, p⟩ => ?_⟩
  refine ta_bind ipE I p fun ds s1 vs H1 g1 q1 I1 r1 p1 => ?_
  split at p1
  · rename_i hl
    exact sp_of hm I1 r1 hl p1
  · exact p1.elim
/-- the defs that are held as values -/
structure Tab (P : Program) (w : World) (K : PySem.W.Frag) (mg : Str → Option Value) (base : Heap) (T : Tb) (k : Nat) (ar : Nat → Nat) (mfs : Nat → MF) : Prop where
  at_ : ∀ j f, T.fn j = some f → ∃ fd ps, FnOk P w K mg base (L2.CX P w) k f fd ps (spOf K T (ar j) .sh (mfs j)) ∧ PySem.W.keepIn K (.ref f) = true ∧ Binds K fd ps []
def eCallV (i : Nat) (ar : Nat → Nat) (mfs : Nat → MF) (fs : S → R (List D)) : S → R D := fun st => match st.r.getD i none with
  | some (.fn j) => (fs st).bind fun ds s => if ds.length = ar j then callR (mfs j ds s.m) s else .stuck
  | _ => .stuck
end
end DL
set_option linter.all false
set_option Elab.async false
set_option maxRecDepth 100000
set_option maxHeartbeats 2000000
namespace DL
open PySem PySem.Spec PyProof.Rows L2
/-! ### several except clauses, with or without a name -/
abbrev Sui := Addr → Value → Option Addr → TS
inductive Cls (X : Cx) : List ExceptHandler → List (Value × Option Nat × Sui) → Prop
  | nil : Cls X [] []
  | anon {x : Str} {c : Value} {u : Sui} {b₀ : Stmt} {suite : List Stmt} {np p' : Pos} {hds : List ExceptHandler} {l : List (Value × Option Nat × Sui)} (hc : Names X x c)
      (su : ∀ a oe cls d pn, Zc cls d oe → (∃ vs, oe.data = .fields vs) → PSs (X.suite a ((a, oe) :: pn)) (b₀ :: suite) (u a cls d)) (r : Cls X hds l) :
      Cls X (.ExceptHandler (some (.Name x np)) none (b₀ :: suite) p' :: hds) ((c, none, u) :: l)
  | named {x n : Str} {i : Nat} {c : Value} {u : Sui} {b₀ : Stmt} {suite : List Stmt} {np p' : Pos} {hds : List ExceptHandler} {l : List (Value × Option Nat × Sui)} (hc : Names X x c) (hi : X.N[i]? = some n) (hk : X.env.kindOf n = some .local)
      (su : ∀ a oe cls d pn, Zc cls d oe → (∃ vs, oe.data = .fields vs) → PSs (X.suite a ((a, oe) :: pn)) (b₀ :: suite) (u a cls d)) (r : Cls X hds l) :
      Cls X (.ExceptHandler (some (.Name x np)) (some n) (b₀ :: suite) p' :: hds) ((c, some i, u) :: l)
/-! ### try in the plain semantics -/
def Ex.ix : Ex → Nat
  | .mk i _ => i
def hNil : Ex → S → RS := fun e s => .raise e s
/-- except .. as n: c = [txt, isinstance(n, ..)] -/
def hSay (cm : Nat → Bool) (i c : Nat) (txt : Str) (b : Bool) (r : Ex → S → RS) : Ex → S → RS := fun e s => if cm e.ix then (match e with
  | .mk _ [] => if i < s.r.length then .next { s with r := ((s.r.set c (some (.lst [.str txt, .bl b])))).set i none } else .stuck
  | _ => .stuck) else r e s
def sTry (q : S → RS) (h : Ex → S → RS) : S → RS := fun s => match q s with
  | .raise e s' => h e s'
  | r => r
end DL
set_option linter.all false
set_option Elab.async false
set_option maxRecDepth 100000
namespace DL
open PySem PySem.Spec PyProof.Rows L2
/-! ### small helps for printed proofs -/
instance flDec : DecidableEq Fl := fun a b => match a, b with
  | .sh, .sh => isTrue rfl
  | .o1, .o1 => isTrue rfl
  | .o2, .o2 => isTrue rfl
  | .sh, .o1 => isFalse fun h => Fl.noConfusion h
  | .sh, .o2 => isFalse fun h => Fl.noConfusion h
  | .o1, .sh => isFalse fun h => Fl.noConfusion h
  | .o1, .o2 => isFalse fun h => Fl.noConfusion h
  | .o2, .sh => isFalse fun h => Fl.noConfusion h
  | .o2, .o1 => isFalse fun h => Fl.noConfusion h
theorem fl_out {Γ : Fls} {n i : Nat} (h : Γ.length ≤ n) (hi : n ≤ i) : fl Γ i = .sh := by
  unfold fl
  rw [List.getD_eq_getElem?_getD, List.getElem?_eq_none (by omega)]
  rfl
theorem flz_of (n : Nat) {Γ Γ' : Fls} {p : Nat → Bool} (h : ∀ i, i < n → fl Γ' i = if p i = true then .sh else fl Γ i) (h1 : Γ.length ≤ n) (h2 : Γ'.length ≤ n) : ∀ i, fl Γ' i = if p i = true then .sh else fl Γ i := by
  intro i
  by_cases hi : i < n
  · exact h i hi
  · rw [fl_out h2 (by omega), fl_out h1 (by omega)]
    split <;> rfl
theorem flf_of (n : Nat) {Γ Γ' : Fls} {i : Nat} {f : Fl} (h : ∀ j, j < n → fl Γ' j = if j = i then f else fl Γ j) (h1 : Γ.length ≤ n) (h2 : Γ'.length ≤ n) (hi : i < n) : ∀ j, fl Γ' j = if j = i then f else fl Γ j := by
  intro j
  by_cases hj : j < n
  · exact h j hj
  · rw [fl_out h2 (by omega), fl_out h1 (by omega), if_neg (by omega)]
theorem hu64 {k : Nat} {A : Around} (r : Room k A) : A.units + 64 < cLine := by
  have := r.un
  omega
def FnF (K : PySem.W.Frag) (mg : Str → Option Value) (x : Str) (st : Stmt) (ps : List Str) : Prop := ∃ f fd, Fun K x x st f fd ∧ Binds K fd ps [] ∧ mg x = some (.ref f)
def ConF (K : PySem.W.Frag) (mg : Str → Option Value) (T : Tb) (x : Str) (d : D) : Prop := ∃ (v : V) (u : Value), mg x = some u ∧ RelV v u ∧ ∀ g H, Rp K T g H d v
theorem con_int {K : PySem.W.Frag} {mg : Str → Option Value} {T : Tb} {x : Str} {n : Int} {t : Nat} (h : mg x = some (.int n t)) : ConF K mg T x (.int n) := ⟨.int n, _, h, ⟨_, rfl⟩, fun _ _ => rp_int⟩
section
variable {P : Program} {w : World} {K : PySem.W.Frag} {mg : Str → Option Value} {base : Heap} {T : Tb} {k : Nat} {f : Addr} {fd : FuncData} {ps : List Str} {n : Nat} {rm : Mo}
theorem fn_never : FnOk P w K mg base (L2.CX P w) k f fd ps (spOf K T n rm fun _ _ => .stuck) :=
  ⟨fun _ _ _ _ ⟨_, _, _, _, _, _, _, _, h⟩ => h.elim, fun _ _ _ _ _ _ _ _ _ _ _ _ _ ⟨_, _, _, _, _, _, _, _, h⟩ => h.elim⟩
end
section
variable {T : Tb} {X : Cx} {Γ Γ' : Fls} {F : Fx} {e a b c tg iter : Expr} {m m1 m2 m3 : Mo} {f f1 f2 f3 : S → R D} {pos p2 pos' : Pos} {nx lp : Fls} {rm : Mo}
def augD : D → D → S → R D := fun d e s => match d, e with | .int i, .int j => .ok (.int (i + j)) s | _, _ => .stuck
def sPar3 (i j k : Nat) (f1 f2 f3 : S → R D) : S → RS := fun s => (f1 s).then fun d1 s1 => (f2 s1).then fun d2 s2 => (f3 s2).then fun d3 s3 => .next { s3 with r := ((s3.r.set i (some d1)).set j (some d2)).set k (some d3) }
end
section
variable {T : Tb} {X : Cx} {Γ : Fls} {pos : Pos}
theorem je_conZ (d : D) {x : Str} (hg : Gl X x) (h : ConF X.K X.mg T x d) (hd : (x == ("__debug__" : Str)) = false := by decide) : JE T X Γ (.Name x pos) .sh (eC d) :=
  let ⟨_, _, h1, h2, h3⟩ := h
  je_glob d hg h1 h2 h3 hd
end
def blkB (N : List Str) (sc scope : Scope) (own : List (Str × Nat)) : Bool :=
  decide (scope.kind = .function) && (scope.names.all fun y => decide (scope.names.lookup y.1 = some y.2)) && (own.all fun p => decide (N[p.2]? = some p.1)) &&
    (scope.names.all fun y => decide (y.2 = .free → sc.names.lookup y.1 = some .cell ∨ sc.names.lookup y.1 = some .free)) && (scope.names.all fun y => decide (y.2 = .local ∨ y.2 = .cell → y.1 ∈ own.map (·.1) ∨ y.1 ∉ N))
theorem blk_of {N : List Str} {sc scope : Scope} {own : List (Str × Nat)} (h : blkB N sc scope own = true) : BlkOk N sc scope own := by
  unfold blkB at h
  simp only [Bool.and_eq_true, List.all_eq_true, decide_eq_true_eq] at h
  obtain ⟨⟨⟨⟨h1, h2⟩, h3⟩, h4⟩, h5⟩ := h
  exact ⟨h1, h2, h3, h4, h5⟩
end DL
set_option linter.all false
set_option Elab.async false
set_option maxRecDepth 100000
namespace DL
open PySem PySem.Spec PyProof.Rows L2
/-! ### the end of a law -/
def spLaw (K : PySem.W.Frag) : Sp := fun vs H Q _ => ∃ (a : Addr) (ns : List Int), vs = [.ref a] ∧ SqL K H a (ns.map V.int) ∧ ns.length ≤ 63 ∧ (∀ z ∈ ns, Builtin.Int.intBits z ≤ 1048576) ∧ ∀ H', Q (.bl true) H'
def LawTrue (mf : MF) : Prop := ∀ ns : List Int, ns.length ≤ 63 → (∀ z ∈ ns, Builtin.Int.intBits z ≤ 1048576) → ∃ m', mf [.scr ns] [] = .ok (.bl true) m'
theorem spLaw_of {K : PySem.W.Frag} {T : Tb} {mf : MF} (h : LawTrue mf) (vs : List V) (H : Hp) (Q : VK) (E : XK) (s : spLaw K vs H Q E) : spOf K T 1 .sh mf vs H Q E := by
  obtain ⟨a, ns, rfl, hS, hl, hb, q⟩ := s
  obtain ⟨m', e⟩ := h ns hl hb
  have rp : Rp K T ⟨fun b => b = a ∧ ∃ o, H b = some o, fun _ => [], []⟩ H (.scr ns) (.ref a) := by
    simp only [Rp]
    refine ⟨a, rfl, ?_⟩
    rcases hS with (h1 | h1) | h1
    · exact .inl ⟨⟨rfl, _, h1⟩, h1⟩
    · exact .inr (.inl h1)
    · exact .inr (.inr h1)
  refine ⟨[.scr ns], [], ⟨fun b => b = a ∧ ∃ o, H b = some o, fun _ => [], []⟩, rfl, ⟨fun b hb => hb.2, fun b ho => ?_, fun b _ ho => ?_, fun i => List.nodup_nil, fun i j b hi => (by cases hi), fun i b hi => (by cases hi), List.nodup_nil⟩, fun _ => rfl, .one rp, ⟨rfl, fun n c a h => (by simp at h)⟩, ?_⟩
  · rcases ho with ⟨i, h⟩ | h <;> cases h
  · rcases ho with ⟨i, h⟩ | h <;> cases h
  · rw [e]
    intro v H' g' _ _ _ _ r
    have ev : v = .bl true := by simpa [RpM, Rp] using r
    subst ev
    exact q H'
theorem cx_none {P : Program} {w : World} {H : Hp} {s s' : Shared} {e : Value} (h : L2.CX P w [] H s (fun _ _ _ => False) e s') : False := by
  obtain ⟨_, _, _, _, _, _, _, _, _, _, _, _, z⟩ := h
  exact z
theorem bits_B {ns : List Int} (h : ∀ z ∈ ns, Builtin.Int.intBits z ≤ 1048576) : ∃ B : Nat, (∀ y : Nat, y ≤ 8192 * B → y.log2 < 90000000) ∧ ∀ z ∈ ns, z.natAbs ≤ B := by
  refine ⟨2 ^ 1048576, fun y hy => ?_, fun z hz => ?_⟩
  · by_cases h0 : y = 0
    · rw [h0]
      decide
    · have h1 : y < 2 ^ 1048590 := by
        refine Nat.lt_of_le_of_lt hy ?_
        rw [show (8192 : Nat) = 2 ^ 13 by decide, ← Nat.pow_add]
        exact Nat.pow_lt_pow_right (by decide) (by decide)
      exact Nat.lt_of_lt_of_le ((Nat.log2_lt h0).2 h1) (by decide)
  · have := h z hz
    unfold Builtin.Int.intBits at this
    split at this
    · rename_i e
      have e' : z = 0 := by simpa using e
      rw [e']
      exact Nat.zero_le _
    · rename_i e
      have e' : z.natAbs ≠ 0 := by
        have : z ≠ 0 := by simpa using e
        omega
      exact Nat.le_of_lt ((Nat.log2_lt e').1 (by omega))
section
variable {K : PySem.W.Frag} {T : Tb} {mg : Str → Option Value} {h : Heap} {x : Str}
theorem fnF_mk {st : Stmt} {ps : List Str} {f : Addr} {od an : Option Addr} {sl : Array (Option Value)} {oc kV dc pm cd ct : Value} (X : K.In h) (G : h.Ns mainGlobals mg) (a : PySem.W.nsIn K mainGlobals x = some (some (.ref f)))
    (l : K.lookup f = some ⟨oc, od, .func (PySem.W.fnOf x x (defArgs st) (defBody st) (defScope st) .none kV dc pm an cd ct), sl⟩) (c : PySem.W.codeIn K cd x = true) (k : PySem.W.keepIn K (.ref f) = true)
    (hb : ∀ (kV doc pm : Value) (an : Option Addr) (cdv ct : Value) (us : List Value), us.length = ps.length → bindArgs (PySem.W.fnOf x x (defArgs st) (defBody st) (defScope st) .none kV doc pm an cdv ct) ⟨us, []⟩ = pure (ps.zip us)) : FnF K mg x st ps :=
  ⟨_, _, fun_mk l c k, (fun_mk l c k).binds hb, PySem.W.mg_of X G a⟩
theorem con_i {n : Int} {t : Nat} (X : K.In h) (G : h.Ns mainGlobals mg) (a : PySem.W.nsIn K mainGlobals x = some (some (.int n t))) : ConF K mg T x (.int n) := con_int (PySem.W.mg_of X G a)
theorem exc0_mk {i : Nat} {C : Addr} (X : K.In h) (G : h.Ns mainGlobals mg) (a : PySem.W.nsIn K mainGlobals x = some (some (.ref C))) (hT : T.exc i = some C) (q : PySem.W.excIn K C [.type "ValueError", .type "Exception", .type "BaseException", .type "object"] "ValueError.__new__" = true)
    (k : PySem.W.keepIn K (.ref C) = true) (s : PySem.W.subIn K (.ref C) (.type "BaseException") = some true) (t : PySem.W.typeIn K (.ref C) = some (.type "type")) : Exc0 K T mg x i :=
  ⟨C, _, _, _, _, hT, PySem.W.mg_of X G a, PySem.F.excBase_ValueError, q, k, s, t⟩
end
end DL
set_option linter.all false
set_option Elab.async false
set_option maxRecDepth 100000
namespace DL
open PySem PySem.Spec PyProof.Rows L2
/-! ### a new cell -/
section
variable {K : PySem.W.Frag} {T : Tb} {g g' g0 : Gh} {H H' H0 : Hp} {Γ Γ' : Fls} {σ : L2.St} {st : S}
theorem more_own {a b : Addr} (h : (g.more a).Own b) : g.Own b ∨ b = a := by
  rcases h with h | h
  · exact .inl (.inl h)
  · rcases List.mem_append.mp h with h | h
    · exact .inl (.inr h)
    · exact .inr (by simpa using h)
theorem Sub.more {a : Addr} : Sub g H (g.more a) H := ⟨fun _ h => h, fun _ _ _ h => h, fun _ _ h _ => h, List.prefix_append _ _⟩
theorem Step.more {a : Addr} (s : Step g0 H0 g H) (hn : H0 a = none) : Step g0 H0 (g.more a) H := ⟨s.aa, s.an, fun b h => by
  rcases more_own h with h | h
  · exact s.on b h
  · rw [h]
    exact .inr hn, s.fr, s.im, s.tr, s.mu.trans (List.prefix_append _ _)⟩
theorem SR.more {a : Addr} {o : HO} {c : Cell} (I : SR K T Γ g σ H st) (h1 : H a = some o) (hi : imo o = false) (hA : ¬ g.A a) (hO : ¬ g.Own a) (hc : CellR K T (g.more a) H a c) : SR K T Γ (g.more a) σ H { st with m := st.m ++ [c] } := by
  have u : Sub g H (g.more a) H := .more
  have wf : WF (g.more a) H := ⟨I.wf.ta, fun b h => by
    rcases more_own h with h | h
    · exact I.wf.ot b h
    · rw [h]
      exact ⟨_, h1, hi⟩, fun b h q => by
    rcases more_own q with q | q
    · exact I.wf.ao b h q
    · rw [q] at h
      exact hA h, I.wf.nf, I.wf.df, fun j b h q => by
    rcases List.mem_append.mp q with q | q
    · exact I.wf.fm j b h q
    · have : b = a := by simpa using q
      rw [this] at h
      exact hO (.inl ⟨j, h⟩), by
    rw [show (g.more a).mu = g.mu ++ [a] from rfl, List.nodup_append]
    refine ⟨I.wf.nm, by simp, fun x hx y hy => ?_⟩
    have : y = a := by simpa using hy
    rw [this]
    rintro rfl
    exact hO (.inr hx)⟩
  refine I.re u wf rfl (fun _ _ _ => rfl) ⟨by
    show (g.mu ++ [a]).length = _
    rw [List.length_append, List.length_append, I.me.len]
    rfl, fun n c' b e1 e2 => ?_⟩
  have e2' : (g.mu ++ [a])[n]? = some b := e2
  by_cases hn : n < st.m.length
  · rw [List.getElem?_append_left hn] at e1
    rw [List.getElem?_append_left (by rw [I.me.len]; exact hn)] at e2'
    exact CellR.sub u rfl (I.me.at_ n c' b e1 e2')
  · rw [List.getElem?_append_right (by omega)] at e1
    rw [List.getElem?_append_right (by rw [I.me.len]; omega)] at e2'
    rw [I.me.len] at e2'
    cases hk : n - st.m.length with
    | zero =>
      rw [hk] at e1 e2'
      cases e1
      cases e2'
      exact hc
    | succ k =>
      rw [hk] at e1
      simp at e1
theorem ref_more {a : Addr} (I : SR K T Γ g σ H st) : Rp K T (g.more a) H (.ref st.m.length) (.ref a) := by
  simp only [Rp]
  refine ⟨a, rfl, ?_⟩
  show (g.mu ++ [a])[st.m.length]? = some a
  rw [List.getElem?_append_right (by rw [I.me.len]; exact Nat.le_refl _), I.me.len, Nat.sub_self]
  rfl
/-- a fresh object becomes a cell, as an expression's value -/
theorem post_cell {m : Mo} {W : WX} {Q : VK} {p : Addr} {o : HO} {c : Cell} (I : SR K T Γ g σ H st) (hp : H p = none) (hi : imo o = false) (hc : CellR K T (g.more p) (upd H p o) p c) (q : PostE K T Γ σ g H .sh W Q (.ok (.ref st.m.length) { st with m := st.m ++ [c] })) : Q (.ref p) (upd H p o) := by
  have I1 := I.new (o := o) hp
  refine q _ _ (g.more p) ⟨(Step.new hp).more hp, rfl, fun i b hb => ?_⟩ (I1.more upd_same hi (I.wf.nota hp) (I.wf.noto hp) hc) (ref_more I1)
  obtain ⟨o', e, _⟩ := I.wf.ot b (.inl ⟨i, hb⟩)
  rw [upd_ne (ne_of_none e hp)]
/-- a cell written -/
theorem SR.put {n : Nat} {ad : Addr} {o o' : HO} {c : Cell} (I : SR K T Γ g σ H st) (ha : g.mu[n]? = some ad) (hH : H ad = some o) (hi : imm o = false) (hi' : imo o' = false) (hc : CellR K T g (upd H ad o') ad c) :
    Step g H g (upd H ad o') ∧ SR K T Γ g σ (upd H ad o') { st with m := st.m.set n c } := by
  have hm : ad ∈ g.mu := List.mem_of_getElem? ha
  have own : g.Own ad := .inr hm
  have s : Step g H g (upd H ad o') := ⟨fun _ h => h, fun _ h => .inl h, fun _ h => .inl h, fun b u h n => by
    rw [upd_ne fun z => n (by rw [z]; exact own)]
    exact h, fun b u h im => by
    rw [upd_ne fun z => ?_]
    · exact h
    · rw [z, hH] at h
      cases h
      rw [hi] at im
      exact absurd im (by simp), fun b h => by
    by_cases e : b = ad
    · rw [e, upd_same] at h
      cases h
    · rw [upd_ne e] at h
      exact h, List.prefix_refl _⟩
  have wf : WF g (upd H ad o') := ⟨fun b h => by
    by_cases e : b = ad
    · exact ⟨_, by rw [e, upd_same]⟩
    · rw [upd_ne e]
      exact I.wf.ta b h, fun b h => by
    by_cases e : b = ad
    · exact ⟨_, by rw [e, upd_same], hi'⟩
    · rw [upd_ne e]
      exact I.wf.ot b h, I.wf.ao, I.wf.nf, I.wf.df, I.wf.fm, I.wf.nm⟩
  have u := s.sub I.wf
  refine ⟨s, wf, I.len, fun j hj => (I.sl j hj).sub u rfl fun b hb => by rw [upd_ne fun z => I.wf.fm j b hb (by rw [z]; exact hm)], by simpa using I.me.len, fun k c' b h1 h2 => ?_⟩
  by_cases h : n = k
  · subst h
    rw [ha] at h2
    cases h2
    have hl : n < st.m.length := by
      rw [← I.me.len]
      exact (List.getElem?_eq_some_iff.mp ha).1
    rw [List.getElem?_set_self hl] at h1
    cases h1
    exact hc
  · rw [List.getElem?_set_ne h] at h1
    have hne : b ≠ ad := fun z => by
      subst z
      obtain ⟨h3, e3⟩ := List.getElem?_eq_some_iff.mp ha
      obtain ⟨h4, e4⟩ := List.getElem?_eq_some_iff.mp h2
      exact h ((List.getElem_inj I.wf.nm).mp (e3.trans e4.symm))
    exact CellR.sub u (upd_ne hne) (I.me.at_ k c' b h1 h2)
end
/-! ### dicts with keys of whole numbers or texts -/
def keyD : D → Option Key
  | .int i => some (.inl i)
  | .str x => some (.inr x)
  | _ => none
def valD (kvs : List (Key × D)) (k : Key) : Option D := (kvs.find? fun kv => decide (kv.1 = k)).map (·.2)
def putD (kvs : List (Key × D)) (k : Key) (v : D) : List (Key × D) :=
  if (kvs.any fun kv => decide (kv.1 = k)) = true then kvs.map (fun kv => if kv.1 = k then (kv.1, v) else kv) else kvs ++ [(k, v)]
def mDic (s : S) (n : Nat) : Option (List (Key × D)) := match s.m[n]? with
  | some (.dic _ kvs) => some kvs
  | _ => none
def mDicU (s : S) (n : Nat) : Option (List (Key × D)) := match s.m[n]? with
  | some (.dic false kvs) => some kvs
  | _ => none
section
variable {K : PySem.W.Frag} {T : Tb} {g g' : Gh} {H H' : Hp} {Γ : Fls} {σ : L2.St} {st : S}
theorem key_of {d : D} {v : V} {k : Key} {H0 : Hp} (r : RpM K T g H0 H .b1 d v) (e : keyD d = some k) : v = kV k := by
  cases d <;> simp [keyD] at e
  · subst e
    exact b_int r
  · subst e
    exact b_str r
theorem key_sh {d : D} {v : V} {k : Key} (r : Rp K T g H d v) (e : keyD d = some k) : v = kV k := by
  cases d <;> simp [keyD] at e
  · subst e
    simp only [Rp] at r
    exact r
  · subst e
    simp only [Rp] at r
    exact r
theorem zip_val : ∀ {kvs : List (Key × D)} {vs : List V} (k : Key), Rps K T g H (kvs.map (·.2)) vs → match valD kvs k with
    | some d => ∃ v, valV ((kvs.map (·.1)).zip vs) k = some v ∧ Rp K T g H d v
    | none => valV ((kvs.map (·.1)).zip vs) k = none
  | [], vs, k, h => by
    simp only [List.map_nil, Rps] at h
    subst h
    rfl
  | kv :: kvs, vs, k, h => by
    simp only [List.map_cons, Rps] at h
    obtain ⟨v, r, e, h1, h2⟩ := h
    subst e
    by_cases hk : kv.1 = k
    · have e1 : valD (kv :: kvs) k = some kv.2 := by simp [valD, List.find?_cons, hk]
      rw [e1]
      exact ⟨v, valV_pos hk, h1⟩
    · have e1 : valD (kv :: kvs) k = valD kvs k := by simp [valD, List.find?_cons, hk]
      have e2 : valV (((kv :: kvs).map (·.1)).zip (v :: r)) k = valV ((kvs.map (·.1)).zip r) k := valV_neg (p := (kv.1, v)) hk
      rw [e1, e2]
      exact zip_val k h2
theorem zip_any (k : Key) : ∀ {kvs : List (Key × D)} {vs : List V}, vs.length = kvs.length → (((kvs.map (·.1)).zip vs).any fun kv => decide (kv.1 = k)) = (kvs.any fun kv => decide (kv.1 = k))
  | [], vs, h => rfl
  | kv :: kvs, [], h => by simp at h
  | kv :: kvs, v :: vs, h => by
    simp only [List.map_cons, List.zip_cons_cons, List.any_cons]
    rw [zip_any k (by simpa using h)]
theorem zip_map (k : Key) (v : V) (d : D) (r : Rp K T g H d v) : ∀ {kvs : List (Key × D)} {vs : List V}, Rps K T g H (kvs.map (·.2)) vs → ∃ vs', ((kvs.map (·.1)).zip vs).map (fun kv => if kv.1 = k then (kv.1, v) else kv) = ((kvs.map fun kv => if kv.1 = k then (kv.1, d) else kv).map (·.1)).zip vs' ∧
    Rps K T g H ((kvs.map fun kv => if kv.1 = k then (kv.1, d) else kv).map (·.2)) vs'
  | [], vs, h => by
    simp only [List.map_nil, Rps] at h
    subst h
    exact ⟨[], rfl, Rps.nil⟩
  | kv :: kvs, vs, h => by
    simp only [List.map_cons, Rps] at h
    obtain ⟨w, rr, e, h1, h2⟩ := h
    subst e
    obtain ⟨vs', e1, e2⟩ := zip_map k v d r h2
    by_cases hk : kv.1 = k
    · refine ⟨v :: vs', ?_, ?_⟩
      · simp only [List.map_cons, List.zip_cons_cons, if_pos hk]
        rw [e1]
      · simp only [List.map_cons, if_pos hk]
        exact Rps.cons r e2
    · refine ⟨w :: vs', ?_, ?_⟩
      · simp only [List.map_cons, List.zip_cons_cons, if_neg hk]
        rw [e1]
      · simp only [List.map_cons, if_neg hk]
        exact Rps.cons h1 e2
theorem zip_snoc (k : Key) (v : V) (d : D) : ∀ {kvs : List (Key × D)} {vs : List V}, vs.length = kvs.length → ((kvs.map (·.1)).zip vs) ++ [(k, v)] = ((kvs ++ [(k, d)]).map (·.1)).zip (vs ++ [v])
  | [], [], h => rfl
  | [], v :: vs, h => by simp at h
  | kv :: kvs, [], h => by simp at h
  | kv :: kvs, w :: vs, h => by
    simp only [List.map_cons, List.zip_cons_cons, List.cons_append]
    rw [zip_snoc k v d (by simpa using h)]
theorem zip_put {kvs : List (Key × D)} {vs : List V} {k : Key} {v : V} {d : D} (r : Rp K T g H d v) (h : Rps K T g H (kvs.map (·.2)) vs) : ∃ vs', putK ((kvs.map (·.1)).zip vs) k v = ((putD kvs k d).map (·.1)).zip vs' ∧ Rps K T g H ((putD kvs k d).map (·.2)) vs' := by
  have hl : vs.length = kvs.length := by
    have := h.length
    simpa using this
  unfold putK putD
  rw [zip_any k hl]
  split
  · exact zip_map k v d r h
  · refine ⟨vs ++ [v], zip_snoc k v d hl, ?_⟩
    rw [List.map_append]
    exact h.append (.one r)
theorem dic_at {n : Nat} {kvs : List (Key × D)} {a : Addr} (I : SR K T Γ g σ H st) (h : mDic st n = some kvs) (ha : g.mu[n]? = some a) : ∃ vs, Rd H a (.dK ((kvs.map (·.1)).zip vs)) ∧ Rps K T g H (kvs.map (·.2)) vs := by
  unfold mDic at h
  split at h
  · rename_i lk kvs' e
    cases h
    have q := I.me.at_ n _ a e ha
    cases lk with
    | false =>
      obtain ⟨vs, q1, q2⟩ := q
      exact ⟨vs, .inl q1, q2⟩
    | true =>
      obtain ⟨vs, od, q1, q2⟩ := q
      exact ⟨vs, .inr ⟨od, q1⟩, q2⟩
  · cases h
theorem dic_atU {n : Nat} {kvs : List (Key × D)} {a : Addr} (I : SR K T Γ g σ H st) (h : mDicU st n = some kvs) (ha : g.mu[n]? = some a) : ∃ vs, H a = some (.dK ((kvs.map (·.1)).zip vs)) ∧ Rps K T g H (kvs.map (·.2)) vs := by
  unfold mDicU at h
  split at h
  · rename_i kvs' e
    cases h
    exact I.me.at_ n _ a e ha
  · cases h
theorem b_ref {H0 : Hp} {n : Nat} {v : V} (r : RpM K T g H0 H .b1 (.ref n) v) : ∃ a, v = .ref a ∧ g.mu[n]? = some a := by simpa [RpM, Rp] using r
end
section
variable {T : Tb} {X : Cx} {Γ Γ' : Fls} {F : Fx} {nx lp : Fls} {rm : Mo} {e a b c o i tg iter : Expr} {m m1 m2 m3 : Mo} {f f1 f2 f3 : S → R D} {pos p2 pos' apos cpos : Pos} {es : List Expr} {fs : S → R (List D)}
def eDic0 : S → R D := fun s => .ok (.ref s.m.length) { s with m := s.m ++ [.dic false []] }
theorem je_dic0 : JE T X Γ (.Dict [] [] pos) .sh eDic0 := ⟨fun W tk => PE.imp pe_dnewK fun σ H Q ⟨g, st, I, p⟩ => fun q hq => post_cell (m := .sh) (c := .dic false []) I hq rfl ⟨[], upd_same, Rps.nil⟩ p⟩
/-- d[k] -/
def dixD : D → D → S → R D := fun d k s => match d, keyD k with
  | .ref n, some k => (match mDic s n with
    | some kvs => (match valD kvs k with
      | some v => .ok v s
      | none => .stuck)
    | none => .stuck)
  | _, _ => .stuck
theorem je_dix (hu : X.A.units + 64 < cLine) (ha : JE T X Γ a .b1 f1) (hb : JE T X Γ b .b1 f2) (hs : NoSl b := by exact fun _ _ => rfl) : JE T X Γ (.Subscript a b pos) .sh (e2 dixD f1 f2) := by
  refine ⟨fun W tk => PE.imp (pe_dget (by omega) (ha.run W tk) (hb.run W tk) hs) fun σ H Q ⟨g, st, I, p⟩ => ?_⟩
  refine te_bind ipE I p fun d1 s1 x H1 g1 q1 I1 r1 p1 => te_bind ipE I1 p1 fun d2 s2 y H2 g2 q2 I2 r2 p2 => ?_
  have r1' := r1.step I1.wf I2.wf q2
  unfold dixD at p2
  split at p2
  · rename_i n k ek
    split at p2
    · rename_i kvs em
      split at p2
      · rename_i v ev
        obtain ⟨ad, ex, hn⟩ := b_ref r1'
        subst ex
        obtain ⟨vs, h1, h2⟩ := dic_at I2 em hn
        have z := zip_val k h2
        rw [ev] at z
        obtain ⟨w, z1, z2⟩ := z
        exact ⟨ad, w, rfl, .inl ⟨_, k, h1, key_of r2 ek, z1.symm⟩, p2 _ H2 g2 (.refl g2 H2) I2 z2⟩
      · exact p2.elim
    · exact p2.elim
  · exact p2.elim
end
end DL
set_option linter.all false
set_option Elab.async false
set_option maxRecDepth 100000
namespace DL
open PySem PySem.Spec PyProof.Rows L2
section
variable {T : Tb} {X : Cx} {Γ Γ' : Fls} {F : Fx} {nx lp : Fls} {rm : Mo} {e a b c o i tg iter : Expr} {m m1 m2 m3 : Mo} {f f1 f2 f3 : S → R D} {pos p2 pos' apos cpos : Pos} {es : List Expr} {fs : S → R (List D)}
/-- d.get(k, x) -/
def dgetD : D → D → D → S → R D := fun d k x s => match d, keyD k with
  | .ref n, some k => (match mDic s n with
    | some kvs => .ok ((valD kvs k).getD x) s
    | none => .stuck)
  | _, _ => .stuck
def isDic (d : D) (s : S) : Bool := match d with
  | .ref n => (mDic s n).isSome
  | _ => false
def eGet (f1 f2 f3 : S → R D) : S → R D := fun st => (f1 st).bind fun d s1 => if isDic d s1 then (f2 s1).bind fun k s2 => (f3 s2).bind fun x s3 => dgetD d k x s3 else .stuck
theorem je_dget (hu : X.A.units + 64 < cLine) (ha : JE T X Γ a .b1 f1) (hb : JE T X Γ b .sh f2) (hc : JE T X Γ c .sh f3)
    (mm : M2 X a "get" apos b c cpos := by exact ⟨rfl, rfl, rfl, rfl⟩) : JE T X Γ (.Call (.Attribute a "get" apos) [b, c] [] cpos) .sh (eGet f1 f2 f3) := by
  refine ⟨fun W tk => PE.imp (pe_dget2 (by omega) (ha.run W tk) (hb.run W tk) (hc.run W tk) mm) fun σ H Q ⟨g, st, I, p⟩ => ?_⟩
  refine te_bind ipE I p fun d1 s1 x H1 g1 q1 I1 r1 p1 => ?_
  split at p1
  case isFalse => exact p1.elim
  rename_i hd
  unfold isDic at hd
  split at hd
  case h_2 => cases hd
  rename_i n
  obtain ⟨kvs, ek⟩ := Option.isSome_iff_exists.mp hd
  obtain ⟨ad, ex, hn⟩ := b_ref r1
  subst ex
  obtain ⟨vs, h1, h2⟩ := dic_at I1 ek hn
  refine ⟨ad, rfl, .inl ⟨_, h1⟩, te_bind ipE I1 p1 fun d2 s2 y H2 g2 q2 I2 r2 p2 => te_bind ipE I2 p2 fun d3 s3 z H3 g3 q3 I3 r3 p3 => ?_⟩
  unfold dgetD at p3
  split at p3
  · rename_i n' k en ek2
    cases en
    split at p3
    · rename_i kvs' ek3
      have hn3 : g3.mu[n]? = some ad := by
        obtain ⟨t, ht⟩ := (q2.trans q3).mu
        rw [← ht, List.getElem?_append_left (List.getElem?_eq_some_iff.mp hn).1]
        exact hn
      obtain ⟨vs', h1', h2'⟩ := dic_at I3 ek3 hn3
      have zz := zip_val k h2'
      have ky : y = kV k := key_sh (Rp.step I2.wf q3.toStep r2) ek2
      cases ev : valD kvs' k with
      | none =>
        rw [ev] at zz p3
        exact ⟨none, .inl ⟨_, k, h1', ky, zz.symm⟩, p3 _ H3 g3 (.refl g3 H3) I3 r3⟩
      | some v =>
        rw [ev] at zz p3
        obtain ⟨w, z1, z2⟩ := zz
        exact ⟨some w, .inl ⟨_, k, h1', ky, z1.symm⟩, p3 _ H3 g3 (.refl g3 H3) I3 z2⟩
    · exact p3.elim
  · exact p3.elim
/-- k in d, k not in d -/
def dinD (neg : Bool) : D → D → S → R D := fun k d s => match d, keyD k with
  | .ref n, some k => (match mDic s n with
    | some kvs => .ok (.bl (if neg then !(valD kvs k).isSome else (valD kvs k).isSome)) s
    | none => .stuck)
  | _, _ => .stuck
theorem PC.imp {op : CmpOp} {t t' : TE} (h : PC X op a b t) (i : ∀ σ H Q, t' σ H Q → t σ H Q) : PC X op a b t' := ⟨fun pins s σ H Q I hw => h.run pins s σ H Q I (i σ H Q hw)⟩
theorem din_get {K : PySem.W.Frag} {g : Gh} {σ : L2.St} {H H0 H5 : Hp} {st : S} {W : WX} {Q : VK} {d k : D} {x y : V} {neg : Bool} (I : SR K T Γ g σ H st) (rd : RpM K T g H0 H .b1 d x) (rk : RpM K T g H5 H .b1 k y) (p : PostE K T Γ σ g H .sh W Q (dinD neg k d st)) :
    ∃ a o, x = .ref a ∧ DGet H a y o ∧ Q (.bl (if neg then !o.isSome else o.isSome)) H := by
  unfold dinD at p
  split at p
  · rename_i n kk ek
    split at p
    · rename_i kvs em
      obtain ⟨ad, ex, hn⟩ := b_ref rd
      subst ex
      obtain ⟨vs, h1, h2⟩ := dic_at I em hn
      have z := zip_val kk h2
      cases ev : valD kvs kk with
      | none =>
        rw [ev] at z p
        exact ⟨ad, none, rfl, .inl ⟨_, kk, h1, key_of rk ek, z.symm⟩, p _ H g (.refl g H) I rm_bl⟩
      | some v =>
        rw [ev] at z p
        obtain ⟨w, z1, z2⟩ := z
        exact ⟨ad, some w, rfl, .inl ⟨_, kk, h1, key_of rk ek, z1.symm⟩, p _ H g (.refl g H) I rm_bl⟩
    · exact p.elim
  · exact p.elim
theorem jt_toB {op : CmpOp} {t : S → R D} (h : ∀ W, Takes X W → PC X op a b (te X.K T Γ .sh W t)) (hm : behindInMarks op b = false) : JT T X Γ (.Compare a [op] [b] pos) (toB t) := by
  refine ⟨fun W tk => PT.imp (pt_cmp (h W tk) hm) fun σ H Q ⟨g, st, I, p⟩ => ?_⟩
  unfold toB at p
  refine te_bind ipT I p fun d1 s1 x H1 g1 q1 I1 r1 p1 => ?_
  obtain ⟨k, ek, p2⟩ := toB_spec p1
  subst ek
  simp only [RpM, Rp] at r1
  exact ⟨k, r1, p2 H1 g1 (.refl g1 H1) I1⟩
theorem jt_din (hu : X.A.units + 64 < cLine) (ha : JE T X Γ a .b1 f1) (hb : JE T X Γ b .b1 f2) (hm : behindInMarks .In b = false := by first | exact nobehind _ (by decide) (by decide) | rfl) : JT T X Γ (.Compare a [.In] [b] pos) (toB (e2 (dinD false) f1 f2)) :=
  jt_toB (fun W tk => PC.imp (pc_din (by omega) (ha.run W tk) (hb.run W tk)) fun σ H Q ⟨g, st, I, p⟩ => te_bind ipE I p fun d1 s1 x H1 g1 q1 I1 r1 p1 => te_bind ipE I1 p1 fun d2 s2 y H2 g2 q2 I2 r2 p2 =>
    let ⟨ad, o, h1, h2, h3⟩ := din_get I2 r2 (r1.step I1.wf I2.wf q2) p2
    ⟨ad, o, h1, h2, h3⟩) hm
theorem jt_dnin (hu : X.A.units + 64 < cLine) (ha : JE T X Γ a .b1 f1) (hb : JE T X Γ b .b1 f2) (hm : behindInMarks .NotIn b = false := by first | exact nobehind _ (by decide) (by decide) | rfl) : JT T X Γ (.Compare a [.NotIn] [b] pos) (toB (e2 (dinD true) f1 f2)) :=
  jt_toB (fun W tk => PC.imp (pc_dnotin (by omega) (ha.run W tk) (hb.run W tk)) fun σ H Q ⟨g, st, I, p⟩ => te_bind ipE I p fun d1 s1 x H1 g1 q1 I1 r1 p1 => te_bind ipE I1 p1 fun d2 s2 y H2 g2 q2 I2 r2 p2 =>
    let ⟨ad, o, h1, h2, h3⟩ := din_get I2 r2 (r1.step I1.wf I2.wf q2) p2
    ⟨ad, o, h1, h2, h3⟩) hm
end
end DL
set_option linter.all false
set_option Elab.async false
set_option maxRecDepth 100000
namespace DL
open PySem PySem.Spec PyProof.Rows L2
/-! ### locks -/
section
variable {K : PySem.W.Frag} {T : Tb} {g g' g0 : Gh} {H H' H0 : Hp} {Γ Γ' : Fls} {σ σ' : L2.St} {st st' : S}
def lockS (s : S) (n : Nat) : Option S := match s.m[n]? with
  | some (.dic false kvs) => some { s with m := s.m.set n (.dic true kvs) }
  | _ => none
def unlockS (s : S) (n : Nat) : Option S := match s.m[n]? with
  | some (.dic true kvs) => some { s with m := s.m.set n (.dic false kvs) }
  | _ => none
theorem SR.lock {n : Nat} {a : Addr} {s1 : S} (I : SR K T Γ g σ H st) (ha : g.mu[n]? = some a) (e : lockS st n = some s1) : ∃ zs, H a = some (.dK zs) ∧ ∀ od, Step g H g (upd H a (.frz od (.dK zs))) ∧ SR K T Γ g σ (upd H a (.frz od (.dK zs))) s1 := by
  unfold lockS at e
  split at e
  · rename_i kvs em
    cases e
    obtain ⟨vs, h1, h2⟩ := I.me.at_ n _ a em ha
    refine ⟨_, h1, fun od => ?_⟩
    have s0 : Step g H g (upd H a (.frz od (.dK ((kvs.map (·.1)).zip vs)))) := ⟨fun _ h => h, fun _ h => .inl h, fun _ h => .inl h, fun b u h n => by
      rw [upd_ne fun z => n (by rw [z]; exact .inr (List.mem_of_getElem? ha))]
      exact h, fun b u h im => by
      rw [upd_ne fun z => ?_]
      · exact h
      · rw [z, h1] at h
        cases h
        exact absurd im (by simp [imm]), fun b h => by
      by_cases e : b = a
      · rw [e, upd_same] at h
        cases h
      · rw [upd_ne e] at h
        exact h, List.prefix_refl _⟩
    exact I.put (o' := .frz od (.dK ((kvs.map (·.1)).zip vs))) (c := .dic true kvs) ha h1 rfl rfl ⟨vs, od, upd_same, h2.sub (s0.sub I.wf)⟩
  · cases e
/-- behind the lock -/
theorem unlocked {n : Nat} {a : Addr} {od : Obj} {zs : List (Key × V)} {s2 : S} (ha : g0.mu[n]? = some a) (hz : H0 a = some (.dK zs)) (s : Step g0 (upd H0 a (.frz od (.dK zs))) g H) (I : SR K T Γ g σ H st) (e : unlockS st n = some s2) :
    H a = some (.frz od (.dK zs)) ∧ Step g0 H0 g (upd H a (.dK zs)) ∧ SR K T Γ g σ (upd H a (.dK zs)) s2 ∧ Sub g H g (upd H a (.dK zs)) := by
  have h0 : H a = some (.frz od (.dK zs)) := s.im _ _ upd_same rfl
  have own0 : g0.Own a := .inr (List.mem_of_getElem? ha)
  have hm : g.mu[n]? = some a := by
    obtain ⟨t, ht⟩ := s.mu
    rw [← ht, List.getElem?_append_left (List.getElem?_eq_some_iff.mp ha).1]
    exact ha
  have hmm : a ∈ g.mu := List.mem_of_getElem? hm
  have own : g.Own a := .inr hmm
  have ne0 : ∀ b, upd H0 a (.frz od (.dK zs)) b = none → H0 b = none := fun b h => by
    by_cases z : b = a
    · rw [z, upd_same] at h
      cases h
    · rw [upd_ne z] at h
      exact h
  have st0 : Step g0 H0 g (upd H a (.dK zs)) := ⟨s.aa, fun b h => (s.an b h).imp id (Or.imp id (ne0 b)), fun b h => (s.on b h).imp id (ne0 b), fun b u h no => by
    have z : b ≠ a := fun z => no (by rw [z]; exact own0)
    rw [upd_ne z]
    exact s.fr b u (by rw [upd_ne z]; exact h) no, fun b u h im => by
    have z : b ≠ a := fun z => by
      rw [z, hz] at h
      cases h
      exact absurd im (by simp [imm])
    rw [upd_ne z]
    exact s.im b u (by rw [upd_ne z]; exact h) im, fun b h => by
    have z : b ≠ a := fun z => by
      rw [z, upd_same] at h
      cases h
    rw [upd_ne z] at h
    exact ne0 b (s.tr b h), s.mu⟩
  have u : Sub g H g (upd H a (.dK zs)) := ⟨fun _ h => h, fun b o hA h => by
    rw [upd_ne fun z => I.wf.ao b hA (by rw [z]; exact own)]
    exact h, fun b o h i => by
    rw [upd_ne fun z => ?_]
    · exact h
    · rw [z, h0] at h
      cases h
      exact absurd i (by simp [imo]), List.prefix_refl _⟩
  refine ⟨h0, st0, ?_, u⟩
  unfold unlockS at e
  split at e
  · rename_i kvs em
    cases e
    obtain ⟨vs, od', h1, h2⟩ := I.me.at_ n _ a em hm
    have ez : zs = (kvs.map (·.1)).zip vs := by
      rw [h0] at h1
      cases h1
      rfl
    have wf : WF g (upd H a (.dK zs)) := ⟨fun b h => by
      by_cases e : b = a
      · exact ⟨_, by rw [e, upd_same]⟩
      · rw [upd_ne e]
        exact I.wf.ta b h, fun b h => by
      by_cases e : b = a
      · exact ⟨_, by rw [e, upd_same], rfl⟩
      · rw [upd_ne e]
        exact I.wf.ot b h, I.wf.ao, I.wf.nf, I.wf.df, I.wf.fm, I.wf.nm⟩
    refine ⟨wf, I.len, fun j hj => (I.sl j hj).sub u rfl fun b hb => by rw [upd_ne fun z => I.wf.fm j b hb (by rw [z]; exact hmm)], by simpa using I.me.len, fun k c' b h1' h2' => ?_⟩
    by_cases h : n = k
    · subst h
      rw [hm] at h2'
      cases h2'
      have hl : n < st.m.length := by
        rw [← I.me.len]
        exact (List.getElem?_eq_some_iff.mp hm).1
      rw [List.getElem?_set_self hl] at h1'
      cases h1'
      exact ⟨vs, by rw [upd_same, ez], h2.sub u⟩
    · rw [List.getElem?_set_ne h] at h1'
      have hne : b ≠ a := fun z => by
        subst z
        obtain ⟨h3, e3⟩ := List.getElem?_eq_some_iff.mp hm
        obtain ⟨h4, e4⟩ := List.getElem?_eq_some_iff.mp h2'
        exact h ((List.getElem_inj I.wf.nm).mp (e3.trans e4.symm))
      exact CellR.sub u (upd_ne hne) (I.me.at_ k c' b h1' h2')
  · cases e
end
def sLock (i : Nat) (q : S → RS) : S → RS := fun s => match s.r.getD i none with
  | some (.ref n) => (match lockS s n with
    | some s1 => (match q s1 with
      | .next s2 => (match unlockS s2 n with
        | some s3 => .next s3
        | none => .stuck)
      | _ => .stuck)
    | none => .stuck)
  | _ => .stuck
def eLock (i : Nat) (f : S → R D) : S → R D := fun s => match s.r.getD i none with
  | some (.ref n) => (match lockS s n with
    | some s1 => (match f s1 with
      | .ok d s2 => (match unlockS s2 n with
        | some s3 => .ok d s3
        | none => .stuck)
      | _ => .stuck)
    | none => .stuck)
  | _ => .stuck
section
variable {T : Tb} {X : Cx} {Γ Γ' : Fls} {F : Fx} {nx lp : Fls} {rm : Mo} {e a b c o tg iter : Expr} {m m1 m2 m3 : Mo} {f f1 f2 f3 : S → R D} {pos p2 pos' apos cpos : Pos} {es : List Expr} {fs : S → R (List D)} {s1 : Stmt} {q : S → RS}
theorem js_lock (i : Nat) (h : JS T X Γ F s1 q) (hΓ : fl Γ i = .sh := by rfl) : JS T X Γ F s1 (sLock i q) := by
  refine ⟨fun W tk => PS.imp (ps_lock (h.run W tk)) fun E σ H ⟨B, g, st, I, p⟩ => ?_⟩
  unfold sLock at p
  cases es : st.r.getD i none with
  | none => rw [es] at p; exact p.elim
  | some d0 =>
    rw [es] at p
    obtain ⟨v0, _, h2⟩ := I.slot es
    rw [hΓ] at h2
    cases d0 with
    | ref n =>
      simp only [SlR, Rp] at h2
      obtain ⟨ad, ev, hn⟩ := h2
      simp only at p
      cases el : lockS st n with
      | none => rw [el] at p; exact p.elim
      | some s1 =>
        rw [el] at p
        obtain ⟨zs, hz, hl⟩ := I.toSR.lock hn el
        refine ⟨ad, .dK zs, hz, True.intro, fun od => ?_⟩
        obtain ⟨stp, I1⟩ := hl od
        refine ⟨B, g, s1, I.go stp I1, ?_⟩
        simp only at p
        cases eq : q s1 with
        | next s2 =>
          rw [eq] at p
          intro σ' H' g' sp I2
          simp only at p
          cases eu : unlockS s2 n with
          | none => rw [eu] at p; exact p.elim
          | some s3 =>
            rw [eu] at p
            obtain ⟨k1, k2, k3, _⟩ := unlocked hn hz sp I2 eu
            exact ⟨k1, p σ' _ g' k2 k3⟩
        | brk s2 => rw [eq] at p; exact p.elim
        | cont s2 => rw [eq] at p; exact p.elim
        | ret d s2 => rw [eq] at p; exact p.elim
        | raise ex s2 => rw [eq] at p; exact p.elim
        | stuck => rw [eq] at p; exact p.elim
    | _ => exact p.elim
theorem je_lock (i : Nat) (h : JE T X Γ e .f1 f) (hΓ : fl Γ i = .sh := by rfl) : JE T X Γ e .f1 (eLock i f) := by
  refine ⟨fun W tk => PE.imp (pe_lock (h.run W tk)) fun σ H Q ⟨g, st, I, p⟩ => ?_⟩
  unfold eLock at p
  cases es : st.r.getD i none with
  | none => rw [es] at p; exact p.elim
  | some d0 =>
    rw [es] at p
    obtain ⟨v0, _, h2⟩ := I.slot es
    rw [hΓ] at h2
    cases d0 with
    | ref n =>
      simp only [SlR, Rp] at h2
      obtain ⟨ad, ev, hn⟩ := h2
      simp only at p
      cases el : lockS st n with
      | none => rw [el] at p; exact p.elim
      | some s1 =>
        rw [el] at p
        obtain ⟨zs, hz, hl⟩ := I.lock hn el
        refine ⟨ad, .dK zs, hz, True.intro, fun od => ?_⟩
        obtain ⟨stp, I1⟩ := hl od
        refine ⟨g, s1, I1, ?_⟩
        simp only at p
        cases eq : f s1 with
        | ok d s2 =>
          rw [eq] at p
          intro v H' g' sp I2 r
          simp only at p
          cases eu : unlockS s2 n with
          | none => rw [eu] at p; exact p.elim
          | some s3 =>
            rw [eu] at p
            obtain ⟨k1, k2, k3, k4⟩ := unlocked hn hz sp.toStep I2 eu
            refine ⟨k1, p v _ g' ⟨k2, sp.qf, fun j b hb => ?_⟩ k3 ?_⟩
            · have z : b ≠ ad := fun z => I.wf.fm j b hb (by rw [z]; exact List.mem_of_getElem? hn)
              rw [upd_ne z, sp.qo j b hb, upd_ne z]
            · cases d with
              | lst ds =>
                obtain ⟨x, vs, e1, e2, e3, e4⟩ := r
                have zx : x ≠ ad := fun z => by
                  rw [z, k1] at e2
                  cases e2
                refine ⟨x, vs, e1, by rw [upd_ne zx]; exact e2, ⟨e3.1, e3.2.1, ?_⟩, e4.sub k4⟩
                have := e3.2.2
                rw [upd_ne zx] at this
                exact this
              | _ => exact Rp.sub k4 r
        | raise ex s2 => rw [eq] at p; exact p.elim
        | stuck => rw [eq] at p; exact p.elim
    | _ => exact p.elim
end
end DL
set_option linter.all false
set_option Elab.async false
set_option maxRecDepth 100000
namespace DL
open PySem PySem.Spec PyProof.Rows L2
/-! ### walks over a locked dict -/
def kD : Key → D
  | .inl i => .int i
  | .inr x => .str x
def mDicL (s : S) (n : Nat) : Option (List (Key × D)) := match s.m[n]? with
  | some (.dic true kvs) => some kvs
  | _ => none
def iDic (view : List (Key × D) → List D) (f : S → R D) : S → R (List D) := fun s => (f s).bind fun d s1 => match d with
  | .ref n => (match mDicL s1 n with
    | some kvs => .ok (view kvs) s1
    | none => .stuck)
  | _ => .stuck
def valsV (kvs : List (Key × D)) : List D := kvs.map (·.2)
def itemsV (kvs : List (Key × D)) : List D := kvs.map fun kv => .tup [kD kv.1, kv.2]
section
variable {K : PySem.W.Frag} {T : Tb} {g g' : Gh} {H H' : Hp} {Γ : Fls} {σ : L2.St} {st : S}
theorem dic_atL {n : Nat} {kvs : List (Key × D)} {a : Addr} (I : SR K T Γ g σ H st) (h : mDicL st n = some kvs) (ha : g.mu[n]? = some a) : ∃ vs od, H a = some (.frz od (.dK ((kvs.map (·.1)).zip vs))) ∧ Rps K T g H (kvs.map (·.2)) vs := by
  unfold mDicL at h
  split at h
  · rename_i kvs' e
    cases h
    exact I.me.at_ n _ a e ha
  · cases h
theorem zip_get : ∀ {kvs : List (Key × D)} {vs : List V} {i : Nat} {k : Key} {x : V}, ((kvs.map (·.1)).zip vs)[i]? = some (k, x) → vs[i]? = some x ∧ (kvs.map (·.1))[i]? = some k
  | kvs, vs, i, k, x, h => by
    rw [List.getElem?_zip_eq_some] at h
    exact ⟨h.2, h.1⟩
theorem rp_key {k : Key} : Rp K T g H (kD k) (kV k) := by
  cases k <;> simp only [kD, Rp] <;> rfl
theorem wlk_vals {a : Addr} {od : Obj} {kvs : List (Key × D)} {vs : List V} (wf : WF g H) (h : H a = some (.frz od (.dK ((kvs.map (·.1)).zip vs)))) (r : Rps K T g H (kvs.map (·.2)) vs) : Wlk K T g H (Itd a od ((kvs.map (·.1)).zip vs)) (valsV kvs) := by
  have hl : ((kvs.map (·.1)).zip vs).length = kvs.length := by
    have := r.length
    simp at this
    simp [this]
  refine ⟨fun i d g' H' s w e => ⟨s.im _ _ h rfl, ?_⟩, fun g' H' s w => ⟨s.im _ _ h rfl, ?_⟩, fun i d g' H' x H'' s w e y => ?_⟩
  · rw [hl]
    have := (List.getElem?_eq_some_iff.mp e).1
    simpa [valsV] using this
  · rw [hl]
    simp [valsV]
  · obtain ⟨eh, k, hk⟩ := y
    obtain ⟨h1, _⟩ := zip_get hk
    obtain ⟨v, h2, h3⟩ := r.get e
    rw [h1] at h2
    cases h2
    exact .inl ⟨eh, h3.step wf s⟩
theorem wlk_items {a : Addr} {od : Obj} {kvs : List (Key × D)} {vs : List V} (wf : WF g H) (h : H a = some (.frz od (.dK ((kvs.map (·.1)).zip vs)))) (r : Rps K T g H (kvs.map (·.2)) vs) : Wlk K T g H (Iti a od ((kvs.map (·.1)).zip vs)) (itemsV kvs) := by
  have hl : ((kvs.map (·.1)).zip vs).length = kvs.length := by
    have := r.length
    simp at this
    simp [this]
  refine ⟨fun i d g' H' s w e => ⟨s.im _ _ h rfl, ?_⟩, fun g' H' s w => ⟨s.im _ _ h rfl, ?_⟩, fun i d g' H' x H'' s w e y => ?_⟩
  · rw [hl]
    have := (List.getElem?_eq_some_iff.mp e).1
    simpa [itemsV] using this
  · rw [hl]
    simp [itemsV]
  · obtain ⟨p, k, v, hk, ex, hp, eh⟩ := y
    subst ex eh
    obtain ⟨h1, h2⟩ := zip_get hk
    rw [itemsV, List.getElem?_map] at e
    obtain ⟨kv, ekv, e2⟩ := Option.map_eq_some_iff.mp e
    subst e2
    rw [List.getElem?_map, ekv] at h2
    cases h2
    obtain ⟨v', h3, h4⟩ := r.get (i := i) (d := kv.2) (by rw [List.getElem?_map, ekv]; rfl)
    rw [h1] at h3
    cases h3
    refine .inr ⟨p, _, hp, rfl, ?_⟩
    simp only [Rp]
    exact ⟨p, _, rfl, .inl (.inl upd_same), Rps.cons rp_key (.one ((h4.step wf s).step w (.new hp)))⟩
end
section
variable {T : Tb} {X : Cx} {Γ Γ' : Fls} {F : Fx} {nx lp : Fls} {rm : Mo} {e a b c o tg iter : Expr} {m m1 m2 m3 : Mo} {f f1 f2 f3 : S → R D} {pos p2 pos' apos cpos tpos : Pos} {es elts : List Expr} {fs : S → R (List D)} {s1 : Stmt} {q : S → RS}
theorem ji_vals (ha : JE T X Γ a .b1 f) (hb : attributeBase a "values" X.env (eval a X.env) = eval a X.env := by rfl) (hl : (apos.endLine == cpos.line) = true := by rfl) : JI T X Γ tg (.Call (.Attribute a "values" apos) [] [] cpos) (iDic valsV f) := by
  refine ⟨fun W tk => PI.imp (pi_values (ha.run W tk) hb hl) fun σ H R ⟨g, st, I, p⟩ => ?_⟩
  refine te_bind ipI I p fun d1 s1 x H1 g1 q1 I1 r1 p1 => ?_
  split at p1
  case h_2 => exact p1.elim
  rename_i n
  split at p1
  case h_2 => exact p1.elim
  rename_i kvs ek
  obtain ⟨ad, ex, hn⟩ := b_ref r1
  obtain ⟨vs, od, h1, h2⟩ := dic_atL I1 ek hn
  exact ⟨ad, od, _, ex, h1, p1 _ H1 g1 (.refl g1 H1) I1 (wlk_vals I1.wf h1 h2)⟩
theorem ji_items {kk : Nat} (ha : JE T X Γ a .b1 f) (hb : attributeBase a "items" X.env (eval a X.env) = eval a X.env := by rfl) (hl : (apos.endLine == cpos.line) = true := by rfl) : JI T X Γ (.Tuple elts kk tpos) (.Call (.Attribute a "items" apos) [] [] cpos) (iDic itemsV f) := by
  refine ⟨fun W tk => PI.imp (pi_items (ha.run W tk) hb hl) fun σ H R ⟨g, st, I, p⟩ => ?_⟩
  refine te_bind ipI I p fun d1 s1 x H1 g1 q1 I1 r1 p1 => ?_
  split at p1
  case h_2 => exact p1.elim
  rename_i n
  split at p1
  case h_2 => exact p1.elim
  rename_i kvs ek
  obtain ⟨ad, ex, hn⟩ := b_ref r1
  obtain ⟨vs, od, h1, h2⟩ := dic_atL I1 ek hn
  exact ⟨ad, od, _, ex, h1, p1 _ H1 g1 (.refl g1 H1) I1 (wlk_items I1.wf h1 h2)⟩
/-- d[k] = v -/
def sDput (fd fk fv : S → R D) : S → RS := fun s => (fv s).then fun v s1 => (fd s1).then fun d s2 => (fk s2).then fun k s3 => match d, keyD k with
  | .ref n, some k => (match mDicU s3 n with
    | some kvs => if kvs.length < sizeLine then .next { s3 with m := s3.m.set n (.dic false (putD kvs k v)) } else .stuck
    | none => .stuck)
  | _, _ => .stuck
theorem js_dput (hu : X.A.units + 64 < cLine) (hd : JE T X Γ a .b1 f1) (hk : JE T X Γ b .b1 f2) (hv : JE T X Γ c .sh f3) (hs : swapsWith c (some (.Subscript a b pos')) pos.line X.env = pure false := by rfl) : JS T X Γ ⟨Γ, lp, rm⟩ (.Assign [.Subscript a b pos'] c pos) (sDput f1 f2 f3) := by
  refine ⟨fun W tk => PS.imp (ps_dput (by omega) (hd.run W tk) (hk.run W tk) (hv.run W tk) hs) fun E σ H ⟨B, g, st, I, p⟩ => ?_⟩
  refine te_then I.toSR p fun d1 s1 v H1 g1 q1 I1 r1 p1 => te_then I1 p1 fun d2 s2 x H2 g2 q2 I2 r2 p2 => te_then I2 p2 fun d3 s3 y H3 g3 q3 I3 r3 p3 => ?_
  split at p3
  case h_2 => exact p3.elim
  rename_i n k ek
  split at p3
  case h_2 => exact p3.elim
  rename_i kvs em
  split at p3
  case isFalse => exact p3.elim
  rename_i hz
  obtain ⟨ad, ex, hn⟩ := b_ref (r2.step I2.wf I3.wf q3)
  subst ex
  obtain ⟨vs, h1, h2⟩ := dic_atU I3 em hn
  have rv : Rp X.K T g3 H3 d1 v := (Rp.step I1.wf q2.toStep r1 |> Rp.step I2.wf q3.toStep)
  obtain ⟨vs', e1, e2⟩ := zip_put (k := k) rv h2
  have hl : vs.length = kvs.length := by
    have := h2.length
    simpa using this
  have hz2 : ((kvs.map (·.1)).zip vs).length < sizeLine := by
    simp [hl]
    exact hz
  have s0 : Sub g3 H3 g3 (upd H3 ad (.dK (putK ((kvs.map (·.1)).zip vs) k v))) := ⟨fun _ h => h, fun b o hA h => by
    rw [upd_ne fun z => I3.wf.ao b hA (by rw [z]; exact .inr (List.mem_of_getElem? hn))]
    exact h, fun b o h i => by
    rw [upd_ne fun z => ?_]
    · exact h
    · rw [z, h1] at h
      cases h
      exact absurd i (by simp [imo]), List.prefix_refl _⟩
  obtain ⟨k1, k2⟩ := I3.put (o' := .dK (putK ((kvs.map (·.1)).zip vs) k v)) (c := .dic false (putD kvs k d1)) hn h1 rfl rfl ⟨vs', by rw [upd_same, e1], e2.sub s0⟩
  exact ⟨ad, _, rfl, .inl ⟨_, k, h1, key_of r3 ek, hz2, rfl⟩, p3 σ _ g3 k1 k2⟩
end
end DL
set_option linter.all false
set_option Elab.async false
set_option maxRecDepth 100000
namespace DL
open PySem PySem.Spec PyProof.Rows L2
/-! ### d.update(e), dict(pairs), {k: v} -/
def rUpd : V → List V → Hp → VK → Prop := fun x xs H Q => ∃ (a b : Addr) (kvs more : List (Key × V)), x = .ref a ∧ xs = [.ref b] ∧ a ≠ b ∧ H a = some (.dK kvs) ∧ Rd H b (.dK more) ∧ kvs.length + more.length ≤ sizeLine ∧ Q .non (upd H a (.dK (mergeK kvs more)))
theorem mtd_update {X : Cx} : MtR X "dict.update" rUpd := by
  intro pins s σ H x vs v us Q I rx rv h
  obtain ⟨a, b, kvs, more, rfl, rfl, ne, e, e2, hz, q⟩ := h
  obtain rfl : v = Value.ref a := rx
  cases rv with
  | cons r rr =>
    cases rr
    cases r
    obtain ⟨z, hd, us, rel, dd⟩ := dk_of I.hok e
    obtain ⟨z2, hd2, us2, rel2, dd2⟩ := dk_rd I.hok e2
    have hsz : us.length + us2.length ≤ sizeLine := by
      rw [← rel.length, ← rel2.length]
      exact hz
    refine call_meetsIn PySem.F.slot_dict_update dd.typeIs PySem.F.entry_dict_update (PySem.F.args_dict_update_2 _ _) (meets_dict_update (mixKind X.prog X.w) a b ne hd2) ⟨us, us2, dd, dd2, hsz, fun h' dd' _ hs => ?_⟩
    have he : ∃ q, h'.get? a = some q := let ⟨q, _, _, hq, _⟩ := dd'; ⟨q, hq⟩
    have rm := KV.merge rel2 rel
    have hl : (mergeK kvs more).length ≤ sizeLine := by
      rw [rm.length]
      exact Nat.le_trans (merged_length_le us us2) hsz
    exact ⟨.non, _, d_write (t' := s.toks) I (by rw [e]; exact True.intro) hs he (dk_new hl hd rm dd'), rfl, q⟩
def mergeD (kvs more : List (Key × D)) : List (Key × D) := more.foldl (fun acc kv => putD acc kv.1 kv.2) kvs
section
variable {K : PySem.W.Frag} {T : Tb} {g g' : Gh} {H H' : Hp} {Γ : Fls} {σ : L2.St} {st : S}
theorem zip_merge : ∀ {more kvs : List (Key × D)} {vs ws : List V}, Rps K T g H (kvs.map (·.2)) vs → Rps K T g H (more.map (·.2)) ws → ∃ vs', mergeK ((kvs.map (·.1)).zip vs) ((more.map (·.1)).zip ws) = ((mergeD kvs more).map (·.1)).zip vs' ∧ Rps K T g H ((mergeD kvs more).map (·.2)) vs'
  | [], kvs, vs, ws, h, h2 => by
    simp only [List.map_nil, Rps] at h2
    subst h2
    exact ⟨vs, rfl, h⟩
  | kv :: more, kvs, vs, ws, h, h2 => by
    simp only [List.map_cons, Rps] at h2
    obtain ⟨w, r, e, h3, h4⟩ := h2
    subst e
    obtain ⟨vs1, e1, h5⟩ := zip_put (k := kv.1) h3 h
    obtain ⟨vs2, e2, h6⟩ := zip_merge (more := more) h5 h4
    refine ⟨vs2, ?_, h6⟩
    show mergeK (putK ((kvs.map (·.1)).zip vs) kv.1 w) ((more.map (·.1)).zip r) = _
    rw [e1]
    exact e2
def pairsD : List D → Option (List (Key × D))
  | [] => some []
  | .tup [k, v] :: r => (match keyD k, pairsD r with
    | some k, some ps => some ((k, v) :: ps)
    | _, _ => none)
  | _ => none
theorem pairs_of : ∀ {ds : List D} {vs : List V} {prs : List (Key × D)}, Rps K T g H ds vs → pairsD ds = some prs → ∃ ps ws, vs = ps.map V.ref ∧ Paired (fun p (kv : Key × V) => SqT K H p [kV kv.1, kv.2]) ps ((prs.map (·.1)).zip ws) ∧ Rps K T g H (prs.map (·.2)) ws := by
  intro ds
  induction ds with
  | nil =>
    intro vs prs h e
    simp only [Rps] at h
    subst h
    cases e
    exact ⟨[], [], rfl, .nil, Rps.nil⟩
  | cons d ds ih =>
    intro vs prs h e
    simp only [Rps] at h
    obtain ⟨v, r, e1, h1, h2⟩ := h
    subst e1
    unfold pairsD at e
    split at e
    · rename_i heq
      cases heq
    · rename_i k w r' heq
      cases heq
      split at e
      · rename_i kk ps' ek ep
        cases e
        obtain ⟨qs, ws, e2, h3, h4⟩ := ih h2 ep
        simp only [Rp] at h1
        obtain ⟨a, us, e3, h5, h6⟩ := h1
        simp only [Rps] at h6
        obtain ⟨ku, r1, e4, h7, wu, r2, e5, h8, e6⟩ := h6
        subst e3 e4 e5 e6 e2
        have ek' := key_sh h7 ek
        subst ek'
        exact ⟨a :: qs, wu :: ws, rfl, .cons h5 h3, Rps.cons h8 h4⟩
      · cases e
    · cases e
end
section
variable {T : Tb} {X : Cx} {Γ Γ' : Fls} {F : Fx} {nx lp : Fls} {rm : Mo} {e a b c o tg iter : Expr} {m m1 m2 m3 : Mo} {f f1 f2 f3 : S → R D} {pos p2 pos' apos cpos tpos : Pos} {es elts : List Expr} {fs : S → R (List D)} {s1 : Stmt} {q : S → RS}
def sUpd (fd fe : S → R D) : S → RS := fun s => (fd s).then fun d s1 => match d with
  | .ref n => (match mDicU s1 n with
    | some _ => (fe s1).then fun e s2 => (match e with
      | .ref n' => if n = n' then .stuck else (match mDicU s2 n, mDic s2 n' with
        | some kvs, some more => if kvs.length + more.length ≤ sizeLine then .next { s2 with m := s2.m.set n (.dic false (mergeD kvs more)) } else .stuck
        | _, _ => .stuck)
      | _ => .stuck)
    | none => .stuck)
  | _ => .stuck
theorem js_upd (hd : JE T X Γ a .b1 f1) (he : JE T X Γ b .sh f2)
    (hb : ∀ {te1 te2 : TE}, PE X a te1 → PE X b te2 → PE X (.Call (.Attribute a "update" apos) [b] [] cpos) (tBM X.K "dict" rUpd te1 (tCons te2 tNil)) := by exact fun h1 h2 => pe_bm PySem.F.plainAttrs_dict PySem.F.slot_dict_update PySem.F.type_dict_update mtd_update h1 (pa_cons h2 pa_nil))
    (hs : swapsWith (.Call (.Attribute a "update" apos) [b] [] cpos) none pos.line X.env = pure false := by rfl) : JS T X Γ ⟨Γ, lp, rm⟩ (.Expr (.Call (.Attribute a "update" apos) [b] [] cpos) pos) (sUpd f1 f2) := by
  refine ⟨fun W tk => PS.imp (ps_expr (hb (hd.run W tk) (he.run W tk)) hs) fun E σ H ⟨B, g, st, I, p⟩ => ?_⟩
  refine te_then I.toSR p fun d1 s1 x H1 g1 q1 I1 r1 p1 => ?_
  split at p1
  case h_2 => exact p1.elim
  rename_i n
  split at p1
  case h_2 => exact p1.elim
  rename_i kvs0 em0
  obtain ⟨ad, ex, hn⟩ := b_ref r1
  subst ex
  obtain ⟨vs0, h0, _⟩ := dic_atU I1 em0 hn
  refine ⟨.inr (.inr (.inl ⟨rfl, .inl ⟨_, h0⟩⟩)), te_then I1 p1 fun d2 s2 y H2 g2 q2 I2 r2 p2 => ?_⟩
  split at p2
  case h_2 => exact p2.elim
  rename_i n'
  split at p2
  case isTrue => exact p2.elim
  rename_i hne
  split at p2
  case h_2 => exact p2.elim
  rename_i kvs more ek em
  split at p2
  case isFalse => exact p2.elim
  rename_i hz
  have hn2 : g2.mu[n]? = some ad := by
    obtain ⟨t, ht⟩ := q2.mu
    rw [← ht, List.getElem?_append_left (List.getElem?_eq_some_iff.mp hn).1]
    exact hn
  simp only [RpM, Rp] at r2
  obtain ⟨bd, ey, hn'⟩ := r2
  subst ey
  obtain ⟨vs, h1, h2⟩ := dic_atU I2 ek hn2
  obtain ⟨ws, h3, h4⟩ := dic_at I2 em hn'
  have nab : ad ≠ bd := fun z => by
    subst z
    obtain ⟨h3, e3⟩ := List.getElem?_eq_some_iff.mp hn2
    obtain ⟨h4, e4⟩ := List.getElem?_eq_some_iff.mp hn'
    exact hne ((List.getElem_inj I2.wf.nm).mp (e3.trans e4.symm))
  obtain ⟨vs', e1, e2⟩ := zip_merge h2 h4
  have l1 : vs.length = kvs.length := by
    have := h2.length
    simpa using this
  have l2 : ws.length = more.length := by
    have := h4.length
    simpa using this
  have hz2 : ((kvs.map (·.1)).zip vs).length + ((more.map (·.1)).zip ws).length ≤ sizeLine := by
    simp [l1, l2]
    exact hz
  have s0 : Sub g2 H2 g2 (upd H2 ad (.dK (mergeK ((kvs.map (·.1)).zip vs) ((more.map (·.1)).zip ws)))) := ⟨fun _ h => h, fun b o hA h => by
    rw [upd_ne fun z => I2.wf.ao b hA (by rw [z]; exact .inr (List.mem_of_getElem? hn2))]
    exact h, fun b o h i => by
    rw [upd_ne fun z => ?_]
    · exact h
    · rw [z, h1] at h
      cases h
      exact absurd i (by simp [imo]), List.prefix_refl _⟩
  obtain ⟨k1, k2⟩ := I2.put (o' := .dK (mergeK ((kvs.map (·.1)).zip vs) ((more.map (·.1)).zip ws))) (c := .dic false (mergeD kvs more)) hn2 h1 rfl rfl ⟨vs', by rw [upd_same, e1], e2.sub s0⟩
  exact ⟨ad, bd, _, _, rfl, rfl, nab, h1, h3, hz2, p2 σ _ g2 k1 k2⟩
def dictD : D → S → R D := fun d s => match d with
  | .lst ds => (match pairsD ds with
    | some prs => .ok (.ref s.m.length) { s with m := s.m ++ [.dic false (mergeD [] prs)] }
    | none => .stuck)
  | _ => .stuck
theorem je_dictP (hc : X.calm = true) (hg : Gl X "dict") (hm : X.mg "dict" = none) (ha : JE T X Γ a .b1 f) (hs : starEach [a] X.env = (false, eval a X.env) :: starEach [] X.env := by rfl) (hpl : (backTo pos (starEach [] X.env)).any (·.1) = false := by rfl) :
    JE T X Γ (.Call (.Name "dict" p2) [a] [] pos) .sh (e1 dictD f) := by
  refine ⟨fun W tk => PE.imp (pe_callTy (call_dictP hc) hg hm (by decide +kernel) (pa_cons (ha.run W tk) pa_nil hs) (by decide) (by decide) hs hpl) fun σ H Q ⟨g, st, I, p⟩ => ?_⟩
  refine te_bind ipE I p fun d1 s1 x H1 g1 q1 I1 r1 p1 => ?_
  unfold dictD at p1
  split at p1
  case h_2 => exact p1.elim
  rename_i ds
  split at p1
  case h_2 => exact p1.elim
  rename_i prs ep
  obtain ⟨ad, vs, ex, h1, _, h2⟩ := b_lst r1
  subst ex
  obtain ⟨ps, ws, e1, h3, h4⟩ := pairs_of h2 ep
  subst e1
  refine ⟨ad, ps, _, rfl, .inl (.inl h1), h3, fun p' hp => ?_⟩
  have I2 := I1.new (o := .dK (mergeK [] ((prs.map (·.1)).zip ws))) hp
  obtain ⟨vs', e2, h5⟩ := zip_merge (K := X.K) (T := T) (g := g1) (H := H1) (kvs := []) (vs := []) Rps.nil h4
  exact post_cell (m := .sh) (c := .dic false (mergeD [] prs)) I1 hp rfl ⟨vs', by rw [upd_same]; exact congrArg (fun z => some (HO.dK z)) e2, (h5.step I1.wf (.new hp)).sub .more⟩ p1
end
end DL
set_option linter.all false
set_option Elab.async false
set_option maxRecDepth 100000
namespace DL
open PySem PySem.Spec PyProof.Rows L2
/-! ### x in a list or a tuple of data -/
theorem op_inDT {X : Cx} (hu : X.A.units + 65 < cLine) : OpR X (compareOp .In) (fun x y H Q => ∃ d ds, Dp X.K H x d ∧ Dp X.K H y (.tuple ds) ∧ SeqAt.shaped d = true ∧ SeqAt.shaped (.tuple ds) = true ∧ Q (.bl (ds.any fun z => PyData.eqv z d)) H) := by
  intro pins s σ H x y v u Q I rx ry h
  obtain ⟨d, ds, hd, he, sd, se, q⟩ := h
  obtain ⟨as, r1⟩ := Dp.reads I d x v hd rx
  obtain ⟨bs, r2⟩ := Dp.reads I (.tuple ds) y u he ry
  exact SeqAt.in_tuple_reads r2 r1 (SeqAt.canLay_of_shaped se) (SeqAt.canLay_of_shaped sd) (room_in_shaped sd hu) ⟨.bl _, H, I, rfl, q⟩
theorem op_notInDT {X : Cx} (hu : X.A.units + 65 < cLine) : OpR X (compareOp .NotIn) (fun x y H Q => ∃ d ds, Dp X.K H x d ∧ Dp X.K H y (.tuple ds) ∧ SeqAt.shaped d = true ∧ SeqAt.shaped (.tuple ds) = true ∧ Q (.bl (!ds.any fun z => PyData.eqv z d)) H) := by
  intro pins s σ H x y v u Q I rx ry h
  obtain ⟨d, ds, hd, he, sd, se, q⟩ := h
  obtain ⟨as, r1⟩ := Dp.reads I d x v hd rx
  obtain ⟨bs, r2⟩ := Dp.reads I (.tuple ds) y u he ry
  exact SeqAt.notIn_tuple_reads r2 r1 (SeqAt.canLay_of_shaped se) (SeqAt.canLay_of_shaped sd) (room_in_shaped sd hu) ⟨.bl _, H, I, rfl, q⟩
def inD (x y : D) : Option Bool := match toP x, toP y with
  | some d, some (.list ds) => if SeqAt.shaped d && SeqAt.shaped (.list ds) then some (ds.any fun z => PyData.eqv z d) else none
  | some d, some (.tuple ds) => if SeqAt.shaped d && SeqAt.shaped (.tuple ds) then some (ds.any fun z => PyData.eqv z d) else none
  | _, _ => none
def notinD (x y : D) : Option Bool := (inD x y).map (!·)
theorem OpR.or {X : Cx} {f : Value → Value → Sem Value} {r r' : R2} (h : OpR X f r) (h' : OpR X f r') : OpR X f (fun x y H Q => r x y H Q ∨ r' x y H Q) := by
  intro pins s σ H x y v u Q I rx ry q
  rcases q with q | q
  · exact h pins s σ H x y v u Q I rx ry q
  · exact h' pins s σ H x y v u Q I rx ry q
theorem cmp_in {X : Cx} {T : Tb} (hu : X.A.units + 65 < cLine) : CmpR X T .In .b1 .b1 inD := by
  refine ⟨_, (op_inD hu).or (op_inDT hu), fun Γ g σ H st Q x y d1 d2 H0 H1 k I r1 r2 e p => ?_⟩
  unfold inD at e
  split at e
  · rename_i d ds e1 e2
    split at e
    · rename_i hz
      rw [Bool.and_eq_true] at hz
      cases e
      exact .inl ⟨d, ds, dp_b r1 e1, dp_b r2 e2, hz.1, hz.2, p⟩
    · cases e
  · rename_i d ds e1 e2
    split at e
    · rename_i hz
      rw [Bool.and_eq_true] at hz
      cases e
      exact .inr ⟨d, ds, dp_b r1 e1, dp_b r2 e2, hz.1, hz.2, p⟩
    · cases e
  · cases e
theorem cmp_notin {X : Cx} {T : Tb} (hu : X.A.units + 65 < cLine) : CmpR X T .NotIn .b1 .b1 notinD := by
  refine ⟨_, (op_notInD hu).or (op_notInDT hu), fun Γ g σ H st Q x y d1 d2 H0 H1 k I r1 r2 e p => ?_⟩
  unfold notinD inD at e
  split at e
  · rename_i d ds e1 e2
    split at e
    · rename_i hz
      rw [Bool.and_eq_true] at hz
      cases e
      exact .inl ⟨d, ds, dp_b r1 e1, dp_b r2 e2, hz.1, hz.2, p⟩
    · cases e
  · rename_i d ds e1 e2
    split at e
    · rename_i hz
      rw [Bool.and_eq_true] at hz
      cases e
      exact .inr ⟨d, ds, dp_b r1 e1, dp_b r2 e2, hz.1, hz.2, p⟩
    · cases e
  · cases e
theorem hu65 {k : Nat} {A : Around} (r : Room k A) : A.units + 65 < cLine := by
  have := r.un
  omega
end DL
set_option linter.all false
set_option Elab.async false
set_option maxRecDepth 100000
namespace DL
open PySem PySem.Spec PyProof.Rows L2
open AutoSeq1 (wpAny_loadPart')
/-! ### enumerate(tuple) -/
set_option maxHeartbeats 1000000 in
theorem enum_new1 {v : Value} {o : Obj} {Hq : Heap → Prop} (B : Begins v o Hq) :
    Meets (Builtin.«enumerate.__new__» ⟨[.type "enumerate", v], []⟩) (fun _ R s => Hq s.heap ∧
      R (.ok (.ret (.ref (s.heap.push o).objs.size))) { s with heap := (s.heap.push o).push { cls := .type "enumerate", data := .fields #[.none, .bool false, .ref s.heap.objs.size, rawInt 0, .none, .none] } }) :=
  .of_wp fun prog w A R s h => by
    obtain ⟨hp, g, d, tk, os⟩ := s
    obtain ⟨h1, h⟩ := h
    have hsub := sub_enumerate
    have q1 : ∀ {A' : Around} {E : Value → Shared → Prop} {Q : Value → Shared → Prop}, Q (.ref hp.objs.size) ⟨hp.push o, g, d, tk, os⟩ → wpAny (model prog w) A' (pyIter v) Q E ⟨hp, g, d, tk, os⟩ :=
      fun q => B.iter prog w _ _ ⟨hp, g, d, tk, os⟩ _ h1 q
    wp_walk using q1
    refine wpAny_stack_any fun st => wpAny_pure ?_
    split
    · rename_i c _ _ _ _ _
      cases (c == Value.type "enumerate") <;> (wp_walk using q1; exact ⟨_, rfl, h⟩)
    · wp_walk using q1
      exact ⟨_, rfl, h⟩
theorem call_enumT {prog : Program} {w : World} {A : Around} {E : Value → Shared → Prop} {s : Shared} {v : Value} {o : Obj} {Hq : Heap → Prop} {Q : Value → Shared → Prop} (B : Begins v o Hq) (h1 : Hq s.heap)
    (h : ∀ h', IsEnum h' (s.heap.objs.size + 1) s.heap.objs.size 0 .none → h'.get? s.heap.objs.size = some o → h'.objs.size = s.heap.objs.size + 2 → (∀ b o, s.heap.get? b = some o → h'.get? b = some o) → Q (.ref (s.heap.objs.size + 1)) { s with heap := h' }) :
    wpAny (model prog w) A (call (.type "enumerate") [v]) Q E s := by
  refine callType_new F.called_enumerate (by decide) (F.typeCall_enumerate_1 _) (F.newCall_enumerate_1 _) (fun obj => F.args_object_init_2 obj _) F.entry_enumerate_new (enum_new1 B) ⟨h1, ?_⟩
  have hz : (s.heap.push o).objs.size = s.heap.objs.size + 1 := Heap.size_push ..
  show _ ∧ _
  rw [hz]
  have he : IsEnum ((s.heap.push o).push { cls := .type "enumerate", data := .fields #[.none, .bool false, .ref s.heap.objs.size, rawInt 0, .none, .none] }) (s.heap.objs.size + 1) s.heap.objs.size 0 .none := by
    have z := Heap.get?_push_size (s.heap.push o) (o := { cls := .type "enumerate", data := .fields #[.none, .bool false, .ref s.heap.objs.size, rawInt 0, .none, .none] }) rfl
    rw [hz] at z
    exact z
  exact ⟨⟨_, he, rfl⟩, h _ he (Heap.get?_push_of_some _ (Heap.get?_push_size _ B.free)) (by rw [Heap.size_push, hz]) fun b o x => Heap.get?_push_of_some _ (Heap.get?_push_of_some _ x)⟩
def IteT (K : PySem.W.Frag) (a : Addr) : It :=
  ⟨fun i H => ∃ (xs : List V) (x : V), SqT K H a xs ∧ xs[i]? = some x, fun i H v H' => ∃ p x, v = .ref p ∧ H p = none ∧ H' = upd H p (.tup [.int (i : Nat), x]) ∧ ∀ xs, SqT K H a xs → xs[i]? = some x, fun i H => ∃ xs : List V, SqT K H a xs ∧ xs.length = i⟩
theorem turn_enumT {P : Program} {w : World} {K : PySem.W.Frag} {elts : List Expr} {kk : Nat} {tpos : Pos} (a e it : Addr) :
    Turn P w K (.Tuple elts kk tpos) (IteT K a) [e, it] e (fun i h => (∃ old, IsEnum h e it ((i : Nat) : Int) old) ∧ h.IsTupleIter it a i ∧ e ≠ it ∧ a ≠ it ∧ e ≠ a) where
  mem := by simp
  obj := fun i h st b hb => by
    obtain ⟨⟨old, he⟩, ⟨o, ho, hc, hd⟩, _⟩ := st
    have e' : b = e ∨ b = it := by simpa using hb
    rcases e' with z | z
    · rw [z]
      exact ⟨_, he, fun v q => nomatch q⟩
    · rw [z]
      exact ⟨o, ho, fun v q => by rw [hd] at q; cases q⟩
  keep := fun i h h' st k => let ⟨⟨old, he⟩, hi, hne⟩ := st; ⟨⟨old, k e (by simp) _ he⟩, hi.at fun o q => k it (by simp) o q, hne⟩
  item := by
    intro X hP hw hK hc i pins s σ H E I hf st hg
    subst hP hw hK
    obtain ⟨⟨old, he⟩, hit, hne, hai, hea⟩ := st
    obtain ⟨xs, x, hq, hx⟩ := hg
    obtain ⟨its, rv, p, hz⟩ := I.tuple hq
    obtain ⟨u, hu, ru⟩ := rv.get hx
    have hel : e < s.heap.objs.size := Heap.lt_size he
    have hil : it < s.heap.objs.size := by obtain ⟨_, q, _⟩ := hit; exact Heap.lt_size q
    have hlt : i < its.toArray.size := by
      have := (List.getElem?_eq_some_iff.mp hu).1
      simpa using this
    have hh : X.A.handled = none := I.ok.hd hc
    refine wpAny_pyNext_enum_itemC (Draws.tuple (prog := X.prog) (w := X.w) (A := X.A.in1) hh it a hai its.toArray) he ⟨hit, p⟩ hlt hne (by simp [hne, hea]) fun y h' tk hy ho hs' hT hsz hk => ?_
    have ey : y = u := by
      have : its[i]? = some y := by simpa using hy
      rw [hu] at this
      cases this
      rfl
    subst ey
    refine ⟨_, rfl, wpAny_letOwnedTupleGo_enum (s := { s with heap := h', toks := tk + 1 }) ho fun h'' he' sb => ?_⟩
    have hT2 : h''.get? s.heap.objs.size = some { cls := .type "tuple", data := .seq #[.int i tk, y] } := (sb.2 _ (Nat.ne_of_gt hel)).trans hT
    have new : ObjOk X.prog X.w (upd H s.heap.objs.size (.tup [.int (i : Nat), x])) h'' s.heap.objs.size (.tup [.int (i : Nat), x]) :=
      ⟨by show 2 ≤ sizeLine; decide, [.int i tk, y], .cons ⟨_, rfl⟩ (.cons ru .nil), ⟨_, hT2, rfl, _, rfl⟩⟩
    have I1 : Inv X pins σ (upd H s.heap.objs.size (.tup [.int (i : Nat), x])) { s with heap := h'', toks := tk + 1 } :=
      I.turnedNew (ch := [e, it]) (fun b ob hb q => (sb.2 b (fun z => hb (by simp [z]))).trans (hk b ob (fun z => hb (by simp [z])) (fun z => hb (by simp [z])) q)) hf (Nat.le_refl _) new
    refine ⟨.ref s.heap.objs.size, _, I1, rfl, ⟨_, x, rfl, I.hok.fresh (Nat.le_refl _), rfl, fun ys hy => by rw [I.tuple_inj hy hq]; exact hx⟩, ⟨⟨y, ?_⟩, hs'.1.at fun o q => (sb.2 it (Ne.symm hne)).trans q, hne, hai, hea⟩, fun b hb => ?_⟩
    · have e1 : ((i + 1 : Nat) : Int) = (i : Int) + 1 := by omega
      rw [e1]
      exact he'
    · have hb' : b < s.heap.objs.size := by
        have e' : b = e ∨ b = it := by simpa using hb
        rcases e' with z | z
        · rw [z]; exact hel
        · rw [z]; exact hil
      rw [upd_ne (Nat.ne_of_lt hb')]
      exact (hf b hb).1
  done := by
    intro X hP hw hK hc i pins s σ H E I hf st hg
    subst hP hw hK
    obtain ⟨⟨old, he⟩, hit, hne, hai, hea⟩ := st
    obtain ⟨xs, hq, hx⟩ := hg
    obtain ⟨its, rv, p, hz⟩ := I.tuple hq
    have hl : its.toArray.size = i := by
      rw [List.size_toArray, ← rv.length]
      exact hx
    have hh : X.A.handled = none := I.ok.hd hc
    obtain ⟨f0, f1, f2, f3, f4, f5⟩ := hf it (by simp)
    exact wpAny_pyNext_enum_endD (Draws.tuple (prog := X.prog) (w := X.w) (A := X.A.in1) hh it a hai its.toArray) he ⟨by rw [hl]; exact hit, p⟩ fun h' eb => ⟨rfl, I.turned (t' := s.toks) (fun b o hb q => eb b o hb q) f0 f1 f3 f4 f5⟩
  self := fun A i s Q E st h => let ⟨⟨_, he⟩, _⟩ := st; wpAny_pyIter_enum he h
def iEnumT (K : PySem.W.Frag) (ta : TA) : TI := fun σ H R => ta σ H fun vs H1 => ∃ a xs, vs = [.ref a] ∧ SqT K H1 a xs ∧ R (IteT K a) H1
theorem pi_enumT {X : Cx} {e : Expr} {ta : TA} {p pos tpos : Pos} {elts : List Expr} {kk : Nat} (hg : Gl X "enumerate") (hm : X.mg "enumerate" = none) (ha : PA X [e] ta) (hs : starEach [e] X.env = [(false, eval e X.env)] := by rfl) :
    PI X (.Tuple elts kk tpos) (.Call (.Name "enumerate" p) [e] [] pos) (iEnumT X.K ta) := by
  refine ⟨fun pins s σ H R I h => ?_⟩
  refine Call_ (ld_blt I hg hm boot_enumerate (PyProof.Rows.callWith_type1 (thn (ha.run pos pins s σ H _ I h) fun us s1 ⟨vs, H1, I1, r1, q1⟩ => ?_) hs rfl))
  obtain ⟨a, xs, ex, hq, q⟩ := q1
  subst ex
  cases r1 with
  | cons r rr =>
    cases rr
    cases r
    obtain ⟨its, rv, p', hz⟩ := I1.tuple hq
    have hal : a < s1.heap.objs.size := p'.lt
    refine call_enumT (begins_tuple a its.toArray) p' fun h' he hit hsz hk => wpAny_pyIter_enum he ?_
    have I2 : Inv X pins σ H1 { s1 with heap := h' } := I1.kept (t' := s1.toks) hk
    refine ⟨s1.heap.objs.size + 1, [s1.heap.objs.size + 1, s1.heap.objs.size], _, _, H1, rfl, I2, turn_enumT a (s1.heap.objs.size + 1) s1.heap.objs.size, ⟨⟨.none, he⟩, ⟨_, hit, rfl, rfl⟩, Nat.succ_ne_self _, Nat.ne_of_lt hal, Nat.ne_of_gt (Nat.lt_succ_of_lt hal)⟩, fun b hb => ?_, q⟩
    have e' : b = s1.heap.objs.size + 1 ∨ b = s1.heap.objs.size := by simpa using hb
    have hle : s1.heap.objs.size ≤ b := by
      rcases e' with z | z <;> rw [z]
      · exact Nat.le_add_right _ _
      · exact Nat.le_refl _
    exact I1.fpOk hle (I1.hok.fresh hle)
def enumTI : List D → S → R (List D)
  | [.tup xs], s => .ok (enumL xs) s
  | _, _ => .stuck
section
variable {T : Tb} {X : Cx} {Γ : Fls} {e : Expr} {fs : S → R (List D)} {pos : Pos}
theorem ji_enumT {p tpos : Pos} {elts : List Expr} {kk : Nat} (hg : Gl X "enumerate") (hm : X.mg "enumerate" = none) (ha : JA T X Γ [e] fs) (hs : starEach [e] X.env = [(false, eval e X.env)] := by rfl) : JI T X Γ (.Tuple elts kk tpos) (.Call (.Name "enumerate" p) [e] [] pos) (iN enumTI fs) := by
  refine ⟨fun W tk => PI.imp (pi_enumT hg hm (ha.run W tk) hs) fun σ H R ⟨g, st, I, p⟩ => ?_⟩
  refine ta_bind ipI I p fun ds s1 vs H1 g1 q1 I1 r1 p1 => ?_
  unfold enumTI at p1
  split at p1
  case h_2 => exact p1.elim
  rename_i xs
  simp only [Rps] at r1
  obtain ⟨v, r, ev, hv, er⟩ := r1
  subst er ev
  simp only [Rp] at hv
  obtain ⟨a, ws, ex, h1, h2⟩ := hv
  subst ex
  refine ⟨a, ws, rfl, h1, p1 _ H1 g1 (.refl g1 H1) I1 ?_⟩
  refine ⟨fun i d g' H' s w e => ?_, fun g' H' s w => ⟨ws, SqT.step I1.wf s h1, by rw [enumL_len, h2.length]⟩, fun i d g' H' x H'' s w e y => ?_⟩
  · obtain ⟨z, ez, _⟩ := enumL_get e
    obtain ⟨v, q, _⟩ := h2.get ez
    exact ⟨ws, v, SqT.step I1.wf s h1, q⟩
  · obtain ⟨z, ez, ed⟩ := enumL_get e
    obtain ⟨v, q, rv⟩ := h2.get ez
    obtain ⟨p, v', ex, hp, eh, hv⟩ := y
    have := (hv ws (SqT.step I1.wf s h1)).symm.trans q
    cases this
    subst ed ex eh
    refine .inr ⟨p, _, hp, rfl, ?_⟩
    simp only [Rp]
    exact ⟨p, _, rfl, .inl (.inl upd_same), Rps.cons rp_int (.one ((rv.step I1.wf s).step w (.new hp)))⟩
end
end DL
set_option linter.all false
set_option Elab.async false
set_option maxRecDepth 100000
namespace DL
open PySem PySem.Spec PyProof.Rows L2
/-! ### x, y = a, b with fresh lists -/
section
variable {K : PySem.W.Frag} {T : Tb} {g g' : Gh} {H H' H0 : Hp} {d : D} {v : V}
/-- a value beside a slot that has got a fresh list -/
theorem RpM.slot {m : Mo} {i : Nat} {L : List Addr} {g1 : Gh} {H1 : Hp} (hm : m = .sh ∨ m = .f1) (hL : ∀ b ∈ L, H1 b = none) (r1 : RpM K T g1 H0 H1 m d v) (r : RpM K T g H0 H m d v) : RpM K T (g.slot i L) H0 H m d v := by
  rcases hm with rfl | rfl
  · exact Rp.sub .slot r
  · cases d with
    | lst ds =>
      obtain ⟨a, vs, e, h1, h2, h3⟩ := r
      obtain ⟨a', vs', e', h1', _, _⟩ := r1
      rw [e] at e'
      cases e'
      refine ⟨a, vs, e, h1, ⟨h2.1, fun q => ?_, h2.2.2⟩, h3.sub .slot⟩
      rcases slot_own q with q | q
      · exact h2.2.1 q
      · rw [hL a q] at h1'
        cases h1'
    | _ => exact Rp.sub .slot r
end
section
variable {T : Tb} {X : Cx} {Γ Γ' Γ2 : Fls} {F : Fx} {nx lp : Fls} {rm : Mo} {e a b c tg iter : Expr} {m m1 m2 m3 : Mo} {f f1 f2 f3 : S → R D} {pos p2 pos' : Pos}
def isL : Mo → D → Bool
  | .f1, .lst _ => true
  | .f1, _ => false
  | _, _ => true
def sParM (m1 m2 : Mo) (i j : Nat) (f1 f2 : S → R D) : S → RS := fun s => (f1 s).then fun d1 s1 => (f2 s1).then fun d2 s2 => if isL m1 d1 && isL m2 d2 then .next { s2 with r := (s2.r.set i (some d1)).set j (some d2) } else .stuck
theorem js_parM (i j : Nat) {x y : Str} {px py pt : Pos} {kt k2 pt2} (hc : X.calm = true) (hN : X.N.Nodup) (ha : JE T X Γ a m1 f1) (hb : JE T X Γ b m2 f2) (hm1 : m1 = .sh ∨ m1 = .f1) (hm2 : m2 = .sh ∨ m2 = .f1)
    (hΓ1 : ∀ k, fl Γ2 k = if k = j then m2.fl else fl Γ k) (hΓ2 : ∀ k, fl Γ' k = if k = i then m1.fl else fl Γ2 k) (hi : X.N[i]? = some x := by rfl) (hj : X.N[j]? = some y := by rfl) (hij : i ≠ j := by decide)
    (hx : X.env.scope.names.lookup x = some .local := by rfl) (hy : X.env.scope.names.lookup y = some .local := by rfl)
    (hw : swappedStores [.Tuple [.Name x px, .Name y py] kt pt] (.Tuple [a, b] k2 pt2) X.env = pure (some [x, y]) := by rfl) (hs : swapsWithSole [.Tuple [.Name x px, .Name y py] kt pt] (.Tuple [a, b] k2 pt2) pos.line X.env = pure false := by rfl)
    (hst : starEach [a, b] X.env = (false, eval a X.env) :: starEach [b] X.env := by rfl) (hst2 : starEach [b] X.env = (false, eval b X.env) :: starEach [] X.env := by rfl) :
    JS T X Γ ⟨Γ', lp, rm⟩ (.Assign [.Tuple [.Name x px, .Name y py] kt pt] (.Tuple [a, b] k2 pt2) pos) (sParM m1 m2 i j f1 f2) := by
  refine ⟨fun W tk => PS.imp (ps_par hc hN hi hj hij hx hy (pa_cons (ha.run W tk) (pa_cons (hb.run W tk) pa_nil hst2) hst) hw hs) fun E σ H ⟨B, g, st, I, p⟩ => ?_⟩
  have fm : ∀ {m : Mo} {d : D}, (m = .sh ∨ m = .f1) → isL m d = true → flOf m d = m.fl := by
    intro m d h q
    rcases h with rfl | rfl
    · rfl
    · cases d <;> first | rfl | cases q
  refine ⟨g, st, I.toSR, ?_⟩
  unfold sParM at p
  cases e1 : f1 st with
  | raise ex s1 => rw [e1] at p; exact fun cls dd H' g' => p cls dd σ H' g'
  | stuck => rw [e1] at p; exact p
  | ok d1 s1 =>
    rw [e1] at p
    intro v H1 g1 q1 I1 r1
    refine ⟨g1, s1, I1, ?_⟩
    simp only [R.then] at p
    cases e2 : f2 s1 with
    | raise ex s2 => rw [e2] at p; exact fun cls dd H' g' s => p cls dd σ H' g' (q1.toStep.trans s)
    | stuck => rw [e2] at p; exact p
    | ok d2 s2 =>
      rw [e2] at p
      intro w H2 g2 q2 I2 r2
      simp only at p
      split at p
      case isFalse => exact p.elim
      rename_i hz
      rw [Bool.and_eq_true] at hz
      obtain ⟨L, k1, k2', k3⟩ := I2.asg (Γ' := Γ2) (i := j) q2.toStep (by rcases hm2 with h | h <;> simp [h]) r2 (by rw [fm hm2 hz.2]; exact hΓ1)
      have r1' := RpM.slot (i := j) hm1 (fun b hb => (k3 b hb).2.2) r1 (r1.step I1.wf I2.wf q2)
      obtain ⟨L', k4, k5, _⟩ := k2'.asg (Γ' := Γ') (i := i) (q1.toStep.trans k1) (by rcases hm1 with h | h <;> simp [h]) r1' (by rw [fm hm1 hz.1]; exact hΓ2)
      refine ⟨v, w, rfl, ?_⟩
      rw [show (σ.set i (some v)).set j (some w) = (σ.set j (some w)).set i (some v) from List.set_comm _ _ hij]
      rw [show ((s2.r.set i (some d1)).set j (some d2)) = (s2.r.set j (some d2)).set i (some d1) from List.set_comm _ _ hij] at p
      exact p _ H2 _ k4 k5
end
end DL
set_option linter.all false
set_option Elab.async false
set_option maxRecDepth 100000
namespace DL
open PySem PySem.Spec PyProof.Rows L2
section
variable {T : Tb} {X : Cx} {Γ Γ' Γ2 : Fls} {F : Fx} {nx lp : Fls} {rm : Mo} {e a b c tg iter : Expr} {m m1 m2 m3 : Mo} {f f1 f2 f3 : S → R D} {pos p2 pos' : Pos} {fs fi fi' : S → R (List D)}
theorem ji_either (c : S → Bool) (h1 : JI T X Γ tg e fi) (h2 : JI T X Γ tg e fi') : JI T X Γ tg e (fun s => if c s then fi s else fi' s) := by
  refine ⟨fun W tk => ⟨fun pins s σ H R I h => ?_⟩⟩
  obtain ⟨g, st, I1, p⟩ := h
  by_cases hc : c st = true
  · simp only [hc, if_true] at p
    exact (h1.run W tk).run pins s σ H R I ⟨g, st, I1, p⟩
  · rw [Bool.not_eq_true] at hc
    simp only [hc, Bool.false_eq_true, if_false] at p
    exact (h2.run W tk).run pins s σ H R I ⟨g, st, I1, p⟩
def tupAt (fs : S → R (List D)) : S → Bool := fun s => match fs s with
  | .ok [.tup _] _ => true
  | _ => false
def iEnumB (fs : S → R (List D)) : S → R (List D) := fun s => if tupAt fs s then iN enumTI fs s else iN enumI fs s
theorem ji_enumB {p tpos : Pos} {elts : List Expr} {kk : Nat} (hg : Gl X "enumerate") (hm : X.mg "enumerate" = none) (ha : JA T X Γ [e] fs) (hs : starEach [e] X.env = [(false, eval e X.env)] := by rfl) : JI T X Γ (.Tuple elts kk tpos) (.Call (.Name "enumerate" p) [e] [] pos) (iEnumB fs) :=
  ji_either (tupAt fs) (ji_enumT hg hm ha hs) (ji_enum hg hm ha hs)
end
end DL
set_option linter.all false
set_option Elab.async false
set_option maxRecDepth 100000
namespace DL
open PySem PySem.Spec PyProof.Rows L2
/-! ### {k: v} -/
def eDic1 (f1 f2 : S → R D) : S → R D := fun st => (f1 st).bind fun k s1 => (f2 s1).bind fun v s2 => match keyD k with
  | some k => .ok (.ref s2.m.length) { s2 with m := s2.m ++ [.dic false [(k, v)]] }
  | none => .stuck
section
variable {T : Tb} {X : Cx} {Γ : Fls} {a b : Expr} {f1 f2 : S → R D} {pos : Pos}
theorem je_dic1 (ha : JE T X Γ a .sh f1) (hb : JE T X Γ b .sh f2) : JE T X Γ (.Dict [some a] [b] pos) .sh (eDic1 f1 f2) := by
  refine ⟨fun W tk => PE.imp (pe_disp (pps_cons (ha.run W tk) (hb.run W tk) pps_nil) rfl rfl (by simp) (by simp)) fun σ H Q ⟨g, st, I, p⟩ => fun q hq => ?_⟩
  have I0 := I.new (o := .dK []) hq
  have q0 : QStep g H g (upd H q (.dK [])) := ⟨.new hq, rfl, fun i b hb => by
    obtain ⟨o', e, _⟩ := I.wf.ot b (.inl ⟨i, hb⟩)
    rw [upd_ne (ne_of_none e hq)]⟩
  refine ⟨g, st, I0, ?_⟩
  unfold eDic1 at p
  cases e1 : f1 st with
  | raise ex s1 => rw [e1] at p; exact fun cls dd H' g' s => p cls dd H' g' (q0.toStep.trans s)
  | stuck => rw [e1] at p; exact p
  | ok d1 s1 =>
    rw [e1] at p
    intro v H1 g1 q1 I1 r1
    refine ⟨g1, s1, I1, ?_⟩
    simp only [R.bind] at p
    cases e2 : f2 s1 with
    | raise ex s2 => rw [e2] at p; exact fun cls dd H' g' s => p cls dd H' g' ((q0.toStep.trans q1.toStep).trans s)
    | stuck => rw [e2] at p; exact p
    | ok d2 s2 =>
      rw [e2] at p
      intro w H2 g2 q2 I2 r2
      simp only at p
      split at p
      case h_2 => exact p.elim
      rename_i k ek
      have qs : QStep g H g2 H2 := (q0.trans q1).trans q2
      have hp1 : H1 q = some (.dK []) := q1.fr q _ upd_same (I.wf.noto hq)
      have no1 : ¬ g1.Own q := fun z => by
        rcases q1.on q z with z | z
        · exact I.wf.noto hq z
        · rw [upd_same] at z
          cases z
      have hp2 : H2 q = some (.dK []) := q2.fr q _ hp1 no1
      have no2 : ¬ g2.Own q := fun z => by
        rcases q2.on q z with z | z
        · exact no1 z
        · rw [hp1] at z
          cases z
      have na1 : ¬ g1.A q := fun z => by
        rcases q1.an q z with z | z | z
        · exact I.wf.nota hq z
        · exact I.wf.noto hq z
        · rw [upd_same] at z
          cases z
      have na2 : ¬ g2.A q := fun z => by
        rcases q2.an q z with z | z | z
        · exact na1 z
        · exact no1 z
        · rw [hp1] at z
          cases z
      have kv : v = kV k := key_sh r1 ek
      have u : Sub g2 H2 g2 (upd H2 q (.dK [(k, w)])) := ⟨fun _ h => h, fun b o hA h => by
        rw [upd_ne fun z => na2 (by rw [← z]; exact hA)]
        exact h, fun b o h i => by
        rw [upd_ne fun z => ?_]
        · exact h
        · rw [z, hp2] at h
          cases h
          exact absurd i (by simp [imo]), List.prefix_refl _⟩
      have wf : WF g2 (upd H2 q (.dK [(k, w)])) := ⟨fun b hb => by
        obtain ⟨o', e⟩ := I2.wf.ta b hb
        exact ⟨o', by rw [upd_ne fun z => na2 (by rw [← z]; exact hb)]; exact e⟩, fun b hb => by
        obtain ⟨o', e⟩ := I2.wf.ot b hb
        exact ⟨o', by rw [upd_ne fun z => no2 (by rw [← z]; exact hb)]; exact e⟩, I2.wf.ao, I2.wf.nf, I2.wf.df, I2.wf.fm, I2.wf.nm⟩
      have I3 : SR X.K T Γ g2 σ (upd H2 q (.dK [(k, w)])) s2 := I2.sub u wf rfl rfl fun b hb => by rw [upd_ne fun z => no2 (by rw [← z]; exact hb)]
      have I4 := I3.more (a := q) (o := .dK [(k, w)]) (c := .dic false [(k, d2)]) upd_same rfl na2 no2 ⟨[w], upd_same, Rps.one ((Rp.sub u r2).sub .more)⟩
      have q4 : QStep g H (g2.more q) (upd H2 q (.dK [(k, w)])) := ⟨(⟨qs.aa, qs.an, qs.on, fun b o' h n => by
        rw [upd_ne (ne_of_none h hq)]
        exact qs.fr b o' h n, fun b o' h i => by
        rw [upd_ne (ne_of_none h hq)]
        exact qs.im b o' h i, fun b h => by
        by_cases e : b = q
        · rw [e]
          exact hq
        · rw [upd_ne e] at h
          exact qs.tr b h, qs.mu⟩ : Step g H g2 (upd H2 q (.dK [(k, w)]))).more hq, qs.qf, fun i b hb => by
        obtain ⟨o', e, _⟩ := I.wf.ot b (.inl ⟨i, hb⟩)
        rw [upd_ne (ne_of_none e hq)]
        exact qs.qo i b hb⟩
      exact ⟨hp2, [(k, w)], by rw [kv]; rfl, by simp, p _ _ _ q4 I4 (ref_more I3)⟩
end
end DL
set_option linter.all false
set_option Elab.async false
set_option maxRecDepth 100000
namespace DL
open PySem PySem.Spec PyProof.Rows L2
/-! ### zip of a list and a tuple, in any mixture -/
def SqK (K : PySem.W.Frag) (t : Bool) (H : Hp) (a : Addr) (xs : List V) : Prop := if t then SqT K H a xs else SqL K H a xs
def ItK (t : Bool) (h : Heap) (it a : Addr) (i : Nat) : Prop := if t then h.IsTupleIter it a i else h.IsListIter it a i
def AtK (t : Bool) (h : Heap) (a : Addr) (items : Array Value) : Prop := if t then h.IsTuple a items else h.IsList a items
theorem drawsK {prog : Program} {w : World} {A : Around} (t : Bool) (hh : A.handled = none) (it a : Addr) (hne : a ≠ it) (items : Array Value) : Draws prog w A it [it, a] items.size (fun i v => items[i]? = some v) (fun i h => ItK t h it a i ∧ AtK t h a items) := by
  cases t
  · exact Draws.list hh it a hne items
  · exact Draws.tuple hh it a hne items
theorem beginsK (t : Bool) (a : Addr) (items : Array Value) : ∃ o, Begins (.ref a) o (fun h => AtK t h a items) ∧ ∀ h it, Heap.get? h it = some o → ItK t h it a 0 := by
  cases t
  · exact ⟨_, begins_list a items, fun h it e => ⟨_, e, rfl, rfl⟩⟩
  · exact ⟨_, begins_tuple a items, fun h it e => ⟨_, e, rfl, rfl⟩⟩
theorem atK {X : Cx} {pins : List (Addr × Obj)} {σ : L2.St} {H : Hp} {s : Shared} {a : Addr} {xs : List V} (t : Bool) (I : L2.Inv X pins σ H s) (h : SqK X.K t H a xs) : ∃ its : List Value, Vals xs its ∧ AtK t s.heap a its.toArray ∧ a < s.heap.objs.size := by
  cases t
  · obtain ⟨its, rv, p, _⟩ := I.list h
    exact ⟨its, rv, p.isList, p.lt⟩
  · obtain ⟨its, rv, p, _⟩ := I.tuple h
    exact ⟨its, rv, p, p.lt⟩
theorem injK {X : Cx} {pins : List (Addr × Obj)} {σ : L2.St} {H : Hp} {s : Shared} {a : Addr} {xs ys : List V} (t : Bool) (I : L2.Inv X pins σ H s) (h : SqK X.K t H a xs) (h' : SqK X.K t H a ys) : xs = ys := by
  cases t
  · exact I.list_inj h h'
  · exact I.tuple_inj h h'
theorem ItK.keep {t : Bool} {h h' : Heap} {it a : Addr} {i : Nat} (x : ItK t h it a i) (k : ∀ o, h.get? it = some o → h'.get? it = some o) : ItK t h' it a i := by
  cases t
  · exact Heap.IsListIter.at x k
  · exact Heap.IsTupleIter.at x k
theorem ItK.obj {t : Bool} {h : Heap} {it a : Addr} {i : Nat} (x : ItK t h it a i) : ∃ o, h.get? it = some o ∧ ∀ v, o.data ≠ .cell v := by
  cases t
  · obtain ⟨o, e, _, d⟩ := x
    exact ⟨o, e, fun v q => by rw [d] at q; cases q⟩
  · obtain ⟨o, e, _, d⟩ := x
    exact ⟨o, e, fun v q => by rw [d] at q; cases q⟩
def ItzM (K : PySem.W.Frag) (t u : Bool) (a b : Addr) : It :=
  ⟨fun i H => ∃ (xs ys : List V) (x y : V), SqK K t H a xs ∧ SqK K u H b ys ∧ xs[i]? = some x ∧ ys[i]? = some y,
    fun i H v H' => ∃ p x y, v = .ref p ∧ H p = none ∧ H' = upd H p (.tup [x, y]) ∧ (∀ xs, SqK K t H a xs → xs[i]? = some x) ∧ ∀ ys, SqK K u H b ys → ys[i]? = some y,
    fun i H => ∃ xs ys : List V, SqK K t H a xs ∧ SqK K u H b ys ∧ i ≤ xs.length ∧ i ≤ ys.length ∧ (i = xs.length ∨ i = ys.length)⟩
structure Apart5 (z TI TO i1 i2 a b : Addr) : Prop where
  nd : [z, TI, TO, i1, i2].Nodup
  na : a ∉ [z, TI, TO, i1, i2]
  nb : b ∉ [z, TI, TO, i1, i2]
theorem Apart5.sep {z TI TO i1 i2 a b : Addr} (D : Apart5 z TI TO i1 i2 a b) : ZipSep2 z TI TO i1 i2 [i1, a] [i2, b] := by
  obtain ⟨nd, na, nb⟩ := D
  simp only [List.nodup_cons, List.mem_cons, List.not_mem_nil, or_false, not_or, List.nodup_nil, and_true, not_false_eq_true] at nd na nb
  obtain ⟨⟨n1, n2, n3, n4⟩, ⟨n5, n6, n7⟩, ⟨n8, n9⟩, n10⟩ := nd
  obtain ⟨a1, a2, a3, a4, a5⟩ := na
  obtain ⟨b1, b2, b3, b4, b5⟩ := nb
  exact ⟨Ne.symm n1, Ne.symm n2, n5, n6, by simp, by simp [n3, Ne.symm a1], by simp [n8, Ne.symm a3], n7, by simp, by simp [n4, Ne.symm b1], by simp [n9, Ne.symm b3], by simp [n10, Ne.symm b4], by simp [Ne.symm n10, Ne.symm a5]⟩
theorem turn_zipM {P : Program} {w : World} {K : PySem.W.Frag} {elts : List Expr} {kk : Nat} {tpos : Pos} {a b z TI TO i1 i2 : Addr} (t u : Bool) (D : Apart5 z TI TO i1 i2 a b) :
    Turn P w K (.Tuple elts kk tpos) (ItzM K t u a b) [z, TI, TO, i1, i2] z (fun i h => IsZip h z TI TO .none ∧ IsTupOf2 h TI (.ref i1) (.ref i2) ∧ (∃ x y, IsTupOf2 h TO x y) ∧ ItK t h i1 a i ∧ ItK u h i2 b i) where
  mem := by simp
  obj := fun i h st c hc => by
    obtain ⟨hz, hTI, ⟨x, y, hTO⟩, h1, h2⟩ := st
    have e' : c = z ∨ c = TI ∨ c = TO ∨ c = i1 ∨ c = i2 := by simpa using hc
    rcases e' with q | q | q | q | q <;> rw [q]
    · exact ⟨_, hz, fun v q => nomatch q⟩
    · exact ⟨_, hTI, fun v q => nomatch q⟩
    · exact ⟨_, hTO, fun v q => nomatch q⟩
    · exact h1.obj
    · exact h2.obj
  keep := fun i h h' st k => by
    obtain ⟨hz, hTI, ⟨x, y, hTO⟩, h1, h2⟩ := st
    exact ⟨k z (by simp) _ hz, k TI (by simp) _ hTI, ⟨x, y, k TO (by simp) _ hTO⟩, h1.keep fun o q => k i1 (by simp) o q, h2.keep fun o q => k i2 (by simp) o q⟩
  item := by
    intro X hP hw hK hc i pins s σ H E I hf st hg
    subst hP hw hK
    obtain ⟨hz, hTI, ⟨x0, y0, hTO⟩, h1, h2⟩ := st
    obtain ⟨xs, ys, x, y, hqx, hqy, hx, hy⟩ := hg
    obtain ⟨its, rv, p, _⟩ := atK t I hqx
    obtain ⟨its2, rv2, p2, _⟩ := atK u I hqy
    obtain ⟨v1, hu, ru⟩ := rv.get hx
    obtain ⟨v2, hu2, ru2⟩ := rv2.get hy
    have S := D.sep
    have hzl : z < s.heap.objs.size := Heap.lt_size hz
    have hh : X.A.handled = none := I.ok.hd hc
    have ai : a ≠ i1 := fun e => D.na (by simp [e])
    have bi : b ≠ i2 := fun e => D.nb (by simp [e])
    have lt1 : i < its.toArray.size := by simpa using (List.getElem?_eq_some_iff.mp hu).1
    have lt2 : i < its2.toArray.size := by simpa using (List.getElem?_eq_some_iff.mp hu2).1
    refine wpAny_pyNext_zipD2_item S (drawsK (prog := X.prog) (w := X.w) (A := X.A.in1) t hh i1 a ai its.toArray) (drawsK (prog := X.prog) (w := X.w) (A := X.A.in1) u hh i2 b bi its2.toArray) hz hTI hTO ⟨h1, p⟩ ⟨h2, p2⟩ lt1 lt2 fun w1 w2 h' tk y1 y2 z' TO' d1 d2 hT hsz hk => ?_
    have e1 : w1 = v1 := by
      have : its[i]? = some w1 := by simpa using y1
      rw [hu] at this
      cases this
      rfl
    have e2 : w2 = v2 := by
      have : its2[i]? = some w2 := by simpa using y2
      rw [hu2] at this
      cases this
      rfl
    subst e1 e2
    refine ⟨_, rfl, wpAny_letOwnedTupleGo_zip (s := { s with heap := h', toks := tk }) z' fun h'' z'' sb => ?_⟩
    have hT2 : h''.get? s.heap.objs.size = some { cls := .type "tuple", data := .seq #[w1, w2] } := (sb.2 _ (Nat.ne_of_gt hzl)).trans hT
    have new : ObjOk X.prog X.w (upd H s.heap.objs.size (.tup [x, y])) h'' s.heap.objs.size (.tup [x, y]) :=
      ⟨by show 2 ≤ sizeLine; decide, [w1, w2], .cons ru (.cons ru2 .nil), ⟨_, hT2, rfl, _, rfl⟩⟩
    have I1 : Inv X pins σ (upd H s.heap.objs.size (.tup [x, y])) { s with heap := h'', toks := tk } :=
      I.turnedNew (t' := tk) (ch := [z, TI, TO, i1, i2]) (fun c o hb q => (sb.2 c (fun q' => hb (by simp [q']))).trans (hk c o (fun q' => hb (by simp [q'])) (fun q' => hb (by simp [q'])) (fun q' => hb (by simp [q'])) (fun q' => hb (by simp [q'])) q)) hf (Nat.le_refl _) new
    refine ⟨.ref s.heap.objs.size, _, I1, rfl, ⟨_, x, y, rfl, I.hok.fresh (Nat.le_refl _), rfl, fun l hl => by rw [injK t I hl hqx]; exact hx, fun l hl => by rw [injK u I hl hqy]; exact hy⟩, ⟨z'', ?_, ⟨w1, w2, ?_⟩, ?_, ?_⟩, fun c hcm => ?_⟩
    · exact (sb.2 _ S.TIz).trans (hk _ _ S.TIz S.TITO S.TIi1 S.TIi2 hTI)
    · exact (sb.2 _ S.TOz).trans TO'
    · exact d1.1.keep fun o q => (sb.2 _ (Ne.symm S.zi1)).trans q
    · exact d2.1.keep fun o q => (sb.2 _ (Ne.symm S.zi2)).trans q
    · have hlt : c < s.heap.objs.size := by
        have e' : c = z ∨ c = TI ∨ c = TO ∨ c = i1 ∨ c = i2 := by simpa using hcm
        rcases e' with q | q | q | q | q <;> rw [q]
        · exact hzl
        · exact Heap.lt_size hTI
        · exact Heap.lt_size hTO
        · obtain ⟨_, e1, _⟩ := h1.obj
          exact Heap.lt_size e1
        · obtain ⟨_, e2, _⟩ := h2.obj
          exact Heap.lt_size e2
      rw [upd_ne (Nat.ne_of_lt hlt)]
      exact (hf c hcm).1
  done := by
    intro X hP hw hK hc i pins s σ H E I hf st hg
    subst hP hw hK
    obtain ⟨hz, hTI, ⟨x0, y0, hTO⟩, h1, h2⟩ := st
    obtain ⟨xs, ys, hqx, hqy, le1, le2, hend⟩ := hg
    obtain ⟨its, rv, p, _⟩ := atK t I hqx
    obtain ⟨its2, rv2, p2, _⟩ := atK u I hqy
    have l1 := rv.length
    have l2 := rv2.length
    have hh : X.A.handled = none := I.ok.hd hc
    have ai : a ≠ i1 := fun e => D.na (by simp [e])
    have bi : b ≠ i2 := fun e => D.nb (by simp [e])
    have s1 : its.toArray.size = its.length := by simp
    have s2 : its2.toArray.size = its2.length := by simp
    exact wpAny_pyNext_zipD2_end D.sep (drawsK (prog := X.prog) (w := X.w) (A := X.A.in1) t hh i1 a ai its.toArray) (drawsK (prog := X.prog) (w := X.w) (A := X.A.in1) u hh i2 b bi its2.toArray) hz hTI hTO ⟨h1, p⟩ ⟨h2, p2⟩ (by omega) (by omega) (by omega) fun h' tk hk => ⟨rfl, I.turnedL (t' := tk) (ch := [z, TI, TO, i1, i2]) (fun c o hb q =>
      hk c o (fun q' => hb (by simp [q'])) (fun q' => hb (by simp [q'])) (fun q' => hb (by simp [q'])) (fun q' => hb (by simp [q'])) q) hf⟩
  self := fun A i s Q E st h => wpAny_pyIter_zip st.1 h
def iZipM (K : PySem.W.Frag) (t u : Bool) (ta : TA) : TI := fun σ H R => ta σ H fun vs H1 => ∃ a b xs ys, vs = [.ref a, .ref b] ∧ SqK K t H1 a xs ∧ SqK K u H1 b ys ∧ R (ItzM K t u a b) H1
theorem out5 (n a : Nat) (la : a < n) : (a : Addr) ∉ ([n + 4, n + 2, n + 3, n, n + 1] : List Addr) := by
  intro h
  have h' : a = n + 4 ∨ a = n + 2 ∨ a = n + 3 ∨ a = n ∨ a = n + 1 := by simpa using h
  omega
theorem apart5 (n a b : Nat) (la : a < n) (lb : b < n) : Apart5 (n + 4) (n + 2) (n + 3) n (n + 1) a b := ⟨by simp, out5 n a la, out5 n b lb⟩
theorem pi_zipM {X : Cx} {e e2 : Expr} {ta : TA} {p pos tpos : Pos} {elts : List Expr} {kk : Nat} (t u : Bool) (hg : Gl X "zip") (hm : X.mg "zip" = none) (ha : PA X [e, e2] ta)
    (hs : starEach [e, e2] X.env = (false, eval e X.env) :: starEach [e2] X.env := by rfl) (hpl : (backTo pos (starEach [e2] X.env)).any (·.1) = false := by rfl) :
    PI X (.Tuple elts kk tpos) (.Call (.Name "zip" p) [e, e2] [] pos) (iZipM X.K t u ta) := by
  refine ⟨fun pins s σ H R I h => ?_⟩
  refine Call_ (ld_blt I hg hm PyProof.Rows.boot_zip (PyProof.Rows.callWith_type1 (thn (ha.run pos pins s σ H _ I h) fun us s1 ⟨vs, H1, I1, r1, q1⟩ => ?_) hs hpl))
  obtain ⟨a, b, xs, ys, ex, hqx, hqy, q⟩ := q1
  subst ex
  cases r1 with
  | cons r rr =>
    cases rr with
    | cons r' rr =>
      cases rr
      cases r
      cases r'
      obtain ⟨its, rv, p1, la⟩ := atK t I1 hqx
      obtain ⟨its2, rv2, p2, lb⟩ := atK u I1 hqy
      obtain ⟨o1, B1, k1⟩ := beginsK t a its.toArray
      obtain ⟨o2, B2, k2⟩ := beginsK u b its2.toArray
      refine zip_begins2 B1 B2 p1 p2 fun h' hz hTI hTO h1 h2 hsz hk => wpAny_pyIter_zip hz ?_
      have I2 : Inv X pins σ H1 { s1 with heap := h' } := I1.kept (t' := s1.toks) hk
      refine ⟨s1.heap.objs.size + 4, [s1.heap.objs.size + 4, s1.heap.objs.size + 2, s1.heap.objs.size + 3, s1.heap.objs.size, s1.heap.objs.size + 1], _, _, H1, rfl, I2, turn_zipM t u (apart5 s1.heap.objs.size a b la lb), ⟨hz, hTI, ⟨_, _, hTO⟩, k1 _ _ h1, k2 _ _ h2⟩, fun c hcm => ?_, q⟩
      have e' : c = s1.heap.objs.size + 4 ∨ c = s1.heap.objs.size + 2 ∨ c = s1.heap.objs.size + 3 ∨ c = s1.heap.objs.size ∨ c = s1.heap.objs.size + 1 := by simpa using hcm
      have hle : s1.heap.objs.size ≤ c := by
        rcases e' with z | z | z | z | z <;> rw [z]
        · exact Nat.le_add_right _ _
        · exact Nat.le_add_right _ _
        · exact Nat.le_add_right _ _
        · exact Nat.le_refl _
        · exact Nat.le_add_right _ _
      exact I1.fpOk hle (I1.hok.fresh hle)
def isTup : D → Bool
  | .tup _ => true
  | _ => false
def sqD : D → Option (List D)
  | .tup xs => some xs
  | .lst xs => some xs
  | _ => none
def zipMI (t u : Bool) : List D → S → R (List D)
  | [d, e], s => if isTup d == t && isTup e == u then (match sqD d, sqD e with
    | some xs, some ys => .ok (zipL xs ys) s
    | _, _ => .stuck) else .stuck
  | _, _ => .stuck
section
variable {T : Tb} {X : Cx} {Γ : Fls} {e a b : Expr} {fs : S → R (List D)} {pos : Pos}
theorem sqK_of {K : PySem.W.Frag} {g : Gh} {H : Hp} {d : D} {v : V} {xs : List D} {t : Bool} (wf : WF g H) (r : Rp K T g H d v) (e : sqD d = some xs) (ht : isTup d = t) : ∃ x vs, v = .ref x ∧ SqK K t H x vs ∧ Rps K T g H xs vs ∧ ∀ g' H', Step g H g' H' → WF g' H' → SqK K t H' x vs := by
  cases d <;> simp [sqD] at e
  · subst e ht
    simp only [Rp] at r
    obtain ⟨x, vs, e, h1, h2⟩ := r
    exact ⟨x, vs, e, h1, h2, fun g' H' s w => SqT.step wf s h1⟩
  · subst e ht
    simp only [Rp] at r
    obtain ⟨x, vs, e, h0, h1, h2⟩ := r
    exact ⟨x, vs, e, .inl (.inl h1), h2, sql_st wf h0 h1⟩
theorem ji_zipM (t u : Bool) {p tpos : Pos} {elts : List Expr} {kk : Nat} (hg : Gl X "zip") (hm : X.mg "zip" = none) (ha : JA T X Γ [a, b] fs) (hs : starEach [a, b] X.env = (false, eval a X.env) :: starEach [b] X.env := by rfl) (hpl : (backTo pos (starEach [b] X.env)).any (·.1) = false := by rfl) :
    JI T X Γ (.Tuple elts kk tpos) (.Call (.Name "zip" p) [a, b] [] pos) (iN (zipMI t u) fs) := by
  refine ⟨fun W tk => PI.imp (pi_zipM t u hg hm (ha.run W tk) hs hpl) fun σ H R ⟨g, st, I, p⟩ => ?_⟩
  refine ta_bind ipI I p fun ds s1 vs H1 g1 q1 I1 r1 p1 => ?_
  unfold zipMI at p1
  split at p1
  case h_2 => exact p1.elim
  rename_i d1 d2
  split at p1
  case isFalse => exact p1.elim
  rename_i hz
  simp only [Bool.and_eq_true, beq_iff_eq] at hz
  split at p1
  case h_2 => exact p1.elim
  rename_i xs ys e1 e2
  simp only [Rps] at r1
  obtain ⟨v1, r, e3, h1, v2, r', e4, h2, e5⟩ := r1
  subst e3 e4 e5
  obtain ⟨x, ws, ex, k1, k2, k3⟩ := sqK_of I1.wf h1 e1 hz.1
  obtain ⟨y, us, ey, k4, k5, k6⟩ := sqK_of I1.wf h2 e2 hz.2
  subst ex ey
  refine ⟨x, y, ws, us, rfl, k1, k4, p1 _ H1 g1 (.refl g1 H1) I1 ⟨fun i d g' H' s w e => ?_, fun g' H' s w => ?_, fun i d g' H' z H'' s w e yl => ?_⟩⟩
  · obtain ⟨p, q, ep, eq, _⟩ := zipL_get e
    obtain ⟨v, hv, _⟩ := k2.get ep
    obtain ⟨v', hv', _⟩ := k5.get eq
    exact ⟨ws, us, v, v', k3 g' H' s w, k6 g' H' s w, hv, hv'⟩
  · refine ⟨ws, us, k3 g' H' s w, k6 g' H' s w, ?_, ?_, ?_⟩ <;> rw [zipL_len] <;> have := k2.length <;> have := k5.length <;> omega
  · obtain ⟨p, q, ep, eq, ed⟩ := zipL_get e
    obtain ⟨v, hv, rv⟩ := k2.get ep
    obtain ⟨v', hv', rv'⟩ := k5.get eq
    obtain ⟨pp, x', y', ez, hp, eh, hx, hy⟩ := yl
    have e6 := (hx ws (k3 g' H' s w)).symm.trans hv
    have e7 := (hy us (k6 g' H' s w)).symm.trans hv'
    cases e6
    cases e7
    subst ed ez eh
    refine .inr ⟨pp, _, hp, rfl, ?_⟩
    simp only [Rp]
    exact ⟨pp, _, rfl, .inl (.inl upd_same), Rps.cons ((rv.step I1.wf s).step w (.new hp)) (.one ((rv'.step I1.wf s).step w (.new hp)))⟩
def shapeAt (t u : Bool) (fs : S → R (List D)) : S → Bool := fun s => match fs s with
  | .ok [d, e] _ => isTup d == t && isTup e == u
  | _ => false
def iZipB (fs : S → R (List D)) : S → R (List D) := fun s => if shapeAt true true fs s then iN (zipMI true true) fs s else if shapeAt true false fs s then iN (zipMI true false) fs s else if shapeAt false true fs s then iN (zipMI false true) fs s else iN (zipMI false false) fs s
theorem ji_zipB {p tpos : Pos} {elts : List Expr} {kk : Nat} (hg : Gl X "zip") (hm : X.mg "zip" = none) (ha : JA T X Γ [a, b] fs) (hs : starEach [a, b] X.env = (false, eval a X.env) :: starEach [b] X.env := by rfl) (hpl : (backTo pos (starEach [b] X.env)).any (·.1) = false := by rfl) :
    JI T X Γ (.Tuple elts kk tpos) (.Call (.Name "zip" p) [a, b] [] pos) (iZipB fs) :=
  ji_either _ (ji_zipM true true hg hm ha hs hpl) (ji_either _ (ji_zipM true false hg hm ha hs hpl) (ji_either _ (ji_zipM false true hg hm ha hs hpl) (ji_zipM false false hg hm ha hs hpl)))
end
end DL
set_option linter.all false
set_option Elab.async false
set_option maxRecDepth 100000
namespace DL
open PySem PySem.Spec PyProof.Rows L2
/-! ### a call with own lists lent -/
mutual
/-- no list within -/
def nl : D → Bool
  | .tup ds => nls ds
  | .lst _ => false
  | .scr _ => false
  | .pt ds => nls ds
  | _ => true
def nls : List D → Bool
  | [] => true
  | d :: ds => nl d && nls ds
end
def nlC : Cell → Bool
  | .lst ds => nls ds
  | .dic _ kvs => nls (kvs.map (·.2))
  | .dit kvs => nls (kvs.map (·.1)) && nls (kvs.map (·.2))
  | .obj _ fs => nls (fs.map (·.2))
section
variable {K : PySem.W.Frag} {T : Tb} {g g' : Gh} {H H' : Hp} {Γ : Fls} {σ : L2.St} {st : S} {W : WX} {Q : VK} {m : Mo}
def RbS (K : PySem.W.Frag) (T : Tb) (g : Gh) (H : Hp) : List D → List V → Prop
  | [], vs => vs = []
  | d :: ds, vs => ∃ v r, vs = v :: r ∧ RpM K T g H H .b1 d v ∧ RbS K T g H ds r
theorem RbS.step (wf : WF g H) (wf' : WF g' H') (s : QStep g H g' H') : ∀ {ds : List D} {vs : List V}, RbS K T g H ds vs → RbS K T g' H' ds vs
  | [], vs, h => h
  | d :: ds, vs, h => by
    obtain ⟨v, r, e, h1, h2⟩ := h
    refine ⟨v, r, e, ?_, h2.step wf wf' s⟩
    have z := h1.step wf wf' s
    cases d <;> exact z
def PostB (K : PySem.W.Frag) (T : Tb) (Γ : Fls) (σ : L2.St) (g : Gh) (H : Hp) (W : WX) (Q : List V → Hp → Prop) : R (List D) → Prop
  | .ok ds st => ∀ vs H' g', QStep g H g' H' → SR K T Γ g' σ H' st → RbS K T g' H' ds vs → Q vs H'
  | .raise e st => PostX K T σ g H W e st
  | .stuck => False
theorem PostB.shift {Q : List V → Hp → Prop} {r : R (List D)} (s : QStep g H g' H') (h : PostB K T Γ σ g H W Q r) : PostB K T Γ σ g' H' W Q r := by
  cases r with
  | ok ds st => exact fun vs H2 g2 s2 => h vs H2 g2 (s.trans s2)
  | raise e st => exact PostX.shift s.toStep h
  | stuck => exact h
end
end DL
set_option linter.all false
set_option Elab.async false
set_option maxRecDepth 100000
namespace DL
open PySem PySem.Spec PyProof.Rows L2 HT
/-! ### slices with the step -1 -/
end DL
set_option linter.all false
set_option Elab.async false
set_option maxRecDepth 100000
namespace DL
open PySem PySem.Spec PyProof.Rows L2
/-! ### a call whose own cells are forgotten -/
mutual
/-- no reference within -/
def nr : D → Bool
  | .tup ds => nrs ds
  | .lst ds => nrs ds
  | .ref _ => false
  | .pt ds => nrs ds
  | _ => true
def nrs : List D → Bool
  | [] => true
  | d :: ds => nr d && nrs ds
end
def nrC : Cell → Bool
  | .lst ds => nrs ds
  | .dic _ kvs => nrs (kvs.map (·.2))
  | .dit kvs => nrs (kvs.map (·.1)) && nrs (kvs.map (·.2))
  | .obj _ fs => nrs (fs.map (·.2))
def nrE : Ex → Bool
  | .mk _ fs => nrs fs
def trimF (mf : MF) : MF := fun ds m => match mf ds m with
  | .ok d m' => if nr d && (m'.take m.length).all nrC then .ok d (m'.take m.length) else .stuck
  | .raise e m' => if nrE e && (m'.take m.length).all nrC then .raise e (m'.take m.length) else .stuck
  | .stuck => .stuck
section
variable {K : PySem.W.Frag} {T : Tb} {g g' : Gh} {H H' : Hp}
mutual
theorem nr_rp (e : g'.A = g.A) : ∀ {d : D} {v : V}, nr d = true → Rp K T g H d v → Rp K T g' H d v
  | .non, v, _, h => by simpa [Rp] using h
  | .bl b, v, _, h => by simpa [Rp] using h
  | .int i, v, _, h => by simpa [Rp] using h
  | .str x, v, _, h => by simpa [Rp] using h
  | .tup ds, v, n, h => by
    simp only [Rp, nr] at h n ⊢
    obtain ⟨a, vs, e1, q, r⟩ := h
    exact ⟨a, vs, e1, q, nr_rps e n r⟩
  | .lst ds, v, n, h => by
    simp only [Rp, nr] at h n ⊢
    obtain ⟨a, vs, e1, q1, q2, r⟩ := h
    exact ⟨a, vs, e1, by rw [e]; exact q1, q2, nr_rps e n r⟩
  | .fn i, v, _, h => by simpa [Rp] using h
  | .ref n, v, n', h => by simp [nr] at n'
  | .scr xs, v, n, h => by
    simp only [Rp, ScrOk] at h ⊢
    obtain ⟨a, e1, q⟩ := h
    refine ⟨a, e1, ?_⟩
    rw [e]
    exact q
  | .pt ds, v, n, h => by
    simp only [Rp, nr] at h n ⊢
    obtain ⟨a, vs, o, e1, q, z, r⟩ := h
    exact ⟨a, vs, o, e1, q, z, nr_rps e n r⟩
theorem nr_rps (e : g'.A = g.A) : ∀ {ds : List D} {vs : List V}, nrs ds = true → Rps K T g H ds vs → Rps K T g' H ds vs
  | [], vs, _, h => by simpa [Rps] using h
  | d :: ds, vs, n, h => by
    simp only [Rps, nrs, Bool.and_eq_true] at h n ⊢
    obtain ⟨v, r, e1, h1, h2⟩ := h
    exact ⟨v, r, e1, nr_rp e n.1 h1, nr_rps e n.2 h2⟩
end
theorem nr_cell (e : g'.A = g.A) {a : Addr} {c : Cell} (n : nrC c = true) (h : CellR K T g H a c) : CellR K T g' H a c := by
  cases c with
  | lst ds =>
    obtain ⟨vs, q1, q2⟩ := h
    exact ⟨vs, q1, nr_rps e n q2⟩
  | dic lk kvs =>
    cases lk with
    | false =>
      obtain ⟨vs, q1, q2⟩ := h
      exact ⟨vs, q1, nr_rps e n q2⟩
    | true =>
      obtain ⟨vs, od, q1, q2⟩ := h
      exact ⟨vs, od, q1, nr_rps e n q2⟩
  | dit kvs =>
    obtain ⟨xs, vs, q1, q2, q3, q4, q5, q6, q7, q8⟩ := h
    simp only [nrC, Bool.and_eq_true] at n
    exact ⟨xs, vs, q1, q2, q3, q4, q5, q6, nr_rps e n.1 q7, nr_rps e n.2 q8⟩
  | obj c fs =>
    obtain ⟨C, dx, vs, q1, q2, q3⟩ := h
    exact ⟨C, dx, vs, q1, q2, nr_rps e n q3⟩
/-- back to the cells that were -/
def Gh.cut (g' g : Gh) : Gh := ⟨g'.A, g'.fp, g.mu⟩
theorem cut_own (s : Step g H g' H') {b : Addr} (h : (g'.cut g).Own b) : g'.Own b := by
  rcases h with h | h
  · exact .inl h
  · exact .inr (s.mu.subset h)
theorem Step.cut (s : Step g H g' H') : Step g H (g'.cut g) H' :=
  ⟨s.aa, s.an, fun b h => s.on b (cut_own s h), s.fr, s.im, s.tr, List.prefix_refl _⟩
theorem WF.cut (s : Step g H g' H') (w : WF g H) (w' : WF g' H') : WF (g'.cut g) H' :=
  ⟨w'.ta, fun b h => w'.ot b (cut_own s h), fun b h q => w'.ao b h (cut_own s q), w'.nf, w'.df, fun i b h q => w'.fm i b h (s.mu.subset q), w.nm⟩
theorem MR.cut (s : Step g H g' H') {m m' : List Cell} (hl : g.mu.length = m.length) (h : MR K T g' H' m') (n : (m'.take m.length).all nrC = true) : MR K T (g'.cut g) H' (m'.take m.length) := by
  obtain ⟨t, ht⟩ := s.mu
  have h2 := h.len
  rw [← ht, List.length_append] at h2
  refine ⟨?_, fun k c a h3 h4 => ?_⟩
  · show g.mu.length = _
    rw [List.length_take]
    omega
  · have hk : k < m.length := by
      have := (List.getElem?_eq_some_iff.mp h3).1
      rw [List.length_take] at this
      omega
    have nc : nrC c = true := List.all_eq_true.mp n c (List.mem_of_getElem? h3)
    rw [List.getElem?_take_of_lt hk] at h3
    refine nr_cell (g := g') (g' := g'.cut g) rfl nc (h.at_ k c a h3 ?_)
    have h4' : g.mu[k]? = some a := h4
    rw [← ht, List.getElem?_append_left (by omega)]
    exact h4'
theorem RpM.cut (s : Step g H g' H') {m : Mo} (hm : m = .sh ∨ m = .f1) {H0 : Hp} {d : D} {v : V} (n : nr d = true) (h : RpM K T g' H0 H' m d v) : RpM K T (g'.cut g) H0 H' m d v := by
  rcases hm with rfl | rfl
  · exact nr_rp (g := g') (g' := g'.cut g) rfl n h
  · cases d with
    | lst ds =>
      obtain ⟨a, vs, e, h1, h2, h3⟩ := h
      exact ⟨a, vs, e, h1, ⟨h2.1, fun q => h2.2.1 (cut_own s q), h2.2.2⟩, nr_rps (g := g') (g' := g'.cut g) rfl n h3⟩
    | _ => exact nr_rp (g := g') (g' := g'.cut g) rfl n h
theorem ExR.cut {e : Ex} {cls : Value} {dd : Option Addr} (n : nrE e = true) (h : ExR K T g' H' e cls dd) : ExR K T (g'.cut g) H' e cls dd := by
  cases e with
  | mk i fs =>
    obtain ⟨C, h1, h2, h3⟩ := h
    refine ⟨C, h1, h2, ?_⟩
    rcases h3 with h3 | ⟨ne, dx, vs, e1, e2, r, l⟩
    · exact .inl h3
    · exact .inr ⟨ne, dx, vs, e1, e2, nr_rps (g := g') (g' := g'.cut g) rfl n r, l⟩
theorem sp_trim {k : Nat} {rm : Mo} (hm : rm = .sh ∨ rm = .f1) {mf : MF} {vs : List V} {Q : VK} {E : XK} (h : spOf K T k rm (trimF mf) vs H Q E) : spOf K T k rm mf vs H Q E := by
  obtain ⟨ds, m, g, hl, wf, hfp, r, me, p⟩ := h
  refine ⟨ds, m, g, hl, wf, hfp, r, me, ?_⟩
  unfold trimF at p
  cases e : mf ds m with
  | ok d m' =>
    simp only [e] at p
    split at p
    case h_2 q => split at q <;> cases q
    case h_3 q => exact p.elim
    rename_i q
    split at q
    case isFalse => cases q
    rename_i hz
    rw [Bool.and_eq_true] at hz
    cases q
    intro v H' g' s w' hf' me' rv
    exact p v H' (g'.cut g) s.cut (WF.cut s wf w') hf' (me'.cut s me.len hz.2) (RpM.cut s hm hz.1 rv)
  | raise ex m' =>
    simp only [e] at p
    split at p
    case h_1 q => split at q <;> cases q
    case h_3 q => exact p.elim
    rename_i q
    split at q
    case isFalse => cases q
    rename_i hz
    rw [Bool.and_eq_true] at hz
    cases q
    intro cls dd H' g' s w' hf' me' x
    exact p cls dd H' (g'.cut g) s.cut (WF.cut s wf w') hf' (me'.cut s me.len hz.2) (ExR.cut hz.1 x)
  | stuck => simp only [e] at p
end
theorem Cal.trim {P : Program} {w : World} {K : PySem.W.Frag} {mg : Str → Option Value} {base : Heap} {T : Tb} {x : Str} {k n : Nat} {rm : Mo} {mf : MF} (C : Cal P w K mg base T x k n rm mf) (hm : rm = .sh ∨ rm = .f1 := by first | exact .inl rfl | exact .inr rfl) : Cal P w K mg base T x k n rm (trimF mf) := by
  obtain ⟨f, fd, ps, F, r⟩ := C.ex
  exact ⟨f, fd, ps, F.imp fun vs H Q E h => sp_trim hm h, r⟩
end DL
set_option linter.all false
set_option Elab.async false
set_option maxRecDepth 100000
namespace DL
open PySem PySem.Spec PyProof.Rows L2
/-! ### max(xs), min(xs) of ints, in a list or a tuple -/
def rMinT (K : PySem.W.Frag) : List V → Hp → VK → Prop := fun vs H Q => ∃ (a : Addr) (ns : List Int), vs = [V.ref a] ∧ SqT K H a (ns.map V.int) ∧ 0 < ns.length ∧ ∀ m, m ∈ ns → (∀ y, y ∈ ns → m ≤ y) → Q (.int m) H
theorem alike_ints (ns : List Int) : PySem.W.AlikeAll (ns.map PyData.int) := by
  refine ⟨fun x hx y hy => ?_, fun x hx => ?_⟩
  · obtain ⟨i, _, rfl⟩ := List.mem_map.1 hx
    obtain ⟨j, _, rfl⟩ := List.mem_map.1 hy
    rfl
  · obtain ⟨i, _, rfl⟩ := List.mem_map.1 hx
    exact PyData.noConfusion
theorem depth_ints : ∀ ns : List Int, PyData.depthAll (ns.map PyData.int) ≤ 1
  | [] => by simp [PyData.depthAll]
  | n :: ns => by
    have := depth_ints ns
    simp only [List.map_cons, PyData.depthAll, PyData.depth]
    omega
theorem fold_ge (n : Int) : ∀ (ns : List Int) (z : Int), ns.foldl min z ≤ z ∧ (∀ y ∈ ns, ns.foldl min z ≤ y) ∧ (ns.foldl min z = z ∨ ns.foldl min z ∈ ns)
  | [], z => ⟨Int.le_refl _, fun _ h => (List.not_mem_nil h).elim, Or.inl rfl⟩
  | a :: ns, z => by
    obtain ⟨h1, h2, h3⟩ := fold_ge n ns (min z a)
    simp only [List.foldl_cons]
    refine ⟨by omega, fun y hy => ?_, ?_⟩
    · rcases List.mem_cons.1 hy with rfl | hy
      · omega
      · exact h2 y hy
    · rcases h3 with h3 | h3
      · rw [h3]
        by_cases hz : z ≤ a
        · rw [Int.min_eq_left hz]; exact .inl rfl
        · rw [Int.min_eq_right (by omega)]; exact .inr List.mem_cons_self
      · exact .inr (List.mem_cons_of_mem _ h3)
section
variable {X : Cx}
theorem units_ok {X : Cx} (hu : X.A.units + 65 < cLine) (ns : List Int) : X.A.units + 1 + PyData.depthAll (ns.map PyData.int) < cLine := by
  have := depth_ints ns
  omega
theorem cr_minT (hc : X.calm = true) (hu : X.A.units + 65 < cLine) : CallR X (.builtin "min") (rMinT X.K) := by
  intro pins s σ H vs us Q I r h
  obtain ⟨a, ns, rfl, hs, hne, q⟩ := h
  obtain ⟨its, rv, hl, _⟩ := I.tuple hs
  rw [Vals.ref1 r]
  have hr := rv.ints.reads s.heap
  cases ns with
  | nil => cases hne
  | cons n ns =>
    refine PySem.W.min_tuple_data (I.ok.hd hc) hl (by simpa using hr) (alike_ints (n :: ns)) (units_ok hu (n :: ns)) fun i v h' tk bs hv hrd hk => ?_
    rw [PySem.W.minD_ints] at hrd
    cases hrd
    have hm := fold_ge 0 ns n
    exact ⟨.int _, H, I.kept hk, ⟨_, rfl⟩, q _ (by rcases hm.2.2 with z | z; rw [z]; exact List.mem_cons_self; exact List.mem_cons_of_mem _ z) fun y hy => by
      rcases List.mem_cons.1 hy with rfl | hy
      · exact hm.1
      · exact hm.2.1 y hy⟩
end
/-- ints only -/
def intsOf : List D → Option (List Int)
  | [] => some []
  | .int i :: r => (intsOf r).map (i :: ·)
  | _ :: _ => none
theorem ints_of {K : PySem.W.Frag} {T : Tb} {g : Gh} {H : Hp} : ∀ {ds : List D} {vs : List V} {ns : List Int}, Rps K T g H ds vs → intsOf ds = some ns → vs = ns.map V.int
  | [], vs, ns, h, e => by
    simp only [Rps] at h
    cases e
    exact h
  | d :: ds, vs, ns, h, e => by
    simp only [Rps] at h
    obtain ⟨v, r, e1, h1, h2⟩ := h
    cases d with
    | int b =>
      simp only [intsOf] at e
      cases q : intsOf ds with
      | none => rw [q] at e; cases e
      | some l =>
        rw [q] at e
        cases e
        simp only [Rp] at h1
        rw [e1, h1, ints_of h2 q]
        rfl
    | _ => cases e
def minF (n : Int) (ns : List Int) : Int := ns.foldl (fun a b => if ltB b a then b else a) n
theorem minF_top (n : Int) (ns : List Int) {m : Int} (h1 : m ∈ n :: ns) (h2 : ∀ y ∈ n :: ns, m ≤ y) : minF n ns = m := by
  have e : minF n ns = ns.foldl min n := by
    unfold minF
    congr 1
    funext a b
    rw [ltB_eq]
    by_cases h : b < a
    · rw [if_pos (by simpa using h), Int.min_eq_right (by omega)]
    · rw [if_neg (by simpa using h), Int.min_eq_left (by omega)]
  obtain ⟨a, b, c⟩ := fold_ge 0 ns n
  rw [e]
  have z1 : m ≤ ns.foldl min n := by
    rcases c with c | c
    · rw [c]; exact h2 _ List.mem_cons_self
    · exact h2 _ (List.mem_cons_of_mem _ c)
  rcases List.mem_cons.1 h1 with rfl | h1
  · omega
  · have := b m h1
    omega
def min1D : D → S → R D
  | .lst xs, s => (match intsOf xs with
    | some (n :: ns) => .ok (.int (minF n ns)) s
    | _ => .stuck)
  | .tup xs, s => (match intsOf xs with
    | some (n :: ns) => .ok (.int (minF n ns)) s
    | _ => .stuck)
  | _, _ => .stuck
section
variable {X : Cx} {T : Tb}
theorem bi_min1 (hu : X.A.units + 65 < cLine) (hc : X.calm = true) : Bi1 X T (.builtin "min") .b1 .sh min1D := by
  refine ⟨_, (cr_min (X := X) hc).or (cr_minT hc hu), fun Γ g σ H st W Q x d H0 I r p => ?_⟩
  unfold min1D at p
  split at p
  · split at p
    · rename_i n ns e
      obtain ⟨ad, vs, e1, h1, _, h2⟩ := b_lst r
      subst e1
      rw [ints_of h2 e] at h1
      exact .inl ⟨ad, n :: ns, rfl, .inl (.inl h1), Nat.zero_lt_succ _, fun m h3 h4 => by rw [← minF_top n ns h3 h4]; exact post_v I p rm_int⟩
    · exact p.elim
  · split at p
    · rename_i n ns e
      obtain ⟨ad, vs, e1, h1, h2⟩ := b_tup r
      subst e1
      rw [ints_of h2 e] at h1
      exact .inr ⟨ad, n :: ns, rfl, h1, Nat.zero_lt_succ _, fun m h3 h4 => by rw [← minF_top n ns h3 h4]; exact post_v I p rm_int⟩
    · exact p.elim
  · exact p.elim
end
end DL
set_option linter.all false
set_option Elab.async false
set_option maxRecDepth 100000
namespace DL
open PySem PySem.Spec PyProof.Rows L2
/-! ### lists held as cells -/
/-- a fresh list becomes a cell -/
def eCell (f : S → R D) : S → R D := fun st => (f st).bind fun d s => match d with
  | .lst xs => .ok (.ref s.m.length) { s with m := s.m ++ [.lst xs] }
  | _ => .stuck
section
variable {T : Tb} {X : Cx} {Γ Γ' : Fls} {F : Fx} {nx lp : Fls} {rm : Mo} {e a b c o : Expr} {m m1 m2 m3 : Mo} {f f1 f2 f3 fo : S → R D} {pos p2 pos' apos cpos : Pos} {es : List Expr} {fs : S → R (List D)}
theorem je_cell (he : JE T X Γ e .f1 f) : JE T X Γ e .sh (eCell f) := by
  refine ⟨fun W tk => PE.imp (he.run W tk) fun σ H Q ⟨g, st, I, p⟩ => ⟨g, st, I, ?_⟩⟩
  unfold eCell at p
  cases e : f st with
  | raise ex s1 => rw [e] at p; exact p
  | stuck => rw [e] at p; exact p
  | ok d s1 =>
    rw [e] at p
    intro v H1 g1 q1 I1 r1
    cases d with
    | lst ds =>
      obtain ⟨a, vs, ev, h1, h2, h3⟩ := r1
      subst ev
      exact p _ H1 (g1.more a) ⟨q1.toStep.more h2.2.2, q1.qf, q1.qo⟩ (I1.more h1 rfl h2.1 h2.2.1 ⟨vs, h1, h3.sub .more⟩) (ref_more I1)
    | _ => exact p.elim
/-- o[k] = e, o a cell -/
def sSetR (fo fk fe : S → R D) : S → RS := fun s => (fe s).then fun d s1 => (fo s1).then fun o s2 => match o with
  | .ref n => (fk s2).then fun k s3 => (match mLst s3 n, k with
    | some xs, .int k => (match ixN xs.length k with
      | some j => .next { s3 with m := s3.m.set n (.lst (xs.set j d)) }
      | none => .stuck)
    | _, _ => .stuck)
  | _ => .stuck
theorem js_setR {kx : Expr} {fk : S → R D} (he : JE T X Γ e .sh f) (ho : JE T X Γ o .sh fo) (hk : JE T X Γ kx .b1 fk)
    (ha : ∀ v, assign (.Subscript o kx pos') X.env v = (do
      let ov ← holding [v] (eval o X.env)
      let iv ← holding [v, ov] (eval kx X.env)
      standAt pos'
      holding [v, ov, iv] (setItem ov iv v)
      release [v, ov, iv] []) := by intro _; rfl)
    (hs : swapsWithSole [.Subscript o kx pos'] e pos.line X.env = pure false := by rfl) (hw : swappedStores [.Subscript o kx pos'] e X.env = pure none := by rfl)
    (h1 : (assignEach [.Subscript o kx pos'] X.env).map (·.2) = [assign (.Subscript o kx pos') X.env] := by rfl) : JS T X Γ ⟨Γ, lp, rm⟩ (.Assign [.Subscript o kx pos'] e pos) (sSetR fo fk f) := by
  refine ⟨fun W tk => PS.imp (ps_asg (he.run W tk) (pg_sub (ho.run W tk) (hk.run W tk) set_list ha) hs hw h1) fun E σ H ⟨B, g, st, I, p⟩ => ?_⟩
  unfold sSetR at p
  refine te_then I.toSR p fun d s1 x H1 g1 q1 I1 r1 p1 => te_then I1 p1 fun o s2 y H2 g2 q2 I2 r2 p2 => ?_
  cases o with
  | ref n =>
    simp only [RpM, Rp] at r2
    obtain ⟨ad, ev, ha⟩ := r2
    refine te_then I2 p2 fun k s3 z H3 g3 q3 I3 r3 p3 => ?_
    subst ev
    have ha2 : g3.mu[n]? = some ad := by
      obtain ⟨tl, ht⟩ := q3.mu
      rw [← ht, List.getElem?_append_left (List.getElem?_eq_some_iff.mp ha).1]
      exact ha
    cases em : mLst s3 n with
    | none => rw [em] at p3; exact p3.elim
    | some xs =>
      rw [em] at p3
      obtain ⟨vs, h3', h4'⟩ := mcell I3 em ha2
      cases k with
      | int k =>
        simp only at p3
        split at p3
        · rename_i j ej
          obtain ⟨st2, I4⟩ := I3.cell ha2 ⟨vs, h3'⟩ (h4'.set j (Rp.step I2.wf q3.toStep (Rp.step I1.wf q2.toStep r1)))
          exact ⟨ad, vs, k, j, rfl, b_int r3, h3', by rw [h4'.length]; exact ej, p3 σ _ g3 st2 I4⟩
        · exact p3.elim
      | _ => exact p3.elim
  | _ => exact p2.elim
/-- o[k] = a value that is there; then on -/
def putK (fo fk : S → R D) (d : D) (k : S → RS) : S → RS := fun s1 => (fo s1).then fun o s2 => match o with
  | .ref n => (fk s2).then fun i s3 => (match mLst s3 n, i with
    | some xs, .int i => (match ixN xs.length i with
      | some j => k { s3 with m := s3.m.set n (.lst (xs.set j d)) }
      | none => .stuck)
    | _, _ => .stuck)
  | _ => .stuck
theorem put_of {K : PySem.W.Frag} {B : Bs} {E : Ends} {W : WX} {g : Gh} {H : Hp} {σ : L2.St} {st : S} {fk : S → R D} {d : D} {v : V} {k : S → RS} {Q : L2.St → Hp → Prop} (I : SR K T Γ g σ H st) (r : Rp K T g H d v) (p : PostS K T F B g H W E (putK fo fk d k st))
    (hk : ∀ g' H' st', Step g H g' H' → SR K T Γ g' σ H' st' → PostS K T F B g' H' W E (k st') → Q σ H') : gSub (te K T Γ .sh W fo) (te K T Γ .b1 W fk) rSetL v σ H Q := by
  unfold putK at p
  refine te_then I p fun o s2 y H2 g2 q2 I2 r2 p2 => ?_
  cases o with
  | ref n =>
    simp only [RpM, Rp] at r2
    obtain ⟨ad, ev, ha⟩ := r2
    refine te_then I2 p2 fun k s3 z H3 g3 q3 I3 r3 p3 => ?_
    subst ev
    have ha2 : g3.mu[n]? = some ad := by
      obtain ⟨tl, ht⟩ := q3.mu
      rw [← ht, List.getElem?_append_left (List.getElem?_eq_some_iff.mp ha).1]
      exact ha
    cases em : mLst s3 n with
    | none => rw [em] at p3; exact p3.elim
    | some xs =>
      rw [em] at p3
      obtain ⟨vs, h3', h4'⟩ := mcell I3 em ha2
      cases k with
      | int k =>
        simp only at p3
        split at p3
        · rename_i j ej
          obtain ⟨st2, I4⟩ := I3.cell ha2 ⟨vs, h3'⟩ (h4'.set j (Rp.step I2.wf q3.toStep (Rp.step I.wf q2.toStep r)))
          exact ⟨ad, vs, k, j, rfl, b_int r3, h3', by rw [h4'.length]; exact ej, hk g3 _ _ ((q2.toStep.trans q3.toStep).trans st2) I4 (p3.shift st2)⟩
        · exact p3.elim
      | _ => exact p3.elim
  | _ => exact p2.elim
/-- o[k], o'[k'] = a, b -/
def sSetR2 (fo fk fo2 fk2 fa fb : S → R D) : S → RS := fun s => (eTup (aCons fa (aCons fb aNil)) s).then fun d s1 => match d with
  | .tup [d1, d2] => putK fo fk d1 (putK fo2 fk2 d2 .next) s1
  | _ => .stuck
theorem js_setR2 {kx kx2 o2 : Expr} {fk fo2 fk2 fa fb : S → R D} {pos1 pos3 tpos vpos : Pos} {kt kv : Nat} (hc : X.calm = true) (ha' : JE T X Γ a .sh fa) (hb' : JE T X Γ b .sh fb) (ho : JE T X Γ o .sh fo) (hk : JE T X Γ kx .b1 fk) (ho2 : JE T X Γ o2 .sh fo2) (hk2 : JE T X Γ kx2 .b1 fk2)
    (ha : ∀ v, assign (.Subscript o kx pos1) X.env v = (do
      let ov ← holding [v] (eval o X.env)
      let iv ← holding [v, ov] (eval kx X.env)
      standAt pos1
      holding [v, ov, iv] (setItem ov iv v)
      release [v, ov, iv] []) := by intro _; rfl)
    (hb : ∀ v, assign (.Subscript o2 kx2 pos3) X.env v = (do
      let ov ← holding [v] (eval o2 X.env)
      let iv ← holding [v, ov] (eval kx2 X.env)
      standAt pos3
      holding [v, ov, iv] (setItem ov iv v)
      release [v, ov, iv] []) := by intro _; rfl)
    (h2 : (assignEach [.Subscript o kx pos1, .Subscript o2 kx2 pos3] X.env).map (·.2) = assign (.Subscript o kx pos1) X.env :: (assignEach [.Subscript o2 kx2 pos3] X.env).map (·.2) := by rfl)
    (h3 : (assignEach [.Subscript o2 kx2 pos3] X.env).map (·.2) = assign (.Subscript o2 kx2 pos3) X.env :: (assignEach [] X.env).map (·.2) := by rfl)
    (hn : (assignEach [.Subscript o kx pos1, .Subscript o2 kx2 pos3] X.env).length = 2 := by rfl) (hst : (assignEach [.Subscript o kx pos1, .Subscript o2 kx2 pos3] X.env).findIdx? (·.1) = none := by rfl)
    (hs : swapsWithSole [.Tuple [.Subscript o kx pos1, .Subscript o2 kx2 pos3] kt tpos] (.Tuple [a, b] kv vpos) pos.line X.env = pure false := by rfl) (hw : swappedStores [.Tuple [.Subscript o kx pos1, .Subscript o2 kx2 pos3] kt tpos] (.Tuple [a, b] kv vpos) X.env = pure none := by rfl)
    (h1 : (assignEach [.Tuple [.Subscript o kx pos1, .Subscript o2 kx2 pos3] kt tpos] X.env).map (·.2) = [assign (.Tuple [.Subscript o kx pos1, .Subscript o2 kx2 pos3] kt tpos) X.env] := by rfl)
    (hs1 : starEach [a, b] X.env = (false, eval a X.env) :: starEach [b] X.env := by rfl) (hs2 : starEach [b] X.env = (false, eval b X.env) :: starEach [] X.env := by rfl) :
    JS T X Γ ⟨Γ, lp, rm⟩ (.Assign [.Tuple [.Subscript o kx pos1, .Subscript o2 kx2 pos3] kt tpos] (.Tuple [a, b] kv vpos) pos) (sSetR2 fo fk fo2 fk2 fa fb) := by
  have ht : JE T X Γ (.Tuple [a, b] kv vpos) .sh (eTup (aCons fa (aCons fb aNil))) := je_tup (ja_cons ha' (ja_cons hb' ja_nil hs2) hs1)
  refine ⟨fun W tk => PS.imp (ps_asg (ht.run W tk) (pg_tup (n := 2) hc (pgs_cons (pg_sub (ho.run W tk) (hk.run W tk) set_list ha) (pgs_cons (pg_sub (ho2.run W tk) (hk2.run W tk) set_list hb) pgs_nil h3) h2) hn hst) hs hw h1) fun E σ H ⟨B, g, st, I, p⟩ => ?_⟩
  unfold sSetR2 at p
  refine te_then I.toSR p fun d s1 x H1 g1 q1 I1 r1 p1 => ?_
  split at p1
  · rename_i d1 d2
    simp only [RpM, Rp, Rps] at r1
    obtain ⟨ad, vs, ev, hq, v1, r1', e1, rp1, v2, r2', e2, rp2, e3⟩ := r1
    subst e3 e2 e1
    refine ⟨ad, [v1, v2], ev, hq, rfl, v1, [v2], rfl, put_of I1 rp1 p1 fun g' H' st' s' I' p' => ⟨v2, [], rfl, put_of I' (rp2.step I1.wf s') p' fun g2 H2 st2 s2 I2 p2 => ⟨rfl, ?_⟩⟩⟩
    exact p2 σ H2 g2 (.refl g2 H2) I2
  · exact p1.elim
/-! ### names.index(place), of ints -/
/-! ### pool.pop(k), pool a cell -/
def ePop (fo f : S → R D) : S → R D := fun st => (fo st).bind fun d s => match d with
  | .ref n => (match mLst s n with
    | some _ => (f s).bind fun k s2 => (match k, mLst s2 n with
      | .int k, some xs => (match (if xs.length ≤ sizeLine then ixN xs.length k else none) with
        | some j => (match xs[j]? with
          | some d => .ok d { s2 with m := s2.m.set n (.lst (xs.eraseIdx j)) }
          | none => .stuck)
        | none => .stuck)
      | _, _ => .stuck)
    | none => .stuck)
  | _ => .stuck
theorem Rps.erase {K : PySem.W.Frag} {g : Gh} {H : Hp} : ∀ {ds : List D} {vs : List V} (j : Nat), Rps K T g H ds vs → Rps K T g H (ds.eraseIdx j) (vs.eraseIdx j)
  | [], vs, j, h => by
    simp only [Rps] at h
    subst h
    simpa using Rps.nil
  | d :: ds, vs, 0, h => by
    simp only [Rps] at h
    obtain ⟨v, r, e1, h1, h2⟩ := h
    subst e1
    exact h2
  | d :: ds, vs, j + 1, h => by
    simp only [Rps] at h
    obtain ⟨v, r, e1, h1, h2⟩ := h
    subst e1
    exact Rps.cons h1 (Rps.erase j h2)
theorem je_popM {o e : Expr} (ho : JE T X Γ o .sh fo) (he : JE T X Γ e .b1 f)
    (hb : ∀ {to te : TE}, PE X o to → PE X e te → PE X (.Call (.Attribute o "pop" apos) [e] [] cpos) (tBM X.K "list" rPopAt to (tCons te tNil)) := by
      exact fun h1 h2 => pe_bm PySem.F.plainAttrs_list PySem.F.slot_list_pop PySem.F.type_list_pop mt_popAt h1 (pa_cons h2 pa_nil)) :
    JE T X Γ (.Call (.Attribute o "pop" apos) [e] [] cpos) .sh (ePop fo f) := by
  refine ⟨fun W tk => PE.imp (hb (ho.run W tk) (he.run W tk)) fun σ H Q ⟨g, st, I, p⟩ => ?_⟩
  refine te_bind ipE I p fun d1 s1 x H1 g1 q1 I1 r1 p1 => ?_
  cases d1 with
  | ref n =>
    simp only [RpM, Rp] at r1
    obtain ⟨ad, ev, ha⟩ := r1
    subst ev
    cases em : mLst s1 n with
    | none => simp only [em] at p1; exact p1.elim
    | some xs0 =>
      simp only [em] at p1
      obtain ⟨vs0, h1, h2⟩ := mcell I1 em ha
      refine ⟨.inl ⟨rfl, vs0, .inl (.inl h1)⟩, ?_⟩
      refine te_bind ipE I1 p1 fun k s2 y H2 g2 q2 I2 r2 p2 => ?_
      have ha2 : g2.mu[n]? = some ad := by
        obtain ⟨tl, ht⟩ := q2.mu
        rw [← ht, List.getElem?_append_left (List.getElem?_eq_some_iff.mp ha).1]
        exact ha
      split at p2
      · rename_i k' xs exs
        obtain ⟨vs, h3, h4⟩ := mcell I2 exs ha2
        split at p2
        · rename_i j ej0
          have ej : ixN xs.length k' = some j ∧ xs.length ≤ sizeLine := by
            split at ej0
            · exact ⟨ej0, by assumption⟩
            · cases ej0
          obtain ⟨ej, hsz⟩ := ej
          rw [sizeLine_eq] at hsz
          split at p2
          · rename_i d ed
            obtain ⟨v, hv, rv⟩ := h4.get ed
            obtain ⟨st2, I3⟩ := I2.cell ha2 ⟨vs, h3⟩ (h4.erase j)
            obtain ⟨z1, z2, z3, z4⟩ := ixN_seq ej
            have hm : ad ∈ g2.mu := List.mem_of_getElem? ha2
            refine ⟨ad, vs, k', j, v, rfl, by rw [b_int r2], h3, by omega, by omega, by rw [h4.length]; exact z1, hv, ?_⟩
            exact p2 v _ g2 ⟨st2, rfl, fun i b hb => by rw [upd_ne fun z => I2.wf.fm i b hb (by rw [z]; exact hm)]⟩ I3 (rv.step I2.wf st2)
          · exact p2.elim
        · exact p2.elim
      · exact p2.elim
  | _ => exact p1.elim
/-! ### list(range(n)) -/
def lrgD : D → S → R D
  | .int n, s => if n.natAbs ≤ 16777216 then .ok (.lst (rngL 0 n.toNat)) s else .stuck
  | _, _ => .stuck
theorem je_listRg {p p2' rpos : Pos} (hc : X.calm = true) (hg : Gl X "list") (hm : X.mg "list" = none) (hg2 : Gl X "range") (hm2 : X.mg "range" = none) (he : JE T X Γ e .b1 f)
    (na : starEach [.Call (.Name "range" p2') [e] [] rpos] X.env = (false, eval (.Call (.Name "range" p2') [e] [] rpos) X.env) :: starEach [] X.env := by rfl) (nb : starEach [e] X.env = (false, eval e X.env) :: starEach [] X.env := by rfl) :
    JE T X Γ (.Call (.Name "list" p) [.Call (.Name "range" p2') [e] [] rpos] [] pos) .f1 (e1 lrgD f) := by
  refine ⟨fun W tk => PE.imp (pe_listRg hc hg hm (prg_1 hg2 hm2 (he.run W tk) nb) na) fun σ H Q ⟨g, st, I, p⟩ => ?_⟩
  refine te_bind ipE I p fun d1 s1 x H1 g1 q1 I1 r1 p1 => ?_
  unfold lrgD at p1
  split at p1
  · rename_i n
    split at p1
    · rename_i hz
      refine ⟨n, b_int r1, ⟨by omega, by omega, by omega, by omega, by omega⟩, fun q hq => ?_⟩
      have e1 : rgV 0 n = ((List.range n.toNat).map fun (i : Nat) => (0 : Int) + (i : Int)).map V.int := by
        unfold rgV
        rw [List.map_map, Int.sub_zero]
        rfl
      have e2 : rngL 0 n.toNat = ((List.range n.toNat).map fun (i : Nat) => (0 : Int) + (i : Int)).map D.int := by
        unfold rngL
        rw [List.map_map]
        rfl
      rw [e1]
      rw [e2] at p1
      exact post_lst I1 (Rps.ints _) hq p1
    · exact p1.elim
  · exact p1.elim
/-! ### sorted(xs), of ints -/
def insF (n : Int) : List Int → List Int
  | [] => [n]
  | k :: l => if ltB k n then k :: insF n l else n :: k :: l
def isort : List Int → List Int
  | [] => []
  | n :: l => insF n (isort l)
theorem insF_perm (n : Int) : ∀ l : List Int, (insF n l).Perm (n :: l)
  | [] => .refl _
  | k :: l => by
    rw [insF]
    split
    · exact ((insF_perm n l).cons k).trans (.swap n k l)
    · exact .refl _
theorem isort_perm : ∀ l : List Int, (isort l).Perm l
  | [] => .refl _
  | n :: l => (insF_perm n (isort l)).trans ((isort_perm l).cons n)
theorem insF_sorted (n : Int) : ∀ l : List Int, l.Pairwise (· ≤ ·) → (insF n l).Pairwise (· ≤ ·)
  | [], _ => by simp [insF]
  | k :: l, h => by
    rw [insF]
    rw [List.pairwise_cons] at h
    split
    · rename_i hk
      rw [ltB_eq] at hk
      have hk' : k < n := by simpa using hk
      rw [List.pairwise_cons]
      refine ⟨fun x hx => ?_, insF_sorted n l h.2⟩
      rcases List.mem_cons.1 ((insF_perm n l).mem_iff.1 hx) with rfl | hx
      · omega
      · exact h.1 x hx
    · rename_i hk
      rw [ltB_eq] at hk
      have hk' : ¬ k < n := by simpa using hk
      rw [List.pairwise_cons, List.pairwise_cons]
      refine ⟨fun x hx => ?_, h⟩
      rcases List.mem_cons.1 hx with rfl | hx
      · omega
      · have := h.1 x hx
        omega
theorem isort_sorted : ∀ l : List Int, (isort l).Pairwise (· ≤ ·)
  | [] => List.Pairwise.nil
  | n :: l => insF_sorted n _ (isort_sorted l)
theorem sorted_uniq : ∀ {l l' : List Int}, l.Perm l' → l.Pairwise (· ≤ ·) → l'.Pairwise (· ≤ ·) → l = l'
  | [], l', h, _, _ => (List.Perm.nil_eq h)
  | a :: l, [], h, _, _ => absurd h.length_eq (by simp)
  | a :: l, b :: l', h, s, s' => by
    rw [List.pairwise_cons] at s s'
    have h1 : a ∈ b :: l' := h.mem_iff.1 List.mem_cons_self
    have h2 : b ∈ a :: l := h.mem_iff.2 List.mem_cons_self
    have e : a = b := by
      rcases List.mem_cons.1 h1 with e | h1
      · exact e
      · rcases List.mem_cons.1 h2 with e | h2
        · exact e.symm
        · have := s.1 b h2
          have := s'.1 a h1
          omega
    subst e
    rw [sorted_uniq (List.Perm.cons_inv h) s.2 s'.2]
/-! ### tuple(x), list(x), x a cell -/
theorem post_tupC {K : PySem.W.Frag} {g : Gh} {H : Hp} {σ : L2.St} {st : S} {W : WX} {Q : VK} {n : Nat} {xs : List D} {x : V} (I : SR K T Γ g σ H st) (r : Rp K T g H (.ref n) x) (em : mLst st n = some xs) : ∃ ad vs, x = .ref ad ∧ SqL K H ad vs ∧ Rps K T g H xs vs := by
  simp only [Rp] at r
  obtain ⟨ad, ev, ha⟩ := r
  obtain ⟨vs, h1, h2⟩ := mcell I em ha
  exact ⟨ad, vs, ev, .inl (.inl h1), h2⟩
def tupleC : D → S → R D
  | .ref n, s => (match mLst s n with
    | some xs => .ok (.tup xs) s
    | none => .stuck)
  | d, s => tupleD d s
theorem bi_tupleC : Bi1 X T (.type "tuple") .b1 .sh tupleC := by
  obtain ⟨r0, h0, k0⟩ := (bi_tuple (X := X) (T := T)).ex
  refine ⟨_, h0.or (call_tuple_of (X := X)), fun Γ g σ H st W Q x d H0 I r p => ?_⟩
  unfold tupleC at p
  split at p
  · split at p
    · rename_i n xs em
      obtain ⟨ad, vs, e1, h1, h2⟩ := post_tupC (W := W) (Q := Q) I r em
      subst e1
      exact .inr ⟨ad, vs, rfl, .inl ⟨h1, fun l hl => post_tup I h2 hl p⟩⟩
    · exact p.elim
  · exact .inl (k0 Γ g σ H st W Q x d H0 I r p)
def listC : D → S → R D
  | .ref n, s => (match mLst s n with
    | some xs => .ok (.lst xs) s
    | none => .stuck)
  | d, s => listD d s
theorem bi_listC : Bi1 X T (.type "list") .b1 .f1 listC := by
  obtain ⟨r0, h0, k0⟩ := (bi_list (X := X) (T := T)).ex
  refine ⟨_, h0.or (call_list_of (X := X)), fun Γ g σ H st W Q x d H0 I r p => ?_⟩
  unfold listC at p
  split at p
  · split at p
    · rename_i n xs em
      obtain ⟨ad, vs, e1, h1, h2⟩ := post_tupC (W := W) (Q := Q) I r em
      subst e1
      exact .inr ⟨ad, vs, rfl, .inl h1, fun l hl => post_lst I h2 hl p⟩
    · exact p.elim
  · exact .inl (k0 Γ g σ H st W Q x d H0 I r p)
def lenC : D → S → R D
  | .ref n, s => (match mLst s n with
    | some xs => .ok (.int xs.length) s
    | none => .stuck)
  | d, s => lenD d s
theorem bi_lenC : Bi1 X T (.builtin "len") .b1 .sh lenC := by
  obtain ⟨r0, h0, k0⟩ := (bi_len (X := X) (T := T)).ex
  refine ⟨_, h0.or (call_len_seq (X := X)), fun Γ g σ H st W Q x d H0 I r p => ?_⟩
  unfold lenC at p
  split at p
  · split at p
    · rename_i n xs em
      obtain ⟨ad, vs, e1, h1, h2⟩ := post_tupC (W := W) (Q := Q) I r em
      subst e1
      exact .inr ⟨ad, vs, rfl, .inl h1, by rw [h2.length]; exact post_v I p rm_int⟩
    · exact p.elim
  · exact .inl (k0 Γ g σ H st W Q x d H0 I r p)
end
end DL
set_option linter.all false
set_option Elab.async false
set_option maxRecDepth 100000
namespace DL
open PySem PySem.Spec PyProof.Rows L2
/-! ### x, y, z = a, b, c with fresh lists -/
end DL
set_option linter.all false
set_option Elab.async false
set_option maxRecDepth 100000
namespace DL
open PySem PySem.Spec PyProof.Rows L2
/-! ### // of wider numbers: no division by _pylong where what is divided is short enough -/
end DL
set_option linter.all false
set_option Elab.async false
set_option maxRecDepth 100000
set_option maxHeartbeats 4000000
namespace DL
open PySem PySem.Spec PyProof.Rows L2
/-! ### a tuple times 1 is that tuple -/
end DL
set_option linter.all false
set_option Elab.async false
set_option maxRecDepth 100000
namespace DL
open PySem PySem.Spec PyProof.Rows L2
/-! ### // of numbers of any width: the long division has its room -/
structure SeerP (P : Program) (base : Heap) : Prop where
  ns : base.NoSeer
  tree : P.given.tree = none
/-! ### the end, with the seer's facts of the base -/
section
theorem look_app {K E : PySem.W.Frag} (a : Addr) : List.lookup a (K ++ E) = (K.lookup a).or (E.lookup a) := by
  induction K with
  | nil => simp
  | cons p r ih =>
    obtain ⟨b, o⟩ := p
    simp only [List.cons_append, List.lookup]
    split
    · simp
    · exact ih
theorem ns_at {h h' : Heap} {a : Addr} {m : Str → Option Value} {o : Obj} (x : h.Ns a m) (e : h.get? a = some o) (e' : h'.get? a = some o) : h'.Ns a m := by
  obtain ⟨o2, es, ep, e2, r⟩ := x
  have : o2 = o := Option.some.inj (e2.symm.trans e)
  subst this
  exact ⟨_, es, ep, e', r⟩
theorem ns_obj {h : Heap} {a : Addr} {m : Str → Option Value} (x : h.Ns a m) : ∃ o es ep, h.get? a = some o ∧ o.data = .dict es ep := by
  obtain ⟨o, es, ep, e, d, _⟩ := x
  exact ⟨o, es, ep, e, d⟩
theorem walk_ofS {l : PySem.W.OpenLaw} {n k : Nat} {q : Program} {loose : List Str} {XP : (Str → Option Value) → Heap → Prop} {YP : World → Heap → Prop} {d : DefRec} {K : Params → PySem.W.Frag} {x : Str}
    (hn : l.most = some n) (hn2 : n ≤ sizeLine) (h63 : n ≤ 63) (hdf : d.params.defaults = []) (hr : Room k callerA) (hi : importsNone q = true) (ht : l.prog.given.tree = none)
    (hY : ∀ (w : World) (h : Heap), YP w h → (K w.params).In h)
    (F : ∀ (w : World) (mg : Str → Option Value) (fa : Addr) (h : Heap), (K w.params).In h → h.Ns mainGlobals mg → mg d.name = some (.ref fa) →
      ∃ fd : FuncData, (∀ (s : Shared) (u : Value), BindsTo s fd ⟨[u], []⟩ [(x, u)]) ∧
        ∀ base : Heap, (K w.params).In base → base.Ns mainGlobals mg → SeerP l.prog base → FnOk l.prog w (K w.params) mg base (L2.CX l.prog w) k fa fd [x] (spLaw (K w.params))) :
    PySem.W.WalkO q loose XP YP l.row.toRowW d [] (fun f vs => PySem.call f vs) := by
  refine Att.attach_callB hn hdf fun w s₀ s₁ mg mb fa o pm cd doc a vs ns G Y ho hd hcd hmg hobj hints hlen hbits hg => ?_
  have KX := hY w _ Y
  obtain ⟨fd, hb, hF⟩ := F w mg fa _ KX G.T.g hmg
  have NS := G.T.seer hi
  obtain ⟨mc, nc, c1, c2⟩ := NS.statics
  obtain ⟨mm, nm, m1⟩ := NS.mods
  obtain ⟨mb', nb, b0⟩ := NS.imp
  obtain ⟨bm, ob, g1, _, g2, g3, g4, g5⟩ := G.T.bmain
  obtain ⟨oc, esc, epc, ec, dc⟩ := ns_obj nc
  obtain ⟨om, esm, epm, em, dm⟩ := ns_obj nm
  obtain ⟨obl, esb, epb, eb, db⟩ := ns_obj nb
  obtain ⟨E, hE⟩ : ∃ E : PySem.W.Frag, E = [(cStatics, oc), (sysModules, om), (builtinsNs, obl), (bm, ob)] := ⟨_, rfl⟩
  have hEin : ∀ b u, E.lookup b = some u → s₁.heap.get? b = some u ∧ ∀ its n, u.data ≠ .seq its n := fun b u e => by
    rw [hE] at e
    simp only [List.lookup] at e
    split at e
    · rename_i z
      cases e
      exact ⟨by rw [beq_iff_eq.mp z]; exact ec, fun its n e => by rw [dc] at e; cases e⟩
    · split at e
      · rename_i z
        cases e
        exact ⟨by rw [beq_iff_eq.mp z]; exact em, fun its n e => by rw [dm] at e; cases e⟩
      · split at e
        · rename_i z
          cases e
          exact ⟨by rw [beq_iff_eq.mp z]; exact eb, fun its n e => by rw [db] at e; cases e⟩
        · split at e
          · rename_i z
            cases e
            exact ⟨by rw [beq_iff_eq.mp z]; exact g2, fun its n e => by rw [g5] at e; cases e⟩
          · cases e
  have KX' : PySem.W.Frag.In (K w.params ++ E) s₁.heap := fun b u e => by
    rw [look_app] at e
    cases hk : (K w.params).lookup b with
    | some u' =>
      rw [hk] at e
      cases e
      exact KX _ _ hk
    | none =>
      rw [hk] at e
      exact (hEin b u (by simpa using e)).1
  have hat : ∀ (b : Addr) (u : Obj), s₁.heap.get? b = some u → (E.lookup b).isSome = true → ∀ base : Heap, PySem.W.Frag.In (K w.params ++ E) base → base.get? b = some u := fun b u e hs base hin => by
    obtain ⟨u', hu'⟩ : ∃ u', (K w.params ++ E).lookup b = some u' := by
      rw [look_app]
      cases hk : (K w.params).lookup b with
      | some v => exact ⟨v, rfl⟩
      | none =>
        obtain ⟨v, hv⟩ := Option.isSome_iff_exists.mp hs
        exact ⟨v, by rw [hv]; rfl⟩
    have h1 := KX' _ _ hu'
    rw [e] at h1
    cases h1
    exact hin _ _ hu'
  have kin : ∀ base : Heap, PySem.W.Frag.In (K w.params ++ E) base → (K w.params).In base := fun base hin b u e => hin b u (by rw [look_app, e]; rfl)
  have seer : ∀ base : Heap, PySem.W.Frag.In (K w.params ++ E) base → base.Ns mainGlobals mg → SeerP l.prog base := fun base hin hmgb => by
    refine ⟨⟨⟨mc, ns_at nc ec (hat _ _ ec (by rw [hE]; simp [List.lookup]) base hin), c1, c2⟩, ⟨mm, ns_at nm em (hat _ _ em (by rw [hE]; simp only [List.lookup]; split <;> simp) base hin), m1⟩,
      ⟨mb', ns_at nb eb (hat _ _ eb (by rw [hE]; simp only [List.lookup]; split <;> (try split) <;> simp) base hin), b0⟩, ⟨mg, bm, ob, hmgb, g1, hat _ _ g2 (by rw [hE]; simp only [List.lookup]; split <;> (try split) <;> (try split) <;> simp) base hin, g3, g4⟩⟩, ht⟩
  have hsq : ∀ (H : Hp) (b : Addr) (zs : List V), SqL (K w.params ++ E) H b zs → SqL (K w.params) H b zs := fun H b zs h => by
    rcases h with h | ⟨u, its, n, e, h1, h2, h3, h4⟩
    · exact .inl h
    · rw [look_app] at e
      cases hk : (K w.params).lookup b with
      | some v =>
        rw [hk] at e
        cases e
        exact .inr ⟨_, its, n, hk, h1, h2, h3, h4⟩
      | none =>
        rw [hk] at e
        exact absurd h3 ((hEin b u (by simpa using e)).2 its n)
  have hsp : ∀ vs H Q X, spLaw (K w.params ++ E) vs H Q X → spLaw (K w.params) vs H Q X := fun vs H Q X h => by
    obtain ⟨a, ns, h1, h2, h3⟩ := h
    exact ⟨a, ns, h1, hsq _ _ _ h2, h3⟩
  refine law_call (K := K w.params ++ E) KX' G.T.g G.T.b G.T.builtins G.T.nolimit hg hobj hints (Nat.le_trans hlen hn2) hr (sp := spLaw (K w.params ++ E)) (CX := L2.CX l.prog w) (fun base hin hmgb => ?_) hb (fun H hO hS => ⟨a, ns, rfl, hS, Nat.le_trans hlen h63, hbits, fun _ => rfl⟩) fun H e s' => cx_none
  have f := hF base (kin base hin) hmgb (seer base hin hmgb)
  exact ⟨fun vs H Q X h => f.len vs H Q X (hsp _ _ _ _ h), fun A outer s H args us vs Q X hr he hb hv hs => f.run A outer s H args us vs Q X hr ⟨he.frames, ⟨kin base he.mod.kin, he.mod.glob, he.mod.blt, he.mod.nolimit⟩, he.bs, he.bsz, he.funs, he.frf, he.hok, he.bare⟩ hb hv (hsp _ _ _ _ hs)⟩
end
end DL
set_option linter.all false
set_option maxRecDepth 100000
/-! sorted of a tuple of ints -/
namespace DL
open PySem PySem.Spec PyProof.Rows L2
end DL
set_option linter.all false
set_option maxRecDepth 100000
/-! texts -/
namespace DL
open PySem PySem.Spec PyProof.Rows L2
section
variable {T : Tb} {X : Cx} {Γ Γ' : Fls} {e o : Expr} {f fo : S → R D} {pos p2 apos cpos : Pos}
/-! ### str(n), int(s) -/
def intSD : D → S → R D
  | .str a, s => (match PySem.intText? a with
    | some n => if a.length ≤ 640 then .ok (.int n) s else .stuck
    | none => .stuck)
  | _, _ => .stuck
theorem bi_intS : Bi1 X T (.type "int") .b1 .sh intSD := by
  refine ⟨_, call_int_str (X := X), fun Γ g σ H st W Q x d H0 I r p => ?_⟩
  unfold intSD at p
  split at p
  · split at p
    · rename_i n hn
      split at p
      · rename_i hz
        exact ⟨_, n, by rw [b_str r], hn, hz, post_v I p rm_int⟩
      · exact p.elim
    · exact p.elim
  · exact p.elim
/-! ### a sign in a text -/
/-! ### s[a:b] -/
def slSD : D → Option Int → Option Int → S → R D
  | .str z, lo, hi, s => if z.length ≤ sizeLine then .ok (.str (cutS z lo hi)) s else .stuck
  | _, _, _, _ => .stuck
def eSlS (f : S → R D) (fl fh : S → R (Option Int)) : S → R D := fun st => (f st).bind fun d s => (fl s).bind fun i s2 => (fh s2).bind fun j s3 => slSD d i j s3
theorem je_slS {lo hi : Option Expr} {fl fh : S → R (Option Int)} (ha : JE T X Γ e .b1 f) (hl : JO T X Γ lo fl) (hh : JO T X Γ hi fh) : JE T X Γ (.Subscript e (.Slice lo hi none p2) pos) .sh (eSlS f fl fh) := by
  refine ⟨fun W tk => PE.imp (pe_slice (sl_str (X := X)) (ha.run W tk) (hl.run W tk) (hh.run W tk)) fun σ H Q ⟨g, st, I, p⟩ => ?_⟩
  refine te_bind ipE I p fun d s1 x H1 g1 q1 I1 r1 p1 => to_bind ipE I1 p1 fun i s2 H2 g2 q2 I2 p2 => to_bind ipE I2 p2 fun j s3 H3 g3 q3 I3 p3 => ?_
  have r3 := (r1.step I1.wf I2.wf q2).step I2.wf I3.wf q3
  unfold slSD at p3
  split at p3
  · split at p3
    · rename_i hz
      exact ⟨_, b_str r3, hz, post_v I3 p3 rm_str⟩
    · exact p3.elim
  · exact p3.elim
/-! ### sep.join(xs), s.split(sep), s.index(t) -/
/-! ### for c in s -/
/-! ### s * k -/
/-! ### f-strings of three parts -/
/-! ### s.split(sep, k) -/
/-! ### o.append(e), o a cell that an expression gives -/
end
end DL
set_option linter.all false
set_option Elab.async false
set_option maxRecDepth 100000
set_option maxHeartbeats 4000000
namespace DL
open PySem PySem.Spec PySem.Calls PyProof.Rows L2
/-! ### an exception class whose __init__ is: super().__init__(x); self.f = x -/
/-! ### making it: C(a) -/
/-! ### raise C(a) -/
end DL
set_option linter.all false
set_option Elab.async false
set_option maxRecDepth 100000
set_option maxHeartbeats 4000000
namespace DL
open PySem PySem.Spec PySem.Calls PyProof.Rows L2
open PySem.W (KitX InstAt Looks findObj looks_findIn looks_find looks_subIn)
/-! ### isinstance of a caught error that has a dict -/
/-! ### except C as n: c = [txt, n.f, isinstance(n, t)] -/
/-! ### makers of facts -/
end DL
set_option linter.all false
set_option Elab.async false
set_option maxRecDepth 100000
set_option maxHeartbeats 4000000
namespace DL
open PySem PySem.Spec PySem.Calls PyProof.Rows L2
/-! ### statements never come to -/
/-! ### own.remove(e), of ints -/
/-! ### tuple(range(n)): a tuple that has no dict -/
/-! ### facts of an exception with its own __init__ -/
end DL
set_option linter.all false
set_option Elab.async false
set_option maxRecDepth 100000
set_option maxHeartbeats 4000000
namespace DL
open PySem PySem.Spec PyProof.Rows L2
/-! ### comprehensions that walk over an own list: nothing writes into it meanwhile -/
structure WlkQ (K : PySem.W.Frag) (T : Tb) (g : Gh) (H : Hp) (J : It) (ds : List D) : Prop where
  go : ∀ i d g' H', QStep g H g' H' → WF g' H' → ds[i]? = some d → J.go i H'
  stop : ∀ g' H', QStep g H g' H' → WF g' H' → J.stop ds.length H'
  yld : ∀ i d g' H' x H'', QStep g H g' H' → WF g' H' → ds[i]? = some d → J.yld i H' x H'' → (H'' = H' ∧ Rp K T g' H' d x) ∨ (∃ p vs, H' p = none ∧ H'' = upd H' p (.tup vs) ∧ Rp K T g' H'' d x)
def PostIQ (K : PySem.W.Frag) (T : Tb) (Γ : Fls) (σ : L2.St) (g : Gh) (H : Hp) (W : WX) (Q : It → Hp → Prop) : R (List D) → Prop
  | .ok ds st => ∀ J H' g', QStep g H g' H' → SR K T Γ g' σ H' st → WlkQ K T g' H' J ds → Q J H'
  | .raise e st => PostX K T σ g H W e st
  | .stuck => False
def tiQ (K : PySem.W.Frag) (T : Tb) (Γ : Fls) (W : WX) (f : S → R (List D)) : TI := fun σ H R => ∃ g st, SR K T Γ g σ H st ∧ PostIQ K T Γ σ g H W R (f st)
structure JIQ (T : Tb) (X : Cx) (Γ : Fls) (tg e : Expr) (f : S → R (List D)) : Prop where
  run : ∀ W, Takes X W → PI X tg e (tiQ X.K T Γ W f)
theorem wlkQ_l {K : PySem.W.Frag} {T : Tb} {g : Gh} {H : Hp} {a : Addr} {vs : List V} {ds : List D} (wf : WF g H) (h : ∀ g' H', QStep g H g' H' → SqL K H' a vs) (r : Rps K T g H ds vs) : WlkQ K T g H (Itl K a) ds where
  go := fun i d g' H' s w e => by
    obtain ⟨v, q, _⟩ := r.get e
    exact ⟨vs, v, h g' H' s, q⟩
  stop := fun g' H' s w => ⟨vs, h g' H' s, by rw [r.length]; exact Nat.le_refl _⟩
  yld := fun i d g' H' x H'' s w e y => by
    obtain ⟨v, q, rv⟩ := r.get e
    obtain ⟨e1, y⟩ := y
    have := (y vs (h g' H' s)).symm.trans q
    cases this
    exact .inl ⟨e1, Rp.step wf s.toStep rv⟩
section
variable {T : Tb} {X : Cx} {Γ : Fls}
theorem ji_own (i : Nat) {tg : Expr} {x : Str} {pos : Pos} (hN : X.N[i]? = some x := by rfl) (hv : Vis X.env.scope x := by first | exact Or.inl rfl | exact Or.inr (Or.inl rfl) | exact Or.inr (Or.inr rfl)) (hd : (x == ("__debug__" : Str)) = false := by decide)
    (hcd : (x == ("__classdict__" : Str)) = false := by decide) (hf : fl Γ i = .o1 := by rfl) : JIQ T X Γ tg (.Name x pos) (i1 seqI (eVar i)) := by
  refine ⟨fun W tk => PI.imp (pi_seq (pe_var hN hv hd hcd)) fun σ H R ⟨g, st, I, p⟩ => ?_⟩
  unfold i1 eVar at p
  cases e : st.r.getD i none with
  | none =>
    rw [e] at p
    exact p.elim
  | some d =>
    rw [e] at p
    obtain ⟨v, h1, h2⟩ := I.slot e
    rw [hf] at h2
    obtain ⟨ad, vs, ds, e1, e2, e3, h3, h4⟩ := h2
    subst e1 e2
    refine ⟨_, h1, ad, rfl, .inl ⟨⟨vs, .inl (.inl h3)⟩, p _ H g (.refl g H) I (wlkQ_l I.wf (fun g' H' s => .inl (.inl ?_)) h4)⟩⟩
    rw [s.qo i ad (by rw [e3]; exact List.mem_cons_self)]
    exact h3
end
section
variable {T : Tb} {X : Cx} {Γ : Fls} {e a b c tg elt iter : Expr} {m m1 m2 m3 : Mo} {f f1 f2 f3 fe : S → R D} {pos p2 : Pos} {es rest ifs : List Expr} {k1 k2 ct : S → R Bool} {fs fi : S → R (List D)} {is : List Nat} {t : Tg}
theorem lcQ_inv {own : List (Str × Nat)} {W : WX} (tk : Takes X W) (hown : own.map (·.2) = t.vs) (hf : ∀ i ∈ t.vs, fl Γ i = .sh)
    {σ : L2.St} {H1 : Hp} {g1 : Gh} {ds : List D} {s1 : S} {J : It} {ys : List D} {mf : List Cell} (I1 : SR X.K T Γ g1 σ H1 s1) (wl : WlkQ X.K T g1 H1 J ds) (hz : ds.length ≤ sizeLine)
    (e : lcL t ct fe s1.r ds s1.m = some (ys, mf)) {Q : VK} (q : PostE X.K T Γ σ g1 H1 .f1 W Q (.ok (.lst ys) ⟨s1.r, mf⟩)) (Dd : Addr) (hD : H1 Dd = none) :
    ∃ Wi : Nat → Nat → Hp → Prop, (∃ m, Wi 0 m (upd H1 Dd (.lst []))) ∧ ∀ i m H, Wi i m H →
      (J.stop i H ∧ Q (.ref Dd) H) ∨ (J.go i H ∧ ∃ Nx : Hp → Prop, (∀ H', Nx H' → ∃ m', m' < m ∧ Wi (i + 1) m' H') ∧ ∀ x H', J.yld i H x H' → tgR X.K T t x (wipe σ (own.map (·.2))) H' fun σ2 H2 => wipe σ2 (own.map (·.2)) = wipe σ (own.map (·.2)) ∧ tt X.K T Γ (fun _ _ _ _ => False) ct σ2 H2 fun b H3 =>
        if b = true then te X.K T Γ .sh (fun _ _ _ _ => False) fe σ2 H3 fun y H4 => ∃ acc, H4 Dd = some (.lst acc) ∧ acc.length < sizeLine ∧ Nx (upd H4 Dd (.lst (acc ++ [y]))) else Nx H3) := by
  rw [hown]
  let Inv : Nat → Hp → Prop := fun i H => ∃ g mc acc vs rs, QStep g1 H1 g H ∧ SR X.K T Γ g σ H ⟨s1.r, mc⟩ ∧ Tmp g H Dd ∧ H Dd = some (.lst vs) ∧ Rps X.K T g H acc vs ∧ acc.length ≤ i ∧ lcL t ct fe s1.r (ds.drop i) mc = some (rs, mf) ∧ acc ++ rs = ys
  refine ⟨fun i m H => i ≤ ds.length ∧ m = ds.length - i ∧ Inv i H, ⟨ds.length, Nat.zero_le _, by simp, ?_⟩, ?_⟩
  · refine ⟨g1, s1.m, [], [], ys, ⟨.new hD, rfl, fun i b hb => ?_⟩, I1.new hD, ⟨⟨[], upd_same⟩, I1.wf.nota hD, I1.wf.noto hD⟩, upd_same, Rps.nil, Nat.le_refl _, by rw [List.drop_zero]; exact e, rfl⟩
    obtain ⟨o, eo, _⟩ := I1.wf.ot b (.inl ⟨i, hb⟩)
    rw [upd_ne (ne_of_none eo hD)]
  · rintro i m H ⟨hi, rfl, g, mc, acc, vs, rs, s, I, tm, eD, ra, hl, el, ey⟩
    by_cases hlt : i < ds.length
    · -- a turn
      have ed : ds.drop i = ds[i] :: ds.drop (i + 1) := (List.drop_eq_getElem_cons hlt)
      have eg : ds[i]? = some ds[i] := List.getElem?_eq_getElem hlt
      refine .inr ⟨wl.go i _ g H s I.wf eg, Inv (i + 1), fun H' h' => ⟨ds.length - (i + 1), by omega, hlt, rfl, h'⟩, fun x H' y => ?_⟩
      rw [ed] at el
      unfold lcL at el
      -- the item has come
      have hy : ∃ sH : QStep g1 H1 g H', SR X.K T Γ g σ H' ⟨s1.r, mc⟩ ∧ Tmp g H' Dd ∧ H' Dd = some (.lst vs) ∧ Rps X.K T g H' acc vs ∧ Rp X.K T g H' ds[i] x := by
        rcases wl.yld i _ g H x H' s I.wf eg y with ⟨e1, r⟩ | ⟨p, ws, hp, e1, r⟩
        · subst e1
          exact ⟨s, I, tm, eD, ra, r⟩
        · subst e1
          have st2 : Step g H g (upd H p (.tup ws)) := .new hp
          exact ⟨s.trans ⟨st2, rfl, fun i b hb => by
            obtain ⟨o, eo, _⟩ := I.wf.ot b (.inl ⟨i, hb⟩)
            rw [upd_ne (ne_of_none eo hp)]⟩, I.new hp, tm.step st2, by rw [upd_ne (ne_of_none eD hp)]; exact eD, ra.step I.wf st2, r⟩
      obtain ⟨s', I', tm', eD', ra', rx⟩ := hy
      cases ea : asgD t ds[i] ⟨wipeD s1.r t.vs, mc⟩ with
      | none => rw [ea] at el; cases el
      | some s2 =>
        rw [ea] at el
        simp only at el
        refine tgR_of (I'.wipe hf) rx hf ea fun σ2 I2 hw => ⟨?_, ?_⟩
        · rw [hw t.vs fun _ h => h, wipe_wipe σ t.vs t.vs fun _ h => h]
        · refine ⟨g, s2, I2, ?_⟩
          cases ec : ct s2 with
          | raise _ _ => rw [ec] at el; cases el
          | stuck => rw [ec] at el; cases el
          | ok b s3 =>
            rw [ec] at el
            intro H3 g3 q3 I3
            cases b with
            | false =>
              simp only at el
              rw [if_neg Bool.false_ne_true]
              have eD3 := q3.fr _ _ eD' tm'.no
              exact ⟨g3, s3.m, acc, vs, rs, s'.trans q3, I'.re (q3.toStep.sub I'.wf) I3.wf q3.qf q3.qo I3.me, tm'.step q3.toStep, eD3, ra'.step I'.wf q3.toStep, Nat.le_succ_of_le hl, el, ey⟩
            | true =>
              simp only at el
              rw [if_pos rfl]
              refine ⟨g3, s3, I3, ?_⟩
              cases ef : fe s3 with
              | raise _ _ => rw [ef] at el; cases el
              | stuck => rw [ef] at el; cases el
              | ok yd s4 =>
                rw [ef] at el
                simp only at el
                cases er : lcL t ct fe s1.r (ds.drop (i + 1)) s4.m with
                | none => rw [er] at el; cases el
                | some pr =>
                  rw [er] at el
                  obtain ⟨ys', m'⟩ := pr
                  simp only [Option.some.injEq, Prod.mk.injEq] at el
                  obtain ⟨el1, el2⟩ := el
                  subst el1 el2
                  intro v H4 g4 q4 I4 rv
                  have q34 := q3.trans q4
                  have eD4 := q34.fr _ _ eD' tm'.no
                  have tm4 := tm'.step q34.toStep
                  have ra4 := ra'.step I'.wf q34.toStep
                  refine ⟨vs, eD4, by rw [ra'.length]; omega, ?_⟩
                  refine ⟨g4, s4.m, acc ++ [yd], vs ++ [v], ys', tm4.q hD (s'.trans q34) I1.wf, tm4.sr (I'.re (q34.toStep.sub I'.wf) I4.wf q34.qf q34.qo I4.me), ⟨⟨_, upd_same⟩, tm4.na, tm4.no⟩, upd_same, (ra4.append (.one rv)).sub tm4.sub, by rw [List.length_append]; simp; omega, er, by rw [List.append_assoc]; exact ey⟩
    · have hi' : i = ds.length := by omega
      subst hi'
      refine .inl ⟨wl.stop g H s I.wf, ?_⟩
      rw [List.drop_length] at el
      simp only [lcL, Option.some.injEq, Prod.mk.injEq] at el
      obtain ⟨e1, e2⟩ := el
      subst e1 e2
      rw [List.append_nil] at ey
      subst ey
      exact q _ H g s I ⟨Dd, vs, rfl, eD, ⟨tm.na, tm.no, hD⟩, ra⟩
theorem je_lcQ {scope : Scope} (own : List (Str × Nat)) (hc : X.calm = true) (hN : X.N.Nodup) (hi : JIQ T X Γ tg iter fi) (ok : BlkOk X.N X.env.scope scope own)
    (hg : ∀ (s : Shared) (H : Hp) (C : Addr) (cl : List (Str × Addr)) (fp : List Addr), JG T (X.blk s H scope (compEnvC scope cl C X.env) fp) tg t) (ht : ∀ (s : Shared) (H : Hp) (C : Addr) (cl : List (Str × Addr)) (fp : List Addr), JTs T (X.blk s H scope (compEnvC scope cl C X.env) fp) Γ ifs ct)
    (he : ∀ (s : Shared) (H : Hp) (C : Addr) (cl : List (Str × Addr)) (fp : List Addr), JE T (X.blk s H scope (compEnvC scope cl C X.env) fp) Γ elt .sh fe) (hown : own.map (·.2) = t.vs := by rfl) (hf : ∀ i ∈ t.vs, fl Γ i = .sh := by decide) (hs : ∀ x, foldedSetIterable iter X.env x = pure x := by intro _; rfl) :
    JE T X Γ (.ListComp elt [⟨tg, iter, ifs, 0⟩] scope pos) .f1 (eLc fi t ct fe) := by
  refine ⟨fun W tk => PE.imp (pe_lc (g := tgR X.K T t) (tt := tt X.K T Γ (fun _ _ _ _ => False) ct) (te := te X.K T Γ .sh (fun _ _ _ _ => False) fe) hc hN (hi.run W tk) ok (fun s H C cl fp => (hg s H C cl fp).run) (fun s H C cl fp => (ht s H C cl fp).run _ takes0) (fun s H C cl fp => (he s H C cl fp).run _ takes0) hs) fun σ H Q ⟨g, st, I, p⟩ => ?_⟩
  refine ⟨g, st, I, ?_⟩
  unfold eLc at p
  cases e : fi st with
  | raise _ _ => rw [e] at p; exact p
  | stuck => rw [e] at p; exact p
  | ok ds s1 =>
    rw [e] at p
    intro J H1 g1 q1 I1 wl Dd hD
    simp only [R.bind] at p
    split at p
    · split at p
      · rename_i ys mf el
        exact lcQ_inv tk hown hf I1 wl (by assumption) el (p.shift q1) Dd hD
      · exact p.elim
    · exact p.elim
end
end DL
set_option linter.all false
set_option Elab.async false
set_option maxRecDepth 100000
set_option maxHeartbeats 2000000
namespace DL
open PySem PySem.Spec PyProof.Rows L2
/-! ### join of a cell -/
end DL
set_option linter.all false
set_option Elab.async false
set_option maxRecDepth 100000
set_option maxHeartbeats 4000000
namespace DL
open PySem PySem.Spec PyProof.Rows L2
/-! ### comprehensions with two fors -/
/-! inner walks that look at no heap -/
def WlkA (K : PySem.W.Frag) (T : Tb) (J : It) (ds : List D) : Prop := ∀ g H, Wlk K T g H J ds
def PostIA (K : PySem.W.Frag) (T : Tb) (Γ : Fls) (σ : L2.St) (g : Gh) (H : Hp) (W : WX) (Q : It → Hp → Prop) : R (List D) → Prop
  | .ok ds st => ∀ J H' g', QStep g H g' H' → SR K T Γ g' σ H' st → WlkA K T J ds → Q J H'
  | .raise e st => PostX K T σ g H W e st
  | .stuck => False
theorem PostIA.shift {K : PySem.W.Frag} {T : Tb} {Γ : Fls} {σ : L2.St} {g g' : Gh} {H H' : Hp} {W : WX} {Q : It → Hp → Prop} {r : R (List D)} (s : QStep g H g' H') (h : PostIA K T Γ σ g H W Q r) : PostIA K T Γ σ g' H' W Q r := by
  cases r with
  | ok d st => exact fun J H2 g2 s2 r2 p => h J H2 g2 (s.trans s2) r2 p
  | raise e st => exact PostX.shift s.toStep h
  | stuck => exact h
end DL
set_option linter.all false
set_option Elab.async false
set_option maxRecDepth 100000
set_option maxHeartbeats 4000000
namespace DL
open PySem PySem.Spec PySem.Calls PyProof.Rows L2
/-! ### two roads for one expression -/
section
variable {T : Tb} {X : Cx} {Γ : Fls} {e o a : Expr} {m : Mo} {f f1 f2 F fo : S → R D} {pos apos cpos p2 : Pos}
theorem JE.or (h1 : JE T X Γ e m f1) (h2 : JE T X Γ e m f2) (h : ∀ st, F st = f1 st ∨ F st = f2 st) : JE T X Γ e m F :=
  ⟨fun W tk => ⟨fun pins s σ H Q I ⟨g, st, I', p⟩ => (h st).elim (fun z => (h1.run W tk).run pins s σ H Q I ⟨g, st, I', z ▸ p⟩) fun z => (h2.run W tk).run pins s σ H Q I ⟨g, st, I', z ▸ p⟩⟩⟩
end
/-! ### a slice of a tuple, not the whole: a new tuple without a dict -/
/-! ### len(set(x)), of ints -/
def ddF (ns : List Int) : List Int := ns.foldl (fun σ k => if σ.any (fun x => x == k) then σ else σ ++ [k]) []
theorem ddF_aux : ∀ (ns σ : List Int), σ.Nodup → (ns.foldl (fun σ k => if σ.any (fun x => x == k) then σ else σ ++ [k]) σ).Nodup ∧ ∀ x, x ∈ ns.foldl (fun σ k => if σ.any (fun x => x == k) then σ else σ ++ [k]) σ ↔ x ∈ σ ∨ x ∈ ns
  | [], σ, h => ⟨h, fun x => by simp⟩
  | n :: ns, σ, h => by
    rw [List.foldl_cons]
    by_cases hn : σ.any (fun x => x == n) = true
    · rw [if_pos hn]
      have hm : n ∈ σ := by
        obtain ⟨x, hx, e⟩ := List.any_eq_true.mp hn
        rw [← beq_iff_eq.mp e]
        exact hx
      obtain ⟨h1, h2⟩ := ddF_aux ns σ h
      refine ⟨h1, fun x => ?_⟩
      rw [h2 x, List.mem_cons]
      constructor
      · rintro (z | z)
        · exact .inl z
        · exact .inr (.inr z)
      · rintro (z | z | z)
        · exact .inl z
        · exact .inl (z ▸ hm)
        · exact .inr z
    · rw [if_neg hn]
      have hm : n ∉ σ := fun z => hn (List.any_eq_true.mpr ⟨n, z, by simp⟩)
      obtain ⟨h1, h2⟩ := ddF_aux ns (σ ++ [n]) (by
        rw [List.nodup_append]
        refine ⟨h, by simp, fun a ha b hb => ?_⟩
        rw [List.mem_singleton] at hb
        rw [hb]
        exact fun z => hm (z ▸ ha))
      refine ⟨h1, fun x => ?_⟩
      rw [h2 x, List.mem_append, List.mem_singleton, List.mem_cons, or_assoc]
theorem ddF_nodup (ns : List Int) : (ddF ns).Nodup := (ddF_aux ns [] .nil).1
theorem ddF_mem (ns : List Int) (x : Int) : x ∈ ddF ns ↔ x ∈ ns := by
  have := (ddF_aux ns [] .nil).2 x
  simpa [ddF] using this
end DL
set_option linter.all false
set_option Elab.async false
set_option maxRecDepth 100000
set_option maxHeartbeats 4000000
namespace DL
open PySem PySem.Spec PySem.Calls PyProof.Rows L2
/-! ### x = own.pop() -/
def sPop (i : Nat) (t : Tg) : S → RS := fun s => match s.r.getD i none with
  | some (.lst xs) => (match xs[xs.length - 1]? with
    | some d => (match asgD t d { s with r := s.r.set i (some (.lst xs.dropLast)) } with
      | some s' => .next s'
      | none => .stuck)
    | none => .stuck)
  | _ => .stuck
theorem rps_dropLast {K : PySem.W.Frag} {T : Tb} {g : Gh} {H : Hp} {ds : List D} {vs : List V} (h : Rps K T g H ds vs) : Rps K T g H ds.dropLast vs.dropLast := by
  rw [List.dropLast_eq_take, List.dropLast_eq_take, h.length]
  exact h.take _
section
variable {T : Tb} {X : Cx} {Γ : Fls} {tg : Expr} {t : Tg} {pos pos' : Pos} {lp : Fls} {rm : Mo}
theorem js_popT (i : Nat) {x : Str} {p' ap : Pos} (hg : JG T X tg t) (hΓ : ∀ i ∈ t.vs, fl Γ i = .sh := by decide) (hN : X.N[i]? = some x := by rfl) (hv : Vis X.env.scope x := by first | exact Or.inl rfl | exact Or.inr (Or.inl rfl) | exact Or.inr (Or.inr rfl)) (hf : fl Γ i = .o1 := by rfl)
    (hd : (x == ("__debug__" : Str)) = false := by decide) (hcd : (x == ("__classdict__" : Str)) = false := by decide)
    (hb : PE X (.Call (.Attribute (.Name x p') "pop" ap) [] [] pos') (tBM0 X.K "list" rPop (tVar i)) := by
      exact pe_bm0 PySem.F.plainAttrs_list PySem.F.slot_list_pop PySem.F.type_list_pop mt_pop (pv _))
    (hs : swapsWithSole [tg] (.Call (.Attribute (.Name x p') "pop" ap) [] [] pos') pos.line X.env = pure false := by rfl) (hw : swappedStores [tg] (.Call (.Attribute (.Name x p') "pop" ap) [] [] pos') X.env = pure none := by rfl)
    (h1 : (assignEach [tg] X.env).map (·.2) = [assign tg X.env] := by rfl) : JS T X Γ ⟨Γ, lp, rm⟩ (.Assign [tg] (.Call (.Attribute (.Name x p') "pop" ap) [] [] pos') pos) (sPop i t) := by
  refine ⟨fun W tk => PS.imp (ps_asg hb hg.run hs hw h1) fun E σ H ⟨B, g, st, I, p⟩ => ?_⟩
  unfold sPop at p
  cases e0 : st.r.getD i none with
  | none => rw [e0] at p; exact p.elim
  | some d0 =>
    rw [e0] at p
    obtain ⟨ad, vs, ds, e1, h1, h1', h2, h3, h4⟩ := I.getO hf e0
    subst e1
    simp only at p
    cases e2 : ds[ds.length - 1]? with
    | none => rw [e2] at p; exact p.elim
    | some d =>
      rw [e2] at p
      obtain ⟨v, hv', rv⟩ := h4.get e2
      simp only at p
      cases ea : asgD t d { st with r := st.r.set i (some (.lst ds.dropLast)) } with
      | none => rw [ea] at p; exact p.elim
      | some s' =>
        rw [ea] at p
        obtain ⟨st2, I2⟩ := I.toSR.own1 hf h2 h1' ⟨vs, h3⟩ (rps_dropLast h4)
        refine ⟨_, h1, .inl ⟨rfl, _, .inl (.inl h3)⟩, ad, vs, v, rfl, rfl, h3, by rw [h4.length]; exact hv', ?_⟩
        exact tgR_of I2 (rv.step I.wf st2) hΓ ea fun σ' I3 _ => p _ _ g st2 I3
end
end DL
set_option linter.all false
set_option Elab.async false
set_option maxRecDepth 100000
set_option maxHeartbeats 4000000
namespace DL
open PySem PySem.Spec PySem.Calls PyProof.Rows L2
/-! ### d[k], own = v, [..] -/
end DL
set_option linter.all false
set_option Elab.async false
set_option maxRecDepth 100000
set_option maxHeartbeats 4000000
namespace DL
open PySem PySem.Spec PySem.Calls PyProof.Rows L2
/-! ### sorted(set(xs)), of tuples of ints of any lengths -/
/-! its meaning -/
end DL
set_option linter.all false
set_option Elab.async false
set_option maxRecDepth 100000
set_option maxHeartbeats 4000000
namespace DL
open PySem PySem.Spec PySem.Calls PyProof.Rows L2
/-! ### sorted(xs), min(xs) of data that are alike (tuples of tuples .. of ints) -/
/-! meaning -/
end DL
set_option linter.all false
set_option Elab.async false
set_option maxRecDepth 100000
namespace DL
open PySem PySem.Spec PySem.Calls PyProof.Rows L2
/-! ### t + (e,): a new tuple without a dict -/
/-! ### tuples without a dict read as any, at every depth -/
/-! ### x = [.. for .. for ..] on one line -/
end DL
set_option linter.all false
set_option Elab.async false
set_option maxRecDepth 100000
set_option maxHeartbeats 4000000
namespace DL
open PySem PySem.Spec PyProof.Rows L2
/-! ### dicts whose keys are tuples (of tuples) of whole numbers -/
mutual
def NkV (K : PySem.W.Frag) (H : Hp) : NestedKey → V → Prop
  | .num i, v => v = .int i
  | .tup ks, v => ∃ a vs, v = .ref a ∧ SqT K H a vs ∧ NkVs K H ks vs
  | .none, _ => False
  | .text _, _ => False
def NkVs (K : PySem.W.Frag) (H : Hp) : List NestedKey → List V → Prop
  | [], vs => vs = []
  | k :: ks, vs => ∃ v r, vs = v :: r ∧ NkV K H k v ∧ NkVs K H ks r
end
section
variable {K : PySem.W.Frag} {T : Tb} {g g' : Gh} {H H' : Hp}
mutual
theorem nk_of : ∀ (d : D) (v : V) (k : NestedKey), nkD d = some k → Rp K T g H d v → NkV K H k v
  | .int i, v, k, e, r => by
    simp only [nkD, Option.some.injEq] at e
    subst e
    simp only [Rp] at r
    simp only [NkV]
    exact r
  | .tup ds, v, k, e, r => by
    simp only [nkD] at e
    cases e2 : nkDs ds with
    | none => rw [e2] at e; cases e
    | some ks =>
      rw [e2] at e
      cases e
      simp only [Rp] at r
      obtain ⟨a, vs, ev, q, r⟩ := r
      simp only [NkV]
      exact ⟨a, vs, ev, q, nks_of ds vs ks e2 r⟩
  | .pt ds, v, k, e, r => by
    simp only [nkD] at e
    cases e2 : nkDs ds with
    | none => rw [e2] at e; cases e
    | some ks =>
      rw [e2] at e
      cases e
      simp only [Rp] at r
      obtain ⟨a, vs, o, ev, q, _, r⟩ := r
      simp only [NkV]
      exact ⟨a, vs, ev, .inl (.inr ⟨o, q⟩), nks_of ds vs ks e2 r⟩
  | .non, _, _, e, _ => by simp [nkD] at e
  | .bl _, _, _, e, _ => by simp [nkD] at e
  | .str _, _, _, e, _ => by simp [nkD] at e
  | .lst _, _, _, e, _ => by simp [nkD] at e
  | .fn _, _, _, e, _ => by simp [nkD] at e
  | .ref _, _, _, e, _ => by simp [nkD] at e
  | .scr _, _, _, e, _ => by simp [nkD] at e
theorem nks_of : ∀ (ds : List D) (vs : List V) (ks : List NestedKey), nkDs ds = some ks → Rps K T g H ds vs → NkVs K H ks vs
  | [], vs, ks, e, r => by
    simp only [nkDs, Option.some.injEq] at e
    subst e
    simp only [Rps] at r
    simp only [NkVs]
    exact r
  | d :: ds, vs, ks, e, r => by
    simp only [nkDs] at e
    cases e1 : nkD d with
    | none => rw [e1] at e; cases e
    | some k =>
      cases e2 : nkDs ds with
      | none => rw [e1, e2] at e; cases e
      | some kr =>
        rw [e1, e2] at e
        cases e
        simp only [Rps] at r
        obtain ⟨v, rr, ev, h1, h2⟩ := r
        simp only [NkVs]
        exact ⟨v, rr, ev, nk_of d v k e1 h1, nks_of ds rr kr e2 h2⟩
end
mutual
theorem hash_nk (w w' : World) : ∀ (k : NestedKey) (v : V), NkV K H k v → k.hash w = k.hash w'
  | .num i, _, _ => by simp only [NestedKey.hash]
  | .tup ks, v, h => by
    simp only [NkV] at h
    obtain ⟨a, vs, _, _, h⟩ := h
    simp only [NestedKey.hash]
    rw [hash_nks w w' ks vs h]
  | .none, _, h => by simp only [NkV] at h
  | .text _, _, h => by simp only [NkV] at h
theorem hash_nks (w w' : World) : ∀ (ks : List NestedKey) (vs : List V), NkVs K H ks vs → NestedKey.hashes w ks = NestedKey.hashes w' ks
  | [], _, _ => by simp only [NestedKey.hashes]
  | k :: ks, vs, h => by
    simp only [NkVs] at h
    obtain ⟨v, r, _, h1, h2⟩ := h
    simp only [NestedKey.hashes]
    rw [hash_nk w w' k v h1, hash_nks w w' ks r h2]
end
mutual
theorem nk_is {X : Cx} {pins : List (Addr × Obj)} {σ : L2.St} {s : Shared} (I : L2.Inv X pins σ H s) : ∀ (k : NestedKey) (v : V) (u : Value), NkV X.K H k v → RelV v u → NestedIs s.heap k u
  | .num i, v, u, h, r => by
    simp only [NkV] at h
    subst h
    obtain ⟨t, rfl⟩ := r
    exact .int i t
  | .tup ks, v, u, h, r => by
    simp only [NkV] at h
    obtain ⟨a, vs, rfl, q, h⟩ := h
    obtain rfl : u = Value.ref a := r
    obtain ⟨its, rv, ⟨o, ho, hc, n, hd⟩, _⟩ := I.tuple q
    exact .tup ho hc hd (by simpa using nks_is I ks vs its h rv)
  | .none, _, _, h, _ => by simp only [NkV] at h
  | .text _, _, _, h, _ => by simp only [NkV] at h
theorem nks_is {X : Cx} {pins : List (Addr × Obj)} {σ : L2.St} {s : Shared} (I : L2.Inv X pins σ H s) : ∀ (ks : List NestedKey) (vs : List V) (us : List Value), NkVs X.K H ks vs → Vals vs us → NestedAll s.heap ks us
  | [], vs, us, h, r => by
    simp only [NkVs] at h
    subst h
    cases r
    exact .nil
  | k :: ks, vs, us, h, r => by
    simp only [NkVs] at h
    obtain ⟨v, rr, rfl, h1, h2⟩ := h
    cases r with
    | cons r1 r2 => exact .cons (nk_is I k v _ h1 r1) (nks_is I ks rr _ h2 r2)
end
/-- the dict at a: keys with their tuples, values -/
structure DitH (K : PySem.W.Frag) (H : Hp) (a : Addr) (xs : List (NestedKey × Addr × Value)) : Prop where
  ext : H a = some (.ext (RawN a xs))
  lo : (a == sysModules) = false
  nd : (xs.map (·.1)).Nodup
  dp : ∀ x ∈ xs, x.1.depth ≤ 8
  ks : ∀ x ∈ xs, NkV K H x.1 (.ref x.2.1)
theorem DitH.at {X : Cx} {pins : List (Addr × Obj)} {σ : L2.St} {s : Shared} {a : Addr} {xs : List (NestedKey × Addr × Value)} (I : L2.Inv X pins σ H s) (h : DitH X.K H a xs) : s.heap.DictOfH (nestedKind X.prog X.w) a xs := by
  obtain ⟨⟨o, es, ep, e1, e2, e3, e4⟩, _⟩ := I.hok a _ h.ext
  exact ⟨o, es, ep, e1, e2, e3, e4 X.w, fun x hx => ⟨nk_is I _ _ _ (h.ks x hx) rfl, h.dp x hx⟩, h.nd⟩
/-- two lists, pair by pair -/
def DitR (K : PySem.W.Frag) (T : Tb) (g : Gh) (H : Hp) (kvs : List (D × D)) (xs : List (NestedKey × Addr × Value)) (vs : List V) : Prop :=
  kvs.map (fun kv => nkD kv.1) = xs.map (fun x => some x.1) ∧ Vals vs (xs.map (·.2.2)) ∧ Rps K T g H (kvs.map (·.1)) (xs.map fun x => V.ref x.2.1) ∧ Rps K T g H (kvs.map (·.2)) vs
theorem DitR.cons {kv : D × D} {x : NestedKey × Addr × Value} {v : V} {kvs : List (D × D)} {xs : List (NestedKey × Addr × Value)} {vs : List V} (h1 : nkD kv.1 = some x.1) (h2 : RelV v x.2.2) (h3 : Rp K T g H kv.1 (.ref x.2.1)) (h4 : Rp K T g H kv.2 v) (h : DitR K T g H kvs xs vs) : DitR K T g H (kv :: kvs) (x :: xs) (v :: vs) :=
  ⟨by simp [h1, h.1], .cons h2 h.2.1, .cons h3 h.2.2.1, .cons h4 h.2.2.2⟩
theorem DitR.inv {kv : D × D} {kvs : List (D × D)} {xs : List (NestedKey × Addr × Value)} {vs : List V} (h : DitR K T g H (kv :: kvs) xs vs) : ∃ x xs' v vs', xs = x :: xs' ∧ vs = v :: vs' ∧ nkD kv.1 = some x.1 ∧ RelV v x.2.2 ∧ Rp K T g H kv.1 (.ref x.2.1) ∧ Rp K T g H kv.2 v ∧ DitR K T g H kvs xs' vs' := by
  obtain ⟨h1, h2, h3, h4⟩ := h
  cases xs with
  | nil => simp at h1
  | cons x xs =>
    simp only [List.map_cons, List.cons.injEq] at h1
    cases h2 with
    | cons r t =>
      simp only [List.map_cons, Rps] at h3 h4
      obtain ⟨v3, r3, e3, h31, h32⟩ := h3
      obtain ⟨v4, r4, e4, h41, h42⟩ := h4
      cases e3
      cases e4
      exact ⟨x, xs, _, _, rfl, rfl, h1.1, r, h31, h41, h1.2, t, h32, h42⟩
theorem DitR.nil : DitR K T g H [] [] [] := ⟨rfl, .nil, Rps.nil, Rps.nil⟩
theorem DitR.sub (s : Sub g H g' H') {kvs : List (D × D)} {xs : List (NestedKey × Addr × Value)} {vs : List V} (h : DitR K T g H kvs xs vs) : DitR K T g' H' kvs xs vs := ⟨h.1, h.2.1, h.2.2.1.sub s, h.2.2.2.sub s⟩
theorem DitR.keys : ∀ {kvs : List (D × D)} {xs : List (NestedKey × Addr × Value)} {vs : List V}, DitR K T g H kvs xs vs → ∀ x ∈ xs, NkV K H x.1 (.ref x.2.1)
  | [], xs, vs, h, x, hx => by
    have := h.1
    cases xs with
    | nil => cases hx
    | cons _ _ => simp at this
  | kv :: kvs, xs, vs, h, x, hx => by
    obtain ⟨y, ys, v, vs', rfl, rfl, h1, _, h3, _, h5⟩ := h.inv
    rcases List.mem_cons.mp hx with e | hx
    · subst e
      exact nk_of _ _ _ h1 h3
    · exact DitR.keys h5 x hx
def mDit (s : S) (n : Nat) : Option (List (D × D)) := match s.m[n]? with
  | some (.dit kvs) => some kvs
  | _ => none
theorem dit_at {Γ : Fls} {σ : L2.St} {st : S} {n : Nat} {kvs : List (D × D)} {a : Addr} (I : SR K T Γ g σ H st) (h : mDit st n = some kvs) (ha : g.mu[n]? = some a) : ∃ xs vs, DitH K H a xs ∧ DitR K T g H kvs xs vs := by
  unfold mDit at h
  split at h
  · rename_i kvs' e
    cases h
    obtain ⟨xs, vs, q1, q2, q3, q4, q5, q6, q7, q8⟩ := I.me.at_ n _ a e ha
    have r : DitR K T g H kvs xs vs := ⟨q3, q6, q7, q8⟩
    exact ⟨xs, vs, ⟨q1, q2, q4, q5, r.keys⟩, r⟩
  · cases h
theorem cell_of {a : Addr} {kvs : List (D × D)} {xs : List (NestedKey × Addr × Value)} {vs : List V} (h : DitH K H a xs) (r : DitR K T g H kvs xs vs) : CellR K T g H a (.dit kvs) := ⟨xs, vs, h.ext, h.lo, r.1, h.nd, h.dp, r.2.1, r.2.2.1, r.2.2.2⟩
/-! what a dict gives, what a store makes of it -/
def isTp : D → Bool
  | .tup _ => true
  | .pt _ => true
  | _ => false
def keyT (d : D) : Option NestedKey := if isTp d then (match nkD d with
  | some k => if k.depth ≤ 8 then some k else none
  | none => none) else none
theorem keyT_of {d : D} {k : NestedKey} (h : keyT d = some k) : isTp d = true ∧ nkD d = some k ∧ k.depth ≤ 8 := by
  unfold keyT at h
  split at h
  · rename_i ht
    split at h
    · rename_i k' e
      split at h
      · rename_i hd
        cases h
        exact ⟨ht, e, hd⟩
      · cases h
    · cases h
  · cases h
theorem tp_ref {d : D} {v : V} (h : isTp d = true) (r : Rp K T g H d v) : ∃ b, v = .ref b := by
  cases d <;> simp [isTp] at h
  · simp only [Rp] at r
    obtain ⟨a, _, e, _⟩ := r
    exact ⟨a, e⟩
  · simp only [Rp] at r
    obtain ⟨a, _, _, e, _⟩ := r
    exact ⟨a, e⟩
def hitT (k : NestedKey) (kv : D × D) : Bool := match nkD kv.1 with
  | some k' => NestedKey.beq k' k
  | none => false
def valT (kvs : List (D × D)) (k : NestedKey) : Option D := (kvs.find? (hitT k)).map (·.2)
def putT (kvs : List (D × D)) (kd : D) (k : NestedKey) (v : D) : List (D × D) :=
  if kvs.any (hitT k) = true then kvs.map (fun kv => if hitT k kv = true then (kv.1, v) else kv) else kvs ++ [(kd, v)]
theorem hitT_eq {k : NestedKey} {kv : D × D} {x : NestedKey × Addr × Value} (h : nkD kv.1 = some x.1) : hitT k kv = decide (x.1 = k) := by
  unfold hitT
  rw [h, NestedKey.decide_eq]
theorem valT_at : ∀ {kvs : List (D × D)} {xs : List (NestedKey × Addr × Value)} {vs : List V} (k : NestedKey), DitR K T g H kvs xs vs → match valT kvs k with
    | some d => ∃ p v, atKey xs k = some p ∧ RelV v p.2 ∧ Rp K T g H d v
    | none => atKey xs k = none
  | [], xs, vs, k, h => by
    have := h.1
    cases xs with
    | nil => rfl
    | cons _ _ => simp at this
  | kv :: kvs, xs, vs, k, h => by
    obtain ⟨x, xs, v, vs, rfl, rfl, h1, h2, h3, h4, h5⟩ := h.inv
    have hh := hitT_eq (k := k) h1
    by_cases hk : x.1 = k
    · have e1 : valT (kv :: kvs) k = some kv.2 := by
        unfold valT
        rw [List.find?_cons, hh, decide_eq_true hk]
        rfl
      rw [e1]
      exact ⟨x.2, v, by simp [atKey, List.find?_cons, hk], h2, h4⟩
    · have e1 : valT (kv :: kvs) k = valT kvs k := by
        unfold valT
        rw [List.find?_cons, hh, decide_eq_false hk]
      have e2 : atKey (x :: xs) k = atKey xs k := by simp [atKey, List.find?_cons, hk]
      rw [e1, e2]
      exact valT_at k h5
theorem anyT : ∀ {kvs : List (D × D)} {xs : List (NestedKey × Addr × Value)} {vs : List V} (k : NestedKey), DitR K T g H kvs xs vs → kvs.any (hitT k) = (atKey xs k).isSome
  | [], xs, vs, k, h => by
    have := h.1
    cases xs with
    | nil => rfl
    | cons _ _ => simp at this
  | kv :: kvs, xs, vs, k, h => by
    obtain ⟨x, xs, v, vs, rfl, rfl, h1, _, _, _, h5⟩ := h.inv
    have hh := hitT_eq (k := k) h1
    rw [List.any_cons, hh, anyT k h5]
    by_cases hk : x.1 = k
    · simp [atKey, List.find?_cons, hk]
    · simp [atKey, List.find?_cons, hk]
theorem mapT {d : D} {v : V} {u : Value} (rv : RelV v u) (rd : Rp K T g H d v) : ∀ {kvs : List (D × D)} {xs : List (NestedKey × Addr × Value)} {vs : List V} (k : NestedKey), DitR K T g H kvs xs vs → ∃ vs', DitR K T g H (kvs.map fun kv => if hitT k kv = true then (kv.1, d) else kv) (xs.map (putAt k u)) vs'
  | [], xs, vs, k, h => by
    have := h.1
    cases xs with
    | nil => exact ⟨[], .nil⟩
    | cons _ _ => simp at this
  | kv :: kvs, xs, vs, k, h => by
    obtain ⟨x, xs, w, vs, rfl, rfl, h1, h2, h3, h4, h5⟩ := h.inv
    obtain ⟨vs', ih⟩ := mapT rv rd k h5
    have hh := hitT_eq (k := k) h1
    rw [List.map_cons, List.map_cons]
    by_cases hk : x.1 = k
    · refine ⟨v :: vs', ?_⟩
      rw [hh, decide_eq_true hk, if_pos rfl]
      unfold putAt
      rw [if_pos hk]
      exact .cons h1 rv h3 rd ih
    · refine ⟨w :: vs', ?_⟩
      rw [hh, decide_eq_false hk]
      unfold putAt
      rw [if_neg hk]
      exact .cons h1 h2 h3 h4 ih
theorem snocT {kd d : D} {k : NestedKey} {b : Addr} {v : V} {u : Value} (hk : nkD kd = some k) (rk : Rp K T g H kd (.ref b)) (rv : RelV v u) (rd : Rp K T g H d v) : ∀ {kvs : List (D × D)} {xs : List (NestedKey × Addr × Value)} {vs : List V}, DitR K T g H kvs xs vs → DitR K T g H (kvs ++ [(kd, d)]) (xs ++ [(k, b, u)]) (vs ++ [v])
  | [], xs, vs, h => by
    have h1 := h.1
    have h4 := h.2.2.2
    cases xs with
    | nil =>
      simp only [List.map_nil, Rps] at h4
      subst h4
      exact .cons hk rv rk rd .nil
    | cons _ _ => simp at h1
  | kv :: kvs, xs, vs, h => by
    obtain ⟨x, xs, w, vs, rfl, rfl, h1, h2, h3, h4, h5⟩ := h.inv
    exact .cons h1 h2 h3 h4 (snocT hk rk rv rd h5)
theorem putT_at {kd d : D} {k : NestedKey} {b : Addr} {v : V} {u : Value} {kvs : List (D × D)} {xs : List (NestedKey × Addr × Value)} {vs : List V} (hk : nkD kd = some k) (rk : Rp K T g H kd (.ref b)) (rv : RelV v u) (rd : Rp K T g H d v) (h : DitR K T g H kvs xs vs) : ∃ vs', DitR K T g H (putT kvs kd k d) (storedH xs k b u) vs' := by
  unfold putT storedH
  rw [anyT k h]
  split
  · exact mapT rv rd k h
  · exact ⟨_, snocT hk rk rv rd h⟩
theorem DitR.len {kvs : List (D × D)} {xs : List (NestedKey × Addr × Value)} {vs : List V} (h : DitR K T g H kvs xs vs) : kvs.length = xs.length := by
  have := congrArg List.length h.1
  simpa using this
/-- behind a store -/
theorem DitH.put {a b : Addr} {k : NestedKey} {u : Value} {xs : List (NestedKey × Addr × Value)} {φ : Heap → Prop} (h : DitH K H a xs) (hk : NkV K H k (.ref b)) (hd : k.depth ≤ 8) (hn : ((storedH xs k b u).map (·.1)).Nodup) (ht : ∀ c o, H c = some o → imo o = true → H' c = some o) (he : H' a = some (.ext (RawN a (storedH xs k b u)))) (up : ∀ c v, NkV K H c v → NkV K H' c v) : DitH K H' a (storedH xs k b u) := by
  have keys : ∀ x ∈ storedH xs k b u, x.1.depth ≤ 8 ∧ NkV K H x.1 (.ref x.2.1) := fun x hx => by
    unfold storedH at hx
    split at hx
    · obtain ⟨y, hy, e⟩ := List.mem_map.mp hx
      subst e
      unfold putAt
      split
      · exact ⟨h.dp y hy, h.ks y hy⟩
      · exact ⟨h.dp y hy, h.ks y hy⟩
    · rcases List.mem_append.mp hx with hx | hx
      · exact ⟨h.dp x hx, h.ks x hx⟩
      · rw [List.mem_singleton.mp hx]
        exact ⟨hd, hk⟩
  exact ⟨he, h.lo, hn, fun x hx => (keys x hx).1, fun x hx => up _ _ (keys x hx).2⟩
mutual
theorem NkV.sub (s : Sub g H g' H') : ∀ (k : NestedKey) (v : V), NkV K H k v → NkV K H' k v
  | .num i, v, h => by simpa [NkV] using h
  | .tup ks, v, h => by
    simp only [NkV] at h ⊢
    obtain ⟨a, vs, e, q, h⟩ := h
    exact ⟨a, vs, e, SqT.sub s q, NkVs.sub s ks vs h⟩
  | .none, _, h => by simp only [NkV] at h
  | .text _, _, h => by simp only [NkV] at h
theorem NkVs.sub (s : Sub g H g' H') : ∀ (ks : List NestedKey) (vs : List V), NkVs K H ks vs → NkVs K H' ks vs
  | [], vs, h => by simpa [NkVs] using h
  | k :: ks, vs, h => by
    simp only [NkVs] at h ⊢
    obtain ⟨v, r, e, h1, h2⟩ := h
    exact ⟨v, r, e, NkV.sub s k v h1, NkVs.sub s ks r h2⟩
end
theorem raw_of {X : Cx} {h : Heap} {a : Addr} {xs : List (NestedKey × Addr × Value)} (d : h.DictOfH (nestedKind X.prog X.w) a xs) (hk : ∀ x ∈ xs, NkV K H x.1 (.ref x.2.1)) : RawN a xs h := by
  obtain ⟨o, es, ep, e1, e2, e3, e4, _⟩ := d
  refine ⟨o, es, ep, e1, e2, e3, fun w => ?_⟩
  rw [e4]
  apply List.map_congr_left
  intro x hx
  show (⟨x.1.hash X.w, .ref x.2.1, x.2.2⟩ : DictEntry) = _
  rw [hash_nk X.w w x.1 _ (hk x hx)]
theorem raw_ok {P : Program} {w : World} {h : Heap} {a : Addr} {xs : List (NestedKey × Addr × Value)} {H : Hp} (r : RawN a xs h) : ObjOk P w H h a (.ext (RawN a xs)) := by
  obtain ⟨o, es, ep, e1, e2⟩ := id r
  exact ⟨r, ⟨o, e1⟩, fun h1 h2 ⟨o, es, ep, e1, e2⟩ hk => ⟨o, es, ep, hk o e1, e2⟩⟩
end
end DL
set_option linter.all false
set_option Elab.async false
set_option maxRecDepth 100000
set_option maxHeartbeats 4000000
namespace DL
open PySem PySem.Spec PyProof.Rows L2
section
variable {X : Cx} {o i e f value : Expr} {pos pos' apos cpos : Pos} {td ty tx tv : TE}
theorem room_in1 {X : Cx} (hu : X.A.units + 64 < cLine) : (nestedKind X.prog X.w).room X.A.in1 := by
  show X.A.units + 1 + 8 < cLine
  omega
/-- d[k] = v -/
def sTPut (K : PySem.W.Frag) (td ty tv : TE) : TS := fun D σ H => tv σ H fun v H1 => td σ H1 fun x H2 => ty σ H2 fun y H3 => ∃ a b xs k, x = .ref a ∧ y = .ref b ∧ DitH K H3 a xs ∧ NkV K H3 k (.ref b) ∧ k.depth ≤ 8 ∧ xs.length < sizeLine ∧
  ∀ u, RelV v u → ((storedH xs k b u).map (·.1)).Nodup → D.nx σ (upd H3 a (.ext (RawN a (storedH xs k b u))))
theorem ps_tput (hu : X.A.units + 64 < cLine) (ho : PE X o td) (hi : PE X i ty) (hv : PE X value tv) (hs : swapsWith value (some (.Subscript o i pos')) pos.line X.env = pure false) :
    PS X (.Assign [.Subscript o i pos'] value pos) (sTPut X.K td ty tv) := by
  refine ⟨fun pins s σ H D I h => ?_⟩
  refine wpAny_Assign_Subscript (thn (hv.run pins s σ H _ I h) fun r s1 ⟨v, H1, I1, rv, q1⟩ => thn (ho.run pins s1 σ H1 _ I1 q1) fun u s2 ⟨x, H2, I2, rx, q2⟩ => thn (hi.run pins s2 σ H2 _ I2 q2) fun iv s3 ⟨y, H3, I3, ry, a, b, xs, k, ex, ey, d, kv, kd, hz, q3⟩ => ?_) hs
  subst ex ey
  obtain rfl : u = Value.ref a := rx
  obtain rfl : iv = Value.ref b := ry
  have dd := d.at I3
  refine wpAny_setItem_heap (hsz := Nat.le_of_lt hz) (room_in1 hu) ⟨nk_is I3 _ _ _ kv rfl, kd⟩ dd fun h' dd' hs' => ?_
  have hn : ((storedH xs k b r).map (·.1)).Nodup := by
    obtain ⟨_, _, _, _, _, _, _, _, hn⟩ := dd'
    exact hn
  have keys : ∀ x ∈ storedH xs k b r, NkV X.K H3 x.1 (.ref x.2.1) := fun x hx => by
    unfold storedH at hx
    split at hx
    · obtain ⟨y, hy, e⟩ := List.mem_map.mp hx
      subst e
      unfold putAt
      split
      · exact d.ks y hy
      · exact d.ks y hy
    · rcases List.mem_append.mp hx with hx | hx
      · exact d.ks x hx
      · rw [List.mem_singleton.mp hx]
        exact kv
  have raw := raw_of (X := X) dd' keys
  obtain ⟨o1, es1, ep1, ho1, _⟩ := id raw
  exact ⟨σ, _, d_write I3 (by rw [d.ext]; exact True.intro) hs' ⟨o1, ho1⟩ (raw_ok raw), q3 r rv hn⟩
/-- k in d, k not in d -/
def tTIn (K : PySem.W.Frag) (neg : Bool) (ty td : TE) : TE := fun σ H Q => ty σ H fun y H1 => td σ H1 fun x H2 => ∃ a b xs k, x = .ref a ∧ y = .ref b ∧ DitH K H2 a xs ∧ NkV K H2 k (.ref b) ∧ k.depth ≤ 8 ∧ Q (.bl (if neg then !(atKey xs k).isSome else (atKey xs k).isSome)) H2
theorem pc_tnotin (hu : X.A.units + 64 < cLine) (hi : PE X i ty) (ho : PE X o td) : PC X .NotIn i o (tTIn X.K true ty td) := by
  refine ⟨fun pins s σ H Q I h => ?_⟩
  refine thn (hi.run pins s σ H _ I h) fun iv s1 ⟨y, H1, I1, ry, q1⟩ => thn (ho.run pins s1 σ H1 _ I1 q1) fun u s2 ⟨x, H2, I2, rx, a, b, xs, k, ex, ey, d, kv, kd, q2⟩ => ?_
  subst ex ey
  obtain rfl : u = Value.ref a := rx
  obtain rfl : iv = Value.ref b := ry
  exact wpAny_notIn_heap (room_in1 hu) ⟨nk_is I2 _ _ _ kv rfl, kd⟩ d.lo (d.at I2) ⟨.bl (!(atKey xs k).isSome), H2, I2.tok _, rfl, q2⟩
end
section
variable {T : Tb} {X : Cx} {Γ Γ' : Fls} {F : Fx} {nx lp : Fls} {rm : Mo} {e a b c o i tg iter : Expr} {m m1 m2 m3 : Mo} {f f1 f2 f3 : S → R D} {pos p2 pos' apos cpos : Pos} {es : List Expr} {fs : S → R (List D)}
/-- d[k] = v -/
def sTput (fd fk fv : S → R D) : S → RS := fun s => (fv s).then fun v s1 => (fd s1).then fun d s2 => (fk s2).then fun k s3 => match d, keyT k with
  | .ref n, some kk => (match mDit s3 n with
    | some kvs => if kvs.length < sizeLine then .next { s3 with m := s3.m.set n (.dit (putT kvs k kk v)) } else .stuck
    | none => .stuck)
  | _, _ => .stuck
theorem js_tput (hu : X.A.units + 64 < cLine) (hd : JE T X Γ a .b1 f1) (hk : JE T X Γ b .sh f2) (hv : JE T X Γ c .sh f3) (hs : swapsWith c (some (.Subscript a b pos')) pos.line X.env = pure false := by rfl) : JS T X Γ ⟨Γ, lp, rm⟩ (.Assign [.Subscript a b pos'] c pos) (sTput f1 f2 f3) := by
  refine ⟨fun W tk => PS.imp (ps_tput hu (hd.run W tk) (hk.run W tk) (hv.run W tk) hs) fun E σ H ⟨B, g, st, I, p⟩ => ?_⟩
  refine te_then I.toSR p fun d1 s1 v H1 g1 q1 I1 r1 p1 => te_then I1 p1 fun d2 s2 x H2 g2 q2 I2 r2 p2 => te_then I2 p2 fun d3 s3 y H3 g3 q3 I3 r3 p3 => ?_
  split at p3
  case h_2 => exact p3.elim
  rename_i n k ek
  split at p3
  case h_2 => exact p3.elim
  rename_i kvs em
  split at p3
  case isFalse => exact p3.elim
  rename_i hz
  obtain ⟨ad, ex, hn⟩ := b_ref (r2.step I2.wf I3.wf q3)
  subst ex
  obtain ⟨k1, k2, k3⟩ := keyT_of ek
  obtain ⟨bd, ey⟩ := tp_ref k1 r3
  subst ey
  obtain ⟨xs, vs, h1, h2⟩ := dit_at I3 em hn
  have rv : Rp X.K T g3 H3 d1 v := (Rp.step I1.wf q2.toStep r1 |> Rp.step I2.wf q3.toStep)
  have kv := nk_of _ _ _ k2 r3
  refine ⟨ad, bd, xs, k, rfl, rfl, h1, kv, k3, by rw [← h2.len]; exact hz, fun u ru hnd => ?_⟩
  obtain ⟨vs', h3⟩ := putT_at k2 r3 ru rv h2
  have s0 : Sub g3 H3 g3 (upd H3 ad (.ext (RawN ad (storedH xs k bd u)))) := ⟨fun _ h => h, fun b o hA h => by
    rw [upd_ne fun z => I3.wf.ao b hA (by rw [z]; exact .inr (List.mem_of_getElem? hn))]
    exact h, fun b o h i => by
    rw [upd_ne fun z => ?_]
    · exact h
    · rw [z, h1.ext] at h
      cases h
      exact absurd i (by simp [imo]), List.prefix_refl _⟩
  have hD := h1.put (u := u) (φ := fun _ => True) kv k3 hnd s0.im upd_same (fun c w q => NkV.sub s0 c w q)
  obtain ⟨k1', k2'⟩ := I3.put (o' := .ext (RawN ad (storedH xs k bd u))) (c := .dit (putT kvs d3 k d1)) hn h1.ext rfl rfl (cell_of hD (h3.sub s0))
  exact p3 σ _ g3 k1' k2'
end
end DL
set_option linter.all false
set_option Elab.async false
set_option maxRecDepth 100000
set_option maxHeartbeats 4000000
namespace DL
open PySem PySem.Spec PySem.Calls PyProof.Rows L2
/-! ### sorted(d) of a dict with tuple keys -/
end DL
set_option linter.all false
set_option Elab.async false
set_option maxRecDepth 100000
set_option maxHeartbeats 4000000
namespace DL
open PySem PySem.Spec PySem.Calls PyProof.Rows L2
/-! ### sorted(d), dict(pairs) for tuple keys -/
end DL
set_option linter.all false
set_option Elab.async false
set_option maxRecDepth 100000
set_option maxHeartbeats 4000000
namespace DL
open PySem PySem.Spec PySem.Calls PyProof.Rows L2
end DL
set_option linter.all false
set_option Elab.async false
set_option maxRecDepth 100000
set_option maxHeartbeats 4000000
namespace DL
open PySem PySem.Spec PySem.Calls PyProof.Rows L2
end DL
set_option linter.all false
set_option Elab.async false
set_option maxRecDepth 100000
set_option maxHeartbeats 4000000
namespace DL
open PySem PySem.Spec PySem.Calls PyProof.Rows L2
/-! ### x < y of alike data -/
end DL
set_option linter.all false
set_option Elab.async false
set_option maxRecDepth 100000
set_option maxHeartbeats 4000000
namespace DL
open PySem PySem.Spec PySem.Calls PyProof.Rows L2
/-! ### defs with defaults (numbers), called without the last arguments -/
end DL
set_option linter.all false
set_option Elab.async false
set_option maxRecDepth 100000
set_option maxHeartbeats 4000000
namespace DL
open PySem PySem.Spec PySem.Calls PyProof.Rows L2
/-! ### instances: attributes, stores, making, methods -/
def mObj (s : S) (n : Nat) (c : Nat) : Option (List (Str × D)) := match s.m[n]? with
  | some (.obj c' fs) => if c' = c then some fs else none
  | _ => none
/-- an attribute of the instances of a class -/
structure FldC (K : PySem.W.Frag) (T : Tb) (c : Nat) (f : Str) : Prop where
  ex : ∃ C, T.exc c = some C ∧ L2.Cls K C ∧ NoAttr K C f
def fldD (c : Nat) (f : Str) : D → S → R D := fun d s => match d with
  | .ref n => (match mObj s n c with
    | some fs => (match fs.lookup f with
      | some x => .ok x s
      | none => .stuck)
    | none => .stuck)
  | _ => .stuck
def putFD (f : Str) (v : D) : List (Str × D) → List (Str × D)
  | [] => [(f, v)]
  | (g, x) :: r => if g = f then (g, v) :: r else (g, x) :: putFD f v r
section
variable {K : PySem.W.Frag} {T : Tb} {g g' : Gh} {H H' : Hp}
theorem zip_look {f : Str} : ∀ {fs : List (Str × D)} {vs : List V} {x : D}, Rps K T g H (fs.map (·.2)) vs → fs.lookup f = some x → ∃ v, ((fs.map (·.1)).zip vs).lookup f = some v ∧ Rp K T g H x v
  | [], _, _, _, e => by simp at e
  | (k, d) :: fs, vs, x, r, e => by
    simp only [List.map_cons, Rps] at r
    obtain ⟨v, r', rfl, h1, h2⟩ := r
    simp only [List.map_cons, List.zip_cons_cons]
    rw [List.lookup_cons] at e ⊢
    cases hb : f == k with
    | true =>
      rw [hb] at e
      cases e
      exact ⟨v, rfl, h1⟩
    | false =>
      rw [hb] at e
      exact zip_look h2 e
theorem zip_none {f : Str} : ∀ {fs : List (Str × D)} {vs : List V}, fs.lookup f = none → ((fs.map (·.1)).zip vs).lookup f = none
  | [], _, _ => rfl
  | (k, d) :: fs, [], _ => by simp
  | (k, d) :: fs, v :: vs, e => by
    simp only [List.map_cons, List.zip_cons_cons]
    rw [List.lookup_cons] at e ⊢
    cases hb : f == k with
    | true => rw [hb] at e; cases e
    | false =>
      rw [hb] at e
      exact zip_none e
theorem zip_putO {f : Str} {x : D} {v : V} (hx : Rp K T g H x v) : ∀ {fs : List (Str × D)} {vs : List V}, Rps K T g H (fs.map (·.2)) vs → ∃ ws, putF f v ((fs.map (·.1)).zip vs) = ((putFD f x fs).map (·.1)).zip ws ∧ Rps K T g H ((putFD f x fs).map (·.2)) ws
  | [], vs, r => by
    simp only [List.map_nil, Rps] at r
    subst r
    exact ⟨[v], rfl, v, [], rfl, hx, rfl⟩
  | (k, d) :: fs, vs, r => by
    simp only [List.map_cons, Rps] at r
    obtain ⟨u, r', rfl, h1, h2⟩ := r
    simp only [List.map_cons, List.zip_cons_cons, putF, putFD]
    by_cases hk : k = f
    · rw [if_pos hk, if_pos hk]
      exact ⟨v :: r', rfl, v, r', rfl, hx, h2⟩
    · rw [if_neg hk, if_neg hk]
      obtain ⟨ws, e, h3⟩ := zip_putO hx h2
      exact ⟨u :: ws, by rw [e]; rfl, u, ws, rfl, h1, h3⟩
theorem obj_at {Γ : Fls} {σ : L2.St} {st : S} {n c : Nat} {fs : List (Str × D)} {a : Addr} (I : SR K T Γ g σ H st) (h : mObj st n c = some fs) (ha : g.mu[n]? = some a) : ∃ C dx vs, H a = some (.ins C dx ((fs.map (·.1)).zip vs)) ∧ T.exc c = some C ∧ Rps K T g H (fs.map (·.2)) vs := by
  unfold mObj at h
  split at h
  · rename_i c' fs' e
    split at h
    · rename_i ec
      cases h
      subst ec
      exact I.me.at_ n _ a e ha
    · cases h
  · cases h
end
section
variable {T : Tb} {X : Cx} {Γ Γ' : Fls} {F : Fx} {nx lp : Fls} {rm : Mo} {a b c e o : Expr} {m m1 m2 m3 : Mo} {f1 f2 f3 fa : S → R D} {pos pos' apos cpos p : Pos} {es : List Expr} {fs : S → R (List D)} {ci n k : Nat} {f x mn : Str} {mf : MF}
/-- e.f -/
theorem je_fld (hF : FldC X.K T ci f) (ha : JE T X Γ a .b1 fa) (hb : attributeBase a f X.env (eval a X.env) = eval a X.env := by rfl) : JE T X Γ (.Attribute a f pos) .sh (e1 (fldD ci f) fa) := by
  refine ⟨fun W tk => PE.imp (pe_fld (ha.run W tk) hb) fun σ H Q ⟨g, st, I, p⟩ => ?_⟩
  refine te_bind ipE I p fun d1 s1 x H1 g1 q1 I1 r1 p1 => ?_
  unfold fldD at p1
  split at p1
  · rename_i n
    split at p1
    · rename_i fs em
      split at p1
      · rename_i d ed
        obtain ⟨ad, ex, hn⟩ := b_ref r1
        subst ex
        obtain ⟨C, dx, vs, h1, h2, h3⟩ := obj_at I1 em hn
        obtain ⟨C', t, cl, na⟩ := hF.ex
        rw [h2] at t
        cases t
        obtain ⟨v, h4, h5⟩ := zip_look h3 ed
        exact ⟨ad, C, dx, _, v, rfl, h1, cl, na, h4, p1 _ H1 g1 (.refl g1 H1) I1 h5⟩
      · exact p1.elim
    · exact p1.elim
  · exact p1.elim
/-- o.f = value -/
def sFldS (ci : Nat) (f : Str) (fo fv : S → R D) : S → RS := fun s => (fv s).then fun v s1 => (fo s1).then fun o s2 => match o with
  | .ref n => (match mObj s2 n ci with
    | some fs => if fs.length < 1000 then .next { s2 with m := s2.m.set n (.obj ci (putFD f v fs)) } else .stuck
    | none => .stuck)
  | _ => .stuck
theorem js_fldS (hF : FldC X.K T ci f) (hd : JE T X Γ a .b1 f1) (hv : JE T X Γ c .sh f3) (hs : swapsWith c (some (.Attribute a f pos')) pos.line X.env = pure false := by rfl) : JS T X Γ ⟨Γ, lp, rm⟩ (.Assign [.Attribute a f pos'] c pos) (sFldS ci f f1 f3) := by
  refine ⟨fun W tk => PS.imp (ps_fld (hd.run W tk) (hv.run W tk) hs) fun E σ H ⟨B, g, st, I, p⟩ => ?_⟩
  refine te_then I.toSR p fun d1 s1 v H1 g1 q1 I1 r1 p1 => te_then I1 p1 fun d2 s2 x H2 g2 q2 I2 r2 p2 => ?_
  split at p2
  case h_2 => exact p2.elim
  rename_i n
  split at p2
  case h_2 => exact p2.elim
  rename_i fs em
  split at p2
  case isFalse => exact p2.elim
  rename_i hz
  obtain ⟨ad, ex, hn⟩ := b_ref r2
  subst ex
  obtain ⟨C, dx, vs, h1, h2, h3⟩ := obj_at I2 em hn
  obtain ⟨C', t, cl, na⟩ := hF.ex
  rw [h2] at t
  cases t
  have rv : Rp X.K T g2 H2 d1 v := Rp.step I1.wf q2.toStep r1
  obtain ⟨ws, e1, h4⟩ := zip_putO (f := f) rv h3
  refine ⟨ad, C, dx, _, rfl, h1, cl, na, ?_, ?_⟩
  · rw [List.length_zip, List.length_map]
    omega
  have s0 : Sub g2 H2 g2 (upd H2 ad (.ins C dx (putF f v ((fs.map (·.1)).zip vs)))) := ⟨fun _ h => h, fun b o hA h => by
    rw [upd_ne fun z => I2.wf.ao b hA (by rw [z]; exact .inr (List.mem_of_getElem? hn))]
    exact h, fun b o h i => by
    rw [upd_ne fun z => ?_]
    · exact h
    · rw [z, h1] at h
      cases h
      exact absurd i (by simp [imo]), List.prefix_refl _⟩
  obtain ⟨k1', k2'⟩ := I2.put (o' := .ins C dx (putF f v ((fs.map (·.1)).zip vs))) (c := .obj ci (putFD f d1 fs)) hn h1 rfl rfl ⟨C, dx, ws, by rw [upd_same, e1], h2, h4.sub s0⟩
  exact p2 σ _ g2 k1' k2'
/-- a method of a class -/
structure CalM (P : Program) (w : World) (K : PySem.W.Frag) (mg : Str → Option Value) (base : Heap) (T : Tb) (ci : Nat) (mn : Str) (k n : Nat) (rm : Mo) (mf : MF) : Prop where
  ex : ∃ C f fd ps, T.exc ci = some C ∧ L2.Cls K C ∧ Meth K C mn f ∧ FnOk P w K mg base (L2.CX P w) k f fd ps (spOf K T n rm mf) ∧ Binds K fd ps []
def tMethE (C : Addr) (m : Str) (sp : Sp) (E : L2.St → XK) (ta : TE) (t : TA) : TE := fun σ H Q => ta σ H fun x H1 => ∃ a dx fs, x = .ref a ∧ H1 a = some (.ins C dx fs) ∧ fs.lookup m = none ∧ t σ H1 fun vs H2 => sp (x :: vs) H2 Q (E σ)
theorem pe_methE0 {CX : CXT} {f C : Addr} {fd : FuncData} {ps : List Str} {sp : Sp} {E : L2.St → XK} {ta : TE} {pl : Sem Bool} (he : PE X o ta) (c : L2.Cls X.K C) (hm : Meth X.K C mn f)
    (F : FnOk X.prog X.w X.K X.mg X.base CX k f fd ps sp) (hr : Room k X.A) (hb : Binds X.K fd ps []) (hx : ∀ σ, PassesAt CX X σ (E σ))
    (ht : eval (.Call (.Attribute o mn apos) [] [] pos) X.env = (do
      let ov ← eval o X.env
      standAt apos.atName
      let (f, first) ← holding [ov] (getMethod ov mn pl)
      callWith pos f first (backTo pos (starEach [] X.env)) (backToKw pos (keywordEach [] X.env))) := by rfl) :
    PE X (.Call (.Attribute o mn apos) [] [] pos) (tMethE C mn sp E ta tNil) := by
  refine ⟨fun pins s σ H Q I h => ?_⟩
  refine PySem.W.methodCall_KW (pl := pl) (thn (he.run pins s σ H _ I h) fun u s1 ⟨x, H1, I1, rx, a, dx, fs, ex, ea, l, q⟩ => ?_) ht
  subst ex
  obtain rfl : u = Value.ref a := rx
  refine getmeth_ok I1 ea c hm l ?_
  exact PySem.W.callWith_K0 (first := [.ref a]) I1.kIn hm.kp (run_fnS (us := [.ref a]) (vs := [.ref a]) F hr hb (hx σ) I1 (.cons rfl .nil) q)
def isObj (ci : Nat) (mn : Str) (d : D) (s : S) : Bool := match d with
  | .ref n => (match mObj s n ci with
    | some fs => (fs.lookup mn).isNone
    | none => false)
  | _ => false
def eMeth (ci : Nat) (mn : Str) (n : Nat) (mf : MF) (fo : S → R D) (fs : S → R (List D)) : S → R D := fun st => (fo st).bind fun d s1 => if isObj ci mn d s1 then (fs s1).bind fun ds s => if (d :: ds).length = n then callR (mf (d :: ds) s.m) s else .stuck else .stuck
theorem meth_of {sp : Sp} {C : Addr} {g : Gh} {H : Hp} {σ : L2.St} {s1 : S} {d : D} {x : V} (I1 : SR X.K T Γ g σ H s1) (r1 : RpM X.K T g H H .b1 d x) (t : T.exc ci = some C) (hd : isObj ci mn d s1 = true) : ∃ nn ad dx ws, d = .ref nn ∧ x = .ref ad ∧ g.mu[nn]? = some ad ∧ H ad = some (.ins C dx ws) ∧ ws.lookup mn = none := by
  unfold isObj at hd
  split at hd
  · rename_i nn
    split at hd
    · rename_i fs em
      obtain ⟨ad, ex, hn⟩ := b_ref r1
      obtain ⟨C', dx, vs, h1, h2, h3⟩ := obj_at I1 em hn
      rw [h2] at t
      cases t
      exact ⟨nn, ad, dx, _, rfl, ex, hn, h1, zip_none (Option.isNone_iff_eq_none.1 hd)⟩
    · cases hd
  · cases hd
/-- o.m() -/
theorem je_meth0 {pl : Sem Bool} (C : CalM X.prog X.w X.K X.mg X.base T ci mn k n m mf) {k0 : Nat} (hr : Room k0 X.A) (hk : k ≤ k0) (ho : JE T X Γ o .b1 fa) (hm : m = .sh ∨ m = .f1 ∨ m = .f2 := by first | exact .inl rfl | exact .inr (.inl rfl) | exact .inr (.inr rfl))
    (ht : eval (.Call (.Attribute o mn apos) [] [] pos) X.env = (do
      let ov ← eval o X.env
      standAt apos.atName
      let (f, first) ← holding [ov] (getMethod ov mn pl)
      callWith pos f first (backTo pos (starEach [] X.env)) (backToKw pos (keywordEach [] X.env))) := by rfl) : JE T X Γ (.Call (.Attribute o mn apos) [] [] pos) m (eMeth ci mn n mf fa aNil) := by
  obtain ⟨CA, fad, fd, ps, tc, cl, me, Fn, hb⟩ := C.ex
  refine ⟨fun W tk => PE.imp (pe_methE0 (E := WE W) (ho.run W tk) cl me Fn (hr.mono hk) hb (passAt tk) ht) fun σ H Q ⟨g, st, I, p⟩ => ?_⟩
  refine te_bind ipE I p fun d1 s1 x H1 g1 q1 I1 r1 p1 => ?_
  split at p1
  case isFalse => exact p1.elim
  rename_i hd
  obtain ⟨nn, ad, dx, ws, rfl, rfl, hn, h1, h2⟩ := meth_of (sp := spOf X.K T n m mf) I1 r1 tc hd
  refine ⟨ad, dx, ws, rfl, h1, h2, ?_⟩
  have p2 : PostE X.K T Γ σ g1 H1 m W Q (if (D.ref nn :: []).length = n then callR (mf [.ref nn] s1.m) s1 else .stuck) := p1
  split at p2
  · rename_i hl
    have rr : Rp X.K T g1 H1 (.ref nn) (.ref ad) := by
      simp only [Rp]
      exact ⟨ad, rfl, hn⟩
    exact sp_of (ds := [.ref nn]) hm I1 (by simp only [Rps]; exact ⟨_, _, rfl, rr, rfl⟩) hl p2
  · exact p2.elim
end
end DL
set_option linter.all false
set_option Elab.async false
set_option maxRecDepth 100000
set_option maxHeartbeats 4000000
namespace DL
open PySem PySem.Spec PySem.Calls PyProof.Rows L2
/-! ### C(..): a new instance, then its __init__ -/
section
variable {X : Cx} {CX : CXT} {k : Nat} {f C : Addr} {fd : FuncData} {ps : List Str} {sp : Sp} {E : L2.St → XK} {x : Str} {p pos : Pos} {e : Expr} {es : List Expr} {t : TA}
theorem run_makeS {pins : List (Addr × Obj)} {σ : L2.St} {H : Hp} {s : Shared} {Q : VK} {us : List Value} {vs : List V} (M : Mk X.K C f) (F : FnOk X.prog X.w X.K X.mg X.base CX k f fd ps sp) (hr : Room (k + 1) X.A) (hb : Binds X.K fd ps [])
    (hx : PassesAt CX X σ (E σ)) (I : L2.Inv X pins σ H s) (r : Vals vs us)
    (h : ∀ x dx, H x = none → H dx = none → dx ≠ x → sp (.ref x :: vs) (upd (upd H dx (.own x)) x (.ins C dx [])) (fun v H2 => v = .non ∧ Q (.ref x) H2) (E σ)) :
    wpAny (model X.prog X.w) X.A (call (.ref C) us) (EP X pins σ Q) X.xe s := by
  have hq := h (s.heap.objs.size + 1) s.heap.objs.size (I.hok.fresh (Nat.le_succ _)) (I.hok.fresh (Nat.le_refl _)) (Nat.ne_of_lt (Nat.lt_succ_self _))
  have I2 := Inv.made (C := C) I
  have r2 : Vals vs us := r
  have r3 : Vals (V.ref (s.heap.objs.size + 1) :: vs) (Value.ref (s.heap.objs.size + 1) :: us) := .cons rfl r
  have hl : (Value.ref (s.heap.objs.size + 1) :: us ++ []).length = ps.length := by
    have e := r3.length
    rw [F.len _ _ _ _ hq] at e
    rw [List.append_nil]
    exact e.symm
  have hbb := hb _ (Value.ref (s.heap.objs.size + 1) :: us) I2.kIn hl
  rw [List.append_nil] at hbb
  refine wpAny_call (make_map (f := f) I.kIn M.makes M.init (beq_iff_eq.mp M.fn) (codeAny_mono (F.run _ X.stack _ _ ⟨Value.ref (s.heap.objs.size + 1) :: us, []⟩ (Value.ref (s.heap.objs.size + 1) :: us) _ _ (E σ) (hr.make C us [])
    (I2.env0.make C us []) hbb r3 hq) fun r s' hq' => ?_))
  cases r with
  | error e => exact hx pins _ _ e s' I2 hq'
  | ok fl =>
    cases fl with
    | ret u =>
      obtain ⟨v, H', I3, rv, ev, q3⟩ := I2.after hq'
      subst ev
      exact ⟨rv, ⟨V.ref (s.heap.objs.size + 1), H', I3, rfl, q3⟩⟩
    | next => exact False.elim hq'
    | brk => exact False.elim hq'
    | cont => exact False.elim hq'
def tMakeE (C : Addr) (sp : Sp) (E : L2.St → XK) (t : TA) : TE := fun σ H Q => t σ H fun vs H1 => ∀ x dx, H1 x = none → H1 dx = none → dx ≠ x → sp (.ref x :: vs) (upd (upd H1 dx (.own x)) x (.ins C dx [])) (fun v H2 => v = .non ∧ Q (.ref x) H2) (E σ)
theorem pe_makeE (M : Mk X.K C f) (F : FnOk X.prog X.w X.K X.mg X.base CX k f fd ps sp) (hr : Room (k + 1) X.A) (hg : Gl X x) (hm : X.mg x = some (.ref C)) (hb : Binds X.K fd ps []) (hx : ∀ σ, PassesAt CX X σ (E σ))
    (ha : PA X (e :: es) t) (hdb : (x == ("__debug__" : Str)) = false := by decide) (he : starEach (e :: es) X.env = (false, eval e X.env) :: starEach es X.env := by rfl) (hpl : (backTo pos (starEach es X.env)).any (·.1) = false := by rfl) :
    PE X (.Call (.Name x p) (e :: es) [] pos) (tMakeE C sp E t) := by
  refine ⟨fun pins s σ H Q I h => ?_⟩
  refine wpAny_Call_Name_kw (ld_glob I hg hm ?_ hdb)
  refine PySem.W.callWith_K (h₀ := X.base) I.ok.mod.kin M.kp (thn (ha.run pos pins s σ H _ I h) fun us s1 ⟨vs, H1, I1, r, q⟩ => ⟨I1.kIn, ?_⟩) he hpl
  exact run_makeS M F hr hb (hx σ) I1 r q
end
/-- a class, callable -/
structure CalI (P : Program) (w : World) (K : PySem.W.Frag) (mg : Str → Option Value) (base : Heap) (T : Tb) (x : Str) (ci : Nat) (k n : Nat) (mf : MF) : Prop where
  ex : ∃ C f fd ps, T.exc ci = some C ∧ mg x = some (.ref C) ∧ Mk K C f ∧ FnOk P w K mg base (L2.CX P w) k f fd ps (spOf K T n .sh mf) ∧ Binds K fd ps []
def eMake (ci n : Nat) (mf : MF) (fs : S → R (List D)) : S → R D := fun st => (fs st).bind fun ds s => if ds.length + 1 = n then (match mf (.ref s.m.length :: ds) (s.m ++ [.obj ci []]) with
  | .ok .non m' => .ok (.ref s.m.length) ⟨s.r, m'⟩
  | .raise e m' => .raise e ⟨s.r, m'⟩
  | _ => .stuck) else .stuck
section
variable {T : Tb} {X : Cx} {Γ Γ' : Fls} {e : Expr} {pos p : Pos} {es : List Expr} {fs : S → R (List D)} {ci n k : Nat} {x : Str} {mf : MF}
theorem je_make (C : CalI X.prog X.w X.K X.mg X.base T x ci k n mf) {k0 : Nat} (hr : Room k0 X.A) (hk : k + 1 ≤ k0) (hg : Gl X x) (ha : JA T X Γ (e :: es) fs) (hdb : (x == ("__debug__" : Str)) = false := by decide)
    (he : starEach (e :: es) X.env = (false, eval e X.env) :: starEach es X.env := by rfl) (hpl : (backTo pos (starEach es X.env)).any (·.1) = false := by rfl) : JE T X Γ (.Call (.Name x p) (e :: es) [] pos) .sh (eMake ci n mf fs) := by
  obtain ⟨CA, fa, fd, ps, tc, hmg, M, Fn, hb⟩ := C.ex
  refine ⟨fun W tk => PE.imp (pe_makeE (E := WE W) M Fn (hr.mono hk) hg hmg hb (passAt tk) (ha.run W tk) hdb he hpl) fun σ H Q ⟨g, st, I, p⟩ => ?_⟩
  refine ta_bind ipE I p fun ds s1 vs H1 g1 q1 I1 r1 p1 => ?_
  intro ax dx hx hdx hne
  split at p1
  case isFalse => exact p1.elim
  rename_i hl
  have hx2 : upd H1 dx (.own ax) ax = none := by rw [upd_ne (fun z => hne z.symm)]; exact hx
  have I2 := I1.new (o := .own ax) hdx
  have I3 := I2.new (o := .ins CA dx []) hx2
  have s13 : Step g1 H1 g1 (upd (upd H1 dx (.own ax)) ax (.ins CA dx [])) := (Step.new hdx).trans (Step.new hx2)
  have I4 := I3.more (c := .obj ci []) upd_same rfl (I1.wf.nota hx) (I1.wf.noto hx) ⟨CA, dx, [], upd_same, tc, rfl⟩
  have s14 : Step g1 H1 (g1.more ax) (upd (upd H1 dx (.own ax)) ax (.ins CA dx [])) := s13.more hx
  have q14 : QStep g1 H1 (g1.more ax) (upd (upd H1 dx (.own ax)) ax (.ins CA dx [])) := ⟨s14, rfl, fun i b hb => by
    obtain ⟨o', e, _⟩ := I1.wf.ot b (.inl ⟨i, hb⟩)
    rw [upd_ne (fun z => by rw [z, hx] at e; cases e), upd_ne (fun z => by rw [z, hdx] at e; cases e)]⟩
  have rx : Rp X.K T (g1.more ax) (upd (upd H1 dx (.own ax)) ax (.ins CA dx [])) (.ref s1.m.length) (.ref ax) := ref_more I3
  have rs : Rps X.K T (g1.more ax) (upd (upd H1 dx (.own ax)) ax (.ins CA dx [])) (.ref s1.m.length :: ds) (.ref ax :: vs) := by
    simp only [Rps]
    exact ⟨_, _, rfl, rx, r1.sub (s14.sub I1.wf)⟩
  refine sp_of (m := .sh) (.inl rfl) I4 rs hl ?_
  show PostE X.K T Γ σ (g1.more ax) _ .sh W _ (callR (mf (.ref s1.m.length :: ds) (s1.m ++ [.obj ci []])) { s1 with m := s1.m ++ [.obj ci []] })
  cases em : mf (.ref s1.m.length :: ds) (s1.m ++ [.obj ci []]) with
  | ok d m' =>
    rw [em] at p1
    cases d with
    | non =>
      intro v H' g' q' I' r'
      have ev : v = .non := by simpa [RpM, Rp] using r'
      refine ⟨ev, p1 _ H' g' (q14.trans q') I' ?_⟩
      show Rp X.K T g' H' (.ref s1.m.length) (.ref ax)
      simp only [Rp] at rx ⊢
      obtain ⟨a, ea, hn⟩ := rx
      obtain ⟨l, el⟩ := q'.toStep.mu
      exact ⟨a, ea, by rw [← el, List.getElem?_append_left (List.getElem?_eq_some_iff.1 hn).1]; exact hn⟩
    | _ => exact p1.elim
  | raise ex m' =>
    rw [em] at p1
    intro cls dd H' g' s' hf' xr
    exact p1 cls dd H' g' (s14.trans s') hf' xr
  | stuck => rw [em] at p1; exact p1.elim
end
end DL
set_option linter.all false
set_option Elab.async false
set_option maxRecDepth 100000
set_option maxHeartbeats 4000000
namespace DL
open PySem PySem.Spec PySem.Calls PyProof.Rows L2
/-! ### dicts with tuple keys: k in d, {k: v}, len(d) -/
section
variable {X : Cx} {o i e f a b value : Expr} {pos pos' apos cpos : Pos} {td ty tx tv ta tb : TE}
def tTDic1 (K : PySem.W.Frag) (ta tb : TE) : TE := fun σ H Q => ∀ p, H p = none → (p == sysModules) = false → ta σ (upd H p (.ext (RawN p []))) fun y H1 => tb σ H1 fun v H2 => ∃ b k, y = .ref b ∧ H2 p = some (.ext (RawN p [])) ∧ NkV K H2 k (.ref b) ∧ k.depth ≤ 8 ∧
  ∀ u, RelV v u → Q (.ref p) (upd H2 p (.ext (RawN p [(k, b, u)])))
theorem pe_tdic1 (hu : X.A.units + 64 < cLine) (ha : PE X a ta) (hb : PE X b tb) : PE X (.Dict [some a] [b] pos) (tTDic1 X.K ta tb) := by
  refine ⟨fun pins s σ H Q I h => ?_⟩
  have hn := I.hok.fresh (Nat.le_refl s.heap.objs.size)
  have hlo : (s.heap.objs.size == sysModules) = false := beq_eq_false_iff_ne.mpr (Nat.ne_of_gt I.big)
  have raw0 : RawN s.heap.objs.size [] (s.heap.push { cls := .type "dict", data := .dict #[] }) := ⟨_, #[], 0, Heap.get?_push_size _ rfl, ⟨rfl, rfl, rfl⟩, rfl, fun w => rfl⟩
  have I1 := I.laid (a := s.heap.objs.size) (o := .ext (RawN s.heap.objs.size [])) (h' := s.heap.push { cls := .type "dict", data := .dict #[] }) (t' := s.toks) (fun _ _ q => Heap.get?_push_of_some _ q) (Nat.le_refl _) (raw_ok raw0)
  have room : (nestedKind X.prog X.w).room X.A := by
    show X.A.units + 8 < cLine
    omega
  rw [arm_eval_Dict, zip_pairTrees [some a] [b] X.env pos rfl rfl, dictDisplay_pairs _ (by simp [pairTrees]) (by simp [pairTrees])]
  refine wpAny_bind (wpAny_standAt (wpAny_bind (wpAny_subDictH (knd := nestedKind X.prog X.w) (Q := fun d s' => wpAny (model X.prog X.w) X.A (pure (Value.ref d)) (EP X pins σ Q) X.xe s') room (by simp [pairTrees]) ?_)))
  refine pairTrees_cons_walk (thn (ha.run pins _ σ _ _ I1 (h _ hn hlo)) fun kv s1 ⟨y, H1, I2, ry, q1⟩ => thn (hb.run pins s1 σ H1 _ I2 q1) fun vv s2 ⟨v, H2, I3, rv, c, k, ey, hp, kv', kd, q2⟩ => pairTrees_nil_walk ?_)
  subst ey
  obtain rfl : kv = Value.ref c := ry
  have dd : DitH X.K H2 s.heap.objs.size [] := ⟨hp, hlo, List.nodup_nil, fun _ h => (nomatch h), fun _ h => (nomatch h)⟩
  refine ⟨[(k, c, vv)], ⟨rfl, rfl, ⟨nk_is I3 _ _ _ kv' rfl, kd⟩, trivial⟩, dd.at I3, fun h' tk dd' hs' => wpAny_pure ?_⟩
  have raw := raw_of (X := X) dd' (fun x hx => by
    rw [List.mem_singleton.1 hx]
    exact kv')
  obtain ⟨o1, es1, ep1, ho1, _⟩ := id raw
  exact ⟨V.ref s.heap.objs.size, _, d_write I3 (by rw [hp]; exact True.intro) hs' ⟨o1, ho1⟩ (raw_ok raw), rfl, q2 vv rv⟩
end
def eDit1 (f1 f2 : S → R D) : S → R D := fun st => (f1 st).bind fun k s1 => (f2 s1).bind fun v s2 => match keyT k with
  | some _ => .ok (.ref s2.m.length) { s2 with m := s2.m ++ [.dit [(k, v)]] }
  | none => .stuck
section
variable {T : Tb} {X : Cx} {Γ : Fls} {a b : Expr} {f1 f2 : S → R D} {pos : Pos}
theorem je_tdic1 (hu : X.A.units + 64 < cLine) (ha : JE T X Γ a .sh f1) (hb : JE T X Γ b .sh f2) : JE T X Γ (.Dict [some a] [b] pos) .sh (eDit1 f1 f2) := by
  refine ⟨fun W tk => PE.imp (pe_tdic1 hu (ha.run W tk) (hb.run W tk)) fun σ H Q ⟨g, st, I, p⟩ => fun q hq hlo => ?_⟩
  have I0 := I.new (o := .ext (RawN q [])) hq
  have q0 : QStep g H g (upd H q (.ext (RawN q []))) := ⟨.new hq, rfl, fun i b hb => by
    obtain ⟨o', e, _⟩ := I.wf.ot b (.inl ⟨i, hb⟩)
    rw [upd_ne (ne_of_none e hq)]⟩
  refine ⟨g, st, I0, ?_⟩
  unfold eDit1 at p
  cases e1 : f1 st with
  | raise ex s1 => rw [e1] at p; exact fun cls dd H' g' s => p cls dd H' g' (q0.toStep.trans s)
  | stuck => rw [e1] at p; exact p
  | ok d1 s1 =>
    rw [e1] at p
    intro v H1 g1 q1 I1 r1
    refine ⟨g1, s1, I1, ?_⟩
    simp only [R.bind] at p
    cases e2 : f2 s1 with
    | raise ex s2 => rw [e2] at p; exact fun cls dd H' g' s => p cls dd H' g' ((q0.toStep.trans q1.toStep).trans s)
    | stuck => rw [e2] at p; exact p
    | ok d2 s2 =>
      rw [e2] at p
      intro w H2 g2 q2 I2 r2
      simp only at p
      split at p
      case h_2 => exact p.elim
      rename_i k ek
      have qs : QStep g H g2 H2 := (q0.trans q1).trans q2
      have hp1 : H1 q = some (.ext (RawN q [])) := q1.fr q _ upd_same (I.wf.noto hq)
      have no1 : ¬ g1.Own q := fun z => by
        rcases q1.on q z with z | z
        · exact I.wf.noto hq z
        · rw [upd_same] at z
          cases z
      have hp2 : H2 q = some (.ext (RawN q [])) := q2.fr q _ hp1 no1
      have no2 : ¬ g2.Own q := fun z => by
        rcases q2.on q z with z | z
        · exact no1 z
        · rw [hp1] at z
          cases z
      have na1 : ¬ g1.A q := fun z => by
        rcases q1.an q z with z | z | z
        · exact I.wf.nota hq z
        · exact I.wf.noto hq z
        · rw [upd_same] at z
          cases z
      have na2 : ¬ g2.A q := fun z => by
        rcases q2.an q z with z | z | z
        · exact na1 z
        · exact no1 z
        · rw [hp1] at z
          cases z
      obtain ⟨k1, k2, k3⟩ := keyT_of ek
      obtain ⟨bd, ey⟩ := tp_ref k1 r1
      subst ey
      have r1' : Rp X.K T g2 H2 d1 (.ref bd) := Rp.step I1.wf q2.toStep r1
      have kv := nk_of _ _ _ k2 r1'
      refine ⟨bd, k, rfl, hp2, kv, k3, fun uu ru => ?_⟩
      have u : Sub g2 H2 g2 (upd H2 q (.ext (RawN q [(k, bd, uu)]))) := ⟨fun _ h => h, fun b o hA h => by
        rw [upd_ne fun z => na2 (by rw [← z]; exact hA)]
        exact h, fun b o h i => by
        rw [upd_ne fun z => ?_]
        · exact h
        · rw [z, hp2] at h
          cases h
          exact absurd i (by simp [imo]), List.prefix_refl _⟩
      have wf : WF g2 (upd H2 q (.ext (RawN q [(k, bd, uu)]))) := ⟨fun b hb => by
        obtain ⟨o', e⟩ := I2.wf.ta b hb
        exact ⟨o', by rw [upd_ne fun z => na2 (by rw [← z]; exact hb)]; exact e⟩, fun b hb => by
        obtain ⟨o', e⟩ := I2.wf.ot b hb
        exact ⟨o', by rw [upd_ne fun z => no2 (by rw [← z]; exact hb)]; exact e⟩, I2.wf.ao, I2.wf.nf, I2.wf.df, I2.wf.fm, I2.wf.nm⟩
      have I3 : SR X.K T Γ g2 σ (upd H2 q (.ext (RawN q [(k, bd, uu)]))) s2 := I2.sub u wf rfl rfl fun b hb => by rw [upd_ne fun z => no2 (by rw [← z]; exact hb)]
      have I4 := I3.more (a := q) (o := .ext (RawN q [(k, bd, uu)])) (c := .dit [(d1, d2)]) upd_same rfl na2 no2 ⟨[(k, bd, uu)], [w], upd_same, hlo, by simp [k2], by simp, by simp [k3], .cons ru .nil, Rps.one ((Rp.sub u r1').sub .more), Rps.one ((Rp.sub u r2).sub .more)⟩
      have q4 : QStep g H (g2.more q) (upd H2 q (.ext (RawN q [(k, bd, uu)]))) := ⟨(⟨qs.aa, qs.an, qs.on, fun b o' h n => by
        rw [upd_ne (ne_of_none h hq)]
        exact qs.fr b o' h n, fun b o' h i => by
        rw [upd_ne (ne_of_none h hq)]
        exact qs.im b o' h i, fun b h => by
        by_cases e : b = q
        · rw [e]
          exact hq
        · rw [upd_ne e] at h
          exact qs.tr b h, qs.mu⟩ : Step g H g2 (upd H2 q (.ext (RawN q [(k, bd, uu)])))).more hq, qs.qf, fun i b hb => by
        obtain ⟨o', e, _⟩ := I.wf.ot b (.inl ⟨i, hb⟩)
        rw [upd_ne (ne_of_none e hq)]
        exact qs.qo i b hb⟩
      exact p _ _ _ q4 I4 (ref_more I3)
/-- k in d, k not in d -/
def tinD (neg : Bool) : D → D → S → R D := fun k d s => match d, keyT k with
  | .ref n, some k => (match mDit s n with
    | some kvs => .ok (.bl (if neg then !(valT kvs k).isSome else (valT kvs k).isSome)) s
    | none => .stuck)
  | _, _ => .stuck
theorem tin_get {K : PySem.W.Frag} {g : Gh} {σ : L2.St} {H H0 : Hp} {st : S} {W : WX} {Q : VK} {d k : D} {x y : V} {neg : Bool} (I : SR K T Γ g σ H st) (rd : RpM K T g H0 H .b1 d x) (rk : Rp K T g H k y) (p : PostE K T Γ σ g H .sh W Q (tinD neg k d st)) :
    ∃ a b xs k, x = .ref a ∧ y = .ref b ∧ DitH K H a xs ∧ NkV K H k (.ref b) ∧ k.depth ≤ 8 ∧ Q (.bl (if neg then !(atKey xs k).isSome else (atKey xs k).isSome)) H := by
  unfold tinD at p
  split at p
  · rename_i n kk ek
    split at p
    · rename_i kvs em
      obtain ⟨ad, ex, hn⟩ := b_ref rd
      subst ex
      obtain ⟨k1, k2, k3⟩ := keyT_of ek
      obtain ⟨bd, ey⟩ := tp_ref k1 rk
      subst ey
      obtain ⟨xs, vs, h1, h2⟩ := dit_at I em hn
      have z := valT_at kk h2
      refine ⟨ad, bd, xs, kk, rfl, rfl, h1, nk_of _ _ _ k2 rk, k3, ?_⟩
      cases ev : valT kvs kk with
      | none =>
        rw [ev] at z p
        have z' : atKey xs kk = none := z
        rw [z']
        exact p _ H g (.refl g H) I rm_bl
      | some v =>
        rw [ev] at z p
        obtain ⟨pp, w, z1, z2, z3⟩ := z
        rw [z1]
        exact p _ H g (.refl g H) I rm_bl
    · exact p.elim
  · exact p.elim
theorem jt_tnin (hu : X.A.units + 64 < cLine) (ha : JE T X Γ a .sh f1) (hb : JE T X Γ b .b1 f2) (hm : behindInMarks .NotIn b = false := by first | exact nobehind _ (by decide) (by decide) | rfl) : JT T X Γ (.Compare a [.NotIn] [b] pos) (toB (e2 (tinD true) f1 f2)) :=
  jt_toB (fun W tk => PC.imp (pc_tnotin hu (ha.run W tk) (hb.run W tk)) fun σ H Q ⟨g, st, I, p⟩ => te_bind ipE I p fun d1 s1 x H1 g1 q1 I1 r1 p1 => te_bind ipE I1 p1 fun d2 s2 y H2 g2 q2 I2 r2 p2 =>
    let ⟨ad, bd, xs, k, h1, h2, h3, h4, h5, h6⟩ := tin_get I2 r2 (Rp.step I1.wf q2.toStep r1) p2
    ⟨ad, bd, xs, k, h1, h2, h3, h4, h5, h6⟩) hm
/-- len(d) -/
def rLenT (K : PySem.W.Frag) : List V → Hp → VK → Prop := fun vs H Q => ∃ a xs, vs = [.ref a] ∧ DitH K H a xs ∧ (xs.length : Int) < 2 ^ 63 ∧ Q (.int xs.length) H
theorem cr_lenT : CallR X (.builtin "len") (rLenT X.K) := by
  intro pins s σ H vs us Q I rx ⟨a, xs, e, d, hz, q⟩
  subst e
  cases rx with
  | cons h t =>
    cases t
    rename_i u
    obtain rfl : u = Value.ref a := h
    refine call_len_dictH d.lo (d.at I) hz ?_
    exact ⟨V.int xs.length, H, I.tok _, ⟨_, rfl⟩, q⟩
def lenT : D → S → R D := fun d s => match d with
  | .ref n => (match mDit s n with
    | some kvs => if kvs.length ≤ sizeLine then .ok (.int kvs.length) s else .stuck
    | none => .stuck)
  | _ => .stuck
theorem bi_lenT : Bi1 X T (.builtin "len") .b1 .sh lenT := by
  refine ⟨_, cr_lenT, fun Γ g σ H st W Q x d H0 I r p => ?_⟩
  unfold lenT at p
  split at p
  · split at p
    · rename_i n kvs em
      split at p
      · rename_i hz
        obtain ⟨ad, ex, hn⟩ := b_ref r
        subst ex
        obtain ⟨xs, vs, h1, h2⟩ := dit_at I em hn
        exact ⟨ad, xs, rfl, h1, by rw [← h2.len]; rw [sizeLine_eq] at hz; omega, by rw [← h2.len]; exact post_v I p rm_int⟩
      · exact p.elim
    · exact p.elim
  · exact p.elim
end
end DL
set_option linter.all false
set_option Elab.async false
set_option maxRecDepth 100000
set_option maxHeartbeats 4000000
namespace DL
open PySem PySem.Spec PySem.Calls PyProof.Rows L2
/-! ### what is known of a class and its methods at the module's top -/
def metS (j : Nat) : Stmt → Stmt
  | .ClassDef (body := b) .. => b.getD j (.Pass ⟨0, 0, 0, 0⟩)
  | s => s
structure FnM (K : PySem.W.Frag) (T : Tb) (ci : Nat) (mn qual : Str) (st : Stmt) (ps : List Str) : Prop where
  ex : ∃ C f fd, T.exc ci = some C ∧ L2.Cls K C ∧ Meth K C mn f ∧ Fun K mn qual st f fd ∧ Binds K fd ps []
structure FnI (K : PySem.W.Frag) (mg : Str → Option Value) (T : Tb) (x : Str) (ci : Nat) (qual : Str) (st : Stmt) (ps : List Str) : Prop where
  ex : ∃ C f fd, T.exc ci = some C ∧ mg x = some (.ref C) ∧ Mk K C f ∧ Fun K "__init__" qual st f fd ∧ Binds K fd ps []
section
variable {K : PySem.W.Frag} {T : Tb} {mg : Str → Option Value} {h : Heap} {x mn qual fn : Str} {ci : Nat} {C f : Addr} {st : Stmt} {ps : List Str} {od an : Option Addr} {sl : Array (Option Value)} {oc kV dc pm cd ct : Value}
theorem cls_mk (pg : PySem.W.plainGet K C Str.empty = true) (hd : PySem.W.hasDictIn K C = true) (po : PySem.W.plainOver K C = true) (sa : PySem.W.findIn K (.ref C) "__setattr__" = some (some (.builtin "object.__setattr__"))) : L2.Cls K C := ⟨pg, hd, po, sa⟩
theorem fnM_mk (hT : T.exc ci = some C) (cl : L2.Cls K C) (a : PySem.W.findIn K (.ref C) mn = some (some (.ref f))) (i : PySem.W.isFn K (.ref f) = true)
    (l : K.lookup f = some ⟨oc, od, .func (PySem.W.fnOf mn qual (defArgs st) (defBody st) (defScope st) .none kV dc pm an cd ct), sl⟩) (c : PySem.W.codeIn K cd qual = true) (k : PySem.W.keepIn K (.ref f) = true)
    (hb : ∀ (kV doc pm : Value) (an : Option Addr) (cdv ct : Value) (us : List Value), us.length = ps.length → bindArgs (PySem.W.fnOf mn qual (defArgs st) (defBody st) (defScope st) .none kV doc pm an cdv ct) ⟨us, []⟩ = pure (ps.zip us)) : FnM K T ci mn qual st ps :=
  ⟨C, f, _, hT, cl, ⟨a, i, k⟩, fun_mk l c k, (fun_mk l c k).binds hb⟩
theorem fnI_mk (X : K.In h) (G : h.Ns mainGlobals mg) (hT : T.exc ci = some C) (aC : PySem.W.nsIn K mainGlobals x = some (some (.ref C))) (mk : PySem.W.makesIn K C = true) (kc : PySem.W.keepIn K (.ref C) = true)
    (a : PySem.W.findIn K (.ref C) "__init__" = some (some (.ref f))) (i : PySem.W.isFn K (.ref f) = true)
    (l : K.lookup f = some ⟨oc, od, .func (PySem.W.fnOf "__init__" qual (defArgs st) (defBody st) (defScope st) .none kV dc pm an cd ct), sl⟩) (c : PySem.W.codeIn K cd qual = true) (k : PySem.W.keepIn K (.ref f) = true)
    (hb : ∀ (kV doc pm : Value) (an : Option Addr) (cdv ct : Value) (us : List Value), us.length = ps.length → bindArgs (PySem.W.fnOf "__init__" qual (defArgs st) (defBody st) (defScope st) .none kV doc pm an cdv ct) ⟨us, []⟩ = pure (ps.zip us)) : FnI K mg T x ci qual st ps :=
  ⟨C, f, _, hT, PySem.W.mg_of X G aC, ⟨mk, a, i, kc⟩, fun_mk l c k, (fun_mk l c k).binds hb⟩
theorem fldC_mk {y : Str} (hT : T.exc ci = some C) (cl : L2.Cls K C) (n : PySem.W.findIn K (.ref C) y = some none) : FldC K T ci y := ⟨C, hT, cl, n⟩
end
end DL
set_option linter.all false
set_option Elab.async false
set_option maxRecDepth 100000
set_option maxHeartbeats 4000000
namespace DL
open PySem PySem.Spec PySem.Calls PyProof.Rows L2
/-! ### max of alike data, x <= y of alike data, a dict of the module (whole numbers to whole numbers) -/
end DL
set_option linter.all false
set_option Elab.async false
set_option maxRecDepth 100000
set_option maxHeartbeats 4000000
namespace DL
open PySem PySem.Spec PySem.Calls PyProof.Rows L2
end DL
set_option linter.all false
set_option Elab.async false
set_option maxRecDepth 100000
set_option maxHeartbeats 4000000
namespace DL
open PySem PySem.Spec PySem.Calls PyProof.Rows L2
/-! ### a op1 b op2 c; a dict display of three text keys -/
def eChain (o1 o2 : D → D → Option Bool) (f1 f2 f3 : S → R D) : S → R D := fun st => (f1 st).bind fun d1 s1 => (f2 s1).bind fun d2 s2 => match o1 d1 d2 with
  | some true => (f3 s2).bind fun d3 s3 => (match o2 d2 d3 with
    | some k => .ok (.bl k) s3
    | none => .stuck)
  | some false => .ok (.bl false) s2
  | none => .stuck
section
variable {T : Tb} {X : Cx} {Γ : Fls} {a b c : Expr} {f1 f2 f3 : S → R D} {pos : Pos}
theorem je_chain {op op' : CmpOp} {o1 o2 : D → D → Option Bool} (h1 : CmpR X T op .b1 .b1 o1) (h2 : CmpR X T op' .b1 .b1 o2) (ha : JE T X Γ a .b1 f1) (hb : JE T X Γ b .b1 f2) (hc : JE T X Γ c .b1 f3)
    (hm : lastMarks [op, op'] [b, c] = false := by with_unfolding_all rfl) : JE T X Γ (.Compare a [op, op'] [b, c] pos) .sh (eChain o1 o2 f1 f2 f3) := by
  obtain ⟨r1', ho1, key1⟩ := h1.ex
  obtain ⟨r2', ho2, key2⟩ := h2.ex
  refine ⟨fun W tk => PE.imp (pe_chain ho1 ho2 (ha.run W tk) (hb.run W tk) (hc.run W tk) hm) fun σ H Q ⟨g, st, I, p⟩ => ?_⟩
  refine te_bind ipE I p fun d1 s1 x H1 g1 q1 I1 r1 p1 => te_bind ipE I1 p1 fun d2 s2 y H2 g2 q2 I2 r2 p2 => ?_
  have r1s := r1.step I1.wf I2.wf q2
  split at p2
  · rename_i e1
    refine key1 Γ g2 σ H2 s2 _ x y d1 d2 H H1 true I2 r1s r2 e1 ⟨true, rfl, ?_⟩
    rw [if_pos rfl]
    refine te_bind ipE I2 p2 fun d3 s3 z H3 g3 q3 I3 r3 p3 => ?_
    split at p3
    · rename_i k e2
      exact key2 Γ g3 σ H3 s3 Q y z d2 d3 H1 H2 k I3 (r2.step I2.wf I3.wf q3) r3 e2 (post_v I3 p3 rm_bl)
    · exact p3.elim
  · rename_i e1
    refine key1 Γ g2 σ H2 s2 _ x y d1 d2 H H1 false I2 r1s r2 e1 ⟨false, rfl, ?_⟩
    rw [if_neg (by decide)]
    exact post_v I2 p2 rm_bl
  · exact p2.elim
end
end DL
set_option linter.all false
set_option Elab.async false
set_option maxRecDepth 100000
set_option maxHeartbeats 4000000
namespace DL
open PySem PySem.Spec PySem.Calls PyProof.Rows L2
/-! ### {k1: v1, k2: v2, k3: v3} -/
section
variable {K : PySem.W.Frag} {T : Tb} {Γ : Fls} {σ : L2.St} {g g2 : Gh} {H H2 : Hp} {st s2 : S} {W : WX} {Q : VK} {q : Addr}
/-- the wish behind a display, while its parts are made -/
def PD (K : PySem.W.Frag) (T : Tb) (Γ : Fls) (σ : L2.St) (W : WX) (Q : VK) (g : Gh) (H : Hp) (q : Addr) : Gh → Hp → R D → Prop := fun g' H' r => match r with
  | .ok d st => QStep g (upd H q (.dK [])) g' H' ∧ PostE K T Γ σ g H .sh W Q (.ok d st)
  | .raise e st => PostX K T σ g' H' W e st
  | .stuck => False
theorem ipD : IsPost K T σ W (PD K T Γ σ W Q g H q) := ⟨fun _ _ _ _ h => h, fun _ _ _ _ h => h, fun _ _ h => h, fun _ _ _ _ r s h => by
  cases r with
  | ok d st => exact ⟨h.1.trans s, h.2⟩
  | raise e st => exact PostX.shift s.toStep h
  | stuck => exact h⟩
theorem pd_of {r : R D} (hq : H q = none) (q0 : QStep g H g (upd H q (.dK []))) (p : PostE K T Γ σ g H .sh W Q r) : PD K T Γ σ W Q g H q g (upd H q (.dK [])) r := by
  cases r with
  | ok d st => exact ⟨.refl _ _, p⟩
  | raise e st => exact PostX.shift q0.toStep p
  | stuck => exact p
theorem disp_end {kvs : List (Key × D)} {ws : List V} (I : SR K T Γ g σ H st) (hq : H q = none) (I2 : SR K T Γ g2 σ H2 s2) (rs : Rps K T g2 H2 (kvs.map (·.2)) ws)
    (P : PD K T Γ σ W Q g H q g2 H2 (.ok (.ref s2.m.length) { s2 with m := s2.m ++ [.dic false kvs] })) : H2 q = some (.dK []) ∧ Q (.ref q) (upd H2 q (.dK ((kvs.map (·.1)).zip ws))) := by
  obtain ⟨qs, p⟩ := P
  obtain ⟨o, ho⟩ : ∃ o : HO, o = .dK ((kvs.map (·.1)).zip ws) := ⟨_, rfl⟩
  rw [← ho]
  have him : imo o = false := by rw [ho]; rfl
  have hp2 : H2 q = some (.dK []) := qs.fr q _ upd_same (I.wf.noto hq)
  have no2 : ¬ g2.Own q := fun z => by
    rcases qs.on q z with z | z
    · exact I.wf.noto hq z
    · rw [upd_same] at z
      cases z
  have na2 : ¬ g2.A q := fun z => by
    rcases qs.an q z with z | z | z
    · exact I.wf.nota hq z
    · exact I.wf.noto hq z
    · rw [upd_same] at z
      cases z
  have u : Sub g2 H2 g2 (upd H2 q o) := ⟨fun _ h => h, fun b o' hA h => by
    rw [upd_ne fun z => na2 (by rw [← z]; exact hA)]
    exact h, fun b o' h i => by
    rw [upd_ne fun z => ?_]
    · exact h
    · rw [z, hp2] at h
      cases h
      exact absurd i (by simp [imo]), List.prefix_refl _⟩
  have wf : WF g2 (upd H2 q o) := ⟨fun b hb => by
    obtain ⟨o', e⟩ := I2.wf.ta b hb
    exact ⟨o', by rw [upd_ne fun z => na2 (by rw [← z]; exact hb)]; exact e⟩, fun b hb => by
    obtain ⟨o', e⟩ := I2.wf.ot b hb
    exact ⟨o', by rw [upd_ne fun z => no2 (by rw [← z]; exact hb)]; exact e⟩, I2.wf.ao, I2.wf.nf, I2.wf.df, I2.wf.fm, I2.wf.nm⟩
  have I3 : SR K T Γ g2 σ (upd H2 q o) s2 := I2.sub u wf rfl rfl fun b hb => by rw [upd_ne fun z => no2 (by rw [← z]; exact hb)]
  have I4 := I3.more (a := q) (o := o) (c := .dic false kvs) upd_same him na2 no2 ⟨ws, by rw [upd_same, ho], (rs.sub u).sub .more⟩
  have q4 : QStep g H (g2.more q) (upd H2 q o) := ⟨(⟨qs.aa, fun b z => (by
    rcases qs.an b z with z | z | z
    · exact .inl z
    · exact .inr (.inl z)
    · by_cases e : b = q
      · rw [e, upd_same] at z; cases z
      · rw [upd_ne e] at z; exact .inr (.inr z)), fun b z => (by
    rcases qs.on b z with z | z
    · exact .inl z
    · by_cases e : b = q
      · rw [e, upd_same] at z; cases z
      · rw [upd_ne e] at z; exact .inr z), fun b o' h n => by
    rw [upd_ne (ne_of_none h hq)]
    exact qs.fr b o' (by rw [upd_ne (ne_of_none h hq)]; exact h) n, fun b o' h i => by
    rw [upd_ne (ne_of_none h hq)]
    exact qs.im b o' (by rw [upd_ne (ne_of_none h hq)]; exact h) i, fun b h => by
    by_cases e : b = q
    · rw [e]
      exact hq
    · rw [upd_ne e] at h
      have := qs.tr b h
      rwa [upd_ne e] at this, qs.mu⟩ : Step g H g2 (upd H2 q o)).more hq, qs.qf, fun i b hb => by
    obtain ⟨o', e, _⟩ := I.wf.ot b (.inl ⟨i, hb⟩)
    rw [upd_ne (ne_of_none e hq)]
    have := qs.qo i b hb
    rw [upd_ne (ne_of_none e hq)] at this
    exact this⟩
  exact ⟨hp2, p _ _ _ q4 I4 (ref_more I3)⟩
end
def eDic3 (a1 b1 a2 b2 a3 b3 : S → R D) : S → R D := fun st => (a1 st).bind fun k1 s1 => (b1 s1).bind fun v1 s2 => (a2 s2).bind fun k2 s3 => (b2 s3).bind fun v2 s4 => (a3 s4).bind fun k3 s5 => (b3 s5).bind fun v3 s6 =>
  match keyD k1, keyD k2, keyD k3 with
  | some x, some y, some z => if x ≠ y ∧ x ≠ z ∧ y ≠ z then .ok (.ref s6.m.length) { s6 with m := s6.m ++ [.dic false [(x, v1), (y, v2), (z, v3)]] } else .stuck
  | _, _, _ => .stuck
section
variable {T : Tb} {X : Cx} {Γ : Fls} {p1 p2 p3 w1 w2 w3 : Expr} {a1 b1 a2 b2 a3 b3 : S → R D} {pos : Pos}
theorem je_dic3 (h1 : JE T X Γ p1 .sh a1) (i1 : JE T X Γ w1 .sh b1) (h2 : JE T X Γ p2 .sh a2) (i2 : JE T X Γ w2 .sh b2) (h3 : JE T X Γ p3 .sh a3) (i3 : JE T X Γ w3 .sh b3) :
    JE T X Γ (.Dict [some p1, some p2, some p3] [w1, w2, w3] pos) .sh (eDic3 a1 b1 a2 b2 a3 b3) := by
  refine ⟨fun W tk => PE.imp (pe_disp (pps_cons (h1.run W tk) (i1.run W tk) (pps_cons (h2.run W tk) (i2.run W tk) (pps_cons (h3.run W tk) (i3.run W tk) pps_nil))) rfl rfl (by simp) (by simp)) fun σ H Q ⟨g, st, I, p⟩ => fun q hq => ?_⟩
  have I0 := I.new (o := .dK []) hq
  have q0 : QStep g H g (upd H q (.dK [])) := ⟨.new hq, rfl, fun i b hb => by
    obtain ⟨o', e, _⟩ := I.wf.ot b (.inl ⟨i, hb⟩)
    rw [upd_ne (ne_of_none e hq)]⟩
  have P0 := pd_of hq q0 p
  refine te_bind ipD I0 P0 fun k1 s1 x1 H1 g1 q1 I1 r1 P1 => te_bind ipD I1 P1 fun v1 s2 y1 H2 g2 q2 I2 r2 P2 => te_bind ipD I2 P2 fun k2 s3 x2 H3 g3 q3 I3 r3 P3 => te_bind ipD I3 P3 fun v2 s4 y2 H4 g4 q4 I4 r4 P4 => te_bind ipD I4 P4 fun k3 s5 x3 H5 g5 q5 I5 r5 P5 => te_bind ipD I5 P5 fun v3 s6 y3 H6 g6 q6 I6 r6 P6 => ?_
  split at P6
  case h_2 => exact P6.elim
  rename_i k k' k'' ek1 ek2 ek3
  split at P6
  case isFalse => exact P6.elim
  rename_i hne
  have e1 : x1 = kV k := key_sh r1 ek1
  have e2 : x2 = kV k' := key_sh r3 ek2
  have e3 : x3 = kV k'' := key_sh r5 ek3
  have s2' : Rp X.K T g6 H6 v1 y1 := Rp.step I2.wf (((q3.trans q4).trans q5).trans q6).toStep r2
  have s4' : Rp X.K T g6 H6 v2 y2 := Rp.step I4.wf (q5.trans q6).toStep r4
  obtain ⟨z1, z2⟩ := disp_end (kvs := [(k, v1), (k', v2), (k'', v3)]) (ws := [y1, y2, y3]) I hq I6 (by
    simp only [List.map_cons, List.map_nil, Rps]
    exact ⟨_, _, rfl, s2', _, _, rfl, s4', _, _, rfl, r6, rfl⟩) P6
  have hm : mergeK [] [(k, y1), (k', y2), (k'', y3)] = [(k, y1), (k', y2), (k'', y3)] := by
    obtain ⟨n1, n2, n3⟩ := hne
    simp [L2.mergeK, L2.putK, n1, n2, n3]
  refine ⟨z1, [(k, y1), (k', y2), (k'', y3)], by rw [e1, e2, e3]; rfl, by simp, ?_⟩
  rw [hm]
  exact z2
end
end DL
set_option linter.all false
set_option Elab.async false
set_option maxRecDepth 100000
set_option maxHeartbeats 4000000
namespace DL
open PySem PySem.Spec PySem.Calls PyProof.Rows L2
/-! ### sorted(set(xs)), of ints -/
section
variable {P : Program} {w : World} {A : Around} {E : Value → Shared → Prop} {s : Shared}
set_option maxRecDepth 100000 in
set_option maxHeartbeats 3200000 in
/-- set(xs), of a list of ints, with the table's own order told (SetR) -/
theorem set_listI {l : Addr} {items : Array Value} (ns : List Int) {Q : Value → Shared → Prop} (hh : A.handled = none) (hl : s.heap.IsList l items) (hit : IntsAre items.toList ns) (hb : ns.length + 1 < scanBound)
    (h : ∀ (h' : Heap) (tk c : Nat), SetR w h' s.heap.objs.size (fun j => decide (j ∈ ns)) c → c ≤ ns.length → (∀ b o, s.heap.get? b = some o → h'.get? b = some o) → Q (.ref s.heap.objs.size) { s with heap := h', toks := tk }) :
    wpAny (model P w) A (call (.type "set") [.ref l]) Q E s := by
  have hisz : items.size = ns.length := by
    have q := IntsAre.length hit
    rw [Array.length_toList] at q
    exact q
  obtain ⟨c, tl, hmro⟩ := F.called_set.mro
  have hmade := F.called_set.made
  have hsub := F.called_set.sub
  refine wpAny_call (codeAny_of_tree ?_)
  show wpAny _ _ (callAny (.type "set") _) _ _ _
  refine wpAny_pure ⟨Code.quiet_builtin _ (by decide +kernel), codeAny_builtin F.entry_type_call ?_⟩
  rw [Around.under_plain (weight_type_call_type "set" [.ref l] []) rfl]
  have h1 := F.called_set.notType
  have h2 := F.called_set.canCreate
  have hct := F.typeCall_set_1 (.ref l)
  repeat (any_goals (first | assumption | wp_step))

  refine codeAny_mono (code_set_led1 (.ref l) (E := E) (Q₁ := fun obj s₁ => obj = .ref s.heap.objs.size ∧ s₁ = { s with heap := s.heap.push { cls := .type "set", dict := none, data := .set #[] 0 (.fresh 0 0 (!w.params.followText "set-order")) } }) ⟨rfl, rfl⟩) fun r s₁ hr => ?_
  cases r with
  | error e => exact hr
  | ok fl =>
    cases fl with
    | ret obj =>
      obtain ⟨rfl, rfl⟩ := hr
      have hS : (s.heap.push { cls := .type "set", dict := none, data := .set #[] 0 (.fresh 0 0 (!w.params.followText "set-order")) }).get? s.heap.objs.size = some { cls := .type "set", dict := none, data := .set #[] 0 (.fresh 0 0 (!w.params.followText "set-order")) } := Heap.get?_push_size _ rfl
      have hT : Shared.TypeIs { s with heap := s.heap.push { cls := .type "set", dict := none, data := .set #[] 0 (.fresh 0 0 (!w.params.followText "set-order")) } } (.ref s.heap.objs.size) "set" := ⟨_, hS, rfl⟩
      have hli := F.called_set.init.lookup
      have hbi := F.called_set.init.bind (.ref s.heap.objs.size)
      repeat (any_goals (first | assumption | wp_step))

      refine codeAny_mono (codeAny_call_builtin (R := wants (fun r s₂ => r = .none ∧ ∃ h' tk c, s₂ = { s with heap := h', toks := tk } ∧ SetR w h' s.heap.objs.size (fun j => decide (j ∈ ns)) c ∧ c ≤ ns.length ∧
          (∀ b o, s.heap.get? b = some o → h'.get? b = some o)) E) F.called_set.init.plain F.entry_set_init (check_set_init_1 hT ?_)) fun r₂ s₂ hr₂ => ?_
      · obtain ⟨ol, hol, hcl, nl, hdl⟩ := hl
        obtain ⟨ocls, odict, odata, oslots⟩ := ol
        simp only at hcl hdl
        subst hcl; subst hdl
        have hol' : (s.heap.push { cls := .type "set", dict := none, data := .set #[] 0 (.fresh 0 0 (!w.params.followText "set-order")) }).get? l = some { cls := .type "list", dict := odict, data := .seq items nl, slots := oslots } := Heap.get?_push_of_some _ hol
        have hsls := F.sub_list_set
        have hslf := F.sub_list_frozenset
        have hne : (Value.type "list" == Value.type "dict") = false := by decide
        have hl1 : (s.heap.push { cls := .type "set", dict := none, data := .set #[] 0 (.fresh 0 0 (!w.params.followText "set-order")) }).IsList l items := ⟨_, hol', rfl, nl, rfl⟩
        unfold Builtin.«set.__init__» noKeywords Builtin.Frozenset.updateFrom
        generalize hPI : pyIter = PI
        wp_walk
        subst hPI

        refine wpAny_pyIter_list hl1 ?_
        refine wpAny_bind (wpAny_runValue ?_)
        have hlS : l < s.heap.objs.size := Heap.lt_size hol
        have hh3 : A.in1.in1.in1.handled = none := by simp [hh]
        have hz1 : (s.heap.push { cls := .type "set", dict := none, data := .set #[] 0 (.fresh 0 0 (!w.params.followText "set-order")) }).objs.size = s.heap.objs.size + 1 := Heap.size_push ..
        have hneI : l ≠ (s.heap.push { cls := .type "set", dict := none, data := .set #[] 0 (.fresh 0 0 (!w.params.followText "set-order")) }).objs.size := by
          rw [Heap.size_push]; exact Nat.ne_of_lt (Nat.lt_succ_of_lt hlS)
        have hSf : s.heap.objs.size ∉ [(s.heap.push { cls := .type "set", dict := none, data := .set #[] 0 (.fresh 0 0 (!w.params.followText "set-order")) }).objs.size, l] := by
          rw [Heap.size_push]; simp only [List.mem_cons, List.mem_singleton, List.not_mem_nil, or_false, not_or]
          exact ⟨Nat.ne_of_lt (Nat.lt_succ_self _), Nat.ne_of_gt hlS⟩
        have hval : ∀ (i : Nat) (v : Value), items[i]? = some v → ∃ k t, ns[i]? = some k ∧ v = .int k t := fun i v hv => by
          have hi : i < ns.length := by rw [← hisz]; exact (Array.getElem?_eq_some_iff.mp hv).1
          obtain ⟨t, e⟩ := PyProof.Rows.IntsAre.int_at hit i v (by rw [Array.getElem?_toList]; exact hv)
          refine ⟨ns[i], t, List.getElem?_eq_getElem hi, ?_⟩
          rw [e, List.getD_eq_getElem?_getD, List.getElem?_eq_getElem hi] <;> rfl
        refine set_update_ints ((Walks.list hh3 _ l hneI items).toS) s.heap.objs.size
          hSf ns hisz hb hval (items.size - 0) 0 _ (by omega) (Nat.zero_le _)
          ⟨⟨_, Heap.get?_push_size _ rfl, rfl, rfl⟩, (hl1.push _)⟩ ?hS0 ?hR
        case hS0 =>
          have hget : ((s.heap.push { cls := .type "set", dict := none, data := .set #[] 0 (.fresh 0 0 (!w.params.followText "set-order")) }).push { cls := .type "list_iterator", data := .fields #[.ref l, .int 0 0] }).get? s.heap.objs.size
              = some { cls := .type "set", dict := none, data := .set #[] 0 (.fresh 0 0 (!w.params.followText "set-order")) } := Heap.get?_push_of_some _ hS
          exact ⟨0, Nat.le_refl 0, setR_new_at hget⟩
        case hR =>
          intro s' c' hm hc' hS'
          obtain ⟨h', g2, d', tk', os'⟩ := s'
          have eg : g2 = s.gens := hm.gens
          have ed : d' = s.drawn := hm.drawn
          have eo : os' = s.os := hm.os
          subst eg; subst ed; subst eo
          show wpAny _ _ _ _ _ _
          refine wpAny_pure ?_
          show wpAny _ _ (ret Value.none) _ _ _
          rw [hisz] at hc'
          refine wpAny_pure ⟨rfl, h', tk', c', rfl, hS', hc', fun b o e => ?_⟩
          have hb0 : b < s.heap.objs.size := Heap.lt_size e
          have hb1 : b ≠ s.heap.objs.size := Nat.ne_of_lt hb0
          have hb2 : b ≠ (s.heap.push { cls := .type "set", dict := none, data := .set #[] 0 (.fresh 0 0 (!w.params.followText "set-order")) }).objs.size := by
            rw [Heap.size_push]; exact Nat.ne_of_lt (Nat.lt_succ_of_lt hb0)
          exact hm.heap b o (by simp only [List.mem_cons, List.mem_singleton, List.not_mem_nil, or_false, not_or]; exact ⟨hb1, hb2⟩) (Heap.get?_push_of_some _ (Heap.get?_push_of_some _ e))

      · cases r₂ with
        | error e => exact hr₂
        | ok fl₂ =>
          cases fl₂ with
          | ret r =>
            obtain ⟨rfl, h', tk, c', rfl, hS', hc', hk'⟩ := hr₂
            repeat (any_goals (first | assumption | wp_step))
            exact h _ _ _ hS' hc' hk'
          | _ => exact hr₂.elim
    | _ => exact hr.elim
end
section
variable {X : Cx}
def rSetK (K : PySem.W.Frag) (w : World) (vs : List V) (H : Hp) (Q : VK) : Prop := ∃ (a : Addr) (ns : List Int), vs = [V.ref a] ∧ SqL K H a (ns.map V.int) ∧ ns.length < 64 ∧ ∀ (S : Int → Bool) (q : Addr) (c : Nat), (∀ k, S k = true ↔ k ∈ ns) → c < 64 → H q = none → Q (.ref q) (upd H q (SetO w q S c))
theorem cr_setK {K : PySem.W.Frag} (hk : X.K = K) (hc : X.calm = true) : CallR X (.type "set") (rSetK K X.w) := by
  subst hk
  intro pins s σ H vs us Q I r h
  obtain ⟨a, ns, rfl, hs, hz, q⟩ := h
  rw [Vals.ref1 r]
  obtain ⟨its, rv, hl, _⟩ := I.list hs
  have hi := rv.ints
  refine set_listI ns (I.ok.hd hc) hl.isList (by simpa using hi) (by have : scanBound = 4096 := rfl; omega) fun h' tk c R hcn hk => ?_
  exact ⟨.ref _, _, I.laid (t' := tk) (o := SetO X.w s.heap.objs.size (fun j => decide (j ∈ ns)) c) (fun b ob z => hk b ob z) (Nat.le_refl _) (setO_new R), rfl, q _ _ c (fun k => by simp) (by omega) (I.hok.fresh (Nat.le_refl _))⟩
end
def srtU (ns : List Int) : List Int := isort (ddF ns)
theorem srtU_uniq {ns l : List Int} (h : l.Pairwise (· < ·)) (hm : ∀ x, x ∈ l ↔ x ∈ ns) : l = srtU ns := by
  refine sorted_uniq ?_ (h.imp fun {a b} z => Int.le_of_lt z) (isort_sorted _)
  refine ((List.perm_ext_iff_of_nodup (h.imp fun {a b} z e => ?_) (ddF_nodup ns)).mpr fun a => by rw [hm, ddF_mem]).trans (isort_perm _).symm
  subst e
  exact absurd z (Int.lt_irrefl _)
def sortSetI : D → S → R D
  | .lst xs, s => (match intsOf xs with
    | some ns => if ns.length < 64 then .ok (.lst ((srtU ns).map D.int)) s else .stuck
    | none => .stuck)
  | _, _ => .stuck
section
variable {T : Tb} {X : Cx} {Γ : Fls} {e : Expr} {f : S → R D} {pos spos : Pos}
theorem je_sortSetI {p p' : Pos} (hc : X.calm = true) (hg : Gl X "sorted") (hm : X.mg "sorted" = none) (hg2 : Gl X "set") (hm2 : X.mg "set" = none) (he : JE T X Γ e .b1 f)
    (na : starEach [.Call (.Name "set" p') [e] [] spos] X.env = (false, eval (.Call (.Name "set" p') [e] [] spos) X.env) :: starEach [] X.env := by rfl) (nb : starEach [e] X.env = (false, eval e X.env) :: starEach [] X.env := by rfl)
    (n1 : (backTo spos (starEach [] X.env)).any (·.1) = false := by rfl) (n2 : (backTo pos (starEach [] X.env)).any (·.1) = false := by rfl) :
    JE T X Γ (.Call (.Name "sorted" p) [.Call (.Name "set" p') [e] [] spos] [] pos) .f1 (e1 sortSetI f) := by
  refine ⟨fun W tk => PE.imp (pe_callB (cr_sortedSet hc) hg hm (by decide +kernel) (pa_cons (pe_callTy (cr_setK rfl hc) hg2 hm2 (by decide +kernel) (pa_cons (he.run W tk) pa_nil nb) (by decide) (by decide) nb n1) pa_nil na) (by decide) (by decide) na n2) fun σ H Q ⟨g, st, I, p⟩ => ?_⟩
  refine te_bind ipE I p fun d1 s1 x H1 g1 q1 I1 r1 p1 => ?_
  unfold sortSetI at p1
  split at p1
  · split at p1
    · rename_i ns en
      split at p1
      · rename_i hz
        obtain ⟨ad, vs, e1, h1, _, h2⟩ := b_lst r1
        have ev := ints_of h2 en
        subst ev
        subst e1
        refine ⟨ad, ns, rfl, .inl (.inl h1), hz, fun S a c hS hcn ha => ?_⟩
        refine ⟨a, S, c, rfl, upd_same, hcn, fun l p hpw hml _ hpn => ?_⟩
        have eS : l = srtU ns := srtU_uniq hpw fun x => by rw [hml, hS]
        rw [eS]
        have I2 := I1.new (o := SetO X.w a S c) ha
        have q2 : QStep g1 H1 g1 (upd H1 a (SetO X.w a S c)) := ⟨.new ha, rfl, fun i b hb => by
          obtain ⟨o, e, _⟩ := I1.wf.ot b (.inl ⟨i, hb⟩)
          rw [upd_ne (ne_of_none e ha)]⟩
        exact post_lst I2 (Rps.ints _) hpn (p1.shift q2)
      · exact p1.elim
    · exact p1.elim
  · exact p1.elim
end
end DL
set_option linter.all false
set_option Elab.async false
set_option maxRecDepth 100000
namespace A15
open PySem PySem.Spec PyProof.Rows L2 DL
def topS (i : Nat) : Stmt := PySem.Challenge.pw_hingewebs_k15_whole_all_green_rows.main.body.getD i (.Pass ⟨0, 0, 0, 0⟩)
def d_MOST_STANDS : D := (.int 2000)
abbrev s__law_box : Stmt := topS 41
abbrev s__law_cells : Stmt := topS 43
abbrev s__law_take : Stmt := topS 42
abbrev s__law_of : Stmt := topS 44
abbrev s__law_named : Stmt := topS 50
abbrev s__law_joins : Stmt := topS 52
abbrev s__law_kind_web : Stmt := topS 53
abbrev s__law_mixed : Stmt := topS 45
abbrev s__law_names : Stmt := topS 51
abbrev s_goes_up : Stmt := topS 33
abbrev s_green_in : Stmt := topS 34
abbrev s_hinge : Stmt := topS 27
abbrev s_shaded : Stmt := topS 31
abbrev s_Search_go_on : Stmt := metS 1 (topS 35)
abbrev s_Search_found : Stmt := metS 2 (topS 35)
abbrev s_unit_row : Stmt := topS 12
abbrev s_first_in : Stmt := topS 30
abbrev s_Search___init__ : Stmt := metS 0 (topS 35)
abbrev s_tupled : Stmt := topS 11
abbrev s_is_long : Stmt := topS 10
abbrev s_is_number : Stmt := topS 7
abbrev s_is_table : Stmt := topS 15
abbrev s_beside : Stmt := topS 16
abbrev s_part_from : Stmt := topS 17
abbrev s_whole_weights : Stmt := topS 20
abbrev s_lowest_ratio : Stmt := topS 18
abbrev s_sign : Stmt := topS 14
abbrev s_part_weights : Stmt := topS 19
abbrev s_weights_in : Stmt := topS 21
abbrev s_is_web : Stmt := topS 22
abbrev s_sure_web : Stmt := topS 23
abbrev s_full_row : Stmt := topS 39
abbrev s_walked_shades : Stmt := topS 32
abbrev s_green_path : Stmt := topS 36
abbrev s_is_full_row : Stmt := topS 38
abbrev s_sure_row : Stmt := topS 25
abbrev s_is_from : Stmt := topS 8
abbrev s_is_below : Stmt := topS 9
abbrev s_known_place : Stmt := topS 24
abbrev s_known_row : Stmt := topS 26
abbrev s_is_green_row : Stmt := topS 37
abbrev s__law_same : Stmt := topS 46
abbrev s__law_units : Stmt := topS 49
abbrev s__law_greens : Stmt := topS 54
abbrev s__law_hinge : Stmt := topS 47
abbrev s__law_shade : Stmt := topS 48
abbrev s_law : Stmt := topS 55
structure Fa (K : PySem.W.Frag) (mg : Str → Option Value) (T : Tb) (P : Program) (base : Heap) : Prop where
  seer : SeerP P base
  f__law_box : FnF K mg "_law_box" s__law_box ["script", "k"]
  f__law_cells : FnF K mg "_law_cells" s__law_cells ["script", "most_so"]
  f__law_take : FnF K mg "_law_take" s__law_take ["tin", "below_so"]
  f__law_of : FnF K mg "_law_of" s__law_of ["tin", "goods_so"]
  f__law_named : FnF K mg "_law_named" s__law_named ["web_so", "names_so"]
  f__law_joins : FnF K mg "_law_joins" s__law_joins ["word"]
  f__law_kind_web : FnF K mg "_law_kind_web" s__law_kind_web ["tin", "word"]
  f__law_mixed : FnF K mg "_law_mixed" s__law_mixed ["tin", "goods_so"]
  f__law_names : FnF K mg "_law_names" s__law_names ["tin", "many_so"]
  f_goes_up : FnF K mg "goes_up" s_goes_up ["shade"]
  f_green_in : FnF K mg "green_in" s_green_in ["shades"]
  f_hinge : FnF K mg "hinge" s_hinge ["web", "place"]
  f_shaded : FnF K mg "shaded" s_shaded ["web", "shades", "place"]
  f_Search_go_on : FnM K T 3 "go_on" "Search.go_on" s_Search_go_on ["self"]
  f_Search_found : FnM K T 3 "found" "Search.found" s_Search_found ["self"]
  f_unit_row : FnF K mg "unit_row" s_unit_row ["many", "place"]
  f_first_in : FnF K mg "first_in" s_first_in ["many"]
  f_Search___init__ : FnI K mg T "Search" 3 "Search.__init__" s_Search___init__ ["self", "web"]
  f_tupled : FnF K mg "tupled" s_tupled ["value"]
  f_is_long : FnF K mg "is_long" s_is_long ["thing", "length"]
  f_is_number : FnF K mg "is_number" s_is_number ["thing"]
  f_is_table : FnF K mg "is_table" s_is_table ["thing"]
  f_beside : FnF K mg "beside" s_beside ["web", "place"]
  f_part_from : FnF K mg "part_from" s_part_from ["web", "first"]
  f_whole_weights : FnF K mg "whole_weights" s_whole_weights ["ratios"]
  f_lowest_ratio : FnF K mg "lowest_ratio" s_lowest_ratio ["top", "bottom"]
  f_sign : FnF K mg "sign" s_sign ["number"]
  f_part_weights : FnF K mg "part_weights" s_part_weights ["web", "first"]
  f_weights_in : FnF K mg "weights_in" s_weights_in ["web"]
  f_is_web : FnF K mg "is_web" s_is_web ["thing"]
  f_sure_web : FnF K mg "sure_web" s_sure_web ["web"]
  f_full_row : FnF K mg "full_row" s_full_row ["web"]
  f_walked_shades : FnF K mg "walked_shades" s_walked_shades ["web", "shades", "row"]
  f_green_path : FnF K mg "green_path" s_green_path ["web", "row"]
  f_is_full_row : FnF K mg "is_full_row" s_is_full_row ["web", "thing"]
  f_sure_row : FnF K mg "sure_row" s_sure_row ["row"]
  f_is_from : FnF K mg "is_from" s_is_from ["thing", "least"]
  f_is_below : FnF K mg "is_below" s_is_below ["thing", "many"]
  f_known_place : FnF K mg "known_place" s_known_place ["web", "place"]
  f_known_row : FnF K mg "known_row" s_known_row ["web", "row"]
  f_is_green_row : FnF K mg "is_green_row" s_is_green_row ["web", "row"]
  f__law_same : FnF K mg "_law_same" s__law_same ["got", "due"]
  f__law_units : FnF K mg "_law_units" s__law_units ["many_so"]
  f__law_greens : FnF K mg "_law_greens" s__law_greens ["word"]
  f__law_hinge : FnF K mg "_law_hinge" s__law_hinge ["web_so", "place"]
  f__law_shade : FnF K mg "_law_shade" s__law_shade ["web_so", "shades_so", "place"]
  f_law : FnF K mg "law" s_law ["script"]
  n_abs : mg "abs" = none
  n_all : mg "all" = none
  n_any : mg "any" = none
  n_bool : mg "bool" = none
  n_dict : mg "dict" = none
  n_enumerate : mg "enumerate" = none
  n_int : mg "int" = none
  n_isinstance : mg "isinstance" = none
  n_len : mg "len" = none
  n_list : mg "list" = none
  n_min : mg "min" = none
  n_range : mg "range" = none
  n_set : mg "set" = none
  n_sorted : mg "sorted" = none
  n_str : mg "str" = none
  n_tuple : mg "tuple" = none
  n_zip : mg "zip" = none
  c_MOST_STANDS : ConF K mg T "MOST_STANDS" d_MOST_STANDS
  b_gcd : mg "gcd" = some (.builtin "math.gcd")
  fd_Search_level : FldC K T 3 "level"
  fd_Search_met : FldC K T 3 "met"
  x_Unfit : Exc0 K T mg "Unfit" 0
  x_CanNot : Exc0 K T mg "CanNot" 1
  x_TooMany : Exc0 K T mg "TooMany" 2
section
variable {P : Program} {w : World} {K : PySem.W.Frag} {mg : Str → Option Value} {base : Heap} {T : Tb}
def N__law_box : List Str := ["script", "k", "bit_so"]
theorem sc__law_box : FnScope N__law_box ["script", "k"] (defScope s__law_box) := ⟨rfl, rfl, rfl, by decide +kernel, rfl, by decide +kernel, by decide +kernel⟩
def q__law_box : S → RS :=
  (sSeq (sAsg (.one 2) (eIf (t2 (cmpB (iCmp ltB)) (eVar 1) (e1 lenD (eVar 0))) (e2 ixD (eVar 0) (eVar 1)) (eC (.int 0))))
    (sRet (eLst (aCons (e2 mulD (e1 absD (eVar 2)) (e1 intD (e2 (cmpD (iCmp fun i j => !ltB i j)) (e1 absD (eVar 2)) (e2 powD (eC (.int 10)) (eC (.int 18)))))) (aCons (e2 addD (e2 addD (e2 modD (e1 intD (eVar 2)) (eC (.int 2305843009213693951))) (e2 mulD (eC (.int 40961)) (eVar 1))) (eC (.int 9520015))) (aCons (eC (.int 0)) aNil))))))
def m__law_box : MF := mkF 3 q__law_box
set_option maxHeartbeats 0 in
theorem c__law_box (Z : Fa K mg T P base) : Cal P w K mg base T "_law_box" 1 2 .f1 m__law_box := by
  obtain ⟨f, fd, F, b, g⟩ := Z.f__law_box
  refine ⟨f, fd, ["script", "k"], fn_mk F sc__law_box rfl (by decide) (Γ' := []) (fun cdv A outer s H E hr hp => ?_), g, F.kp, b⟩
  have nd := sc__law_box.nd
  exact (jss_cons (js_set 2 nd (je_if (jt_cmp cmp_lt (je_b (je_var 1)) (je_b (je_bi bi_len rfl Z.n_len (je_b (je_var 0))))) (je_ix (je_b (je_var 0)) (je_b (je_var 1))) je_int))
    (jss_one (js_ret (je_lst (ja_cons (je_f (je_op bin_mul (je_b (je_bi bi_abs rfl Z.n_abs (je_b (je_var 2)))) (je_b (je_bty bi_int rfl Z.n_int (je_b (je_cmp cmp_ge (je_b (je_bi bi_abs rfl Z.n_abs (je_b (je_var 2)))) (je_b (je_op bin_pow (je_b je_int) (je_b je_int))))))))) (ja_cons (je_f (je_op bin_add (je_fb (je_op bin_add (je_b (je_op bin_mod (je_b (je_bty bi_int rfl Z.n_int (je_b (je_var 2)))) (je_b je_int))) (je_fb (je_op bin_mul (je_b je_int) (je_b (je_var 1)))))) (je_b je_int))) (ja_cons je_int ja_nil)))))))
def N__law_cells : List Str := ["script", "most_so", "cells_so", "k", "bit_so", "at_so"]
theorem sc__law_cells : FnScope N__law_cells ["script", "most_so"] (defScope s__law_cells) := ⟨rfl, rfl, rfl, by decide +kernel, rfl, by decide +kernel, by decide +kernel⟩
def q__law_cells_b1 : S → RS :=
  (sSeq (sAsg (.one 5) (e2 modD (e1 intD (eVar 3)) (eVar 1)))
    (sSetI 2 (eVar 5) (e2 addD (e2 ixD (eVar 2) (eVar 5)) (e2 mulD (eVar 4) (e2 addD (eVar 3) (eC (.int 2)))))))
def q__law_cells : S → RS :=
  (sSeq (sAsgF 2 (eOrV (e1 listD (eSl (eVar 0) pNone (pSome (eVar 1)))) (eLst (aCons (eC (.int 0)) aNil))))
    (sSeq (sFor (iEnumB (aCons (eSl (eVar 0) (pSome (eVar 1)) (pSome (eC (.int 63)))) aNil)) (.many [3, 4])
    q__law_cells_b1)
    (sRet (eVar 2))))
def m__law_cells : MF := mkF 6 q__law_cells
set_option maxHeartbeats 0 in
theorem c__law_cells (Z : Fa K mg T P base) : Cal P w K mg base T "_law_cells" 1 2 .sh m__law_cells := by
  obtain ⟨f, fd, F, b, g⟩ := Z.f__law_cells
  refine ⟨f, fd, ["script", "most_so"], fn_mk F sc__law_cells rfl (by decide) (Γ' := []) (fun cdv A outer s H E hr hp => ?_), g, F.kp, b⟩
  have nd := sc__law_cells.nd
  exact (jss_cons (js_setF (Γ' := [.sh, .sh, .o1]) 2 nd (je_orV (by simp) (je_bty bi_list rfl Z.n_list (je_fb (je_sl (je_b (je_var 0)) jo_none (jo_some (je_b (je_var 1)))))) (je_one (je_lst (ja_cons je_int ja_nil)))) (hΓ := flf_of 6 (by decide) (by decide) (by decide) (by decide)))
    (jss_cons (js_for hp rfl (ji_enumB rfl Z.n_enumerate (ja_cons (je_f (je_sl (je_b (je_var 0)) (jo_some (je_b (je_var 1))) (jo_some (je_b je_int)))) ja_nil)) (jg_many rfl (jgs_cons 3 nd (jgs_cons 4 nd jgs_nil)))
    (jss_cons (js_set 5 nd (je_op bin_mod (je_b (je_bty bi_int rfl Z.n_int (je_b (je_var 3)))) (je_b (je_var 1))))
    (jss_one (js_setI 2 (je_f (je_op bin_add (je_b (je_ix (je_varB 2) (je_b (je_var 5)))) (je_fb (je_op bin_mul (je_b (je_var 4)) (je_fb (je_op bin_add (je_b (je_var 3)) (je_b je_int))))))) (je_b (je_var 5))))))
    (jss_one (js_frz (Γ' := []) (fun i => i == 2) (flz_of 6 (by decide) (by decide) (by decide)) (js_ret (je_var 2))))))
def N__law_take : List Str := ["tin", "below_so", "drawn_so", "once_so", "wide_so", "twice_so"]
theorem sc__law_take : FnScope N__law_take ["tin", "below_so"] (defScope s__law_take) := ⟨rfl, rfl, rfl, by decide +kernel, rfl, by decide +kernel, by decide +kernel⟩
def q__law_take : S → RS :=
  (sSeq (sIf (t2 (cmpB (iCmp fun i j => ltB j i)) (e2 ixD (eVar 0) (eC (.int 0))) (eC (.int 0)))
    (sSeq (sAsg (.one 2) (e2 modD (e1 intD (e2 ixD (eVar 0) (eC (.int 0)))) (eVar 1)))
    (sSeq (sSetM 0 (eC (.int 0)) (e2 fdivD (e2 ixD (eVar 0) (eC (.int 0))) (eVar 1)))
    (sRet (eVar 2))))
    sNil)
    (sSeq (sSetM 0 (eC (.int 2)) (e2 addD (e2 ixD (eVar 0) (eC (.int 2))) (eC (.int 1))))
    (sSeq (sAsg (.one 3) (e2 modD (e1 intD (e2 mulD (e2 addD (e2 ixD (eVar 0) (eC (.int 1))) (e2 mulD (eC (.int 48271)) (e2 ixD (eVar 0) (eC (.int 2))))) (e2 addD (eC (.int 40961)) (e2 ixD (eVar 0) (eC (.int 2)))))) (eC (.int 2147483647))))
    (sSeq (sAsg (.one 4) (e2 addD (e2 modD (e1 intD (eVar 3)) (eC (.int 40009))) (eC (.int 7))))
    (sSeq (sAsg (.one 5) (e2 modD (e1 intD (e2 mulD (e2 addD (e2 addD (eVar 3) (e2 ixD (eVar 0) (eC (.int 2)))) (e2 fdivD (e2 ixD (eVar 0) (eC (.int 1))) (eC (.int 1000003)))) (eVar 4))) (eC (.int 2147483629))))
    (sRet (e2 modD (e1 intD (e2 fdivD (e2 modD (e1 intD (e2 addD (e2 mulD (eVar 5) (eC (.int 48271))) (eVar 3))) (eC (.int 2147483587))) (eC (.int 64)))) (eVar 1))))))))
def m__law_take : MF := mkF 6 q__law_take
set_option maxHeartbeats 0 in
theorem c__law_take (Z : Fa K mg T P base) : Cal P w K mg base T "_law_take" 1 2 .sh m__law_take := by
  obtain ⟨f, fd, F, b, g⟩ := Z.f__law_take
  refine ⟨f, fd, ["tin", "below_so"], fn_mk F sc__law_take rfl (by decide) (Γ' := []) (fun cdv A outer s H E hr hp => ?_), g, F.kp, b⟩
  have nd := sc__law_take.nd
  exact (jss_cons (js_if (jt_cmp cmp_gt (je_b (je_ix (je_b (je_var 0)) (je_b je_int))) (je_b je_int))
    (jss_cons (js_set 2 nd (je_op bin_mod (je_b (je_bty bi_int rfl Z.n_int (je_b (je_ix (je_b (je_var 0)) (je_b je_int))))) (je_b (je_var 1))))
    (jss_cons (js_setM 0 (je_op bin_fdiv (je_b (je_ix (je_b (je_var 0)) (je_b je_int))) (je_b (je_var 1))) (je_b je_int))
    (jss_one (js_ret (je_var 2)))))
    jss_nil)
    (jss_cons (js_setM 0 (je_f (je_op bin_add (je_b (je_ix (je_b (je_var 0)) (je_b je_int))) (je_b je_int))) (je_b je_int))
    (jss_cons (js_set 3 nd (je_op bin_mod (je_b (je_bty bi_int rfl Z.n_int (je_fb (je_op bin_mul (je_fb (je_op bin_add (je_b (je_ix (je_b (je_var 0)) (je_b je_int))) (je_fb (je_op bin_mul (je_b je_int) (je_b (je_ix (je_b (je_var 0)) (je_b je_int))))))) (je_fb (je_op bin_add (je_b je_int) (je_b (je_ix (je_b (je_var 0)) (je_b je_int))))))))) (je_b je_int)))
    (jss_cons (js_set 4 nd (je_f (je_op bin_add (je_b (je_op bin_mod (je_b (je_bty bi_int rfl Z.n_int (je_b (je_var 3)))) (je_b je_int))) (je_b je_int))))
    (jss_cons (js_set 5 nd (je_op bin_mod (je_b (je_bty bi_int rfl Z.n_int (je_fb (je_op bin_mul (je_fb (je_op bin_add (je_fb (je_op bin_add (je_b (je_var 3)) (je_b (je_ix (je_b (je_var 0)) (je_b je_int))))) (je_b (je_op bin_fdiv (je_b (je_ix (je_b (je_var 0)) (je_b je_int))) (je_b je_int))))) (je_b (je_var 4)))))) (je_b je_int)))
    (jss_one (js_ret (je_op bin_mod (je_b (je_bty bi_int rfl Z.n_int (je_b (je_op bin_fdiv (je_b (je_op bin_mod (je_b (je_bty bi_int rfl Z.n_int (je_fb (je_op bin_add (je_fb (je_op bin_mul (je_b (je_var 5)) (je_b je_int))) (je_b (je_var 3)))))) (je_b je_int))) (je_b je_int))))) (je_b (je_var 1))))))))))
def N__law_of : List Str := ["tin", "goods_so"]
theorem sc__law_of : FnScope N__law_of ["tin", "goods_so"] (defScope s__law_of) := ⟨rfl, rfl, rfl, by decide +kernel, rfl, by decide +kernel, by decide +kernel⟩
def q__law_of : S → RS :=
  (sRet (e2 ixD (eVar 1) (eCallN 2 m__law_take (aCons (eVar 0) (aCons (e1 lenD (eVar 1)) aNil)))))
def m__law_of : MF := mkF 2 q__law_of
set_option maxHeartbeats 0 in
theorem c__law_of (Z : Fa K mg T P base) : Cal P w K mg base T "_law_of" 2 2 .sh m__law_of := by
  obtain ⟨f, fd, F, b, g⟩ := Z.f__law_of
  refine ⟨f, fd, ["tin", "goods_so"], fn_mk F sc__law_of rfl (by decide) (Γ' := []) (fun cdv A outer s H E hr hp => ?_), g, F.kp, b⟩
  have nd := sc__law_of.nd
  exact (jss_one (js_ret (je_ix (je_b (je_var 1)) (je_b (je_call (c__law_take Z) hr (by omega) rfl (ja_cons (je_var 0) (ja_cons (je_bi bi_len rfl Z.n_len (je_b (je_var 1))) ja_nil)))))))
def N__law_named : List Str := ["web_so", "names_so", "rows_so", "own", "near", "row_so", "far"]
theorem sc__law_named : FnScope N__law_named ["web_so", "names_so"] (defScope s__law_named) := ⟨rfl, rfl, rfl, by decide +kernel, rfl, by decide +kernel, by decide +kernel⟩
def q__law_named_b1 : S → RS :=
  (sSetR (e2 ixD (eVar 2) (e2 ixD (eVar 1) (eVar 4))) (e2 ixD (eVar 1) (eVar 6)) (eVar 3))
def q__law_named_b2 : S → RS :=
  (sFor (iEnumB (aCons (eVar 5) aNil)) (.many [6, 3])
    q__law_named_b1)
def q__law_named : S → RS :=
  (sSeq (sAsgF 2 (eLc (i1 seqI (eVar 0)) (.one 3) tYesS (eCell (e2 mulD (eLst (aCons (eC (.int 0)) aNil)) (e1 lenC (eVar 0))))))
    (sSeq (sFor (iEnumB (aCons (eVar 0) aNil)) (.many [4, 5])
    q__law_named_b2)
    (sRet (e1 tupleC (eLc (i1 seqI (eVar 2)) (.one 5) tYesS (e1 tupleC (eVar 5)))))))
def m__law_named : MF := mkF 7 q__law_named
set_option maxHeartbeats 0 in
theorem c__law_named (Z : Fa K mg T P base) : Cal P w K mg base T "_law_named" 1 2 .sh m__law_named := by
  obtain ⟨f, fd, F, b, g⟩ := Z.f__law_named
  refine ⟨f, fd, ["web_so", "names_so"], fn_mk F sc__law_named rfl (by decide) (Γ' := []) (fun cdv A outer s H E hr hp => ?_), g, F.kp, b⟩
  have nd := sc__law_named.nd
  exact (jss_cons (js_setLc (Γ' := [.sh, .sh, .o1]) 2 [("own", 3)] rfl nd (ji_seq (je_var 0)) (blk_of rfl) (fun _ _ _ _ _ => (jg_one 3 nd)) (fun _ _ _ _ _ => jts_nil) (fun _ _ _ _ _ => (je_cell (je_op bin_mul (je_fb (je_lst (ja_cons je_int ja_nil))) (je_b (je_bi bi_lenC rfl Z.n_len (je_b (je_var 0))))))) (sw_true rfl rfl rfl (by rfl)) (flf_of 7 (by decide) (by decide) (by decide) (by decide)))
    (jss_cons (js_for hp rfl (ji_enumB rfl Z.n_enumerate (ja_cons (je_var 0) ja_nil)) (jg_many rfl (jgs_cons 4 nd (jgs_cons 5 nd jgs_nil)))
    (jss_one (js_for hp rfl (ji_enumB rfl Z.n_enumerate (ja_cons (je_var 5) ja_nil)) (jg_many rfl (jgs_cons 6 nd (jgs_cons 3 nd jgs_nil)))
    (jss_one (js_setR (je_var 3) (je_ix (je_varB 2) (je_b (je_ix (je_b (je_var 1)) (je_b (je_var 4))))) (je_b (je_ix (je_b (je_var 1)) (je_b (je_var 6)))))))))
    (jss_one (js_ret (je_bty bi_tupleC rfl Z.n_tuple (je_fb (je_lcQ [("row_so", 5)] rfl nd (ji_own 2) (blk_of rfl) (fun _ _ _ _ _ => (jg_one 5 nd)) (fun _ _ _ _ _ => jts_nil) (fun _ _ _ _ _ => (je_bty bi_tupleC rfl Z.n_tuple (je_b (je_var 5)))))))))))
def N__law_joins : List Str := ["word", "many_so", "joins_so", "k"]
theorem sc__law_joins : FnScope N__law_joins ["word"] (defScope s__law_joins) := ⟨rfl, rfl, rfl, by decide +kernel, rfl, by decide +kernel, by decide +kernel⟩
def q__law_joins : S → RS :=
  (sSeq (sAsg (.one 1) (e1 intSD (eSlS (eVar 0) (pSome (eC (.int 1))) pNone)))
    (sSeq (sAsgF 2 (eLc (iN rng1I (aCons (e2 subD (eVar 1) (eC (.int 1))) aNil)) (.one 3) tYesS (eLst (aCons (eVar 3) (aCons (e2 addD (eVar 3) (eC (.int 1))) (aCons (eC (.int 1)) (aCons (eC (.int 1)) aNil)))))))
    (sSeq (sIf (t2 (cmpB eqD) (e2 ixD (eVar 0) (eC (.int 0))) (eC (.str "b")))
    (sSetI 2 (e1 negD (eC (.int 1))) (eLst (aCons (e2 subD (eVar 1) (eC (.int 2))) (aCons (e2 subD (eVar 1) (eC (.int 1))) (aCons (eC (.int 1)) (aCons (eC (.int 2)) aNil))))))
    sNil)
    (sSeq (sIf (t2 (cmpB eqD) (e2 ixD (eVar 0) (eC (.int 0))) (eC (.str "c")))
    (sSetI 2 (e1 negD (eC (.int 1))) (eLst (aCons (e2 subD (eVar 1) (eC (.int 2))) (aCons (e2 subD (eVar 1) (eC (.int 1))) (aCons (eC (.int 2)) (aCons (eC (.int 1)) aNil))))))
    sNil)
    (sSeq (sIf (t2 (cmpB eqD) (e2 ixD (eVar 0) (eC (.int 0))) (eC (.str "d")))
    (sSetI 2 (e1 negD (eC (.int 1))) (eLst (aCons (e2 subD (eVar 1) (eC (.int 3))) (aCons (e2 subD (eVar 1) (eC (.int 1))) (aCons (eC (.int 1)) (aCons (eC (.int 1)) aNil))))))
    sNil)
    (sSeq (sIf (t2 (cmpB eqD) (eVar 0) (eC (.str "e6")))
    (sSetI 2 (e1 negD (eC (.int 1))) (eLst (aCons (eC (.int 2)) (aCons (eC (.int 5)) (aCons (eC (.int 1)) (aCons (eC (.int 1)) aNil))))))
    sNil)
    (sSeq (sIf (t2 (cmpB eqD) (eVar 0) (eC (.str "f4")))
    (sSetI 2 (eC (.int 1)) (eLst (aCons (eC (.int 1)) (aCons (eC (.int 2)) (aCons (eC (.int 1)) (aCons (eC (.int 2)) aNil))))))
    sNil)
    (sSeq (sIf (t2 (cmpB eqD) (eVar 0) (eC (.str "g2")))
    (sSetI 2 (eC (.int 0)) (eLst (aCons (eC (.int 0)) (aCons (eC (.int 1)) (aCons (eC (.int 1)) (aCons (eC (.int 3)) aNil))))))
    sNil)
    (sRet (eVar 2))))))))))
def m__law_joins : MF := mkF 4 q__law_joins
set_option maxHeartbeats 0 in
theorem c__law_joins (Z : Fa K mg T P base) : Cal P w K mg base T "_law_joins" 1 1 .sh m__law_joins := by
  obtain ⟨f, fd, F, b, g⟩ := Z.f__law_joins
  refine ⟨f, fd, ["word"], fn_mk F sc__law_joins rfl (by decide) (Γ' := []) (fun cdv A outer s H E hr hp => ?_), g, F.kp, b⟩
  have nd := sc__law_joins.nd
  exact (jss_cons (js_set 1 nd (je_bty bi_intS rfl Z.n_int (je_b (je_slS (je_b (je_var 0)) (jo_some (je_b je_int)) jo_none))))
    (jss_cons (js_setLc (Γ' := [.sh, .sh, .o1]) 2 [("k", 3)] rfl nd (ji_range1 rfl Z.n_range (ja_cons (je_op bin_sub (je_b (je_var 1)) (je_b je_int)) ja_nil)) (blk_of rfl) (fun _ _ _ _ _ => (jg_one 3 nd)) (fun _ _ _ _ _ => jts_nil) (fun _ _ _ _ _ => (je_f (je_lst (ja_cons (je_var 3) (ja_cons (je_f (je_op bin_add (je_b (je_var 3)) (je_b je_int))) (ja_cons je_int (ja_cons je_int ja_nil))))))) (sw_true rfl rfl rfl (by rfl)) (flf_of 4 (by decide) (by decide) (by decide) (by decide)))
    (jss_cons (js_if (jt_cmp (cmp_eq (hu64 hr)) (je_b (je_ix (je_b (je_var 0)) (je_b je_int))) (je_b je_str))
    (jss_one (js_setI 2 (je_f (je_lst (ja_cons (je_op bin_sub (je_b (je_var 1)) (je_b je_int)) (ja_cons (je_op bin_sub (je_b (je_var 1)) (je_b je_int)) (ja_cons je_int (ja_cons je_int ja_nil)))))) (je_b (je_un uni_neg (je_b je_int)))))
    jss_nil)
    (jss_cons (js_if (jt_cmp (cmp_eq (hu64 hr)) (je_b (je_ix (je_b (je_var 0)) (je_b je_int))) (je_b je_str))
    (jss_one (js_setI 2 (je_f (je_lst (ja_cons (je_op bin_sub (je_b (je_var 1)) (je_b je_int)) (ja_cons (je_op bin_sub (je_b (je_var 1)) (je_b je_int)) (ja_cons je_int (ja_cons je_int ja_nil)))))) (je_b (je_un uni_neg (je_b je_int)))))
    jss_nil)
    (jss_cons (js_if (jt_cmp (cmp_eq (hu64 hr)) (je_b (je_ix (je_b (je_var 0)) (je_b je_int))) (je_b je_str))
    (jss_one (js_setI 2 (je_f (je_lst (ja_cons (je_op bin_sub (je_b (je_var 1)) (je_b je_int)) (ja_cons (je_op bin_sub (je_b (je_var 1)) (je_b je_int)) (ja_cons je_int (ja_cons je_int ja_nil)))))) (je_b (je_un uni_neg (je_b je_int)))))
    jss_nil)
    (jss_cons (js_if (jt_cmp (cmp_eq (hu64 hr)) (je_b (je_var 0)) (je_b je_str))
    (jss_one (js_setI 2 (je_f (je_lst (ja_cons je_int (ja_cons je_int (ja_cons je_int (ja_cons je_int ja_nil)))))) (je_b (je_un uni_neg (je_b je_int)))))
    jss_nil)
    (jss_cons (js_if (jt_cmp (cmp_eq (hu64 hr)) (je_b (je_var 0)) (je_b je_str))
    (jss_one (js_setI 2 (je_f (je_lst (ja_cons je_int (ja_cons je_int (ja_cons je_int (ja_cons je_int ja_nil)))))) (je_b je_int)))
    jss_nil)
    (jss_cons (js_if (jt_cmp (cmp_eq (hu64 hr)) (je_b (je_var 0)) (je_b je_str))
    (jss_one (js_setI 2 (je_f (je_lst (ja_cons je_int (ja_cons je_int (ja_cons je_int (ja_cons je_int ja_nil)))))) (je_b je_int)))
    jss_nil)
    (jss_one (js_frz (Γ' := []) (fun i => i == 2) (flz_of 4 (by decide) (by decide) (by decide)) (js_ret (je_var 2))))))))))))
def N__law_kind_web : List Str := ["tin", "word", "many_so", "rows_so", "own", "near", "far", "there", "back", "sign_so", "row_so"]
theorem sc__law_kind_web : FnScope N__law_kind_web ["tin", "word"] (defScope s__law_kind_web) := ⟨rfl, rfl, rfl, by decide +kernel, rfl, by decide +kernel, by decide +kernel⟩
def q__law_kind_web_b1 : S → RS :=
  (sSeq (sAsg (.one 9) (e2 subD (eC (.int 1)) (e2 mulD (eC (.int 2)) (eCallN 2 m__law_take (aCons (eVar 0) (aCons (eC (.int 2)) aNil))))))
    (sSetR2 (e2 ixD (eVar 3) (eVar 5)) (eVar 6) (e2 ixD (eVar 3) (eVar 6)) (eVar 5) (e2 mulD (eVar 9) (eVar 7)) (e2 subD (eC (.int 0)) (e2 mulD (eVar 9) (eVar 8)))))
def q__law_kind_web : S → RS :=
  (sSeq (sAsg (.one 2) (e1 intSD (eSlS (eVar 1) (pSome (eC (.int 1))) pNone)))
    (sSeq (sAsgF 3 (eLc (iN rng1I (aCons (eVar 2) aNil)) (.one 4) tYesS (eCell (e2 mulD (eLst (aCons (eC (.int 0)) aNil)) (eVar 2)))))
    (sSeq (sFor (i1 seqI (eCallN 1 m__law_joins (aCons (eVar 1) aNil))) (.manyL [5, 6, 7, 8])
    q__law_kind_web_b1)
    (sRet (e1 tupleC (eLc (i1 seqI (eVar 3)) (.one 10) tYesS (e1 tupleC (eVar 10))))))))
def m__law_kind_web : MF := mkF 11 q__law_kind_web
set_option maxHeartbeats 0 in
theorem c__law_kind_web (Z : Fa K mg T P base) : Cal P w K mg base T "_law_kind_web" 2 2 .sh m__law_kind_web := by
  obtain ⟨f, fd, F, b, g⟩ := Z.f__law_kind_web
  refine ⟨f, fd, ["tin", "word"], fn_mk F sc__law_kind_web rfl (by decide) (Γ' := []) (fun cdv A outer s H E hr hp => ?_), g, F.kp, b⟩
  have nd := sc__law_kind_web.nd
  exact (jss_cons (js_set 2 nd (je_bty bi_intS rfl Z.n_int (je_b (je_slS (je_b (je_var 1)) (jo_some (je_b je_int)) jo_none))))
    (jss_cons (js_setLc (Γ' := [.sh, .sh, .sh, .o1]) 3 [("own", 4)] rfl nd (ji_range1 rfl Z.n_range (ja_cons (je_var 2) ja_nil)) (blk_of rfl) (fun _ _ _ _ _ => (jg_one 4 nd)) (fun _ _ _ _ _ => jts_nil) (fun _ _ _ _ _ => (je_cell (je_op bin_mul (je_fb (je_lst (ja_cons je_int ja_nil))) (je_b (je_var 2))))) (sw_true rfl rfl rfl (by rfl)) (flf_of 11 (by decide) (by decide) (by decide) (by decide)))
    (jss_cons (js_for hp rfl (ji_seq (je_call (c__law_joins Z) hr (by omega) rfl (ja_cons (je_var 1) ja_nil))) (jg_manyL rfl (jgs_cons 5 nd (jgs_cons 6 nd (jgs_cons 7 nd (jgs_cons 8 nd jgs_nil)))))
    (jss_cons (js_set 9 nd (je_op bin_sub (je_b je_int) (je_fb (je_op bin_mul (je_b je_int) (je_b (je_call (c__law_take Z) hr (by omega) rfl (ja_cons (je_var 0) (ja_cons je_int ja_nil))))))))
    (jss_one (js_setR2 rfl (je_f (je_op bin_mul (je_b (je_var 9)) (je_b (je_var 7)))) (je_op bin_sub (je_b je_int) (je_fb (je_op bin_mul (je_b (je_var 9)) (je_b (je_var 8))))) (je_ix (je_varB 3) (je_b (je_var 5))) (je_b (je_var 6)) (je_ix (je_varB 3) (je_b (je_var 6))) (je_b (je_var 5))))))
    (jss_one (js_ret (je_bty bi_tupleC rfl Z.n_tuple (je_fb (je_lcQ [("row_so", 10)] rfl nd (ji_own 3) (blk_of rfl) (fun _ _ _ _ _ => (jg_one 10 nd)) (fun _ _ _ _ _ => jts_nil) (fun _ _ _ _ _ => (je_bty bi_tupleC rfl Z.n_tuple (je_b (je_var 10))))))))))))
def N__law_mixed : List Str := ["tin", "goods_so", "pool_so", "found", "lap"]
theorem sc__law_mixed : FnScope N__law_mixed ["tin", "goods_so"] (defScope s__law_mixed) := ⟨rfl, rfl, rfl, by decide +kernel, rfl, by decide +kernel, by decide +kernel⟩
def q__law_mixed_b1 : S → RS :=
  (sApp 3 (ePop (eVar 2) (eCallN 2 m__law_take (aCons (eVar 0) (aCons (e1 lenC (eVar 2)) aNil)))))
def q__law_mixed : S → RS :=
  (sSeq (sParM .sh .f1 2 3 (eCell (e1 listC (eVar 1))) (eLst aNil))
    (sSeq (sFor (iN rng1I (aCons (e1 lenC (eVar 2)) aNil)) (.one 4)
    q__law_mixed_b1)
    (sRet (eVar 3))))
def m__law_mixed : MF := mkF 5 q__law_mixed
set_option maxHeartbeats 0 in
theorem c__law_mixed (Z : Fa K mg T P base) : Cal P w K mg base T "_law_mixed" 2 2 .f1 m__law_mixed := by
  obtain ⟨f, fd, F, b, g⟩ := Z.f__law_mixed
  refine ⟨f, fd, ["tin", "goods_so"], fn_mk F sc__law_mixed rfl (by decide) (Γ' := []) (fun cdv A outer s H E hr hp => ?_), g, F.kp, b⟩
  have nd := sc__law_mixed.nd
  exact (jss_cons (js_parM (Γ2 := [.sh, .sh, .sh, .o1]) (Γ' := [.sh, .sh, .sh, .o1]) 2 3 rfl nd (je_cell (je_bty bi_listC rfl Z.n_list (je_b (je_var 1)))) (je_lst ja_nil) (.inl rfl) (.inr rfl) (flf_of 5 (by decide) (by decide) (by decide) (by decide)) (flf_of 5 (by decide) (by decide) (by decide) (by decide)))
    (jss_cons (js_for hp rfl (ji_range1 rfl Z.n_range (ja_cons (je_bi bi_lenC rfl Z.n_len (je_b (je_var 2))) ja_nil)) (jg_one 4 nd)
    (jss_one (js_app 3 (je_popM (je_var 2) (je_b (je_call (c__law_take Z) hr (by omega) rfl (ja_cons (je_var 0) (ja_cons (je_bi bi_lenC rfl Z.n_len (je_b (je_var 2))) ja_nil))))))))
    (jss_one (js_retO 3 rfl))))
def N__law_names : List Str := ["tin", "many_so"]
theorem sc__law_names : FnScope N__law_names ["tin", "many_so"] (defScope s__law_names) := ⟨rfl, rfl, rfl, by decide +kernel, rfl, by decide +kernel, by decide +kernel⟩
def q__law_names : S → RS :=
  (sRet (e1 tupleD (eCallN 2 (trimF m__law_mixed) (aCons (eVar 0) (aCons (e1 lrgD (eVar 1)) aNil)))))
def m__law_names : MF := mkF 2 q__law_names
set_option maxHeartbeats 0 in
theorem c__law_names (Z : Fa K mg T P base) : Cal P w K mg base T "_law_names" 3 2 .sh m__law_names := by
  obtain ⟨f, fd, F, b, g⟩ := Z.f__law_names
  refine ⟨f, fd, ["tin", "many_so"], fn_mk F sc__law_names rfl (by decide) (Γ' := []) (fun cdv A outer s H E hr hp => ?_), g, F.kp, b⟩
  have nd := sc__law_names.nd
  exact (jss_one (js_ret (je_bty bi_tuple rfl Z.n_tuple (je_fb (je_call (Cal.trim (c__law_mixed Z)) hr (by omega) rfl (ja_cons (je_var 0) (ja_cons (je_f (je_listRg rfl rfl Z.n_list rfl Z.n_range (je_b (je_var 1)))) ja_nil)))))))
def N_goes_up : List Str := ["shade", "own"]
theorem sc_goes_up : FnScope N_goes_up ["shade"] (defScope s_goes_up) := ⟨rfl, rfl, rfl, by decide +kernel, rfl, by decide +kernel, by decide +kernel⟩
def q_goes_up : S → RS :=
  (sRet (e1 allD (eLc (i1 seqI (eVar 0)) (.one 1) tYesS (e2 (cmpD (iCmp fun i j => !ltB i j)) (eVar 1) (eC (.int 0))))))
def m_goes_up : MF := mkF 2 q_goes_up
set_option maxHeartbeats 0 in
theorem c_goes_up (Z : Fa K mg T P base) : Cal P w K mg base T "goes_up" 1 1 .sh m_goes_up := by
  obtain ⟨f, fd, F, b, g⟩ := Z.f_goes_up
  refine ⟨f, fd, ["shade"], fn_mk F sc_goes_up rfl (by decide) (Γ' := []) (fun cdv A outer s H E hr hp => ?_), g, F.kp, b⟩
  have nd := sc_goes_up.nd
  exact (jss_one (js_ret (je_bi (bi_all rfl) rfl Z.n_all (je_fb (je_lc [("own", 1)] rfl nd (ji_seq (je_var 0)) (blk_of rfl) (fun _ _ _ _ _ => (jg_one 1 nd)) (fun _ _ _ _ _ => jts_nil) (fun _ _ _ _ _ => (je_cmp cmp_ge (je_b (je_var 1)) (je_b je_int))))))))
def N_green_in : List Str := ["shades", "place", "shade"]
theorem sc_green_in : FnScope N_green_in ["shades"] (defScope s_green_in) := ⟨rfl, rfl, rfl, by decide +kernel, rfl, by decide +kernel, by decide +kernel⟩
def q_green_in : S → RS :=
  (sRet (e1 tupleD (eLc (iEnumB (aCons (eVar 0) aNil)) (.many [1, 2]) (tTru (eCallN 1 m_goes_up (aCons (eVar 2) aNil))) (eVar 1))))
def m_green_in : MF := mkF 3 q_green_in
set_option maxHeartbeats 0 in
theorem c_green_in (Z : Fa K mg T P base) : Cal P w K mg base T "green_in" 2 1 .sh m_green_in := by
  obtain ⟨f, fd, F, b, g⟩ := Z.f_green_in
  refine ⟨f, fd, ["shades"], fn_mk F sc_green_in rfl (by decide) (Γ' := []) (fun cdv A outer s H E hr hp => ?_), g, F.kp, b⟩
  have nd := sc_green_in.nd
  exact (jss_one (js_ret (je_bty bi_tuple rfl Z.n_tuple (je_fb (je_lc [("place", 1), ("shade", 2)] rfl nd (ji_enumB rfl Z.n_enumerate (ja_cons (je_var 0) ja_nil)) (blk_of rfl) (fun _ _ _ _ _ => (jg_many rfl (jgs_cons 1 nd (jgs_cons 2 nd jgs_nil)))) (fun _ _ _ _ _ => (jts_one (jt_tru (je_b (je_call (c_goes_up Z) hr (by omega) rfl (ja_cons (je_var 2) ja_nil)))))) (fun _ _ _ _ _ => (je_var 1)))))))
def N_hinge : List Str := ["web", "place", "found", "near", "row", "into", "far", "own"]
theorem sc_hinge : FnScope N_hinge ["web", "place"] (defScope s_hinge) := ⟨rfl, rfl, rfl, by decide +kernel, rfl, by decide +kernel, by decide +kernel⟩
def q_hinge_b1 : S → RS :=
  (sSeq (sAsg (.one 5) (e2 ixD (eVar 4) (eVar 1)))
    (sApp 2 (e1 tupleD (eLc (iEnumB (aCons (eVar 4) aNil)) (.many [6, 7]) tYesS (eIf (t2 (cmpB inD) (eVar 1) (eTup (aCons (eVar 3) (aCons (eVar 6) aNil)))) (e2 subD (eC (.int 0)) (eVar 7)) (e2 addD (eVar 7) (e2 fdivD (e2 addD (e2 mulD (e1 absD (eVar 5)) (e2 ixD (e2 ixD (eVar 0) (eVar 1)) (eVar 6))) (e2 mulD (eVar 5) (e1 absD (e2 ixD (e2 ixD (eVar 0) (eVar 1)) (eVar 6))))) (eC (.int 2)))))))))
def q_hinge : S → RS :=
  (sSeq (sAsgF 2 (eLst aNil))
    (sSeq (sFor (iEnumB (aCons (eVar 0) aNil)) (.many [3, 4])
    q_hinge_b1)
    (sRet (e1 tupleD (eVar 2)))))
def m_hinge : MF := mkF 8 q_hinge
set_option maxHeartbeats 0 in
theorem c_hinge (Z : Fa K mg T P base) : Cal P w K mg base T "hinge" 1 2 .sh m_hinge := by
  obtain ⟨f, fd, F, b, g⟩ := Z.f_hinge
  refine ⟨f, fd, ["web", "place"], fn_mk F sc_hinge rfl (by decide) (Γ' := []) (fun cdv A outer s H E hr hp => ?_), g, F.kp, b⟩
  have nd := sc_hinge.nd
  exact (jss_cons (js_setF (Γ' := [.sh, .sh, .o1]) 2 nd (je_lst ja_nil) (hΓ := flf_of 8 (by decide) (by decide) (by decide) (by decide)))
    (jss_cons (js_for hp rfl (ji_enumB rfl Z.n_enumerate (ja_cons (je_var 0) ja_nil)) (jg_many rfl (jgs_cons 3 nd (jgs_cons 4 nd jgs_nil)))
    (jss_cons (js_set 5 nd (je_ix (je_b (je_var 4)) (je_b (je_var 1))))
    (jss_one (js_app 2 (je_bty bi_tuple rfl Z.n_tuple (je_fb (je_lc [("far", 6), ("own", 7)] rfl nd (ji_enumB rfl Z.n_enumerate (ja_cons (je_var 4) ja_nil)) (blk_of rfl) (fun _ _ _ _ _ => (jg_many rfl (jgs_cons 6 nd (jgs_cons 7 nd jgs_nil)))) (fun _ _ _ _ _ => jts_nil) (fun _ _ _ _ _ => (je_if (jt_cmp (cmp_in (hu65 hr)) (je_b (je_var 1)) (je_b (je_tup (ja_cons (je_var 3) (ja_cons (je_var 6) ja_nil))))) (je_op bin_sub (je_b je_int) (je_b (je_var 7))) (je_f (je_op bin_add (je_b (je_var 7)) (je_b (je_op bin_fdiv (je_fb (je_op bin_add (je_fb (je_op bin_mul (je_b (je_bi bi_abs rfl Z.n_abs (je_b (je_var 5)))) (je_b (je_ix (je_b (je_ix (je_b (je_var 0)) (je_b (je_var 1)))) (je_b (je_var 6)))))) (je_fb (je_op bin_mul (je_b (je_var 5)) (je_b (je_bi bi_abs rfl Z.n_abs (je_b (je_ix (je_b (je_ix (je_b (je_var 0)) (je_b (je_var 1)))) (je_b (je_var 6)))))))))) (je_b je_int))))))))))))))
    (jss_one (js_ret (je_bty bi_tuple rfl Z.n_tuple (je_varB 2))))))
def N_shaded : List Str := ["web", "shades", "place", "found", "far", "shade", "many", "own", "into"]
theorem sc_shaded : FnScope N_shaded ["web", "shades", "place"] (defScope s_shaded) := ⟨rfl, rfl, rfl, by decide +kernel, rfl, by decide +kernel, by decide +kernel⟩
def q_shaded_b1 : S → RS :=
  (sSeq (sAsg (.one 6) (e2 ixD (e2 ixD (eVar 0) (eVar 2)) (eVar 4)))
    (sIf (t2 (cmpB eqD) (eVar 4) (eVar 2))
    (sApp 3 (e1 tupleD (eLc (i1 seqI (eVar 5)) (.one 7) tYesS (e2 subD (eC (.int 0)) (eVar 7)))))
    (sApp 3 (e1 tupleD (eLc (iZipB (aCons (eVar 5) (aCons (e2 ixD (eVar 1) (eVar 2)) aNil))) (.many [7, 8]) tYesS (e2 addD (eVar 7) (e2 fdivD (e2 addD (e2 mulD (e1 absD (eVar 8)) (eVar 6)) (e2 mulD (eVar 8) (e1 absD (eVar 6)))) (eC (.int 2)))))))))
def q_shaded : S → RS :=
  (sSeq (sAsgF 3 (eLst aNil))
    (sSeq (sFor (iEnumB (aCons (eVar 1) aNil)) (.many [4, 5])
    q_shaded_b1)
    (sRet (e1 tupleD (eVar 3)))))
def m_shaded : MF := mkF 9 q_shaded
set_option maxHeartbeats 0 in
theorem c_shaded (Z : Fa K mg T P base) : Cal P w K mg base T "shaded" 1 3 .sh m_shaded := by
  obtain ⟨f, fd, F, b, g⟩ := Z.f_shaded
  refine ⟨f, fd, ["web", "shades", "place"], fn_mk F sc_shaded rfl (by decide) (Γ' := []) (fun cdv A outer s H E hr hp => ?_), g, F.kp, b⟩
  have nd := sc_shaded.nd
  exact (jss_cons (js_setF (Γ' := [.sh, .sh, .sh, .o1]) 3 nd (je_lst ja_nil) (hΓ := flf_of 9 (by decide) (by decide) (by decide) (by decide)))
    (jss_cons (js_for hp rfl (ji_enumB rfl Z.n_enumerate (ja_cons (je_var 1) ja_nil)) (jg_many rfl (jgs_cons 4 nd (jgs_cons 5 nd jgs_nil)))
    (jss_cons (js_set 6 nd (je_ix (je_b (je_ix (je_b (je_var 0)) (je_b (je_var 2)))) (je_b (je_var 4))))
    (jss_one (js_if (jt_cmp (cmp_eq (hu64 hr)) (je_b (je_var 4)) (je_b (je_var 2)))
    (jss_one (js_app 3 (je_bty bi_tuple rfl Z.n_tuple (je_fb (je_lc [("own", 7)] rfl nd (ji_seq (je_var 5)) (blk_of rfl) (fun _ _ _ _ _ => (jg_one 7 nd)) (fun _ _ _ _ _ => jts_nil) (fun _ _ _ _ _ => (je_op bin_sub (je_b je_int) (je_b (je_var 7)))))))))
    (jss_one (js_app 3 (je_bty bi_tuple rfl Z.n_tuple (je_fb (je_lc [("own", 7), ("into", 8)] rfl nd (ji_zipB rfl Z.n_zip (ja_cons (je_var 5) (ja_cons (je_ix (je_b (je_var 1)) (je_b (je_var 2))) ja_nil))) (blk_of rfl) (fun _ _ _ _ _ => (jg_many rfl (jgs_cons 7 nd (jgs_cons 8 nd jgs_nil)))) (fun _ _ _ _ _ => jts_nil) (fun _ _ _ _ _ => (je_f (je_op bin_add (je_b (je_var 7)) (je_b (je_op bin_fdiv (je_fb (je_op bin_add (je_fb (je_op bin_mul (je_b (je_bi bi_abs rfl Z.n_abs (je_b (je_var 8)))) (je_b (je_var 6)))) (je_fb (je_op bin_mul (je_b (je_var 8)) (je_b (je_bi bi_abs rfl Z.n_abs (je_b (je_var 6)))))))) (je_b je_int)))))))))))))))
    (jss_one (js_ret (je_bty bi_tuple rfl Z.n_tuple (je_varB 3))))))
def N_Search_go_on : List Str := ["self", "found", "web", "shades", "row", "place", "now", "told"]
theorem sc_Search_go_on : FnScope N_Search_go_on ["self"] (defScope s_Search_go_on) := ⟨rfl, rfl, rfl, by decide +kernel, rfl, by decide +kernel, by decide +kernel⟩
def q_Search_go_on_b1 : S → RS :=
  (sSeq (sPar 6 7 (eCallN 2 m_hinge (aCons (eVar 2) (aCons (eVar 5) aNil))) (eCallN 3 m_shaded (aCons (eVar 2) (aCons (eVar 3) (aCons (eVar 5) aNil)))))
    (sIf (toB (e2 (tinD true) (eTup (aCons (eVar 6) (aCons (eVar 7) aNil))) (e1 (fldD 3 "met") (eVar 0))))
    (sSeq (sTput (e1 (fldD 3 "met") (eVar 0)) (eTup (aCons (eVar 6) (aCons (eVar 7) aNil))) (eC (.bl true)))
    (sApp 1 (eTup (aCons (eVar 6) (aCons (eVar 7) (aCons (e2 addD (eVar 4) (eTup (aCons (eVar 5) aNil))) aNil))))))
    sNil))
def q_Search_go_on_b2 : S → RS :=
  (sFor (i1 seqI (eCallN 1 m_green_in (aCons (eVar 3) aNil))) (.one 5)
    q_Search_go_on_b1)
def q_Search_go_on : S → RS :=
  (sSeq (sAsgF 1 (eLst aNil))
    (sSeq (sFor (i1 seqI (e1 (fldD 3 "level") (eVar 0))) (.many [2, 3, 4])
    q_Search_go_on_b2)
    (sSeq (sIf (t2 (cmpB (iCmp fun i j => ltB j i)) (e1 lenT (e1 (fldD 3 "met") (eVar 0))) (eC d_MOST_STANDS))
    (sRaise 2)
    sNil)
    (sFldS 3 "level" (eVar 0) (eVar 1)))))
def m_Search_go_on : MF := mkF 8 q_Search_go_on
set_option maxHeartbeats 0 in
theorem c_Search_go_on (Z : Fa K mg T P base) : CalM P w K mg base T 3 "go_on" 3 1 .sh m_Search_go_on := by
  obtain ⟨C, f, fd, hT, cl, me, F, b⟩ := Z.f_Search_go_on
  refine ⟨C, f, fd, ["self"], hT, cl, me, fn_mk F sc_Search_go_on rfl (by decide) (Γ' := []) (fun cdv A outer s H E hr hp => ?_), b⟩
  have nd := sc_Search_go_on.nd
  exact (jss_cons (js_setF (Γ' := [.sh, .o1]) 1 nd (je_lst ja_nil) (hΓ := flf_of 8 (by decide) (by decide) (by decide) (by decide)))
    (jss_cons (js_for hp rfl (ji_seq (je_fld Z.fd_Search_level (je_b (je_var 0)))) (jg_many rfl (jgs_cons 2 nd (jgs_cons 3 nd (jgs_cons 4 nd jgs_nil))))
    (jss_one (js_for hp rfl (ji_seq (je_call (c_green_in Z) hr (by omega) rfl (ja_cons (je_var 3) ja_nil))) (jg_one 5 nd)
    (jss_cons (js_par 6 7 rfl nd (je_call (c_hinge Z) hr (by omega) rfl (ja_cons (je_var 2) (ja_cons (je_var 5) ja_nil))) (je_call (c_shaded Z) hr (by omega) rfl (ja_cons (je_var 2) (ja_cons (je_var 3) (ja_cons (je_var 5) ja_nil)))))
    (jss_one (js_if (jt_tnin (hu64 hr) (je_tup (ja_cons (je_var 6) (ja_cons (je_var 7) ja_nil))) (je_b (je_fld Z.fd_Search_met (je_b (je_var 0)))))
    (jss_cons (js_tput (hu64 hr) (je_b (je_fld Z.fd_Search_met (je_b (je_var 0)))) (je_tup (ja_cons (je_var 6) (ja_cons (je_var 7) ja_nil))) je_bl)
    (jss_one (js_app 1 (je_tup (ja_cons (je_var 6) (ja_cons (je_var 7) (ja_cons (je_f (je_op bin_add (je_b (je_var 4)) (je_b (je_tup (ja_cons (je_var 5) ja_nil))))) ja_nil)))))))
    jss_nil))))))
    (jss_cons (js_if (jt_cmp cmp_gt (je_b (je_bi bi_lenT rfl Z.n_len (je_b (je_fld Z.fd_Search_met (je_b (je_var 0)))))) (je_b (je_conZ d_MOST_STANDS rfl Z.c_MOST_STANDS)))
    (jss_one (js_raise 2 rfl Z.x_TooMany rfl))
    jss_nil)
    (jss_one (js_frz (Γ' := []) (fun i => i == 1) (flz_of 8 (by decide) (by decide) (by decide)) (js_fldS Z.fd_Search_level (je_b (je_var 0)) (je_var 1)))))))
def fuel_Search_found : S → Nat := fun _ => 64
def N_Search_found : List Str := ["self", "ends", "web", "shades", "row"]
theorem sc_Search_found : FnScope N_Search_found ["self"] (defScope s_Search_found) := ⟨rfl, rfl, rfl, by decide +kernel, rfl, by decide +kernel, by decide +kernel⟩
def q_Search_found_b1 : S → RS :=
  (sSeq (sAsgF 1 (eLc (i1 seqI (e1 (fldD 3 "level") (eVar 0))) (.many [2, 3, 4]) (t2 (cmpB eqD) (eCallN 1 m_green_in (aCons (eVar 3) aNil)) (eTup aNil)) (eVar 4)))
    (sSeq (sIf (t2 (cmpB neD) (eVar 1) (eLst aNil))
    (sRet (e2 ixD (eVar 1) (eC (.int 0))))
    sNil)
    (sSeq (sDrop (eMeth 3 "go_on" 1 m_Search_go_on (eVar 0) aNil))
    sNil)))
def q_Search_found_r1 : S → RS :=
  (sRet (eC .non))
def q_Search_found : S → RS :=
  (sSeq (sWhile fuel_Search_found (t2 (cmpB neD) (e1 (fldD 3 "level") (eVar 0)) (eLst aNil))
    q_Search_found_b1)
    q_Search_found_r1)
def m_Search_found : MF := mkF 5 q_Search_found
set_option maxHeartbeats 0 in
theorem c_Search_found (Z : Fa K mg T P base) : CalM P w K mg base T 3 "found" 4 1 .sh m_Search_found := by
  obtain ⟨C, f, fd, hT, cl, me, F, b⟩ := Z.f_Search_found
  refine ⟨C, f, fd, ["self"], hT, cl, me, fn_mk F sc_Search_found rfl (by decide) (Γ' := []) (fun cdv A outer s H E hr hp => ?_), b⟩
  have nd := sc_Search_found.nd
  exact (jss_cons (js_while fuel_Search_found hp (jt_cmp (cmp_ne (hu64 hr)) (je_b (je_fld Z.fd_Search_level (je_b (je_var 0)))) (je_fb (je_lst ja_nil)))
    (jss_cons (js_setLc (Γ' := [.sh, .o1]) 1 [("web", 2), ("shades", 3), ("row", 4)] rfl nd (ji_seq (je_fld Z.fd_Search_level (je_b (je_var 0)))) (blk_of rfl) (fun _ _ _ _ _ => (jg_many rfl (jgs_cons 2 nd (jgs_cons 3 nd (jgs_cons 4 nd jgs_nil))))) (fun _ _ _ _ _ => (jts_one (jt_cmp (cmp_eq (hu64 hr)) (je_b (je_call (c_green_in Z) hr (by omega) rfl (ja_cons (je_var 3) ja_nil))) (je_b (je_tup ja_nil))))) (fun _ _ _ _ _ => (je_var 4)) (sw_true rfl rfl rfl (by rfl)) (flf_of 5 (by decide) (by decide) (by decide) (by decide)))
    (jss_cons (js_if (jt_cmp (cmp_ne (hu64 hr)) (je_varB 1) (je_fb (je_lst ja_nil)))
    (jss_one (js_ret (je_ix (je_varB 1) (je_b je_int))))
    jss_nil)
    (jss_cons (js_expr (je_meth0 (c_Search_go_on Z) hr (by omega) (je_b (je_var 0))))
    (jss_frz (Γ' := []) (fun i => i == 1) (flz_of 5 (by decide) (by decide) (by decide)) jss_nil)))))
    (jss_one (js_ret je_non)))
def N_unit_row : List Str := ["many", "place", "k"]
theorem sc_unit_row : FnScope N_unit_row ["many", "place"] (defScope s_unit_row) := ⟨rfl, rfl, rfl, by decide +kernel, rfl, by decide +kernel, by decide +kernel⟩
def q_unit_row : S → RS :=
  (sRet (e1 tupleD (eLc (iN rng1I (aCons (eVar 0) aNil)) (.one 2) tYesS (e1 intD (e2 (cmpD eqD) (eVar 2) (eVar 1))))))
def m_unit_row : MF := mkF 3 q_unit_row
set_option maxHeartbeats 0 in
theorem c_unit_row (Z : Fa K mg T P base) : Cal P w K mg base T "unit_row" 1 2 .sh m_unit_row := by
  obtain ⟨f, fd, F, b, g⟩ := Z.f_unit_row
  refine ⟨f, fd, ["many", "place"], fn_mk F sc_unit_row rfl (by decide) (Γ' := []) (fun cdv A outer s H E hr hp => ?_), g, F.kp, b⟩
  have nd := sc_unit_row.nd
  exact (jss_one (js_ret (je_bty bi_tuple rfl Z.n_tuple (je_fb (je_lc [("k", 2)] rfl nd (ji_range1 rfl Z.n_range (ja_cons (je_var 0) ja_nil)) (blk_of rfl) (fun _ _ _ _ _ => (jg_one 2 nd)) (fun _ _ _ _ _ => jts_nil) (fun _ _ _ _ _ => (je_bty bi_int rfl Z.n_int (je_b (je_cmp (cmp_eq (hu64 hr)) (je_b (je_var 2)) (je_b (je_var 1)))))))))))
def N_first_in : List Str := ["many", "place"]
theorem sc_first_in : FnScope N_first_in ["many"] (defScope s_first_in) := ⟨rfl, rfl, rfl, by decide +kernel, rfl, by decide +kernel, by decide +kernel⟩
def q_first_in : S → RS :=
  (sRet (e1 tupleD (eLc (iN rng1I (aCons (eVar 0) aNil)) (.one 1) tYesS (eCallN 2 m_unit_row (aCons (eVar 0) (aCons (eVar 1) aNil))))))
def m_first_in : MF := mkF 2 q_first_in
set_option maxHeartbeats 0 in
theorem c_first_in (Z : Fa K mg T P base) : Cal P w K mg base T "first_in" 2 1 .sh m_first_in := by
  obtain ⟨f, fd, F, b, g⟩ := Z.f_first_in
  refine ⟨f, fd, ["many"], fn_mk F sc_first_in rfl (by decide) (Γ' := []) (fun cdv A outer s H E hr hp => ?_), g, F.kp, b⟩
  have nd := sc_first_in.nd
  exact (jss_one (js_ret (je_bty bi_tuple rfl Z.n_tuple (je_fb (je_lc [("place", 1)] rfl nd (ji_range1 rfl Z.n_range (ja_cons (je_var 0) ja_nil)) (blk_of rfl) (fun _ _ _ _ _ => (jg_one 1 nd)) (fun _ _ _ _ _ => jts_nil) (fun _ _ _ _ _ => (je_call (c_unit_row Z) hr (by omega) rfl (ja_cons (je_var 0) (ja_cons (je_var 1) ja_nil)))))))))
def N_Search___init__ : List Str := ["self", "web"]
theorem sc_Search___init__ : FnScope N_Search___init__ ["self", "web"] (defScope s_Search___init__) := ⟨rfl, rfl, rfl, by decide +kernel, rfl, by decide +kernel, by decide +kernel⟩
def q_Search___init__ : S → RS :=
  (sSeq (sFldS 3 "level" (eVar 0) (eLst (aCons (eTup (aCons (eVar 1) (aCons (eCallN 1 m_first_in (aCons (e1 lenD (eVar 1)) aNil)) (aCons (eTup aNil) aNil)))) aNil)))
    (sFldS 3 "met" (eVar 0) (eDit1 (eTup (aCons (eVar 1) (aCons (eCallN 1 m_first_in (aCons (e1 lenD (eVar 1)) aNil)) aNil))) (eC (.bl true)))))
def m_Search___init__ : MF := mkF 2 q_Search___init__
set_option maxHeartbeats 0 in
theorem c_Search___init__ (Z : Fa K mg T P base) : CalI P w K mg base T "Search" 3 3 2 m_Search___init__ := by
  obtain ⟨C, f, fd, hT, g, mk, F, b⟩ := Z.f_Search___init__
  refine ⟨C, f, fd, ["self", "web"], hT, g, mk, fn_mk F sc_Search___init__ rfl (by decide) (Γ' := []) (fun cdv A outer s H E hr hp => ?_), b⟩
  have nd := sc_Search___init__.nd
  exact (jss_cons (js_fldS Z.fd_Search_level (je_b (je_var 0)) (je_f (je_lst (ja_cons (je_tup (ja_cons (je_var 1) (ja_cons (je_call (c_first_in Z) hr (by omega) rfl (ja_cons (je_bi bi_len rfl Z.n_len (je_b (je_var 1))) ja_nil)) (ja_cons (je_tup ja_nil) ja_nil)))) ja_nil))))
    (jss_one (js_fldS Z.fd_Search_met (je_b (je_var 0)) (je_tdic1 (hu64 hr) (je_tup (ja_cons (je_var 1) (ja_cons (je_call (c_first_in Z) hr (by omega) rfl (ja_cons (je_bi bi_len rfl Z.n_len (je_b (je_var 1))) ja_nil)) ja_nil))) je_bl))))
def N_tupled : List Str := ["value", "own"]
theorem sc_tupled : FnScope N_tupled ["value"] (defScope s_tupled) := ⟨rfl, rfl, rfl, by decide +kernel, rfl, by decide +kernel, by decide +kernel⟩
def q_tupled (self : MF) : S → RS :=
  (sRet (eIf (tTru (e1 (isi2D .list .tuple) (eVar 0))) (e1 tupleD (eLc (i1 seqI (eVar 0)) (.one 1) tYesS (eCallN 1 self (aCons (eVar 1) aNil)))) (eVar 0)))
def m_tupled : Nat → MF
  | 0 => fun _ _ => .stuck
  | n + 1 => mkF 2 (q_tupled (m_tupled n))
set_option maxHeartbeats 0 in
theorem c_tupled (Z : Fa K mg T P base) : ∀ n, Cal P w K mg base T "tupled" (n + 1) 1 .sh (m_tupled n)
  | 0 => let ⟨f, fd, F, b, g⟩ := Z.f_tupled; ⟨f, fd, ["value"], fn_never, g, F.kp, b⟩
  | n + 1 => by
    have ih := c_tupled Z n
    obtain ⟨f, fd, F, b, g⟩ := Z.f_tupled
    refine ⟨f, fd, ["value"], fn_mk F sc_tupled rfl (by decide) (Γ' := []) (fun cdv A outer s H E hr hp => ?_), g, F.kp, b⟩
    have nd := sc_tupled.nd
    exact (jss_one (js_ret (je_if (jt_tru (je_b (je_isi2 .list .tuple rfl Z.n_isinstance rfl Z.n_list rfl Z.n_tuple (je_b (je_var 0))))) (je_bty bi_tuple rfl Z.n_tuple (je_fb (je_lc [("own", 1)] rfl nd (ji_seq (je_var 0)) (blk_of rfl) (fun _ _ _ _ _ => (jg_one 1 nd)) (fun _ _ _ _ _ => jts_nil) (fun _ _ _ _ _ => (je_call ih hr (by omega) rfl (ja_cons (je_var 1) ja_nil)))))) (je_var 0))))
def N_is_long : List Str := ["thing", "length"]
theorem sc_is_long : FnScope N_is_long ["thing", "length"] (defScope s_is_long) := ⟨rfl, rfl, rfl, by decide +kernel, rfl, by decide +kernel, by decide +kernel⟩
def q_is_long : S → RS :=
  (sRet (eAndB (e1 (isiD .tuple) (eVar 0)) (e2 (cmpD eqD) (e1 lenD (eVar 0)) (eVar 1))))
def m_is_long : MF := mkF 2 q_is_long
set_option maxHeartbeats 0 in
theorem c_is_long (Z : Fa K mg T P base) : Cal P w K mg base T "is_long" 1 2 .sh m_is_long := by
  obtain ⟨f, fd, F, b, g⟩ := Z.f_is_long
  refine ⟨f, fd, ["thing", "length"], fn_mk F sc_is_long rfl (by decide) (Γ' := []) (fun cdv A outer s H E hr hp => ?_), g, F.kp, b⟩
  have nd := sc_is_long.nd
  exact (jss_one (js_ret (je_and (je_b (je_isi .tuple rfl Z.n_isinstance rfl Z.n_tuple (je_b (je_var 0)))) (je_one (je_cmp (cmp_eq (hu64 hr)) (je_b (je_bi bi_len rfl Z.n_len (je_b (je_var 0)))) (je_b (je_var 1)))))))
def N_is_number : List Str := ["thing"]
theorem sc_is_number : FnScope N_is_number ["thing"] (defScope s_is_number) := ⟨rfl, rfl, rfl, by decide +kernel, rfl, by decide +kernel, by decide +kernel⟩
def q_is_number : S → RS :=
  (sRet (eAndB (e1 (isiD .int) (eVar 0)) (eNotB (e1 (isiD .bool) (eVar 0)))))
def m_is_number : MF := mkF 1 q_is_number
set_option maxHeartbeats 0 in
theorem c_is_number (Z : Fa K mg T P base) : Cal P w K mg base T "is_number" 1 1 .sh m_is_number := by
  obtain ⟨f, fd, F, b, g⟩ := Z.f_is_number
  refine ⟨f, fd, ["thing"], fn_mk F sc_is_number rfl (by decide) (Γ' := []) (fun cdv A outer s H E hr hp => ?_), g, F.kp, b⟩
  have nd := sc_is_number.nd
  exact (jss_one (js_ret (je_and (je_b (je_isi .int rfl Z.n_isinstance rfl Z.n_int (je_b (je_var 0)))) (je_one (je_not (je_b (je_isi .bool rfl Z.n_isinstance rfl Z.n_bool (je_b (je_var 0)))))))))
def N_is_table : List Str := ["thing", "own", "row"]
theorem sc_is_table : FnScope N_is_table ["thing"] (defScope s_is_table) := ⟨rfl, rfl, rfl, by decide +kernel, rfl, by decide +kernel, by decide +kernel⟩
def q_is_table : S → RS :=
  (sSeq (sIf (tOrS (tNotS (tTru (e1 (isiD .tuple) (eVar 0)))) (t2 (cmpB eqD) (eVar 0) (eTup aNil)))
    (sRet (eC (.bl false)))
    sNil)
    (sRet (e1 allD (eLc (i1 seqI (eVar 0)) (.one 2) tYesS (eAndB (eCallN 2 m_is_long (aCons (eVar 2) (aCons (e1 lenD (eVar 0)) aNil))) (e1 allD (eLc (i1 seqI (eVar 2)) (.one 1) tYesS (eCallN 1 m_is_number (aCons (eVar 1) aNil)))))))))
def m_is_table : MF := mkF 3 q_is_table
set_option maxHeartbeats 0 in
theorem c_is_table (Z : Fa K mg T P base) : Cal P w K mg base T "is_table" 2 1 .sh m_is_table := by
  obtain ⟨f, fd, F, b, g⟩ := Z.f_is_table
  refine ⟨f, fd, ["thing"], fn_mk F sc_is_table rfl (by decide) (Γ' := []) (fun cdv A outer s H E hr hp => ?_), g, F.kp, b⟩
  have nd := sc_is_table.nd
  exact (jss_cons (js_if (jw_pt (jw_or (jt_not (jt_tru (je_b (je_isi .tuple rfl Z.n_isinstance rfl Z.n_tuple (je_b (je_var 0)))))) (jw_or1 (jt_cmp (cmp_eq (hu64 hr)) (je_b (je_var 0)) (je_b (je_tup ja_nil))))))
    (jss_one (js_ret je_bl))
    jss_nil)
    (jss_one (js_ret (je_bi (bi_all rfl) rfl Z.n_all (je_fb (je_lc [("row", 2)] rfl nd (ji_seq (je_var 0)) (blk_of rfl) (fun _ _ _ _ _ => (jg_one 2 nd)) (fun _ _ _ _ _ => jts_nil) (fun _ _ _ _ _ => (je_and (je_b (je_call (c_is_long Z) hr (by omega) rfl (ja_cons (je_var 2) (ja_cons (je_bi bi_len rfl Z.n_len (je_b (je_var 0))) ja_nil)))) (je_one (je_bi (bi_all rfl) rfl Z.n_all (je_fb (je_lc [("own", 1)] rfl nd (ji_seq (je_var 2)) (blk_of rfl) (fun _ _ _ _ _ => (jg_one 1 nd)) (fun _ _ _ _ _ => jts_nil) (fun _ _ _ _ _ => (je_call (c_is_number Z) hr (by omega) rfl (ja_cons (je_var 1) ja_nil)))))))))))))))
def N_beside : List Str := ["web", "place", "far", "own"]
theorem sc_beside : FnScope N_beside ["web", "place"] (defScope s_beside) := ⟨rfl, rfl, rfl, by decide +kernel, rfl, by decide +kernel, by decide +kernel⟩
def q_beside : S → RS :=
  (sRet (eLc (iEnumB (aCons (e2 ixD (eVar 0) (eVar 1)) aNil)) (.many [2, 3]) (t2 (cmpB neD) (eVar 3) (eC (.int 0))) (eVar 2)))
def m_beside : MF := mkF 4 q_beside
set_option maxHeartbeats 0 in
theorem c_beside (Z : Fa K mg T P base) : Cal P w K mg base T "beside" 1 2 .sh m_beside := by
  obtain ⟨f, fd, F, b, g⟩ := Z.f_beside
  refine ⟨f, fd, ["web", "place"], fn_mk F sc_beside rfl (by decide) (Γ' := []) (fun cdv A outer s H E hr hp => ?_), g, F.kp, b⟩
  have nd := sc_beside.nd
  exact (jss_one (js_ret (je_f (je_lc [("far", 2), ("own", 3)] rfl nd (ji_enumB rfl Z.n_enumerate (ja_cons (je_ix (je_b (je_var 0)) (je_b (je_var 1))) ja_nil)) (blk_of rfl) (fun _ _ _ _ _ => (jg_many rfl (jgs_cons 2 nd (jgs_cons 3 nd jgs_nil)))) (fun _ _ _ _ _ => (jts_one (jt_cmp (cmp_ne (hu64 hr)) (je_b (je_var 3)) (je_b je_int)))) (fun _ _ _ _ _ => (je_var 2))))))
def fuel_part_from : S → Nat := fun _ => 64
def N_part_from : List Str := ["web", "first", "found", "at", "far"]
theorem sc_part_from : FnScope N_part_from ["web", "first"] (defScope s_part_from) := ⟨rfl, rfl, rfl, by decide +kernel, rfl, by decide +kernel, by decide +kernel⟩
def q_part_from_b1 : S → RS :=
  (sSeq (sAsg (.one 2) (e2 addD (eVar 2) (eLc (i1 seqI (eCallN 2 m_beside (aCons (eVar 0) (aCons (e2 ixD (eVar 2) (eVar 3)) aNil)))) (.one 4) (t2 (cmpB notinD) (eVar 4) (eVar 2)) (eVar 4))))
    (sAug augD 3 (eC (.int 1))))
def q_part_from : S → RS :=
  (sSeq (sAsg (.many [2, 3]) (eTup (aCons (eLst (aCons (eVar 1) aNil)) (aCons (eC (.int 0)) aNil))))
    (sSeq (sWhile fuel_part_from (t2 (cmpB (iCmp ltB)) (eVar 3) (e1 lenD (eVar 2)))
    q_part_from_b1)
    (sRet (eVar 2))))
def m_part_from : MF := mkF 5 q_part_from
set_option maxHeartbeats 0 in
theorem c_part_from (Z : Fa K mg T P base) : Cal P w K mg base T "part_from" 2 2 .sh m_part_from := by
  obtain ⟨f, fd, F, b, g⟩ := Z.f_part_from
  refine ⟨f, fd, ["web", "first"], fn_mk F sc_part_from rfl (by decide) (Γ' := []) (fun cdv A outer s H E hr hp => ?_), g, F.kp, b⟩
  have nd := sc_part_from.nd
  exact (jss_cons (js_asgT (je_tup (ja_cons (je_f (je_lst (ja_cons (je_var 1) ja_nil))) (ja_cons je_int ja_nil))) (jg_many rfl (jgs_cons 2 nd (jgs_cons 3 nd jgs_nil))))
    (jss_cons (js_while fuel_part_from hp (jt_cmp cmp_lt (je_b (je_var 3)) (je_b (je_bi bi_len rfl Z.n_len (je_b (je_var 2)))))
    (jss_cons (js_set 2 nd (je_f (je_op bin_add (je_b (je_var 2)) (je_fb (je_lc [("far", 4)] rfl nd (ji_seq (je_call (c_beside Z) hr (by omega) rfl (ja_cons (je_var 0) (ja_cons (je_ix (je_b (je_var 2)) (je_b (je_var 3))) ja_nil)))) (blk_of rfl) (fun _ _ _ _ _ => (jg_one 4 nd)) (fun _ _ _ _ _ => (jts_one (jt_cmp (cmp_notin (hu65 hr)) (je_b (je_var 4)) (je_b (je_var 2))))) (fun _ _ _ _ _ => (je_var 4)))))))
    (jss_one (js_augAdd 3 nd (je_b je_int)))))
    (jss_one (js_ret (je_var 2)))))
def N_whole_weights : List Str := ["ratios", "wide", "top", "bottom", "found", "place", "own", "shared"]
theorem sc_whole_weights : FnScope N_whole_weights ["ratios"] (defScope s_whole_weights) := ⟨rfl, rfl, rfl, by decide +kernel, rfl, by decide +kernel, by decide +kernel⟩
def q_whole_weights_b1 : S → RS :=
  (sAsg (.one 1) (e2 fdivD (e2 mulD (eVar 1) (eVar 3)) (eBi gcdD (aCons (eVar 1) (aCons (eVar 3) aNil)))))
def q_whole_weights_b2 : S → RS :=
  (sAsg (.one 7) (eBi gcdD (aCons (eVar 7) (aCons (eVar 6) aNil))))
def q_whole_weights : S → RS :=
  (sSeq (sAsg (.one 1) (eC (.int 1)))
    (sSeq (sLock 0 (sFor (iDic valsV (eVar 0)) (.many [2, 3])
    q_whole_weights_b1))
    (sSeq (sAsg (.one 4) (e1 dictD (eLock 0 (eLc (iDic itemsV (eVar 0)) (.many [5, 6]) tYesS (eTup (aCons (eVar 5) (aCons (e2 fdivD (e2 mulD (e2 ixD (eVar 6) (eC (.int 0))) (eVar 1)) (e2 ixD (eVar 6) (eC (.int 1)))) aNil)))))))
    (sSeq (sAsg (.one 7) (eC (.int 0)))
    (sSeq (sLock 4 (sFor (iDic valsV (eVar 4)) (.one 6)
    q_whole_weights_b2))
    (sRet (e1 dictD (eLock 4 (eLc (iDic itemsV (eVar 4)) (.many [5, 6]) tYesS (eTup (aCons (eVar 5) (aCons (e2 fdivD (eVar 6) (eVar 7)) aNil))))))))))))
def m_whole_weights : MF := mkF 8 q_whole_weights
set_option maxHeartbeats 0 in
theorem c_whole_weights (Z : Fa K mg T P base) : Cal P w K mg base T "whole_weights" 1 1 .sh m_whole_weights := by
  obtain ⟨f, fd, F, b, g⟩ := Z.f_whole_weights
  refine ⟨f, fd, ["ratios"], fn_mk F sc_whole_weights rfl (by decide) (Γ' := []) (fun cdv A outer s H E hr hp => ?_), g, F.kp, b⟩
  have nd := sc_whole_weights.nd
  exact (jss_cons (js_set 1 nd je_int)
    (jss_cons (js_lock 0 (js_for hp rfl (ji_vals (je_b (je_var 0))) (jg_many rfl (jgs_cons 2 nd (jgs_cons 3 nd jgs_nil)))
    (jss_one (js_set 1 nd (je_op bin_fdiv (je_fb (je_op bin_mul (je_b (je_var 1)) (je_b (je_var 3)))) (je_b (je_biM bi_gcd rfl Z.b_gcd (ja_cons (je_var 1) (ja_cons (je_var 3) ja_nil)))))))))
    (jss_cons (js_set 4 nd (je_dictP rfl rfl Z.n_dict (je_fb (je_lock 0 (je_lc [("place", 5), ("own", 6)] rfl nd (ji_items (je_b (je_var 0))) (blk_of rfl) (fun _ _ _ _ _ => (jg_many rfl (jgs_cons 5 nd (jgs_cons 6 nd jgs_nil)))) (fun _ _ _ _ _ => jts_nil) (fun _ _ _ _ _ => (je_tup (ja_cons (je_var 5) (ja_cons (je_op bin_fdiv (je_fb (je_op bin_mul (je_b (je_ix (je_b (je_var 6)) (je_b je_int))) (je_b (je_var 1)))) (je_b (je_ix (je_b (je_var 6)) (je_b je_int)))) ja_nil)))))))))
    (jss_cons (js_set 7 nd je_int)
    (jss_cons (js_lock 4 (js_for hp rfl (ji_vals (je_b (je_var 4))) (jg_one 6 nd)
    (jss_one (js_set 7 nd (je_biM bi_gcd rfl Z.b_gcd (ja_cons (je_var 7) (ja_cons (je_var 6) ja_nil)))))))
    (jss_one (js_ret (je_dictP rfl rfl Z.n_dict (je_fb (je_lock 4 (je_lc [("place", 5), ("own", 6)] rfl nd (ji_items (je_b (je_var 4))) (blk_of rfl) (fun _ _ _ _ _ => (jg_many rfl (jgs_cons 5 nd (jgs_cons 6 nd jgs_nil)))) (fun _ _ _ _ _ => jts_nil) (fun _ _ _ _ _ => (je_tup (ja_cons (je_var 5) (ja_cons (je_op bin_fdiv (je_b (je_var 6)) (je_b (je_var 7))) ja_nil)))))))))))))))
def N_lowest_ratio : List Str := ["top", "bottom", "shared"]
theorem sc_lowest_ratio : FnScope N_lowest_ratio ["top", "bottom"] (defScope s_lowest_ratio) := ⟨rfl, rfl, rfl, by decide +kernel, rfl, by decide +kernel, by decide +kernel⟩
def q_lowest_ratio : S → RS :=
  (sSeq (sAsg (.one 2) (eBi gcdD (aCons (eVar 0) (aCons (eVar 1) aNil))))
    (sRet (eTup (aCons (e2 fdivD (eVar 0) (eVar 2)) (aCons (e2 fdivD (eVar 1) (eVar 2)) aNil)))))
def m_lowest_ratio : MF := mkF 3 q_lowest_ratio
set_option maxHeartbeats 0 in
theorem c_lowest_ratio (Z : Fa K mg T P base) : Cal P w K mg base T "lowest_ratio" 1 2 .sh m_lowest_ratio := by
  obtain ⟨f, fd, F, b, g⟩ := Z.f_lowest_ratio
  refine ⟨f, fd, ["top", "bottom"], fn_mk F sc_lowest_ratio rfl (by decide) (Γ' := []) (fun cdv A outer s H E hr hp => ?_), g, F.kp, b⟩
  have nd := sc_lowest_ratio.nd
  exact (jss_cons (js_set 2 nd (je_biM bi_gcd rfl Z.b_gcd (ja_cons (je_var 0) (ja_cons (je_var 1) ja_nil))))
    (jss_one (js_ret (je_tup (ja_cons (je_op bin_fdiv (je_b (je_var 0)) (je_b (je_var 2))) (ja_cons (je_op bin_fdiv (je_b (je_var 1)) (je_b (je_var 2))) ja_nil))))))
def N_sign : List Str := ["number"]
theorem sc_sign : FnScope N_sign ["number"] (defScope s_sign) := ⟨rfl, rfl, rfl, by decide +kernel, rfl, by decide +kernel, by decide +kernel⟩
def q_sign : S → RS :=
  (sRet (e2 subD (e2 (cmpD (iCmp fun i j => ltB j i)) (eVar 0) (eC (.int 0))) (e2 (cmpD (iCmp ltB)) (eVar 0) (eC (.int 0)))))
def m_sign : MF := mkF 1 q_sign
set_option maxHeartbeats 0 in
theorem c_sign (Z : Fa K mg T P base) : Cal P w K mg base T "sign" 1 1 .sh m_sign := by
  obtain ⟨f, fd, F, b, g⟩ := Z.f_sign
  refine ⟨f, fd, ["number"], fn_mk F sc_sign rfl (by decide) (Γ' := []) (fun cdv A outer s H E hr hp => ?_), g, F.kp, b⟩
  have nd := sc_sign.nd
  exact (jss_one (js_ret (je_op bin_sub (je_b (je_cmp cmp_gt (je_b (je_var 0)) (je_b je_int))) (je_b (je_cmp cmp_lt (je_b (je_var 0)) (je_b je_int))))))
def N_part_weights : List Str := ["web", "first", "ratios", "place", "far", "top", "bottom", "own"]
theorem sc_part_weights : FnScope N_part_weights ["web", "first"] (defScope s_part_weights) := ⟨rfl, rfl, rfl, by decide +kernel, rfl, by decide +kernel, by decide +kernel⟩
def q_part_weights_b1 : S → RS :=
  (sSeq (sIf (t2 (cmpB neD) (eCallN 1 m_sign (aCons (e2 ixD (e2 ixD (eVar 0) (eVar 3)) (eVar 4)) aNil)) (e2 subD (eC (.int 0)) (eCallN 1 m_sign (aCons (e2 ixD (e2 ixD (eVar 0) (eVar 4)) (eVar 3)) aNil))))
    (sRet (eC .non))
    sNil)
    (sSeq (sAsg (.many [5, 6]) (e2 dixD (eVar 2) (eVar 3)))
    (sSeq (sAsg (.one 7) (eCallN 2 m_lowest_ratio (aCons (e2 mulD (eVar 5) (e1 absD (e2 ixD (e2 ixD (eVar 0) (eVar 3)) (eVar 4)))) (aCons (e2 mulD (eVar 6) (e1 absD (e2 ixD (e2 ixD (eVar 0) (eVar 4)) (eVar 3)))) aNil))))
    (sSeq (sIf (t2 (cmpB neD) (eGet (eVar 2) (eVar 4) (eVar 7)) (eVar 7))
    (sRet (eC .non))
    sNil)
    (sDput (eVar 2) (eVar 4) (eVar 7))))))
def q_part_weights_b2 : S → RS :=
  (sFor (i1 seqI (eCallN 2 m_beside (aCons (eVar 0) (aCons (eVar 3) aNil)))) (.one 4)
    q_part_weights_b1)
def q_part_weights : S → RS :=
  (sSeq (sAsg (.one 2) (eDic1 (eVar 1) (eTup (aCons (eC (.int 1)) (aCons (eC (.int 1)) aNil)))))
    (sSeq (sFor (i1 seqI (eCallN 2 m_part_from (aCons (eVar 0) (aCons (eVar 1) aNil)))) (.one 3)
    q_part_weights_b2)
    (sRet (eCallN 1 m_whole_weights (aCons (eVar 2) aNil)))))
def m_part_weights : MF := mkF 8 q_part_weights
set_option maxHeartbeats 0 in
theorem c_part_weights (Z : Fa K mg T P base) : Cal P w K mg base T "part_weights" 3 2 .sh m_part_weights := by
  obtain ⟨f, fd, F, b, g⟩ := Z.f_part_weights
  refine ⟨f, fd, ["web", "first"], fn_mk F sc_part_weights rfl (by decide) (Γ' := []) (fun cdv A outer s H E hr hp => ?_), g, F.kp, b⟩
  have nd := sc_part_weights.nd
  exact (jss_cons (js_set 2 nd (je_dic1 (je_var 1) (je_tup (ja_cons je_int (ja_cons je_int ja_nil)))))
    (jss_cons (js_for hp rfl (ji_seq (je_call (c_part_from Z) hr (by omega) rfl (ja_cons (je_var 0) (ja_cons (je_var 1) ja_nil)))) (jg_one 3 nd)
    (jss_one (js_for hp rfl (ji_seq (je_call (c_beside Z) hr (by omega) rfl (ja_cons (je_var 0) (ja_cons (je_var 3) ja_nil)))) (jg_one 4 nd)
    (jss_cons (js_if (jt_cmp (cmp_ne (hu64 hr)) (je_b (je_call (c_sign Z) hr (by omega) rfl (ja_cons (je_ix (je_b (je_ix (je_b (je_var 0)) (je_b (je_var 3)))) (je_b (je_var 4))) ja_nil))) (je_b (je_op bin_sub (je_b je_int) (je_b (je_call (c_sign Z) hr (by omega) rfl (ja_cons (je_ix (je_b (je_ix (je_b (je_var 0)) (je_b (je_var 4)))) (je_b (je_var 3))) ja_nil))))))
    (jss_one (js_ret je_non))
    jss_nil)
    (jss_cons (js_asgT (je_dix (hu64 hr) (je_b (je_var 2)) (je_b (je_var 3))) (jg_many rfl (jgs_cons 5 nd (jgs_cons 6 nd jgs_nil))))
    (jss_cons (js_set 7 nd (je_call (c_lowest_ratio Z) hr (by omega) rfl (ja_cons (je_f (je_op bin_mul (je_b (je_var 5)) (je_b (je_bi bi_abs rfl Z.n_abs (je_b (je_ix (je_b (je_ix (je_b (je_var 0)) (je_b (je_var 3)))) (je_b (je_var 4)))))))) (ja_cons (je_f (je_op bin_mul (je_b (je_var 6)) (je_b (je_bi bi_abs rfl Z.n_abs (je_b (je_ix (je_b (je_ix (je_b (je_var 0)) (je_b (je_var 4)))) (je_b (je_var 3)))))))) ja_nil))))
    (jss_cons (js_if (jt_cmp (cmp_ne (hu64 hr)) (je_b (je_dget (hu64 hr) (je_b (je_var 2)) (je_var 4) (je_var 7))) (je_b (je_var 7)))
    (jss_one (js_ret je_non))
    jss_nil)
    (jss_one (js_dput (hu64 hr) (je_b (je_var 2)) (je_b (je_var 4)) (je_var 7))))))))))
    (jss_one (js_ret (je_call (c_whole_weights Z) hr (by omega) rfl (ja_cons (je_var 2) ja_nil))))))
def N_weights_in : List Str := ["web", "found", "place", "far", "own"]
theorem sc_weights_in : FnScope N_weights_in ["web"] (defScope s_weights_in) := ⟨rfl, rfl, rfl, by decide +kernel, rfl, by decide +kernel, by decide +kernel⟩
def q_weights_in_b1 : S → RS :=
  (sSeq (sIf (tOrS (tTru (e1 anyD (eLc (iN rng1I (aCons (e1 lenD (eVar 0)) aNil)) (.one 3) tYesS (eAndB (e2 (cmpD neD) (e2 ixD (e2 ixD (eVar 0) (eVar 3)) (eVar 2)) (eC (.int 0))) (e2 (cmpD eqD) (e2 ixD (e2 ixD (eVar 0) (eVar 2)) (eVar 3)) (eC (.int 0))))))) (t2 (cmpB neD) (e2 ixD (e2 ixD (eVar 0) (eVar 2)) (eVar 2)) (eC (.int 0))))
    (sRet (eC .non))
    sNil)
    (sIf (toB (e2 (dinD true) (eVar 2) (eVar 1)))
    (sSeq (sAsg (.one 4) (eCallN 2 m_part_weights (aCons (eVar 0) (aCons (eVar 2) aNil))))
    (sSeq (sIf (t2 (cmpB isND) (eVar 4) (eC .non))
    (sRet (eC .non))
    sNil)
    (sUpd (eVar 1) (eVar 4))))
    sNil))
def q_weights_in : S → RS :=
  (sSeq (sAsg (.one 1) eDic0)
    (sSeq (sFor (iN rng1I (aCons (e1 lenD (eVar 0)) aNil)) (.one 2)
    q_weights_in_b1)
    (sRet (e1 tupleD (eLc (iN rng1I (aCons (e1 lenD (eVar 0)) aNil)) (.one 2) tYesS (e2 dixD (eVar 1) (eVar 2)))))))
def m_weights_in : MF := mkF 5 q_weights_in
set_option maxHeartbeats 0 in
theorem c_weights_in (Z : Fa K mg T P base) : Cal P w K mg base T "weights_in" 4 1 .sh m_weights_in := by
  obtain ⟨f, fd, F, b, g⟩ := Z.f_weights_in
  refine ⟨f, fd, ["web"], fn_mk F sc_weights_in rfl (by decide) (Γ' := []) (fun cdv A outer s H E hr hp => ?_), g, F.kp, b⟩
  have nd := sc_weights_in.nd
  exact (jss_cons (js_set 1 nd je_dic0)
    (jss_cons (js_for hp rfl (ji_range1 rfl Z.n_range (ja_cons (je_bi bi_len rfl Z.n_len (je_b (je_var 0))) ja_nil)) (jg_one 2 nd)
    (jss_cons (js_if (jw_pt (jw_or (jt_tru (je_b (je_bi (bi_any rfl) rfl Z.n_any (je_fb (je_lc [("far", 3)] rfl nd (ji_range1 rfl Z.n_range (ja_cons (je_bi bi_len rfl Z.n_len (je_b (je_var 0))) ja_nil)) (blk_of rfl) (fun _ _ _ _ _ => (jg_one 3 nd)) (fun _ _ _ _ _ => jts_nil) (fun _ _ _ _ _ => (je_and (je_b (je_cmp (cmp_ne (hu64 hr)) (je_b (je_ix (je_b (je_ix (je_b (je_var 0)) (je_b (je_var 3)))) (je_b (je_var 2)))) (je_b je_int))) (je_one (je_cmp (cmp_eq (hu64 hr)) (je_b (je_ix (je_b (je_ix (je_b (je_var 0)) (je_b (je_var 2)))) (je_b (je_var 3)))) (je_b je_int)))))))))) (jw_or1 (jt_cmp (cmp_ne (hu64 hr)) (je_b (je_ix (je_b (je_ix (je_b (je_var 0)) (je_b (je_var 2)))) (je_b (je_var 2)))) (je_b je_int)))))
    (jss_one (js_ret je_non))
    jss_nil)
    (jss_one (js_if (jt_dnin (hu64 hr) (je_b (je_var 2)) (je_b (je_var 1)))
    (jss_cons (js_set 4 nd (je_call (c_part_weights Z) hr (by omega) rfl (ja_cons (je_var 0) (ja_cons (je_var 2) ja_nil))))
    (jss_cons (js_if (jt_cmp cmp_isN (je_b (je_var 4)) (je_b je_non))
    (jss_one (js_ret je_non))
    jss_nil)
    (jss_one (js_upd (je_b (je_var 1)) (je_var 4)))))
    jss_nil))))
    (jss_one (js_ret (je_bty bi_tuple rfl Z.n_tuple (je_fb (je_lc [("place", 2)] rfl nd (ji_range1 rfl Z.n_range (ja_cons (je_bi bi_len rfl Z.n_len (je_b (je_var 0))) ja_nil)) (blk_of rfl) (fun _ _ _ _ _ => (jg_one 2 nd)) (fun _ _ _ _ _ => jts_nil) (fun _ _ _ _ _ => (je_dix (hu64 hr) (je_b (je_var 1)) (je_b (je_var 2)))))))))))
def N_is_web : List Str := ["thing"]
theorem sc_is_web : FnScope N_is_web ["thing"] (defScope s_is_web) := ⟨rfl, rfl, rfl, by decide +kernel, rfl, by decide +kernel, by decide +kernel⟩
def q_is_web : S → RS :=
  (sRet (eAndB (eCallN 1 m_is_table (aCons (eVar 0) aNil)) (e2 (cmpD notND) (eCallN 1 (trimF m_weights_in) (aCons (eVar 0) aNil)) (eC .non))))
def m_is_web : MF := mkF 1 q_is_web
set_option maxHeartbeats 0 in
theorem c_is_web (Z : Fa K mg T P base) : Cal P w K mg base T "is_web" 5 1 .sh m_is_web := by
  obtain ⟨f, fd, F, b, g⟩ := Z.f_is_web
  refine ⟨f, fd, ["thing"], fn_mk F sc_is_web rfl (by decide) (Γ' := []) (fun cdv A outer s H E hr hp => ?_), g, F.kp, b⟩
  have nd := sc_is_web.nd
  exact (jss_one (js_ret (je_and (je_b (je_call (c_is_table Z) hr (by omega) rfl (ja_cons (je_var 0) ja_nil))) (je_one (je_cmp cmp_notN (je_b (je_call (Cal.trim (c_weights_in Z)) hr (by omega) rfl (ja_cons (je_var 0) ja_nil))) (je_b je_non))))))
def N_sure_web : List Str := ["web", "own"]
theorem sc_sure_web : FnScope N_sure_web ["web"] (defScope s_sure_web) := ⟨rfl, rfl, rfl, by decide +kernel, rfl, by decide +kernel, by decide +kernel⟩
def q_sure_web : S → RS :=
  (sSeq (sAsg (.one 1) (eCallN 1 (m_tupled 6) (aCons (eVar 0) aNil)))
    (sSeq (sIf (tNotS (tTru (eCallN 1 m_is_web (aCons (eVar 1) aNil))))
    (sRaise 0)
    sNil)
    (sRet (eVar 1))))
def m_sure_web : MF := mkF 2 q_sure_web
set_option maxHeartbeats 0 in
theorem c_sure_web (Z : Fa K mg T P base) : Cal P w K mg base T "sure_web" 8 1 .sh m_sure_web := by
  obtain ⟨f, fd, F, b, g⟩ := Z.f_sure_web
  refine ⟨f, fd, ["web"], fn_mk F sc_sure_web rfl (by decide) (Γ' := []) (fun cdv A outer s H E hr hp => ?_), g, F.kp, b⟩
  have nd := sc_sure_web.nd
  exact (jss_cons (js_set 1 nd (je_call (c_tupled Z 6) hr (by omega) rfl (ja_cons (je_var 0) ja_nil)))
    (jss_cons (js_if (jt_not (jt_tru (je_b (je_call (c_is_web Z) hr (by omega) rfl (ja_cons (je_var 1) ja_nil)))))
    (jss_one (js_raise 0 rfl Z.x_Unfit rfl))
    jss_nil)
    (jss_one (js_ret (je_var 1)))))
def N_full_row : List Str := ["web", "found"]
theorem sc_full_row : FnScope N_full_row ["web"] (defScope s_full_row) := ⟨rfl, rfl, rfl, by decide +kernel, rfl, by decide +kernel, by decide +kernel⟩
def q_full_row : S → RS :=
  (sSeq (sAsg (.one 1) (eMeth 3 "found" 1 m_Search_found (eMake 3 2 m_Search___init__ (aCons (eCallN 1 (trimF m_sure_web) (aCons (eVar 0) aNil)) aNil)) aNil))
    (sSeq (sIf (t2 (cmpB isND) (eVar 1) (eC .non))
    (sRaise 1)
    sNil)
    (sRet (eVar 1))))
def m_full_row : MF := mkF 2 q_full_row
set_option maxHeartbeats 0 in
theorem c_full_row (Z : Fa K mg T P base) : Cal P w K mg base T "full_row" 9 1 .sh m_full_row := by
  obtain ⟨f, fd, F, b, g⟩ := Z.f_full_row
  refine ⟨f, fd, ["web"], fn_mk F sc_full_row rfl (by decide) (Γ' := []) (fun cdv A outer s H E hr hp => ?_), g, F.kp, b⟩
  have nd := sc_full_row.nd
  exact (jss_cons (js_set 1 nd (je_meth0 (c_Search_found Z) hr (by omega) (je_b (je_make (c_Search___init__ Z) hr (by omega) rfl (ja_cons (je_call (Cal.trim (c_sure_web Z)) hr (by omega) rfl (ja_cons (je_var 0) ja_nil)) ja_nil)))))
    (jss_cons (js_if (jt_cmp cmp_isN (je_b (je_var 1)) (je_b je_non))
    (jss_one (js_raise 1 rfl Z.x_CanNot rfl))
    jss_nil)
    (jss_one (js_ret (je_var 1)))))
def N_walked_shades : List Str := ["web", "shades", "row", "found", "place", "now", "told"]
theorem sc_walked_shades : FnScope N_walked_shades ["web", "shades", "row"] (defScope s_walked_shades) := ⟨rfl, rfl, rfl, by decide +kernel, rfl, by decide +kernel, by decide +kernel⟩
def q_walked_shades_b1 : S → RS :=
  (sSeq (sAsg (.many [5, 6]) (e2 ixD (eVar 3) (e1 negD (eC (.int 1)))))
    (sApp 3 (eTup (aCons (eCallN 2 m_hinge (aCons (eVar 5) (aCons (eVar 4) aNil))) (aCons (eCallN 3 m_shaded (aCons (eVar 5) (aCons (eVar 6) (aCons (eVar 4) aNil)))) aNil)))))
def q_walked_shades : S → RS :=
  (sSeq (sAsgF 3 (eLst (aCons (eTup (aCons (eVar 0) (aCons (eVar 1) aNil))) aNil)))
    (sSeq (sFor (i1 seqI (eVar 2)) (.one 4)
    q_walked_shades_b1)
    (sRet (eVar 3))))
def m_walked_shades : MF := mkF 7 q_walked_shades
set_option maxHeartbeats 0 in
theorem c_walked_shades (Z : Fa K mg T P base) : Cal P w K mg base T "walked_shades" 2 3 .sh m_walked_shades := by
  obtain ⟨f, fd, F, b, g⟩ := Z.f_walked_shades
  refine ⟨f, fd, ["web", "shades", "row"], fn_mk F sc_walked_shades rfl (by decide) (Γ' := []) (fun cdv A outer s H E hr hp => ?_), g, F.kp, b⟩
  have nd := sc_walked_shades.nd
  exact (jss_cons (js_setF (Γ' := [.sh, .sh, .sh, .o1]) 3 nd (je_lst (ja_cons (je_tup (ja_cons (je_var 0) (ja_cons (je_var 1) ja_nil))) ja_nil)) (hΓ := flf_of 7 (by decide) (by decide) (by decide) (by decide)))
    (jss_cons (js_for hp rfl (ji_seq (je_var 2)) (jg_one 4 nd)
    (jss_cons (js_asgT (je_ix (je_varB 3) (je_b (je_un uni_neg (je_b je_int)))) (jg_many rfl (jgs_cons 5 nd (jgs_cons 6 nd jgs_nil))))
    (jss_one (js_app 3 (je_tup (ja_cons (je_call (c_hinge Z) hr (by omega) rfl (ja_cons (je_var 5) (ja_cons (je_var 4) ja_nil))) (ja_cons (je_call (c_shaded Z) hr (by omega) rfl (ja_cons (je_var 5) (ja_cons (je_var 6) (ja_cons (je_var 4) ja_nil)))) ja_nil)))))))
    (jss_one (js_frz (Γ' := []) (fun i => i == 3) (flz_of 7 (by decide) (by decide) (by decide)) (js_ret (je_var 3))))))
def N_green_path : List Str := ["web", "row", "stands", "stand", "place"]
theorem sc_green_path : FnScope N_green_path ["web", "row"] (defScope s_green_path) := ⟨rfl, rfl, rfl, by decide +kernel, rfl, by decide +kernel, by decide +kernel⟩
def q_green_path : S → RS :=
  (sSeq (sAsg (.one 2) (eCallN 3 m_walked_shades (aCons (eVar 0) (aCons (eCallN 1 m_first_in (aCons (e1 lenD (eVar 0)) aNil)) (aCons (eVar 1) aNil)))))
    (sRet (e1 allD (eLc (iZipB (aCons (eVar 2) (aCons (eVar 1) aNil))) (.many [3, 4]) tYesS (eCallN 1 m_goes_up (aCons (e2 ixD (e2 ixD (eVar 3) (eC (.int 1))) (eVar 4)) aNil))))))
def m_green_path : MF := mkF 5 q_green_path
set_option maxHeartbeats 0 in
theorem c_green_path (Z : Fa K mg T P base) : Cal P w K mg base T "green_path" 3 2 .sh m_green_path := by
  obtain ⟨f, fd, F, b, g⟩ := Z.f_green_path
  refine ⟨f, fd, ["web", "row"], fn_mk F sc_green_path rfl (by decide) (Γ' := []) (fun cdv A outer s H E hr hp => ?_), g, F.kp, b⟩
  have nd := sc_green_path.nd
  exact (jss_cons (js_set 2 nd (je_call (c_walked_shades Z) hr (by omega) rfl (ja_cons (je_var 0) (ja_cons (je_call (c_first_in Z) hr (by omega) rfl (ja_cons (je_bi bi_len rfl Z.n_len (je_b (je_var 0))) ja_nil)) (ja_cons (je_var 1) ja_nil)))))
    (jss_one (js_ret (je_bi (bi_all rfl) rfl Z.n_all (je_fb (je_lc [("stand", 3), ("place", 4)] rfl nd (ji_zipB rfl Z.n_zip (ja_cons (je_var 2) (ja_cons (je_var 1) ja_nil))) (blk_of rfl) (fun _ _ _ _ _ => (jg_many rfl (jgs_cons 3 nd (jgs_cons 4 nd jgs_nil)))) (fun _ _ _ _ _ => jts_nil) (fun _ _ _ _ _ => (je_call (c_goes_up Z) hr (by omega) rfl (ja_cons (je_ix (je_b (je_ix (je_b (je_var 3)) (je_b je_int))) (je_b (je_var 4))) ja_nil)))))))))
def N_is_full_row : List Str := ["web", "thing", "own", "place", "last"]
theorem sc_is_full_row : FnScope N_is_full_row ["web", "thing"] (defScope s_is_full_row) := ⟨rfl, rfl, rfl, by decide +kernel, rfl, by decide +kernel, by decide +kernel⟩
def q_is_full_row : S → RS :=
  (sSeq (sAsg (.one 2) (eCallN 1 (trimF m_sure_web) (aCons (eVar 0) aNil)))
    (sSeq (sIf (tOrS (tNotS (tTru (e1 (isiD .tuple) (eVar 1)))) (tNotS (tTru (e1 allD (eLc (i1 seqI (eVar 1)) (.one 3) tYesS (eAndB (eCallN 1 m_is_number (aCons (eVar 3) aNil)) (eChain (iCmp fun i j => !ltB j i) (iCmp ltB) (eC (.int 0)) (eVar 3) (e1 lenD (eVar 2)))))))))
    (sRet (eC (.bl false)))
    sNil)
    (sSeq (sAsg (.one 4) (e2 ixD (e2 ixD (eCallN 3 m_walked_shades (aCons (eVar 2) (aCons (eCallN 1 m_first_in (aCons (e1 lenD (eVar 2)) aNil)) (aCons (eVar 1) aNil)))) (e1 negD (eC (.int 1)))) (eC (.int 1))))
    (sRet (eAndB (eCallN 2 m_green_path (aCons (eVar 2) (aCons (eVar 1) aNil))) (e2 (cmpD eqD) (eCallN 1 m_green_in (aCons (eVar 4) aNil)) (eTup aNil)))))))
def m_is_full_row : MF := mkF 5 q_is_full_row
set_option maxHeartbeats 0 in
theorem c_is_full_row (Z : Fa K mg T P base) : Cal P w K mg base T "is_full_row" 9 2 .sh m_is_full_row := by
  obtain ⟨f, fd, F, b, g⟩ := Z.f_is_full_row
  refine ⟨f, fd, ["web", "thing"], fn_mk F sc_is_full_row rfl (by decide) (Γ' := []) (fun cdv A outer s H E hr hp => ?_), g, F.kp, b⟩
  have nd := sc_is_full_row.nd
  exact (jss_cons (js_set 2 nd (je_call (Cal.trim (c_sure_web Z)) hr (by omega) rfl (ja_cons (je_var 0) ja_nil)))
    (jss_cons (js_if (jw_pt (jw_or (jt_not (jt_tru (je_b (je_isi .tuple rfl Z.n_isinstance rfl Z.n_tuple (je_b (je_var 1)))))) (jw_or1 (jt_not (jt_tru (je_b (je_bi (bi_all rfl) rfl Z.n_all (je_fb (je_lc [("place", 3)] rfl nd (ji_seq (je_var 1)) (blk_of rfl) (fun _ _ _ _ _ => (jg_one 3 nd)) (fun _ _ _ _ _ => jts_nil) (fun _ _ _ _ _ => (je_and (je_b (je_call (c_is_number Z) hr (by omega) rfl (ja_cons (je_var 3) ja_nil))) (je_one (je_chain cmp_le cmp_lt (je_b je_int) (je_b (je_var 3)) (je_b (je_bi bi_len rfl Z.n_len (je_b (je_var 2)))))))))))))))))
    (jss_one (js_ret je_bl))
    jss_nil)
    (jss_cons (js_set 4 nd (je_ix (je_b (je_ix (je_b (je_call (c_walked_shades Z) hr (by omega) rfl (ja_cons (je_var 2) (ja_cons (je_call (c_first_in Z) hr (by omega) rfl (ja_cons (je_bi bi_len rfl Z.n_len (je_b (je_var 2))) ja_nil)) (ja_cons (je_var 1) ja_nil))))) (je_b (je_un uni_neg (je_b je_int))))) (je_b je_int)))
    (jss_one (js_ret (je_and (je_b (je_call (c_green_path Z) hr (by omega) rfl (ja_cons (je_var 2) (ja_cons (je_var 1) ja_nil)))) (je_one (je_cmp (cmp_eq (hu64 hr)) (je_b (je_call (c_green_in Z) hr (by omega) rfl (ja_cons (je_var 4) ja_nil))) (je_b (je_tup ja_nil))))))))))
def N_sure_row : List Str := ["row", "own", "place"]
theorem sc_sure_row : FnScope N_sure_row ["row"] (defScope s_sure_row) := ⟨rfl, rfl, rfl, by decide +kernel, rfl, by decide +kernel, by decide +kernel⟩
def q_sure_row : S → RS :=
  (sSeq (sAsg (.one 1) (eCallN 1 (m_tupled 6) (aCons (eVar 0) aNil)))
    (sSeq (sIf (tOrS (tNotS (tTru (e1 (isiD .tuple) (eVar 1)))) (tNotS (tTru (e1 allD (eLc (i1 seqI (eVar 1)) (.one 2) tYesS (eCallN 1 m_is_number (aCons (eVar 2) aNil)))))))
    (sRaise 0)
    sNil)
    (sRet (eVar 1))))
def m_sure_row : MF := mkF 3 q_sure_row
set_option maxHeartbeats 0 in
theorem c_sure_row (Z : Fa K mg T P base) : Cal P w K mg base T "sure_row" 8 1 .sh m_sure_row := by
  obtain ⟨f, fd, F, b, g⟩ := Z.f_sure_row
  refine ⟨f, fd, ["row"], fn_mk F sc_sure_row rfl (by decide) (Γ' := []) (fun cdv A outer s H E hr hp => ?_), g, F.kp, b⟩
  have nd := sc_sure_row.nd
  exact (jss_cons (js_set 1 nd (je_call (c_tupled Z 6) hr (by omega) rfl (ja_cons (je_var 0) ja_nil)))
    (jss_cons (js_if (jw_pt (jw_or (jt_not (jt_tru (je_b (je_isi .tuple rfl Z.n_isinstance rfl Z.n_tuple (je_b (je_var 1)))))) (jw_or1 (jt_not (jt_tru (je_b (je_bi (bi_all rfl) rfl Z.n_all (je_fb (je_lc [("place", 2)] rfl nd (ji_seq (je_var 1)) (blk_of rfl) (fun _ _ _ _ _ => (jg_one 2 nd)) (fun _ _ _ _ _ => jts_nil) (fun _ _ _ _ _ => (je_call (c_is_number Z) hr (by omega) rfl (ja_cons (je_var 2) ja_nil))))))))))))
    (jss_one (js_raise 0 rfl Z.x_Unfit rfl))
    jss_nil)
    (jss_one (js_ret (je_var 1)))))
def N_is_from : List Str := ["thing", "least"]
theorem sc_is_from : FnScope N_is_from ["thing", "least"] (defScope s_is_from) := ⟨rfl, rfl, rfl, by decide +kernel, rfl, by decide +kernel, by decide +kernel⟩
def q_is_from : S → RS :=
  (sRet (eAndB (eCallN 1 m_is_number (aCons (eVar 0) aNil)) (e2 (cmpD (iCmp fun i j => !ltB i j)) (eVar 0) (eVar 1))))
def m_is_from : MF := mkF 2 q_is_from
set_option maxHeartbeats 0 in
theorem c_is_from (Z : Fa K mg T P base) : Cal P w K mg base T "is_from" 2 2 .sh m_is_from := by
  obtain ⟨f, fd, F, b, g⟩ := Z.f_is_from
  refine ⟨f, fd, ["thing", "least"], fn_mk F sc_is_from rfl (by decide) (Γ' := []) (fun cdv A outer s H E hr hp => ?_), g, F.kp, b⟩
  have nd := sc_is_from.nd
  exact (jss_one (js_ret (je_and (je_b (je_call (c_is_number Z) hr (by omega) rfl (ja_cons (je_var 0) ja_nil))) (je_one (je_cmp cmp_ge (je_b (je_var 0)) (je_b (je_var 1)))))))
def N_is_below : List Str := ["thing", "many"]
theorem sc_is_below : FnScope N_is_below ["thing", "many"] (defScope s_is_below) := ⟨rfl, rfl, rfl, by decide +kernel, rfl, by decide +kernel, by decide +kernel⟩
def q_is_below : S → RS :=
  (sRet (eAndB (eCallN 2 m_is_from (aCons (eVar 0) (aCons (eC (.int 0)) aNil))) (e2 (cmpD (iCmp ltB)) (eVar 0) (eVar 1))))
def m_is_below : MF := mkF 2 q_is_below
set_option maxHeartbeats 0 in
theorem c_is_below (Z : Fa K mg T P base) : Cal P w K mg base T "is_below" 3 2 .sh m_is_below := by
  obtain ⟨f, fd, F, b, g⟩ := Z.f_is_below
  refine ⟨f, fd, ["thing", "many"], fn_mk F sc_is_below rfl (by decide) (Γ' := []) (fun cdv A outer s H E hr hp => ?_), g, F.kp, b⟩
  have nd := sc_is_below.nd
  exact (jss_one (js_ret (je_and (je_b (je_call (c_is_from Z) hr (by omega) rfl (ja_cons (je_var 0) (ja_cons je_int ja_nil)))) (je_one (je_cmp cmp_lt (je_b (je_var 0)) (je_b (je_var 1)))))))
def N_known_place : List Str := ["web", "place"]
theorem sc_known_place : FnScope N_known_place ["web", "place"] (defScope s_known_place) := ⟨rfl, rfl, rfl, by decide +kernel, rfl, by decide +kernel, by decide +kernel⟩
def q_known_place : S → RS :=
  (sSeq (sIf (tNotS (tTru (eCallN 2 m_is_below (aCons (eVar 1) (aCons (e1 lenD (eVar 0)) aNil)))))
    (fun _ => .stuck)
    sNil)
    (sRet (eVar 1)))
def m_known_place : MF := mkF 2 q_known_place
set_option maxHeartbeats 0 in
theorem c_known_place (Z : Fa K mg T P base) : Cal P w K mg base T "known_place" 4 2 .sh m_known_place := by
  obtain ⟨f, fd, F, b, g⟩ := Z.f_known_place
  refine ⟨f, fd, ["web", "place"], fn_mk F sc_known_place rfl (by decide) (Γ' := []) (fun cdv A outer s H E hr hp => ?_), g, F.kp, b⟩
  have nd := sc_known_place.nd
  exact (jss_cons (js_if (jt_not (jt_tru (je_b (je_call (c_is_below Z) hr (by omega) rfl (ja_cons (je_var 1) (ja_cons (je_bi bi_len rfl Z.n_len (je_b (je_var 0))) ja_nil))))))
    (jss_one js_never)
    jss_nil)
    (jss_one (js_ret (je_var 1))))
def N_known_row : List Str := ["web", "row", "place"]
theorem sc_known_row : FnScope N_known_row ["web", "row"] (defScope s_known_row) := ⟨rfl, rfl, rfl, by decide +kernel, rfl, by decide +kernel, by decide +kernel⟩
def q_known_row_b1 : S → RS :=
  (sDrop (eCallN 2 m_known_place (aCons (eVar 0) (aCons (eVar 2) aNil))))
def q_known_row_r1 : S → RS :=
  (sRet (eVar 1))
def q_known_row : S → RS :=
  (sSeq (sFor (i1 seqI (eVar 1)) (.one 2)
    q_known_row_b1)
    q_known_row_r1)
def m_known_row : MF := mkF 3 q_known_row
set_option maxHeartbeats 0 in
theorem c_known_row (Z : Fa K mg T P base) : Cal P w K mg base T "known_row" 5 2 .sh m_known_row := by
  obtain ⟨f, fd, F, b, g⟩ := Z.f_known_row
  refine ⟨f, fd, ["web", "row"], fn_mk F sc_known_row rfl (by decide) (Γ' := []) (fun cdv A outer s H E hr hp => ?_), g, F.kp, b⟩
  have nd := sc_known_row.nd
  exact (jss_cons (js_for hp rfl (ji_seq (je_var 1)) (jg_one 2 nd)
    (jss_one (js_expr (je_call (c_known_place Z) hr (by omega) rfl (ja_cons (je_var 0) (ja_cons (je_var 2) ja_nil))))))
    (jss_one (js_ret (je_var 1))))
def N_is_green_row : List Str := ["web", "row", "own", "places"]
theorem sc_is_green_row : FnScope N_is_green_row ["web", "row"] (defScope s_is_green_row) := ⟨rfl, rfl, rfl, by decide +kernel, rfl, by decide +kernel, by decide +kernel⟩
def q_is_green_row : S → RS :=
  (sSeq (sPar 2 3 (eCallN 1 (trimF m_sure_web) (aCons (eVar 0) aNil)) (eCallN 1 m_sure_row (aCons (eVar 1) aNil)))
    (sRet (eCallN 2 m_green_path (aCons (eVar 2) (aCons (eCallN 2 m_known_row (aCons (eVar 2) (aCons (eVar 3) aNil))) aNil)))))
def m_is_green_row : MF := mkF 4 q_is_green_row
set_option maxHeartbeats 0 in
theorem c_is_green_row (Z : Fa K mg T P base) : Cal P w K mg base T "is_green_row" 9 2 .sh m_is_green_row := by
  obtain ⟨f, fd, F, b, g⟩ := Z.f_is_green_row
  refine ⟨f, fd, ["web", "row"], fn_mk F sc_is_green_row rfl (by decide) (Γ' := []) (fun cdv A outer s H E hr hp => ?_), g, F.kp, b⟩
  have nd := sc_is_green_row.nd
  exact (jss_cons (js_par 2 3 rfl nd (je_call (Cal.trim (c_sure_web Z)) hr (by omega) rfl (ja_cons (je_var 0) ja_nil)) (je_call (c_sure_row Z) hr (by omega) rfl (ja_cons (je_var 1) ja_nil)))
    (jss_one (js_ret (je_call (c_green_path Z) hr (by omega) rfl (ja_cons (je_var 2) (ja_cons (je_call (c_known_row Z) hr (by omega) rfl (ja_cons (je_var 2) (ja_cons (je_var 3) ja_nil))) ja_nil))))))
def N__law_same : List Str := ["got", "due", "mine", "its"]
theorem sc__law_same : FnScope N__law_same ["got", "due"] (defScope s__law_same) := ⟨rfl, rfl, rfl, by decide +kernel, rfl, by decide +kernel, by decide +kernel⟩
def q__law_same (self : MF) : S → RS :=
  (sSeq (sIf (tTru (e1 (isi2D .list .tuple) (eVar 1)))
    (sSeq (sIf (tOrS (t2 (cmpB neD) (e1 (isiD .list) (eVar 0)) (e1 (isiD .list) (eVar 1))) (t2 (cmpB neD) (e1 (isiD .tuple) (eVar 0)) (e1 (isiD .tuple) (eVar 1))))
    (sRet (eC (.bl false)))
    sNil)
    (sRet (eAndB (e2 (cmpD eqD) (e1 lenD (eVar 0)) (e1 lenD (eVar 1))) (e1 allD (eLc (iZipB (aCons (eVar 0) (aCons (eVar 1) aNil))) (.many [2, 3]) tYesS (eCallN 2 self (aCons (eVar 2) (aCons (eVar 3) aNil))))))))
    sNil)
    (sSeq (sIf (t2 (cmpB isND) (eVar 1) (eC .non))
    (sRet (e2 (cmpD isND) (eVar 0) (eC .non)))
    sNil)
    (sSeq (sIf (tTru (e1 (isi2D .bool .str) (eVar 1)))
    (sRet (eAndB (e2 (cmpD eqD) (e1 (isiD .bool) (eVar 0)) (e1 (isiD .bool) (eVar 1))) (eAndB (e2 (cmpD eqD) (e1 (isiD .str) (eVar 0)) (e1 (isiD .str) (eVar 1))) (e2 (cmpD eqD) (eVar 0) (eVar 1)))))
    sNil)
    (sRet (eAndB (e1 (isiD .int) (eVar 0)) (eAndB (eNotB (e1 (isiD .bool) (eVar 0))) (e2 (cmpD eqD) (eVar 0) (eVar 1))))))))
def m__law_same : Nat → MF
  | 0 => fun _ _ => .stuck
  | n + 1 => mkF 4 (q__law_same (m__law_same n))
set_option maxHeartbeats 0 in
theorem c__law_same (Z : Fa K mg T P base) : ∀ n, Cal P w K mg base T "_law_same" (n + 1) 2 .sh (m__law_same n)
  | 0 => let ⟨f, fd, F, b, g⟩ := Z.f__law_same; ⟨f, fd, ["got", "due"], fn_never, g, F.kp, b⟩
  | n + 1 => by
    have ih := c__law_same Z n
    obtain ⟨f, fd, F, b, g⟩ := Z.f__law_same
    refine ⟨f, fd, ["got", "due"], fn_mk F sc__law_same rfl (by decide) (Γ' := []) (fun cdv A outer s H E hr hp => ?_), g, F.kp, b⟩
    have nd := sc__law_same.nd
    exact (jss_cons (js_if (jt_tru (je_b (je_isi2 .list .tuple rfl Z.n_isinstance rfl Z.n_list rfl Z.n_tuple (je_b (je_var 1)))))
    (jss_cons (js_if (jw_pt (jw_or (jt_cmp (cmp_ne (hu64 hr)) (je_b (je_isi .list rfl Z.n_isinstance rfl Z.n_list (je_b (je_var 0)))) (je_b (je_isi .list rfl Z.n_isinstance rfl Z.n_list (je_b (je_var 1))))) (jw_or1 (jt_cmp (cmp_ne (hu64 hr)) (je_b (je_isi .tuple rfl Z.n_isinstance rfl Z.n_tuple (je_b (je_var 0)))) (je_b (je_isi .tuple rfl Z.n_isinstance rfl Z.n_tuple (je_b (je_var 1))))))))
    (jss_one (js_ret je_bl))
    jss_nil)
    (jss_one (js_ret (je_and (je_b (je_cmp (cmp_eq (hu64 hr)) (je_b (je_bi bi_len rfl Z.n_len (je_b (je_var 0)))) (je_b (je_bi bi_len rfl Z.n_len (je_b (je_var 1)))))) (je_one (je_bi (bi_all rfl) rfl Z.n_all (je_fb (je_lc [("mine", 2), ("its", 3)] rfl nd (ji_zipB rfl Z.n_zip (ja_cons (je_var 0) (ja_cons (je_var 1) ja_nil))) (blk_of rfl) (fun _ _ _ _ _ => (jg_many rfl (jgs_cons 2 nd (jgs_cons 3 nd jgs_nil)))) (fun _ _ _ _ _ => jts_nil) (fun _ _ _ _ _ => (je_call ih hr (by omega) rfl (ja_cons (je_var 2) (ja_cons (je_var 3) ja_nil))))))))))))
    jss_nil)
    (jss_cons (js_if (jt_cmp cmp_isN (je_b (je_var 1)) (je_b je_non))
    (jss_one (js_ret (je_cmp cmp_isN (je_b (je_var 0)) (je_b je_non))))
    jss_nil)
    (jss_cons (js_if (jt_tru (je_b (je_isi2 .bool .str rfl Z.n_isinstance rfl Z.n_bool rfl Z.n_str (je_b (je_var 1)))))
    (jss_one (js_ret (je_and (je_b (je_cmp (cmp_eq (hu64 hr)) (je_b (je_isi .bool rfl Z.n_isinstance rfl Z.n_bool (je_b (je_var 0)))) (je_b (je_isi .bool rfl Z.n_isinstance rfl Z.n_bool (je_b (je_var 1)))))) (je_and (je_b (je_cmp (cmp_eq (hu64 hr)) (je_b (je_isi .str rfl Z.n_isinstance rfl Z.n_str (je_b (je_var 0)))) (je_b (je_isi .str rfl Z.n_isinstance rfl Z.n_str (je_b (je_var 1)))))) (je_one (je_cmp (cmp_eq (hu64 hr)) (je_b (je_var 0)) (je_b (je_var 1))))))))
    jss_nil)
    (jss_one (js_ret (je_and (je_b (je_isi .int rfl Z.n_isinstance rfl Z.n_int (je_b (je_var 0)))) (je_and (je_b (je_not (je_b (je_isi .bool rfl Z.n_isinstance rfl Z.n_bool (je_b (je_var 0)))))) (je_one (je_cmp (cmp_eq (hu64 hr)) (je_b (je_var 0)) (je_b (je_var 1)))))))))))
def N__law_units : List Str := ["many_so", "k", "j"]
theorem sc__law_units : FnScope N__law_units ["many_so"] (defScope s__law_units) := ⟨rfl, rfl, rfl, by decide +kernel, rfl, by decide +kernel, by decide +kernel⟩
def q__law_units : S → RS :=
  (sRet (e1 tupleD (eLc (iN rng1I (aCons (eVar 0) aNil)) (.one 2) tYesS (e1 tupleD (eLc (iN rng1I (aCons (eVar 0) aNil)) (.one 1) tYesS (e1 intD (e2 (cmpD eqD) (eVar 1) (eVar 2))))))))
def m__law_units : MF := mkF 3 q__law_units
set_option maxHeartbeats 0 in
theorem c__law_units (Z : Fa K mg T P base) : Cal P w K mg base T "_law_units" 1 1 .sh m__law_units := by
  obtain ⟨f, fd, F, b, g⟩ := Z.f__law_units
  refine ⟨f, fd, ["many_so"], fn_mk F sc__law_units rfl (by decide) (Γ' := []) (fun cdv A outer s H E hr hp => ?_), g, F.kp, b⟩
  have nd := sc__law_units.nd
  exact (jss_one (js_ret (je_bty bi_tuple rfl Z.n_tuple (je_fb (je_lc [("j", 2)] rfl nd (ji_range1 rfl Z.n_range (ja_cons (je_var 0) ja_nil)) (blk_of rfl) (fun _ _ _ _ _ => (jg_one 2 nd)) (fun _ _ _ _ _ => jts_nil) (fun _ _ _ _ _ => (je_bty bi_tuple rfl Z.n_tuple (je_fb (je_lc [("k", 1)] rfl nd (ji_range1 rfl Z.n_range (ja_cons (je_var 0) ja_nil)) (blk_of rfl) (fun _ _ _ _ _ => (jg_one 1 nd)) (fun _ _ _ _ _ => jts_nil) (fun _ _ _ _ _ => (je_bty bi_int rfl Z.n_int (je_b (je_cmp (cmp_eq (hu64 hr)) (je_b (je_var 1)) (je_b (je_var 2)))))))))))))))
def N__law_greens : List Str := ["word", "many_so", "most_so", "special_so", "k"]
theorem sc__law_greens : FnScope N__law_greens ["word"] (defScope s__law_greens) := ⟨rfl, rfl, rfl, by decide +kernel, rfl, by decide +kernel, by decide +kernel⟩
def q__law_greens_b1 : S → RS :=
  (sAsg (.one 2) (e2 fdivD (e2 mulD (eVar 2) (e2 subD (e2 addD (e2 mulD (eC (.int 2)) (eVar 1)) (eC (.int 2))) (eVar 4))) (e2 addD (eVar 4) (eC (.int 1)))))
def q__law_greens_b2 : S → RS :=
  (sAsg (.one 2) (e2 fdivD (e2 mulD (eVar 2) (e2 subD (e2 mulD (eC (.int 2)) (eVar 1)) (eVar 4))) (e2 addD (eVar 4) (eC (.int 1)))))
def q__law_greens_b3 : S → RS :=
  (sAsg (.one 2) (e2 fdivD (e2 mulD (eVar 2) (e2 subD (e2 subD (e2 mulD (eC (.int 2)) (eVar 1)) (eC (.int 2))) (eVar 4))) (e2 addD (eVar 4) (eC (.int 1)))))
def q__law_greens : S → RS :=
  (sSeq (sPar 1 2 (e1 intSD (eSlS (eVar 0) (pSome (eC (.int 1))) pNone)) (eC (.int 1)))
    (sSeq (sAsg (.one 3) (eDic3 (eC (.str "e6")) (eLst (aCons (eC (.int 36)) (aCons (eC (.int 833)) aNil))) (eC (.str "f4")) (eLst (aCons (eC (.int 24)) (aCons (eC (.int 105)) aNil))) (eC (.str "g2")) (eLst (aCons (eC (.int 6)) (aCons (eC (.int 8)) aNil)))))
    (sSeq (sIf (toB (e2 (dinD false) (eVar 0) (eVar 3)))
    (sRet (e2 dixD (eVar 3) (eVar 0)))
    sNil)
    (sSeq (sIf (t2 (cmpB eqD) (e2 ixD (eVar 0) (eC (.int 0))) (eC (.str "a")))
    (sSeq (sFor (iN rng1I (aCons (e2 addD (eVar 1) (eC (.int 1))) aNil)) (.one 4)
    q__law_greens_b1)
    (sRet (eLst (aCons (e2 fdivD (e2 mulD (eVar 1) (e2 addD (eVar 1) (eC (.int 1)))) (eC (.int 2))) (aCons (e2 fdivD (eVar 2) (e2 addD (eVar 1) (eC (.int 2)))) aNil)))))
    sNil)
    (sSeq (sIf (t2 (cmpB inD) (e2 ixD (eVar 0) (eC (.int 0))) (eTup (aCons (eC (.str "b")) (aCons (eC (.str "c")) aNil))))
    (sSeq (sFor (iN rng1I (aCons (eVar 1) aNil)) (.one 4)
    q__law_greens_b2)
    (sRet (eLst (aCons (e2 mulD (eVar 1) (eVar 1)) (aCons (eVar 2) aNil)))))
    sNil)
    (sSeq (sFor (iN rng1I (aCons (e2 subD (eVar 1) (eC (.int 1))) aNil)) (.one 4)
    q__law_greens_b3)
    (sRet (eLst (aCons (e2 mulD (eVar 1) (e2 subD (eVar 1) (eC (.int 1)))) (aCons (e2 fdivD (e2 mulD (e2 subD (e2 mulD (eC (.int 3)) (eVar 1)) (eC (.int 2))) (eVar 2)) (eVar 1)) aNil))))))))))
def m__law_greens : MF := mkF 5 q__law_greens
set_option maxHeartbeats 0 in
theorem c__law_greens (Z : Fa K mg T P base) : Cal P w K mg base T "_law_greens" 1 1 .sh m__law_greens := by
  obtain ⟨f, fd, F, b, g⟩ := Z.f__law_greens
  refine ⟨f, fd, ["word"], fn_mk F sc__law_greens rfl (by decide) (Γ' := []) (fun cdv A outer s H E hr hp => ?_), g, F.kp, b⟩
  have nd := sc__law_greens.nd
  exact (jss_cons (js_par 1 2 rfl nd (je_bty bi_intS rfl Z.n_int (je_b (je_slS (je_b (je_var 0)) (jo_some (je_b je_int)) jo_none))) je_int)
    (jss_cons (js_set 3 nd (je_dic3 je_str (je_f (je_lst (ja_cons je_int (ja_cons je_int ja_nil)))) je_str (je_f (je_lst (ja_cons je_int (ja_cons je_int ja_nil)))) je_str (je_f (je_lst (ja_cons je_int (ja_cons je_int ja_nil))))))
    (jss_cons (js_if (jt_din (hu64 hr) (je_b (je_var 0)) (je_b (je_var 3)))
    (jss_one (js_ret (je_dix (hu64 hr) (je_b (je_var 3)) (je_b (je_var 0)))))
    jss_nil)
    (jss_cons (js_if (jt_cmp (cmp_eq (hu64 hr)) (je_b (je_ix (je_b (je_var 0)) (je_b je_int))) (je_b je_str))
    (jss_cons (js_for hp rfl (ji_range1 rfl Z.n_range (ja_cons (je_f (je_op bin_add (je_b (je_var 1)) (je_b je_int))) ja_nil)) (jg_one 4 nd)
    (jss_one (js_set 2 nd (je_op bin_fdiv (je_fb (je_op bin_mul (je_b (je_var 2)) (je_b (je_op bin_sub (je_fb (je_op bin_add (je_fb (je_op bin_mul (je_b je_int) (je_b (je_var 1)))) (je_b je_int))) (je_b (je_var 4)))))) (je_fb (je_op bin_add (je_b (je_var 4)) (je_b je_int)))))))
    (jss_one (js_ret (je_f (je_lst (ja_cons (je_op bin_fdiv (je_fb (je_op bin_mul (je_b (je_var 1)) (je_fb (je_op bin_add (je_b (je_var 1)) (je_b je_int))))) (je_b je_int)) (ja_cons (je_op bin_fdiv (je_b (je_var 2)) (je_fb (je_op bin_add (je_b (je_var 1)) (je_b je_int)))) ja_nil)))))))
    jss_nil)
    (jss_cons (js_if (jt_cmp (cmp_in (hu65 hr)) (je_b (je_ix (je_b (je_var 0)) (je_b je_int))) (je_b (je_tup (ja_cons je_str (ja_cons je_str ja_nil)))))
    (jss_cons (js_for hp rfl (ji_range1 rfl Z.n_range (ja_cons (je_var 1) ja_nil)) (jg_one 4 nd)
    (jss_one (js_set 2 nd (je_op bin_fdiv (je_fb (je_op bin_mul (je_b (je_var 2)) (je_b (je_op bin_sub (je_fb (je_op bin_mul (je_b je_int) (je_b (je_var 1)))) (je_b (je_var 4)))))) (je_fb (je_op bin_add (je_b (je_var 4)) (je_b je_int)))))))
    (jss_one (js_ret (je_f (je_lst (ja_cons (je_f (je_op bin_mul (je_b (je_var 1)) (je_b (je_var 1)))) (ja_cons (je_var 2) ja_nil)))))))
    jss_nil)
    (jss_cons (js_for hp rfl (ji_range1 rfl Z.n_range (ja_cons (je_op bin_sub (je_b (je_var 1)) (je_b je_int)) ja_nil)) (jg_one 4 nd)
    (jss_one (js_set 2 nd (je_op bin_fdiv (je_fb (je_op bin_mul (je_b (je_var 2)) (je_b (je_op bin_sub (je_b (je_op bin_sub (je_fb (je_op bin_mul (je_b je_int) (je_b (je_var 1)))) (je_b je_int))) (je_b (je_var 4)))))) (je_fb (je_op bin_add (je_b (je_var 4)) (je_b je_int)))))))
    (jss_one (js_ret (je_f (je_lst (ja_cons (je_f (je_op bin_mul (je_b (je_var 1)) (je_b (je_op bin_sub (je_b (je_var 1)) (je_b je_int))))) (ja_cons (je_op bin_fdiv (je_fb (je_op bin_mul (je_b (je_op bin_sub (je_fb (je_op bin_mul (je_b je_int) (je_b (je_var 1)))) (je_b je_int))) (je_b (je_var 2)))) (je_b (je_var 1))) ja_nil))))))))))))
def N__law_hinge : List Str := ["web_so", "place", "rows_so", "row_so", "near", "far", "into", "out"]
theorem sc__law_hinge : FnScope N__law_hinge ["web_so", "place"] (defScope s__law_hinge) := ⟨rfl, rfl, rfl, by decide +kernel, rfl, by decide +kernel, by decide +kernel⟩
def q__law_hinge_b1 : S → RS :=
  (sSeq (sPar 6 7 (e2 ixD (e2 ixD (eVar 0) (eVar 4)) (eVar 1)) (e2 ixD (e2 ixD (eVar 0) (eVar 1)) (eVar 5)))
    (sIf (t2 (cmpB inD) (eVar 1) (eTup (aCons (eVar 4) (aCons (eVar 5) aNil))))
    (sSetR (e2 ixD (eVar 2) (eVar 4)) (eVar 5) (e2 subD (eC (.int 0)) (e2 ixD (e2 ixD (eVar 0) (eVar 4)) (eVar 5))))
    (sIf (tAndS (t2 (cmpB (iCmp fun i j => ltB j i)) (eVar 6) (eC (.int 0))) (t2 (cmpB (iCmp fun i j => ltB j i)) (eVar 7) (eC (.int 0))))
    (sSetR (e2 ixD (eVar 2) (eVar 4)) (eVar 5) (e2 addD (e2 ixD (e2 ixD (eVar 2) (eVar 4)) (eVar 5)) (e2 mulD (eVar 6) (eVar 7))))
    (sIf (tAndS (t2 (cmpB (iCmp ltB)) (eVar 6) (eC (.int 0))) (t2 (cmpB (iCmp ltB)) (eVar 7) (eC (.int 0))))
    (sSetR (e2 ixD (eVar 2) (eVar 4)) (eVar 5) (e2 subD (e2 ixD (e2 ixD (eVar 2) (eVar 4)) (eVar 5)) (e2 mulD (eVar 6) (eVar 7))))
    sNil))))
def q__law_hinge_b2 : S → RS :=
  (sFor (iN rng1I (aCons (e1 lenC (eVar 0)) aNil)) (.one 5)
    q__law_hinge_b1)
def q__law_hinge : S → RS :=
  (sSeq (sAsgF 2 (eLc (i1 seqI (eVar 0)) (.one 3) tYesS (eCell (e1 listC (eVar 3)))))
    (sSeq (sFor (iN rng1I (aCons (e1 lenC (eVar 0)) aNil)) (.one 4)
    q__law_hinge_b2)
    (sRet (e1 tupleC (eLc (i1 seqI (eVar 2)) (.one 3) tYesS (e1 tupleC (eVar 3)))))))
def m__law_hinge : MF := mkF 8 q__law_hinge
set_option maxHeartbeats 0 in
theorem c__law_hinge (Z : Fa K mg T P base) : Cal P w K mg base T "_law_hinge" 1 2 .sh m__law_hinge := by
  obtain ⟨f, fd, F, b, g⟩ := Z.f__law_hinge
  refine ⟨f, fd, ["web_so", "place"], fn_mk F sc__law_hinge rfl (by decide) (Γ' := []) (fun cdv A outer s H E hr hp => ?_), g, F.kp, b⟩
  have nd := sc__law_hinge.nd
  exact (jss_cons (js_setLc (Γ' := [.sh, .sh, .o1]) 2 [("row_so", 3)] rfl nd (ji_seq (je_var 0)) (blk_of rfl) (fun _ _ _ _ _ => (jg_one 3 nd)) (fun _ _ _ _ _ => jts_nil) (fun _ _ _ _ _ => (je_cell (je_bty bi_listC rfl Z.n_list (je_b (je_var 3))))) (sw_true rfl rfl rfl (by rfl)) (flf_of 8 (by decide) (by decide) (by decide) (by decide)))
    (jss_cons (js_for hp rfl (ji_range1 rfl Z.n_range (ja_cons (je_bi bi_lenC rfl Z.n_len (je_b (je_var 0))) ja_nil)) (jg_one 4 nd)
    (jss_one (js_for hp rfl (ji_range1 rfl Z.n_range (ja_cons (je_bi bi_lenC rfl Z.n_len (je_b (je_var 0))) ja_nil)) (jg_one 5 nd)
    (jss_cons (js_par 6 7 rfl nd (je_ix (je_b (je_ix (je_b (je_var 0)) (je_b (je_var 4)))) (je_b (je_var 1))) (je_ix (je_b (je_ix (je_b (je_var 0)) (je_b (je_var 1)))) (je_b (je_var 5))))
    (jss_one (js_if (jt_cmp (cmp_in (hu65 hr)) (je_b (je_var 1)) (je_b (je_tup (ja_cons (je_var 4) (ja_cons (je_var 5) ja_nil)))))
    (jss_one (js_setR (je_op bin_sub (je_b je_int) (je_b (je_ix (je_b (je_ix (je_b (je_var 0)) (je_b (je_var 4)))) (je_b (je_var 5))))) (je_ix (je_varB 2) (je_b (je_var 4))) (je_b (je_var 5))))
    (jss_one (js_if (jw_pt (jw_and (jt_cmp cmp_gt (je_b (je_var 6)) (je_b je_int)) (jw_and1 (jt_cmp cmp_gt (je_b (je_var 7)) (je_b je_int)))))
    (jss_one (js_setR (je_f (je_op bin_add (je_b (je_ix (je_b (je_ix (je_varB 2) (je_b (je_var 4)))) (je_b (je_var 5)))) (je_fb (je_op bin_mul (je_b (je_var 6)) (je_b (je_var 7)))))) (je_ix (je_varB 2) (je_b (je_var 4))) (je_b (je_var 5))))
    (jss_one (js_if (jw_pt (jw_and (jt_cmp cmp_lt (je_b (je_var 6)) (je_b je_int)) (jw_and1 (jt_cmp cmp_lt (je_b (je_var 7)) (je_b je_int)))))
    (jss_one (js_setR (je_op bin_sub (je_b (je_ix (je_b (je_ix (je_varB 2) (je_b (je_var 4)))) (je_b (je_var 5)))) (je_fb (je_op bin_mul (je_b (je_var 6)) (je_b (je_var 7))))) (je_ix (je_varB 2) (je_b (je_var 4))) (je_b (je_var 5))))
    jss_nil))))))))))
    (jss_one (js_ret (je_bty bi_tupleC rfl Z.n_tuple (je_fb (je_lcQ [("row_so", 3)] rfl nd (ji_own 2) (blk_of rfl) (fun _ _ _ _ _ => (jg_one 3 nd)) (fun _ _ _ _ _ => jts_nil) (fun _ _ _ _ _ => (je_bty bi_tupleC rfl Z.n_tuple (je_b (je_var 3)))))))))))
def N__law_shade : List Str := ["web_so", "shades_so", "place", "found", "far", "shade_so", "many_so", "own", "k", "into"]
theorem sc__law_shade : FnScope N__law_shade ["web_so", "shades_so", "place"] (defScope s__law_shade) := ⟨rfl, rfl, rfl, by decide +kernel, rfl, by decide +kernel, by decide +kernel⟩
def q__law_shade_b1 : S → RS :=
  (sIf (t2 (cmpB eqD) (eVar 4) (eVar 2))
    (sSetI 7 (eVar 8) (e2 subD (eC (.int 0)) (e2 ixD (eVar 7) (eVar 8))))
    (sIf (tAndS (t2 (cmpB (iCmp fun i j => ltB j i)) (eVar 9) (eC (.int 0))) (t2 (cmpB (iCmp fun i j => ltB j i)) (eVar 6) (eC (.int 0))))
    (sSetI 7 (eVar 8) (e2 addD (e2 ixD (eVar 7) (eVar 8)) (e2 mulD (eVar 9) (eVar 6))))
    (sIf (tAndS (t2 (cmpB (iCmp ltB)) (eVar 9) (eC (.int 0))) (t2 (cmpB (iCmp ltB)) (eVar 6) (eC (.int 0))))
    (sSetI 7 (eVar 8) (e2 subD (e2 ixD (eVar 7) (eVar 8)) (e2 mulD (eVar 9) (eVar 6))))
    sNil)))
def q__law_shade_b2 : S → RS :=
  (sSeq (sParM .sh .f1 6 7 (e2 ixD (e2 ixD (eVar 0) (eVar 2)) (eVar 4)) (e1 listC (eVar 5)))
    (sSeq (sFor (iEnumB (aCons (e2 ixD (eVar 1) (eVar 2)) aNil)) (.many [8, 9])
    q__law_shade_b1)
    (sSeq (sApp 3 (e1 tupleC (eVar 7)))
    sNil)))
def q__law_shade : S → RS :=
  (sSeq (sAsgF 3 (eLst aNil))
    (sSeq (sFor (iEnumB (aCons (eVar 1) aNil)) (.many [4, 5])
    q__law_shade_b2)
    (sRet (e1 tupleC (eVar 3)))))
def m__law_shade : MF := mkF 10 q__law_shade
set_option maxHeartbeats 0 in
theorem c__law_shade (Z : Fa K mg T P base) : Cal P w K mg base T "_law_shade" 1 3 .sh m__law_shade := by
  obtain ⟨f, fd, F, b, g⟩ := Z.f__law_shade
  refine ⟨f, fd, ["web_so", "shades_so", "place"], fn_mk F sc__law_shade rfl (by decide) (Γ' := []) (fun cdv A outer s H E hr hp => ?_), g, F.kp, b⟩
  have nd := sc__law_shade.nd
  exact (jss_cons (js_setF (Γ' := [.sh, .sh, .sh, .o1]) 3 nd (je_lst ja_nil) (hΓ := flf_of 10 (by decide) (by decide) (by decide) (by decide)))
    (jss_cons (js_for hp rfl (ji_enumB rfl Z.n_enumerate (ja_cons (je_var 1) ja_nil)) (jg_many rfl (jgs_cons 4 nd (jgs_cons 5 nd jgs_nil)))
    (jss_cons (js_parM (Γ2 := [.sh, .sh, .sh, .o1, .sh, .sh, .sh, .o1]) (Γ' := [.sh, .sh, .sh, .o1, .sh, .sh, .sh, .o1]) 6 7 rfl nd (je_ix (je_b (je_ix (je_b (je_var 0)) (je_b (je_var 2)))) (je_b (je_var 4))) (je_bty bi_listC rfl Z.n_list (je_b (je_var 5))) (.inl rfl) (.inr rfl) (flf_of 10 (by decide) (by decide) (by decide) (by decide)) (flf_of 10 (by decide) (by decide) (by decide) (by decide)))
    (jss_cons (js_for hp rfl (ji_enumB rfl Z.n_enumerate (ja_cons (je_ix (je_b (je_var 1)) (je_b (je_var 2))) ja_nil)) (jg_many rfl (jgs_cons 8 nd (jgs_cons 9 nd jgs_nil)))
    (jss_one (js_if (jt_cmp (cmp_eq (hu64 hr)) (je_b (je_var 4)) (je_b (je_var 2)))
    (jss_one (js_setI 7 (je_op bin_sub (je_b je_int) (je_b (je_ix (je_varB 7) (je_b (je_var 8))))) (je_b (je_var 8))))
    (jss_one (js_if (jw_pt (jw_and (jt_cmp cmp_gt (je_b (je_var 9)) (je_b je_int)) (jw_and1 (jt_cmp cmp_gt (je_b (je_var 6)) (je_b je_int)))))
    (jss_one (js_setI 7 (je_f (je_op bin_add (je_b (je_ix (je_varB 7) (je_b (je_var 8)))) (je_fb (je_op bin_mul (je_b (je_var 9)) (je_b (je_var 6)))))) (je_b (je_var 8))))
    (jss_one (js_if (jw_pt (jw_and (jt_cmp cmp_lt (je_b (je_var 9)) (je_b je_int)) (jw_and1 (jt_cmp cmp_lt (je_b (je_var 6)) (je_b je_int)))))
    (jss_one (js_setI 7 (je_op bin_sub (je_b (je_ix (je_varB 7) (je_b (je_var 8)))) (je_fb (je_op bin_mul (je_b (je_var 9)) (je_b (je_var 6))))) (je_b (je_var 8))))
    jss_nil)))))))
    (jss_cons (js_app 3 (je_bty bi_tupleC rfl Z.n_tuple (je_varB 7)))
    (jss_frz (Γ' := [.sh, .sh, .sh, .o1]) (fun i => i == 7) (flz_of 10 (by decide) (by decide) (by decide)) jss_nil)))))
    (jss_one (js_ret (je_bty bi_tupleC rfl Z.n_tuple (je_varB 3))))))
def fuel_law : S → Nat := fun _ => 4000
def N_law : List Str := ["script", "tin", "lap", "word", "web_so", "rows_so", "found", "row_so", "now", "told_so", "ups_so", "k", "own", "longs_so", "got"]
theorem sc_law : FnScope N_law ["script"] (defScope s_law) := ⟨rfl, rfl, rfl, by decide +kernel, rfl, by decide +kernel, by decide +kernel⟩
def q_law_b1 : S → RS :=
  (sSeq (sPop 5 (.many [7, 8, 9]))
    (sSeq (sAsgF 10 (eLc (iEnumB (aCons (eVar 9) aNil)) (.many [11, 12]) (t2 (cmpB (iCmp fun i j => !ltB i j)) (e1 min1D (eVar 12)) (eC (.int 0))) (eVar 11)))
    (sSeq (sIf (t2 (cmpB eqD) (eVar 10) (eLst aNil))
    (sApp 6 (eVar 7))
    sNil)
    (sSeq (sExt 5 (eLc (i1 seqI (eVar 10)) (.one 11) tYesS (eTup (aCons (e2 addD (eVar 7) (eTup (aCons (eVar 11) aNil))) (aCons (eCallN 2 (trimF m__law_hinge) (aCons (eVar 8) (aCons (eVar 11) aNil))) (aCons (eCallN 3 m__law_shade (aCons (eVar 8) (aCons (eVar 9) (aCons (eVar 11) aNil)))) aNil))))))
    sNil))))
def q_law_b2 : S → RS :=
  (sSeq (sAsg (.one 11) (eCallN 2 m__law_take (aCons (eVar 1) (aCons (e2 addD (e1 lenC (eVar 12)) (eC (.int 1))) aNil))))
    (sSeq (sAsg (.one 14) (eLst (aCons (eCallN 2 m_is_full_row (aCons (eVar 4) (aCons (eVar 12) aNil))) (aCons (eCallN 2 m_is_green_row (aCons (eVar 4) (aCons (eVar 12) aNil))) (aCons (eCallN 2 m_is_green_row (aCons (eVar 4) (aCons (eSl (eVar 12) pNone (pSome (eVar 11))) aNil))) (aCons (eCallN 2 m_is_full_row (aCons (eVar 4) (aCons (eSl (eVar 12) pNone (pSome (eVar 11))) aNil))) aNil))))))
    (sIf (tNotS (tTru (eCallN 2 (m__law_same 8) (aCons (eVar 14) (aCons (eLst (aCons (eC (.bl true)) (aCons (eC (.bl true)) (aCons (eC (.bl true)) (aCons (e2 (cmpD eqD) (eVar 11) (e1 lenC (eVar 12))) aNil))))) aNil)))))
    (sRet (eC (.bl false)))
    sNil)))
def q_law_r1 : S → RS :=
  (sSeq (sIf (t2 (cmpB notinD) (eCallN 1 (trimF m_full_row) (aCons (eVar 4) aNil)) (eVar 6))
    (sRet (eC (.bl false)))
    sNil)
    sNil)
def q_law_r2 : S → RS :=
  (sSeq (sAsg (.one 13) (e1 sortSetI (eLc (i1 seqI (eVar 6)) (.one 12) tYesS (e1 lenC (eVar 12)))))
    (sSeq (sIf (tOrS (t2 (cmpB neD) (e2 ixD (eVar 13) (eC (.int 0))) (e1 lenC (eVar 4))) (tOrS (t2 (cmpB neD) (e2 ixD (eVar 13) (e1 negD (eC (.int 1)))) (e2 ixD (eCallN 1 (trimF m__law_greens) (aCons (eVar 3) aNil)) (eC (.int 0)))) (tAndS (t2 (cmpB eqD) (e1 lenC (eVar 4)) (eC (.int 2))) (t2 (cmpB neD) (e1 lenC (eVar 6)) (eC (.int 2))))))
    (sRet (eC (.bl false)))
    sNil)
    (sSeq (sFor (i1 seqI (eSl (eCallN 2 (trimF m__law_mixed) (aCons (eVar 1) (aCons (eVar 6) aNil))) pNone (pSome (eC (.int 8))))) (.one 12)
    q_law_b2)
    q_law_r1)))
def q_law_b3 : S → RS :=
  (sSeq (sAsg (.one 3) (eCallN 2 m__law_of (aCons (eVar 1) (aCons (eLst (aCons (eC (.str "a1")) (aCons (eC (.str "a2")) (aCons (eC (.str "b2")) (aCons (eC (.str "g2")) (aCons (eC (.str "a3")) (aCons (eC (.str "b3")) (aCons (eC (.str "c3")) aNil)))))))) aNil))))
    (sSeq (sAsg (.one 4) (eCallN 2 (trimF m__law_named) (aCons (eCallN 2 m__law_kind_web (aCons (eVar 1) (aCons (eVar 3) aNil))) (aCons (eCallN 2 m__law_names (aCons (eVar 1) (aCons (e1 intSD (eSlS (eVar 3) (pSome (eC (.int 1))) pNone)) aNil))) aNil))))
    (sSeq (sParM .f1 .f1 5 6 (eLst (aCons (eTup (aCons (eTup aNil) (aCons (eVar 4) (aCons (eCallN 1 m__law_units (aCons (e1 lenC (eVar 4)) aNil)) aNil)))) aNil)) (eLst aNil))
    (sSeq (sWhile fuel_law (t2 (cmpB neD) (eVar 5) (eLst aNil))
    q_law_b1)
    q_law_r2))))
def q_law_r3 : S → RS :=
  (sRet (eC (.bl true)))
def q_law : S → RS :=
  (sSeq (sAsgC 1 (eCallN 2 m__law_box (aCons (eCallN 2 m__law_cells (aCons (eVar 0) (aCons (eC (.int 1)) aNil))) (aCons (eC (.int 0)) aNil))))
    (sSeq (sFor (iN rng1I (aCons (eC (.int 3)) aNil)) (.one 2)
    q_law_b3)
    q_law_r3))
def m_law : MF := mkF 15 q_law
set_option maxHeartbeats 0 in
theorem ok_law (Z : Fa K mg T P base) {f : Addr} {fd : FuncData} (F : Fun K "law" "law" s_law f fd) : FnOk P w K mg base (L2.CX P w) 10 f fd ["script"] (spOf K T 1 .sh m_law) := by
  refine fn_mk F sc_law rfl (by decide) (Γ' := []) (fun cdv A outer s H E hr hp => ?_)
  have nd := sc_law.nd
  exact (jss_cons (js_setC 1 nd (je_call (c__law_box Z) hr (by omega) rfl (ja_cons (je_call (c__law_cells Z) hr (by omega) rfl (ja_cons (je_var 0) (ja_cons je_int ja_nil))) (ja_cons je_int ja_nil))))
    (jss_cons (js_for hp rfl (ji_range1 rfl Z.n_range (ja_cons je_int ja_nil)) (jg_one 2 nd)
    (jss_cons (js_set 3 nd (je_call (c__law_of Z) hr (by omega) rfl (ja_cons (je_var 1) (ja_cons (je_f (je_lst (ja_cons je_str (ja_cons je_str (ja_cons je_str (ja_cons je_str (ja_cons je_str (ja_cons je_str (ja_cons je_str ja_nil))))))))) ja_nil))))
    (jss_cons (js_set 4 nd (je_call (Cal.trim (c__law_named Z)) hr (by omega) rfl (ja_cons (je_call (c__law_kind_web Z) hr (by omega) rfl (ja_cons (je_var 1) (ja_cons (je_var 3) ja_nil))) (ja_cons (je_call (c__law_names Z) hr (by omega) rfl (ja_cons (je_var 1) (ja_cons (je_bty bi_intS rfl Z.n_int (je_b (je_slS (je_b (je_var 3)) (jo_some (je_b je_int)) jo_none))) ja_nil))) ja_nil))))
    (jss_cons (js_parM (Γ2 := [.sh, .sh, .sh, .sh, .sh, .sh, .o1]) (Γ' := [.sh, .sh, .sh, .sh, .sh, .o1, .o1]) 5 6 rfl nd (je_lst (ja_cons (je_tup (ja_cons (je_tup ja_nil) (ja_cons (je_var 4) (ja_cons (je_call (c__law_units Z) hr (by omega) rfl (ja_cons (je_bi bi_lenC rfl Z.n_len (je_b (je_var 4))) ja_nil)) ja_nil)))) ja_nil)) (je_lst ja_nil) (.inr rfl) (.inr rfl) (flf_of 15 (by decide) (by decide) (by decide) (by decide)) (flf_of 15 (by decide) (by decide) (by decide) (by decide)))
    (jss_cons (js_while fuel_law hp (jt_cmp (cmp_ne (hu64 hr)) (je_varB 5) (je_fb (je_lst ja_nil)))
    (jss_cons (js_popT 5 (jg_many rfl (jgs_cons 7 nd (jgs_cons 8 nd (jgs_cons 9 nd jgs_nil)))))
    (jss_cons (js_setLc (Γ' := [.sh, .sh, .sh, .sh, .sh, .o1, .o1, .sh, .sh, .sh, .o1]) 10 [("k", 11), ("own", 12)] rfl nd (ji_enumB rfl Z.n_enumerate (ja_cons (je_var 9) ja_nil)) (blk_of rfl) (fun _ _ _ _ _ => (jg_many rfl (jgs_cons 11 nd (jgs_cons 12 nd jgs_nil)))) (fun _ _ _ _ _ => (jts_one (jt_cmp cmp_ge (je_b (je_bi (bi_min1 (hu65 hr) rfl) rfl Z.n_min (je_b (je_var 12)))) (je_b je_int)))) (fun _ _ _ _ _ => (je_var 11)) (sw_true rfl rfl rfl (by rfl)) (flf_of 15 (by decide) (by decide) (by decide) (by decide)))
    (jss_cons (js_if (jt_cmp (cmp_eq (hu64 hr)) (je_varB 10) (je_fb (je_lst ja_nil)))
    (jss_one (js_app 6 (je_var 7)))
    jss_nil)
    (jss_cons (js_ext 5 (je_fb (je_lcQ [("k", 11)] rfl nd (ji_own 10) (blk_of rfl) (fun _ _ _ _ _ => (jg_one 11 nd)) (fun _ _ _ _ _ => jts_nil) (fun _ _ _ _ _ => (je_tup (ja_cons (je_f (je_op bin_add (je_b (je_var 7)) (je_b (je_tup (ja_cons (je_var 11) ja_nil))))) (ja_cons (je_call (Cal.trim (c__law_hinge Z)) hr (by omega) rfl (ja_cons (je_var 8) (ja_cons (je_var 11) ja_nil))) (ja_cons (je_call (c__law_shade Z) hr (by omega) rfl (ja_cons (je_var 8) (ja_cons (je_var 9) (ja_cons (je_var 11) ja_nil)))) ja_nil))))))))
    (jss_frz (Γ' := [.sh, .sh, .sh, .sh, .sh, .o1, .o1]) (fun i => i == 10) (flz_of 15 (by decide) (by decide) (by decide)) jss_nil))))))
    (jss_cons (js_set 13 nd (je_f (je_sortSetI rfl rfl Z.n_sorted rfl Z.n_set (je_fb (je_lcQ [("own", 12)] rfl nd (ji_own 6) (blk_of rfl) (fun _ _ _ _ _ => (jg_one 12 nd)) (fun _ _ _ _ _ => jts_nil) (fun _ _ _ _ _ => (je_bi bi_lenC rfl Z.n_len (je_b (je_var 12)))))))))
    (jss_cons (js_if (jw_pt (jw_or (jt_cmp (cmp_ne (hu64 hr)) (je_b (je_ix (je_b (je_var 13)) (je_b je_int))) (je_b (je_bi bi_lenC rfl Z.n_len (je_b (je_var 4))))) (jw_or (jt_cmp (cmp_ne (hu64 hr)) (je_b (je_ix (je_b (je_var 13)) (je_b (je_un uni_neg (je_b je_int))))) (je_b (je_ix (je_b (je_call (Cal.trim (c__law_greens Z)) hr (by omega) rfl (ja_cons (je_var 3) ja_nil))) (je_b je_int)))) (jw_or1 (jw_pt (jw_and (jt_cmp (cmp_eq (hu64 hr)) (je_b (je_bi bi_lenC rfl Z.n_len (je_b (je_var 4)))) (je_b je_int)) (jw_and1 (jt_cmp (cmp_ne (hu64 hr)) (je_b (je_bi bi_lenC rfl Z.n_len (je_varB 6))) (je_b je_int)))))))))
    (jss_one (js_ret je_bl))
    jss_nil)
    (jss_cons (js_frz (Γ' := [.sh, .sh, .sh, .sh, .sh, .o1]) (fun i => i == 6) (flz_of 15 (by decide) (by decide) (by decide)) (js_for hp rfl (ji_seq (je_f (je_sl (je_fb (je_call (Cal.trim (c__law_mixed Z)) hr (by omega) rfl (ja_cons (je_var 1) (ja_cons (je_var 6) ja_nil)))) jo_none (jo_some (je_b je_int))))) (jg_one 12 nd)
    (jss_cons (js_set 11 nd (je_call (c__law_take Z) hr (by omega) rfl (ja_cons (je_var 1) (ja_cons (je_f (je_op bin_add (je_b (je_bi bi_lenC rfl Z.n_len (je_b (je_var 12)))) (je_b je_int))) ja_nil))))
    (jss_cons (js_set 14 nd (je_f (je_lst (ja_cons (je_call (c_is_full_row Z) hr (by omega) rfl (ja_cons (je_var 4) (ja_cons (je_var 12) ja_nil))) (ja_cons (je_call (c_is_green_row Z) hr (by omega) rfl (ja_cons (je_var 4) (ja_cons (je_var 12) ja_nil))) (ja_cons (je_call (c_is_green_row Z) hr (by omega) rfl (ja_cons (je_var 4) (ja_cons (je_f (je_sl (je_b (je_var 12)) jo_none (jo_some (je_b (je_var 11))))) ja_nil))) (ja_cons (je_call (c_is_full_row Z) hr (by omega) rfl (ja_cons (je_var 4) (ja_cons (je_f (je_sl (je_b (je_var 12)) jo_none (jo_some (je_b (je_var 11))))) ja_nil))) ja_nil)))))))
    (jss_one (js_if (jt_not (jt_tru (je_b (je_call (c__law_same Z 8) hr (by omega) rfl (ja_cons (je_var 14) (ja_cons (je_f (je_lst (ja_cons je_bl (ja_cons je_bl (ja_cons je_bl (ja_cons (je_cmp (cmp_eq (hu64 hr)) (je_b (je_var 11)) (je_b (je_bi bi_lenC rfl Z.n_len (je_b (je_var 12))))) ja_nil)))))) ja_nil))))))
    (jss_one (js_ret je_bl))
    jss_nil))))))
    (jss_cons (js_if (jt_cmp (cmp_notin (hu65 hr)) (je_b (je_call (Cal.trim (c_full_row Z)) hr (by omega) rfl (ja_cons (je_var 4) ja_nil))) (je_b (je_var 6)))
    (jss_one (js_ret je_bl))
    jss_nil)
    (jss_frz (Γ' := []) (fun i => i == 5) (flz_of 15 (by decide) (by decide) (by decide)) jss_nil))))))))))
    (jss_one (js_ret je_bl))))
set_option maxHeartbeats 0 in
theorem all_mk (LT : LawTrue m_law) {l : PySem.W.OpenLaw} {h : Heap} {fa : Addr} (X : K.In h) (G : h.Ns mainGlobals mg) (hfa : mg "law" = some (.ref fa))
    {C_Search : Addr} {f_Search_go_on : Addr} {od_Search_go_on an_Search_go_on : Option Addr} {sl_Search_go_on : Array (Option Value)} {oc_Search_go_on kV_Search_go_on dc_Search_go_on pm_Search_go_on cd_Search_go_on ct_Search_go_on : Value} {f_Search_found : Addr} {od_Search_found an_Search_found : Option Addr} {sl_Search_found : Array (Option Value)} {oc_Search_found kV_Search_found dc_Search_found pm_Search_found cd_Search_found ct_Search_found : Value} {f_Search___init__ : Addr} {od_Search___init__ an_Search___init__ : Option Addr} {sl_Search___init__ : Array (Option Value)} {oc_Search___init__ kV_Search___init__ dc_Search___init__ pm_Search___init__ cd_Search___init__ ct_Search___init__ : Value} {f__law_box : Addr} {od__law_box an__law_box : Option Addr} {sl__law_box : Array (Option Value)} {oc__law_box kV__law_box dc__law_box pm__law_box cd__law_box ct__law_box : Value} {f__law_cells : Addr} {od__law_cells an__law_cells : Option Addr} {sl__law_cells : Array (Option Value)} {oc__law_cells kV__law_cells dc__law_cells pm__law_cells cd__law_cells ct__law_cells : Value} {f__law_take : Addr} {od__law_take an__law_take : Option Addr} {sl__law_take : Array (Option Value)} {oc__law_take kV__law_take dc__law_take pm__law_take cd__law_take ct__law_take : Value} {f__law_of : Addr} {od__law_of an__law_of : Option Addr} {sl__law_of : Array (Option Value)} {oc__law_of kV__law_of dc__law_of pm__law_of cd__law_of ct__law_of : Value} {f__law_named : Addr} {od__law_named an__law_named : Option Addr} {sl__law_named : Array (Option Value)} {oc__law_named kV__law_named dc__law_named pm__law_named cd__law_named ct__law_named : Value} {f__law_joins : Addr} {od__law_joins an__law_joins : Option Addr} {sl__law_joins : Array (Option Value)} {oc__law_joins kV__law_joins dc__law_joins pm__law_joins cd__law_joins ct__law_joins : Value} {f__law_kind_web : Addr} {od__law_kind_web an__law_kind_web : Option Addr} {sl__law_kind_web : Array (Option Value)} {oc__law_kind_web kV__law_kind_web dc__law_kind_web pm__law_kind_web cd__law_kind_web ct__law_kind_web : Value} {f__law_mixed : Addr} {od__law_mixed an__law_mixed : Option Addr} {sl__law_mixed : Array (Option Value)} {oc__law_mixed kV__law_mixed dc__law_mixed pm__law_mixed cd__law_mixed ct__law_mixed : Value} {f__law_names : Addr} {od__law_names an__law_names : Option Addr} {sl__law_names : Array (Option Value)} {oc__law_names kV__law_names dc__law_names pm__law_names cd__law_names ct__law_names : Value} {f_goes_up : Addr} {od_goes_up an_goes_up : Option Addr} {sl_goes_up : Array (Option Value)} {oc_goes_up kV_goes_up dc_goes_up pm_goes_up cd_goes_up ct_goes_up : Value} {f_green_in : Addr} {od_green_in an_green_in : Option Addr} {sl_green_in : Array (Option Value)} {oc_green_in kV_green_in dc_green_in pm_green_in cd_green_in ct_green_in : Value} {f_hinge : Addr} {od_hinge an_hinge : Option Addr} {sl_hinge : Array (Option Value)} {oc_hinge kV_hinge dc_hinge pm_hinge cd_hinge ct_hinge : Value} {f_shaded : Addr} {od_shaded an_shaded : Option Addr} {sl_shaded : Array (Option Value)} {oc_shaded kV_shaded dc_shaded pm_shaded cd_shaded ct_shaded : Value} {f_unit_row : Addr} {od_unit_row an_unit_row : Option Addr} {sl_unit_row : Array (Option Value)} {oc_unit_row kV_unit_row dc_unit_row pm_unit_row cd_unit_row ct_unit_row : Value} {f_first_in : Addr} {od_first_in an_first_in : Option Addr} {sl_first_in : Array (Option Value)} {oc_first_in kV_first_in dc_first_in pm_first_in cd_first_in ct_first_in : Value} {f_tupled : Addr} {od_tupled an_tupled : Option Addr} {sl_tupled : Array (Option Value)} {oc_tupled kV_tupled dc_tupled pm_tupled cd_tupled ct_tupled : Value} {f_is_long : Addr} {od_is_long an_is_long : Option Addr} {sl_is_long : Array (Option Value)} {oc_is_long kV_is_long dc_is_long pm_is_long cd_is_long ct_is_long : Value} {f_is_number : Addr} {od_is_number an_is_number : Option Addr} {sl_is_number : Array (Option Value)} {oc_is_number kV_is_number dc_is_number pm_is_number cd_is_number ct_is_number : Value} {f_is_table : Addr} {od_is_table an_is_table : Option Addr} {sl_is_table : Array (Option Value)} {oc_is_table kV_is_table dc_is_table pm_is_table cd_is_table ct_is_table : Value} {f_beside : Addr} {od_beside an_beside : Option Addr} {sl_beside : Array (Option Value)} {oc_beside kV_beside dc_beside pm_beside cd_beside ct_beside : Value} {f_part_from : Addr} {od_part_from an_part_from : Option Addr} {sl_part_from : Array (Option Value)} {oc_part_from kV_part_from dc_part_from pm_part_from cd_part_from ct_part_from : Value} {f_whole_weights : Addr} {od_whole_weights an_whole_weights : Option Addr} {sl_whole_weights : Array (Option Value)} {oc_whole_weights kV_whole_weights dc_whole_weights pm_whole_weights cd_whole_weights ct_whole_weights : Value} {f_lowest_ratio : Addr} {od_lowest_ratio an_lowest_ratio : Option Addr} {sl_lowest_ratio : Array (Option Value)} {oc_lowest_ratio kV_lowest_ratio dc_lowest_ratio pm_lowest_ratio cd_lowest_ratio ct_lowest_ratio : Value} {f_sign : Addr} {od_sign an_sign : Option Addr} {sl_sign : Array (Option Value)} {oc_sign kV_sign dc_sign pm_sign cd_sign ct_sign : Value} {f_part_weights : Addr} {od_part_weights an_part_weights : Option Addr} {sl_part_weights : Array (Option Value)} {oc_part_weights kV_part_weights dc_part_weights pm_part_weights cd_part_weights ct_part_weights : Value} {f_weights_in : Addr} {od_weights_in an_weights_in : Option Addr} {sl_weights_in : Array (Option Value)} {oc_weights_in kV_weights_in dc_weights_in pm_weights_in cd_weights_in ct_weights_in : Value} {f_is_web : Addr} {od_is_web an_is_web : Option Addr} {sl_is_web : Array (Option Value)} {oc_is_web kV_is_web dc_is_web pm_is_web cd_is_web ct_is_web : Value} {f_sure_web : Addr} {od_sure_web an_sure_web : Option Addr} {sl_sure_web : Array (Option Value)} {oc_sure_web kV_sure_web dc_sure_web pm_sure_web cd_sure_web ct_sure_web : Value} {f_full_row : Addr} {od_full_row an_full_row : Option Addr} {sl_full_row : Array (Option Value)} {oc_full_row kV_full_row dc_full_row pm_full_row cd_full_row ct_full_row : Value} {f_walked_shades : Addr} {od_walked_shades an_walked_shades : Option Addr} {sl_walked_shades : Array (Option Value)} {oc_walked_shades kV_walked_shades dc_walked_shades pm_walked_shades cd_walked_shades ct_walked_shades : Value} {f_green_path : Addr} {od_green_path an_green_path : Option Addr} {sl_green_path : Array (Option Value)} {oc_green_path kV_green_path dc_green_path pm_green_path cd_green_path ct_green_path : Value} {f_is_full_row : Addr} {od_is_full_row an_is_full_row : Option Addr} {sl_is_full_row : Array (Option Value)} {oc_is_full_row kV_is_full_row dc_is_full_row pm_is_full_row cd_is_full_row ct_is_full_row : Value} {f_sure_row : Addr} {od_sure_row an_sure_row : Option Addr} {sl_sure_row : Array (Option Value)} {oc_sure_row kV_sure_row dc_sure_row pm_sure_row cd_sure_row ct_sure_row : Value} {f_is_from : Addr} {od_is_from an_is_from : Option Addr} {sl_is_from : Array (Option Value)} {oc_is_from kV_is_from dc_is_from pm_is_from cd_is_from ct_is_from : Value} {f_is_below : Addr} {od_is_below an_is_below : Option Addr} {sl_is_below : Array (Option Value)} {oc_is_below kV_is_below dc_is_below pm_is_below cd_is_below ct_is_below : Value} {f_known_place : Addr} {od_known_place an_known_place : Option Addr} {sl_known_place : Array (Option Value)} {oc_known_place kV_known_place dc_known_place pm_known_place cd_known_place ct_known_place : Value} {f_known_row : Addr} {od_known_row an_known_row : Option Addr} {sl_known_row : Array (Option Value)} {oc_known_row kV_known_row dc_known_row pm_known_row cd_known_row ct_known_row : Value} {f_is_green_row : Addr} {od_is_green_row an_is_green_row : Option Addr} {sl_is_green_row : Array (Option Value)} {oc_is_green_row kV_is_green_row dc_is_green_row pm_is_green_row cd_is_green_row ct_is_green_row : Value} {f__law_same : Addr} {od__law_same an__law_same : Option Addr} {sl__law_same : Array (Option Value)} {oc__law_same kV__law_same dc__law_same pm__law_same cd__law_same ct__law_same : Value} {f__law_units : Addr} {od__law_units an__law_units : Option Addr} {sl__law_units : Array (Option Value)} {oc__law_units kV__law_units dc__law_units pm__law_units cd__law_units ct__law_units : Value} {f__law_greens : Addr} {od__law_greens an__law_greens : Option Addr} {sl__law_greens : Array (Option Value)} {oc__law_greens kV__law_greens dc__law_greens pm__law_greens cd__law_greens ct__law_greens : Value} {f__law_hinge : Addr} {od__law_hinge an__law_hinge : Option Addr} {sl__law_hinge : Array (Option Value)} {oc__law_hinge kV__law_hinge dc__law_hinge pm__law_hinge cd__law_hinge ct__law_hinge : Value} {f__law_shade : Addr} {od__law_shade an__law_shade : Option Addr} {sl__law_shade : Array (Option Value)} {oc__law_shade kV__law_shade dc__law_shade pm__law_shade cd__law_shade ct__law_shade : Value} {f_law : Addr} {od_law an_law : Option Addr} {sl_law : Array (Option Value)} {oc_law kV_law dc_law pm_law cd_law ct_law : Value} {t_MOST_STANDS : Nat} {C_CanNot : Addr} {C_TooMany : Addr} {C_Unfit : Addr}
    (a_Search : PySem.W.nsIn K mainGlobals "Search" = some (some (.ref C_Search))) (pg_Search : PySem.W.plainGet K C_Search Str.empty = true) (hd_Search : PySem.W.hasDictIn K C_Search = true) (po_Search : PySem.W.plainOver K C_Search = true) (sa_Search : PySem.W.findIn K (.ref C_Search) "__setattr__" = some (some (.builtin "object.__setattr__"))) (mk_Search : PySem.W.makesIn K C_Search = true) (k_Search : PySem.W.keepIn K (.ref C_Search) = true) (nf_Search_level : PySem.W.findIn K (.ref C_Search) "level" = some none) (nf_Search_met : PySem.W.findIn K (.ref C_Search) "met" = some none) (a_Search_go_on : PySem.W.findIn K (.ref C_Search) "go_on" = some (some (.ref f_Search_go_on))) (i_Search_go_on : PySem.W.isFn K (.ref f_Search_go_on) = true) (l_Search_go_on : K.lookup f_Search_go_on = some ⟨oc_Search_go_on, od_Search_go_on, .func (PySem.W.fnOf "go_on" "Search.go_on" (defArgs s_Search_go_on) (defBody s_Search_go_on) (defScope s_Search_go_on) .none kV_Search_go_on dc_Search_go_on pm_Search_go_on an_Search_go_on cd_Search_go_on ct_Search_go_on), sl_Search_go_on⟩) (cc_Search_go_on : PySem.W.codeIn K cd_Search_go_on "Search.go_on" = true) (k_Search_go_on : PySem.W.keepIn K (.ref f_Search_go_on) = true) (a_Search_found : PySem.W.findIn K (.ref C_Search) "found" = some (some (.ref f_Search_found))) (i_Search_found : PySem.W.isFn K (.ref f_Search_found) = true) (l_Search_found : K.lookup f_Search_found = some ⟨oc_Search_found, od_Search_found, .func (PySem.W.fnOf "found" "Search.found" (defArgs s_Search_found) (defBody s_Search_found) (defScope s_Search_found) .none kV_Search_found dc_Search_found pm_Search_found an_Search_found cd_Search_found ct_Search_found), sl_Search_found⟩) (cc_Search_found : PySem.W.codeIn K cd_Search_found "Search.found" = true) (k_Search_found : PySem.W.keepIn K (.ref f_Search_found) = true) (a_Search___init__ : PySem.W.findIn K (.ref C_Search) "__init__" = some (some (.ref f_Search___init__))) (i_Search___init__ : PySem.W.isFn K (.ref f_Search___init__) = true) (l_Search___init__ : K.lookup f_Search___init__ = some ⟨oc_Search___init__, od_Search___init__, .func (PySem.W.fnOf "__init__" "Search.__init__" (defArgs s_Search___init__) (defBody s_Search___init__) (defScope s_Search___init__) .none kV_Search___init__ dc_Search___init__ pm_Search___init__ an_Search___init__ cd_Search___init__ ct_Search___init__), sl_Search___init__⟩) (cc_Search___init__ : PySem.W.codeIn K cd_Search___init__ "Search.__init__" = true) (k_Search___init__ : PySem.W.keepIn K (.ref f_Search___init__) = true) (a__law_box : PySem.W.nsIn K mainGlobals "_law_box" = some (some (.ref f__law_box))) (l__law_box : K.lookup f__law_box = some ⟨oc__law_box, od__law_box, .func (PySem.W.fnOf "_law_box" "_law_box" (defArgs s__law_box) (defBody s__law_box) (defScope s__law_box) .none kV__law_box dc__law_box pm__law_box an__law_box cd__law_box ct__law_box), sl__law_box⟩) (cc__law_box : PySem.W.codeIn K cd__law_box "_law_box" = true) (k__law_box : PySem.W.keepIn K (.ref f__law_box) = true) (a__law_cells : PySem.W.nsIn K mainGlobals "_law_cells" = some (some (.ref f__law_cells))) (l__law_cells : K.lookup f__law_cells = some ⟨oc__law_cells, od__law_cells, .func (PySem.W.fnOf "_law_cells" "_law_cells" (defArgs s__law_cells) (defBody s__law_cells) (defScope s__law_cells) .none kV__law_cells dc__law_cells pm__law_cells an__law_cells cd__law_cells ct__law_cells), sl__law_cells⟩) (cc__law_cells : PySem.W.codeIn K cd__law_cells "_law_cells" = true) (k__law_cells : PySem.W.keepIn K (.ref f__law_cells) = true) (a__law_take : PySem.W.nsIn K mainGlobals "_law_take" = some (some (.ref f__law_take))) (l__law_take : K.lookup f__law_take = some ⟨oc__law_take, od__law_take, .func (PySem.W.fnOf "_law_take" "_law_take" (defArgs s__law_take) (defBody s__law_take) (defScope s__law_take) .none kV__law_take dc__law_take pm__law_take an__law_take cd__law_take ct__law_take), sl__law_take⟩) (cc__law_take : PySem.W.codeIn K cd__law_take "_law_take" = true) (k__law_take : PySem.W.keepIn K (.ref f__law_take) = true) (a__law_of : PySem.W.nsIn K mainGlobals "_law_of" = some (some (.ref f__law_of))) (l__law_of : K.lookup f__law_of = some ⟨oc__law_of, od__law_of, .func (PySem.W.fnOf "_law_of" "_law_of" (defArgs s__law_of) (defBody s__law_of) (defScope s__law_of) .none kV__law_of dc__law_of pm__law_of an__law_of cd__law_of ct__law_of), sl__law_of⟩) (cc__law_of : PySem.W.codeIn K cd__law_of "_law_of" = true) (k__law_of : PySem.W.keepIn K (.ref f__law_of) = true) (a__law_named : PySem.W.nsIn K mainGlobals "_law_named" = some (some (.ref f__law_named))) (l__law_named : K.lookup f__law_named = some ⟨oc__law_named, od__law_named, .func (PySem.W.fnOf "_law_named" "_law_named" (defArgs s__law_named) (defBody s__law_named) (defScope s__law_named) .none kV__law_named dc__law_named pm__law_named an__law_named cd__law_named ct__law_named), sl__law_named⟩) (cc__law_named : PySem.W.codeIn K cd__law_named "_law_named" = true) (k__law_named : PySem.W.keepIn K (.ref f__law_named) = true) (a__law_joins : PySem.W.nsIn K mainGlobals "_law_joins" = some (some (.ref f__law_joins))) (l__law_joins : K.lookup f__law_joins = some ⟨oc__law_joins, od__law_joins, .func (PySem.W.fnOf "_law_joins" "_law_joins" (defArgs s__law_joins) (defBody s__law_joins) (defScope s__law_joins) .none kV__law_joins dc__law_joins pm__law_joins an__law_joins cd__law_joins ct__law_joins), sl__law_joins⟩) (cc__law_joins : PySem.W.codeIn K cd__law_joins "_law_joins" = true) (k__law_joins : PySem.W.keepIn K (.ref f__law_joins) = true) (a__law_kind_web : PySem.W.nsIn K mainGlobals "_law_kind_web" = some (some (.ref f__law_kind_web))) (l__law_kind_web : K.lookup f__law_kind_web = some ⟨oc__law_kind_web, od__law_kind_web, .func (PySem.W.fnOf "_law_kind_web" "_law_kind_web" (defArgs s__law_kind_web) (defBody s__law_kind_web) (defScope s__law_kind_web) .none kV__law_kind_web dc__law_kind_web pm__law_kind_web an__law_kind_web cd__law_kind_web ct__law_kind_web), sl__law_kind_web⟩) (cc__law_kind_web : PySem.W.codeIn K cd__law_kind_web "_law_kind_web" = true) (k__law_kind_web : PySem.W.keepIn K (.ref f__law_kind_web) = true) (a__law_mixed : PySem.W.nsIn K mainGlobals "_law_mixed" = some (some (.ref f__law_mixed))) (l__law_mixed : K.lookup f__law_mixed = some ⟨oc__law_mixed, od__law_mixed, .func (PySem.W.fnOf "_law_mixed" "_law_mixed" (defArgs s__law_mixed) (defBody s__law_mixed) (defScope s__law_mixed) .none kV__law_mixed dc__law_mixed pm__law_mixed an__law_mixed cd__law_mixed ct__law_mixed), sl__law_mixed⟩) (cc__law_mixed : PySem.W.codeIn K cd__law_mixed "_law_mixed" = true) (k__law_mixed : PySem.W.keepIn K (.ref f__law_mixed) = true) (a__law_names : PySem.W.nsIn K mainGlobals "_law_names" = some (some (.ref f__law_names))) (l__law_names : K.lookup f__law_names = some ⟨oc__law_names, od__law_names, .func (PySem.W.fnOf "_law_names" "_law_names" (defArgs s__law_names) (defBody s__law_names) (defScope s__law_names) .none kV__law_names dc__law_names pm__law_names an__law_names cd__law_names ct__law_names), sl__law_names⟩) (cc__law_names : PySem.W.codeIn K cd__law_names "_law_names" = true) (k__law_names : PySem.W.keepIn K (.ref f__law_names) = true) (a_goes_up : PySem.W.nsIn K mainGlobals "goes_up" = some (some (.ref f_goes_up))) (l_goes_up : K.lookup f_goes_up = some ⟨oc_goes_up, od_goes_up, .func (PySem.W.fnOf "goes_up" "goes_up" (defArgs s_goes_up) (defBody s_goes_up) (defScope s_goes_up) .none kV_goes_up dc_goes_up pm_goes_up an_goes_up cd_goes_up ct_goes_up), sl_goes_up⟩) (cc_goes_up : PySem.W.codeIn K cd_goes_up "goes_up" = true) (k_goes_up : PySem.W.keepIn K (.ref f_goes_up) = true) (a_green_in : PySem.W.nsIn K mainGlobals "green_in" = some (some (.ref f_green_in))) (l_green_in : K.lookup f_green_in = some ⟨oc_green_in, od_green_in, .func (PySem.W.fnOf "green_in" "green_in" (defArgs s_green_in) (defBody s_green_in) (defScope s_green_in) .none kV_green_in dc_green_in pm_green_in an_green_in cd_green_in ct_green_in), sl_green_in⟩) (cc_green_in : PySem.W.codeIn K cd_green_in "green_in" = true) (k_green_in : PySem.W.keepIn K (.ref f_green_in) = true) (a_hinge : PySem.W.nsIn K mainGlobals "hinge" = some (some (.ref f_hinge))) (l_hinge : K.lookup f_hinge = some ⟨oc_hinge, od_hinge, .func (PySem.W.fnOf "hinge" "hinge" (defArgs s_hinge) (defBody s_hinge) (defScope s_hinge) .none kV_hinge dc_hinge pm_hinge an_hinge cd_hinge ct_hinge), sl_hinge⟩) (cc_hinge : PySem.W.codeIn K cd_hinge "hinge" = true) (k_hinge : PySem.W.keepIn K (.ref f_hinge) = true) (a_shaded : PySem.W.nsIn K mainGlobals "shaded" = some (some (.ref f_shaded))) (l_shaded : K.lookup f_shaded = some ⟨oc_shaded, od_shaded, .func (PySem.W.fnOf "shaded" "shaded" (defArgs s_shaded) (defBody s_shaded) (defScope s_shaded) .none kV_shaded dc_shaded pm_shaded an_shaded cd_shaded ct_shaded), sl_shaded⟩) (cc_shaded : PySem.W.codeIn K cd_shaded "shaded" = true) (k_shaded : PySem.W.keepIn K (.ref f_shaded) = true) (a_unit_row : PySem.W.nsIn K mainGlobals "unit_row" = some (some (.ref f_unit_row))) (l_unit_row : K.lookup f_unit_row = some ⟨oc_unit_row, od_unit_row, .func (PySem.W.fnOf "unit_row" "unit_row" (defArgs s_unit_row) (defBody s_unit_row) (defScope s_unit_row) .none kV_unit_row dc_unit_row pm_unit_row an_unit_row cd_unit_row ct_unit_row), sl_unit_row⟩) (cc_unit_row : PySem.W.codeIn K cd_unit_row "unit_row" = true) (k_unit_row : PySem.W.keepIn K (.ref f_unit_row) = true) (a_first_in : PySem.W.nsIn K mainGlobals "first_in" = some (some (.ref f_first_in))) (l_first_in : K.lookup f_first_in = some ⟨oc_first_in, od_first_in, .func (PySem.W.fnOf "first_in" "first_in" (defArgs s_first_in) (defBody s_first_in) (defScope s_first_in) .none kV_first_in dc_first_in pm_first_in an_first_in cd_first_in ct_first_in), sl_first_in⟩) (cc_first_in : PySem.W.codeIn K cd_first_in "first_in" = true) (k_first_in : PySem.W.keepIn K (.ref f_first_in) = true) (a_tupled : PySem.W.nsIn K mainGlobals "tupled" = some (some (.ref f_tupled))) (l_tupled : K.lookup f_tupled = some ⟨oc_tupled, od_tupled, .func (PySem.W.fnOf "tupled" "tupled" (defArgs s_tupled) (defBody s_tupled) (defScope s_tupled) .none kV_tupled dc_tupled pm_tupled an_tupled cd_tupled ct_tupled), sl_tupled⟩) (cc_tupled : PySem.W.codeIn K cd_tupled "tupled" = true) (k_tupled : PySem.W.keepIn K (.ref f_tupled) = true) (a_is_long : PySem.W.nsIn K mainGlobals "is_long" = some (some (.ref f_is_long))) (l_is_long : K.lookup f_is_long = some ⟨oc_is_long, od_is_long, .func (PySem.W.fnOf "is_long" "is_long" (defArgs s_is_long) (defBody s_is_long) (defScope s_is_long) .none kV_is_long dc_is_long pm_is_long an_is_long cd_is_long ct_is_long), sl_is_long⟩) (cc_is_long : PySem.W.codeIn K cd_is_long "is_long" = true) (k_is_long : PySem.W.keepIn K (.ref f_is_long) = true) (a_is_number : PySem.W.nsIn K mainGlobals "is_number" = some (some (.ref f_is_number))) (l_is_number : K.lookup f_is_number = some ⟨oc_is_number, od_is_number, .func (PySem.W.fnOf "is_number" "is_number" (defArgs s_is_number) (defBody s_is_number) (defScope s_is_number) .none kV_is_number dc_is_number pm_is_number an_is_number cd_is_number ct_is_number), sl_is_number⟩) (cc_is_number : PySem.W.codeIn K cd_is_number "is_number" = true) (k_is_number : PySem.W.keepIn K (.ref f_is_number) = true) (a_is_table : PySem.W.nsIn K mainGlobals "is_table" = some (some (.ref f_is_table))) (l_is_table : K.lookup f_is_table = some ⟨oc_is_table, od_is_table, .func (PySem.W.fnOf "is_table" "is_table" (defArgs s_is_table) (defBody s_is_table) (defScope s_is_table) .none kV_is_table dc_is_table pm_is_table an_is_table cd_is_table ct_is_table), sl_is_table⟩) (cc_is_table : PySem.W.codeIn K cd_is_table "is_table" = true) (k_is_table : PySem.W.keepIn K (.ref f_is_table) = true) (a_beside : PySem.W.nsIn K mainGlobals "beside" = some (some (.ref f_beside))) (l_beside : K.lookup f_beside = some ⟨oc_beside, od_beside, .func (PySem.W.fnOf "beside" "beside" (defArgs s_beside) (defBody s_beside) (defScope s_beside) .none kV_beside dc_beside pm_beside an_beside cd_beside ct_beside), sl_beside⟩) (cc_beside : PySem.W.codeIn K cd_beside "beside" = true) (k_beside : PySem.W.keepIn K (.ref f_beside) = true) (a_part_from : PySem.W.nsIn K mainGlobals "part_from" = some (some (.ref f_part_from))) (l_part_from : K.lookup f_part_from = some ⟨oc_part_from, od_part_from, .func (PySem.W.fnOf "part_from" "part_from" (defArgs s_part_from) (defBody s_part_from) (defScope s_part_from) .none kV_part_from dc_part_from pm_part_from an_part_from cd_part_from ct_part_from), sl_part_from⟩) (cc_part_from : PySem.W.codeIn K cd_part_from "part_from" = true) (k_part_from : PySem.W.keepIn K (.ref f_part_from) = true) (a_whole_weights : PySem.W.nsIn K mainGlobals "whole_weights" = some (some (.ref f_whole_weights))) (l_whole_weights : K.lookup f_whole_weights = some ⟨oc_whole_weights, od_whole_weights, .func (PySem.W.fnOf "whole_weights" "whole_weights" (defArgs s_whole_weights) (defBody s_whole_weights) (defScope s_whole_weights) .none kV_whole_weights dc_whole_weights pm_whole_weights an_whole_weights cd_whole_weights ct_whole_weights), sl_whole_weights⟩) (cc_whole_weights : PySem.W.codeIn K cd_whole_weights "whole_weights" = true) (k_whole_weights : PySem.W.keepIn K (.ref f_whole_weights) = true) (a_lowest_ratio : PySem.W.nsIn K mainGlobals "lowest_ratio" = some (some (.ref f_lowest_ratio))) (l_lowest_ratio : K.lookup f_lowest_ratio = some ⟨oc_lowest_ratio, od_lowest_ratio, .func (PySem.W.fnOf "lowest_ratio" "lowest_ratio" (defArgs s_lowest_ratio) (defBody s_lowest_ratio) (defScope s_lowest_ratio) .none kV_lowest_ratio dc_lowest_ratio pm_lowest_ratio an_lowest_ratio cd_lowest_ratio ct_lowest_ratio), sl_lowest_ratio⟩) (cc_lowest_ratio : PySem.W.codeIn K cd_lowest_ratio "lowest_ratio" = true) (k_lowest_ratio : PySem.W.keepIn K (.ref f_lowest_ratio) = true) (a_sign : PySem.W.nsIn K mainGlobals "sign" = some (some (.ref f_sign))) (l_sign : K.lookup f_sign = some ⟨oc_sign, od_sign, .func (PySem.W.fnOf "sign" "sign" (defArgs s_sign) (defBody s_sign) (defScope s_sign) .none kV_sign dc_sign pm_sign an_sign cd_sign ct_sign), sl_sign⟩) (cc_sign : PySem.W.codeIn K cd_sign "sign" = true) (k_sign : PySem.W.keepIn K (.ref f_sign) = true) (a_part_weights : PySem.W.nsIn K mainGlobals "part_weights" = some (some (.ref f_part_weights))) (l_part_weights : K.lookup f_part_weights = some ⟨oc_part_weights, od_part_weights, .func (PySem.W.fnOf "part_weights" "part_weights" (defArgs s_part_weights) (defBody s_part_weights) (defScope s_part_weights) .none kV_part_weights dc_part_weights pm_part_weights an_part_weights cd_part_weights ct_part_weights), sl_part_weights⟩) (cc_part_weights : PySem.W.codeIn K cd_part_weights "part_weights" = true) (k_part_weights : PySem.W.keepIn K (.ref f_part_weights) = true) (a_weights_in : PySem.W.nsIn K mainGlobals "weights_in" = some (some (.ref f_weights_in))) (l_weights_in : K.lookup f_weights_in = some ⟨oc_weights_in, od_weights_in, .func (PySem.W.fnOf "weights_in" "weights_in" (defArgs s_weights_in) (defBody s_weights_in) (defScope s_weights_in) .none kV_weights_in dc_weights_in pm_weights_in an_weights_in cd_weights_in ct_weights_in), sl_weights_in⟩) (cc_weights_in : PySem.W.codeIn K cd_weights_in "weights_in" = true) (k_weights_in : PySem.W.keepIn K (.ref f_weights_in) = true) (a_is_web : PySem.W.nsIn K mainGlobals "is_web" = some (some (.ref f_is_web))) (l_is_web : K.lookup f_is_web = some ⟨oc_is_web, od_is_web, .func (PySem.W.fnOf "is_web" "is_web" (defArgs s_is_web) (defBody s_is_web) (defScope s_is_web) .none kV_is_web dc_is_web pm_is_web an_is_web cd_is_web ct_is_web), sl_is_web⟩) (cc_is_web : PySem.W.codeIn K cd_is_web "is_web" = true) (k_is_web : PySem.W.keepIn K (.ref f_is_web) = true) (a_sure_web : PySem.W.nsIn K mainGlobals "sure_web" = some (some (.ref f_sure_web))) (l_sure_web : K.lookup f_sure_web = some ⟨oc_sure_web, od_sure_web, .func (PySem.W.fnOf "sure_web" "sure_web" (defArgs s_sure_web) (defBody s_sure_web) (defScope s_sure_web) .none kV_sure_web dc_sure_web pm_sure_web an_sure_web cd_sure_web ct_sure_web), sl_sure_web⟩) (cc_sure_web : PySem.W.codeIn K cd_sure_web "sure_web" = true) (k_sure_web : PySem.W.keepIn K (.ref f_sure_web) = true) (a_full_row : PySem.W.nsIn K mainGlobals "full_row" = some (some (.ref f_full_row))) (l_full_row : K.lookup f_full_row = some ⟨oc_full_row, od_full_row, .func (PySem.W.fnOf "full_row" "full_row" (defArgs s_full_row) (defBody s_full_row) (defScope s_full_row) .none kV_full_row dc_full_row pm_full_row an_full_row cd_full_row ct_full_row), sl_full_row⟩) (cc_full_row : PySem.W.codeIn K cd_full_row "full_row" = true) (k_full_row : PySem.W.keepIn K (.ref f_full_row) = true) (a_walked_shades : PySem.W.nsIn K mainGlobals "walked_shades" = some (some (.ref f_walked_shades))) (l_walked_shades : K.lookup f_walked_shades = some ⟨oc_walked_shades, od_walked_shades, .func (PySem.W.fnOf "walked_shades" "walked_shades" (defArgs s_walked_shades) (defBody s_walked_shades) (defScope s_walked_shades) .none kV_walked_shades dc_walked_shades pm_walked_shades an_walked_shades cd_walked_shades ct_walked_shades), sl_walked_shades⟩) (cc_walked_shades : PySem.W.codeIn K cd_walked_shades "walked_shades" = true) (k_walked_shades : PySem.W.keepIn K (.ref f_walked_shades) = true) (a_green_path : PySem.W.nsIn K mainGlobals "green_path" = some (some (.ref f_green_path))) (l_green_path : K.lookup f_green_path = some ⟨oc_green_path, od_green_path, .func (PySem.W.fnOf "green_path" "green_path" (defArgs s_green_path) (defBody s_green_path) (defScope s_green_path) .none kV_green_path dc_green_path pm_green_path an_green_path cd_green_path ct_green_path), sl_green_path⟩) (cc_green_path : PySem.W.codeIn K cd_green_path "green_path" = true) (k_green_path : PySem.W.keepIn K (.ref f_green_path) = true) (a_is_full_row : PySem.W.nsIn K mainGlobals "is_full_row" = some (some (.ref f_is_full_row))) (l_is_full_row : K.lookup f_is_full_row = some ⟨oc_is_full_row, od_is_full_row, .func (PySem.W.fnOf "is_full_row" "is_full_row" (defArgs s_is_full_row) (defBody s_is_full_row) (defScope s_is_full_row) .none kV_is_full_row dc_is_full_row pm_is_full_row an_is_full_row cd_is_full_row ct_is_full_row), sl_is_full_row⟩) (cc_is_full_row : PySem.W.codeIn K cd_is_full_row "is_full_row" = true) (k_is_full_row : PySem.W.keepIn K (.ref f_is_full_row) = true) (a_sure_row : PySem.W.nsIn K mainGlobals "sure_row" = some (some (.ref f_sure_row))) (l_sure_row : K.lookup f_sure_row = some ⟨oc_sure_row, od_sure_row, .func (PySem.W.fnOf "sure_row" "sure_row" (defArgs s_sure_row) (defBody s_sure_row) (defScope s_sure_row) .none kV_sure_row dc_sure_row pm_sure_row an_sure_row cd_sure_row ct_sure_row), sl_sure_row⟩) (cc_sure_row : PySem.W.codeIn K cd_sure_row "sure_row" = true) (k_sure_row : PySem.W.keepIn K (.ref f_sure_row) = true) (a_is_from : PySem.W.nsIn K mainGlobals "is_from" = some (some (.ref f_is_from))) (l_is_from : K.lookup f_is_from = some ⟨oc_is_from, od_is_from, .func (PySem.W.fnOf "is_from" "is_from" (defArgs s_is_from) (defBody s_is_from) (defScope s_is_from) .none kV_is_from dc_is_from pm_is_from an_is_from cd_is_from ct_is_from), sl_is_from⟩) (cc_is_from : PySem.W.codeIn K cd_is_from "is_from" = true) (k_is_from : PySem.W.keepIn K (.ref f_is_from) = true) (a_is_below : PySem.W.nsIn K mainGlobals "is_below" = some (some (.ref f_is_below))) (l_is_below : K.lookup f_is_below = some ⟨oc_is_below, od_is_below, .func (PySem.W.fnOf "is_below" "is_below" (defArgs s_is_below) (defBody s_is_below) (defScope s_is_below) .none kV_is_below dc_is_below pm_is_below an_is_below cd_is_below ct_is_below), sl_is_below⟩) (cc_is_below : PySem.W.codeIn K cd_is_below "is_below" = true) (k_is_below : PySem.W.keepIn K (.ref f_is_below) = true) (a_known_place : PySem.W.nsIn K mainGlobals "known_place" = some (some (.ref f_known_place))) (l_known_place : K.lookup f_known_place = some ⟨oc_known_place, od_known_place, .func (PySem.W.fnOf "known_place" "known_place" (defArgs s_known_place) (defBody s_known_place) (defScope s_known_place) .none kV_known_place dc_known_place pm_known_place an_known_place cd_known_place ct_known_place), sl_known_place⟩) (cc_known_place : PySem.W.codeIn K cd_known_place "known_place" = true) (k_known_place : PySem.W.keepIn K (.ref f_known_place) = true) (a_known_row : PySem.W.nsIn K mainGlobals "known_row" = some (some (.ref f_known_row))) (l_known_row : K.lookup f_known_row = some ⟨oc_known_row, od_known_row, .func (PySem.W.fnOf "known_row" "known_row" (defArgs s_known_row) (defBody s_known_row) (defScope s_known_row) .none kV_known_row dc_known_row pm_known_row an_known_row cd_known_row ct_known_row), sl_known_row⟩) (cc_known_row : PySem.W.codeIn K cd_known_row "known_row" = true) (k_known_row : PySem.W.keepIn K (.ref f_known_row) = true) (a_is_green_row : PySem.W.nsIn K mainGlobals "is_green_row" = some (some (.ref f_is_green_row))) (l_is_green_row : K.lookup f_is_green_row = some ⟨oc_is_green_row, od_is_green_row, .func (PySem.W.fnOf "is_green_row" "is_green_row" (defArgs s_is_green_row) (defBody s_is_green_row) (defScope s_is_green_row) .none kV_is_green_row dc_is_green_row pm_is_green_row an_is_green_row cd_is_green_row ct_is_green_row), sl_is_green_row⟩) (cc_is_green_row : PySem.W.codeIn K cd_is_green_row "is_green_row" = true) (k_is_green_row : PySem.W.keepIn K (.ref f_is_green_row) = true) (a__law_same : PySem.W.nsIn K mainGlobals "_law_same" = some (some (.ref f__law_same))) (l__law_same : K.lookup f__law_same = some ⟨oc__law_same, od__law_same, .func (PySem.W.fnOf "_law_same" "_law_same" (defArgs s__law_same) (defBody s__law_same) (defScope s__law_same) .none kV__law_same dc__law_same pm__law_same an__law_same cd__law_same ct__law_same), sl__law_same⟩) (cc__law_same : PySem.W.codeIn K cd__law_same "_law_same" = true) (k__law_same : PySem.W.keepIn K (.ref f__law_same) = true) (a__law_units : PySem.W.nsIn K mainGlobals "_law_units" = some (some (.ref f__law_units))) (l__law_units : K.lookup f__law_units = some ⟨oc__law_units, od__law_units, .func (PySem.W.fnOf "_law_units" "_law_units" (defArgs s__law_units) (defBody s__law_units) (defScope s__law_units) .none kV__law_units dc__law_units pm__law_units an__law_units cd__law_units ct__law_units), sl__law_units⟩) (cc__law_units : PySem.W.codeIn K cd__law_units "_law_units" = true) (k__law_units : PySem.W.keepIn K (.ref f__law_units) = true) (a__law_greens : PySem.W.nsIn K mainGlobals "_law_greens" = some (some (.ref f__law_greens))) (l__law_greens : K.lookup f__law_greens = some ⟨oc__law_greens, od__law_greens, .func (PySem.W.fnOf "_law_greens" "_law_greens" (defArgs s__law_greens) (defBody s__law_greens) (defScope s__law_greens) .none kV__law_greens dc__law_greens pm__law_greens an__law_greens cd__law_greens ct__law_greens), sl__law_greens⟩) (cc__law_greens : PySem.W.codeIn K cd__law_greens "_law_greens" = true) (k__law_greens : PySem.W.keepIn K (.ref f__law_greens) = true) (a__law_hinge : PySem.W.nsIn K mainGlobals "_law_hinge" = some (some (.ref f__law_hinge))) (l__law_hinge : K.lookup f__law_hinge = some ⟨oc__law_hinge, od__law_hinge, .func (PySem.W.fnOf "_law_hinge" "_law_hinge" (defArgs s__law_hinge) (defBody s__law_hinge) (defScope s__law_hinge) .none kV__law_hinge dc__law_hinge pm__law_hinge an__law_hinge cd__law_hinge ct__law_hinge), sl__law_hinge⟩) (cc__law_hinge : PySem.W.codeIn K cd__law_hinge "_law_hinge" = true) (k__law_hinge : PySem.W.keepIn K (.ref f__law_hinge) = true) (a__law_shade : PySem.W.nsIn K mainGlobals "_law_shade" = some (some (.ref f__law_shade))) (l__law_shade : K.lookup f__law_shade = some ⟨oc__law_shade, od__law_shade, .func (PySem.W.fnOf "_law_shade" "_law_shade" (defArgs s__law_shade) (defBody s__law_shade) (defScope s__law_shade) .none kV__law_shade dc__law_shade pm__law_shade an__law_shade cd__law_shade ct__law_shade), sl__law_shade⟩) (cc__law_shade : PySem.W.codeIn K cd__law_shade "_law_shade" = true) (k__law_shade : PySem.W.keepIn K (.ref f__law_shade) = true) (a_law : PySem.W.nsIn K mainGlobals "law" = some (some (.ref f_law))) (l_law : K.lookup f_law = some ⟨oc_law, od_law, .func (PySem.W.fnOf "law" "law" (defArgs s_law) (defBody s_law) (defScope s_law) .none kV_law dc_law pm_law an_law cd_law ct_law), sl_law⟩) (cc_law : PySem.W.codeIn K cd_law "law" = true) (k_law : PySem.W.keepIn K (.ref f_law) = true) (n_abs : PySem.W.nsIn K mainGlobals "abs" = some none) (n_all : PySem.W.nsIn K mainGlobals "all" = some none) (n_any : PySem.W.nsIn K mainGlobals "any" = some none) (n_bool : PySem.W.nsIn K mainGlobals "bool" = some none) (n_dict : PySem.W.nsIn K mainGlobals "dict" = some none) (n_enumerate : PySem.W.nsIn K mainGlobals "enumerate" = some none) (n_int : PySem.W.nsIn K mainGlobals "int" = some none) (n_isinstance : PySem.W.nsIn K mainGlobals "isinstance" = some none) (n_len : PySem.W.nsIn K mainGlobals "len" = some none) (n_list : PySem.W.nsIn K mainGlobals "list" = some none) (n_min : PySem.W.nsIn K mainGlobals "min" = some none) (n_range : PySem.W.nsIn K mainGlobals "range" = some none) (n_set : PySem.W.nsIn K mainGlobals "set" = some none) (n_sorted : PySem.W.nsIn K mainGlobals "sorted" = some none) (n_str : PySem.W.nsIn K mainGlobals "str" = some none) (n_tuple : PySem.W.nsIn K mainGlobals "tuple" = some none) (n_zip : PySem.W.nsIn K mainGlobals "zip" = some none) (u_MOST_STANDS : PySem.W.nsIn K mainGlobals "MOST_STANDS" = some (some (.int 2000 t_MOST_STANDS))) (b_gcd : PySem.W.nsIn K mainGlobals "gcd" = some (some (.builtin "math.gcd"))) (a_CanNot : PySem.W.nsIn K mainGlobals "CanNot" = some (some (.ref C_CanNot))) (s_CanNot : PySem.W.subIn K (.ref C_CanNot) (.type "BaseException") = some true) (y_CanNot : PySem.W.typeIn K (.ref C_CanNot) = some (.type "type")) (a_TooMany : PySem.W.nsIn K mainGlobals "TooMany" = some (some (.ref C_TooMany))) (s_TooMany : PySem.W.subIn K (.ref C_TooMany) (.type "BaseException") = some true) (y_TooMany : PySem.W.typeIn K (.ref C_TooMany) = some (.type "type")) (a_Unfit : PySem.W.nsIn K mainGlobals "Unfit" = some (some (.ref C_Unfit))) (s_Unfit : PySem.W.subIn K (.ref C_Unfit) (.type "BaseException") = some true) (y_Unfit : PySem.W.typeIn K (.ref C_Unfit) = some (.type "type")) (q_Unfit : PySem.W.excIn K C_Unfit [.type "ValueError", .type "Exception", .type "BaseException", .type "object"] "ValueError.__new__" = true) (k_Unfit : PySem.W.keepIn K (.ref C_Unfit) = true) (q_CanNot : PySem.W.excIn K C_CanNot [.type "ValueError", .type "Exception", .type "BaseException", .type "object"] "ValueError.__new__" = true) (k_CanNot : PySem.W.keepIn K (.ref C_CanNot) = true) (q_TooMany : PySem.W.excIn K C_TooMany [.type "ValueError", .type "Exception", .type "BaseException", .type "object"] "ValueError.__new__" = true) (k_TooMany : PySem.W.keepIn K (.ref C_TooMany) = true) :
    ∃ fd : FuncData, (∀ (s : Shared) (v : Value), BindsTo s fd ⟨[v], []⟩ [("script", v)]) ∧ ∀ base : Heap, K.In base → base.Ns mainGlobals mg → SeerP l.prog base → FnOk l.prog w K mg base (L2.CX l.prog w) 10 fa fd ["script"] (spLaw K) := by
  have e := hfa.symm.trans (PySem.W.mg_of X G a_law)
  cases e
  have zz : ∀ base : Heap, SeerP l.prog base → Fa K mg ⟨fun _ => none, fun j => match j with | 0 => some C_Unfit | 1 => some C_CanNot | 2 => some C_TooMany | 3 => some C_Search | _ => none, fun _ => []⟩ l.prog base := fun base SP => {
    seer := SP,
    fd_Search_level := (fldC_mk rfl (cls_mk pg_Search hd_Search po_Search sa_Search) nf_Search_level),
    fd_Search_met := (fldC_mk rfl (cls_mk pg_Search hd_Search po_Search sa_Search) nf_Search_met),
    f_Search_go_on := (fnM_mk rfl (cls_mk pg_Search hd_Search po_Search sa_Search) a_Search_go_on i_Search_go_on l_Search_go_on cc_Search_go_on k_Search_go_on fun _ _ _ _ _ _ us hl => match us, hl with | [_], _ => rfl),
    f_Search_found := (fnM_mk rfl (cls_mk pg_Search hd_Search po_Search sa_Search) a_Search_found i_Search_found l_Search_found cc_Search_found k_Search_found fun _ _ _ _ _ _ us hl => match us, hl with | [_], _ => rfl),
    f_Search___init__ := (fnI_mk X G rfl a_Search mk_Search k_Search a_Search___init__ i_Search___init__ l_Search___init__ cc_Search___init__ k_Search___init__ fun _ _ _ _ _ _ us hl => match us, hl with | [_, _], _ => rfl),
    f__law_box := (fnF_mk X G a__law_box l__law_box cc__law_box k__law_box fun _ _ _ _ _ _ us hl => match us, hl with | [_, _], _ => rfl),
    f__law_cells := (fnF_mk X G a__law_cells l__law_cells cc__law_cells k__law_cells fun _ _ _ _ _ _ us hl => match us, hl with | [_, _], _ => rfl),
    f__law_take := (fnF_mk X G a__law_take l__law_take cc__law_take k__law_take fun _ _ _ _ _ _ us hl => match us, hl with | [_, _], _ => rfl),
    f__law_of := (fnF_mk X G a__law_of l__law_of cc__law_of k__law_of fun _ _ _ _ _ _ us hl => match us, hl with | [_, _], _ => rfl),
    f__law_named := (fnF_mk X G a__law_named l__law_named cc__law_named k__law_named fun _ _ _ _ _ _ us hl => match us, hl with | [_, _], _ => rfl),
    f__law_joins := (fnF_mk X G a__law_joins l__law_joins cc__law_joins k__law_joins fun _ _ _ _ _ _ us hl => match us, hl with | [_], _ => rfl),
    f__law_kind_web := (fnF_mk X G a__law_kind_web l__law_kind_web cc__law_kind_web k__law_kind_web fun _ _ _ _ _ _ us hl => match us, hl with | [_, _], _ => rfl),
    f__law_mixed := (fnF_mk X G a__law_mixed l__law_mixed cc__law_mixed k__law_mixed fun _ _ _ _ _ _ us hl => match us, hl with | [_, _], _ => rfl),
    f__law_names := (fnF_mk X G a__law_names l__law_names cc__law_names k__law_names fun _ _ _ _ _ _ us hl => match us, hl with | [_, _], _ => rfl),
    f_goes_up := (fnF_mk X G a_goes_up l_goes_up cc_goes_up k_goes_up fun _ _ _ _ _ _ us hl => match us, hl with | [_], _ => rfl),
    f_green_in := (fnF_mk X G a_green_in l_green_in cc_green_in k_green_in fun _ _ _ _ _ _ us hl => match us, hl with | [_], _ => rfl),
    f_hinge := (fnF_mk X G a_hinge l_hinge cc_hinge k_hinge fun _ _ _ _ _ _ us hl => match us, hl with | [_, _], _ => rfl),
    f_shaded := (fnF_mk X G a_shaded l_shaded cc_shaded k_shaded fun _ _ _ _ _ _ us hl => match us, hl with | [_, _, _], _ => rfl),
    f_unit_row := (fnF_mk X G a_unit_row l_unit_row cc_unit_row k_unit_row fun _ _ _ _ _ _ us hl => match us, hl with | [_, _], _ => rfl),
    f_first_in := (fnF_mk X G a_first_in l_first_in cc_first_in k_first_in fun _ _ _ _ _ _ us hl => match us, hl with | [_], _ => rfl),
    f_tupled := (fnF_mk X G a_tupled l_tupled cc_tupled k_tupled fun _ _ _ _ _ _ us hl => match us, hl with | [_], _ => rfl),
    f_is_long := (fnF_mk X G a_is_long l_is_long cc_is_long k_is_long fun _ _ _ _ _ _ us hl => match us, hl with | [_, _], _ => rfl),
    f_is_number := (fnF_mk X G a_is_number l_is_number cc_is_number k_is_number fun _ _ _ _ _ _ us hl => match us, hl with | [_], _ => rfl),
    f_is_table := (fnF_mk X G a_is_table l_is_table cc_is_table k_is_table fun _ _ _ _ _ _ us hl => match us, hl with | [_], _ => rfl),
    f_beside := (fnF_mk X G a_beside l_beside cc_beside k_beside fun _ _ _ _ _ _ us hl => match us, hl with | [_, _], _ => rfl),
    f_part_from := (fnF_mk X G a_part_from l_part_from cc_part_from k_part_from fun _ _ _ _ _ _ us hl => match us, hl with | [_, _], _ => rfl),
    f_whole_weights := (fnF_mk X G a_whole_weights l_whole_weights cc_whole_weights k_whole_weights fun _ _ _ _ _ _ us hl => match us, hl with | [_], _ => rfl),
    f_lowest_ratio := (fnF_mk X G a_lowest_ratio l_lowest_ratio cc_lowest_ratio k_lowest_ratio fun _ _ _ _ _ _ us hl => match us, hl with | [_, _], _ => rfl),
    f_sign := (fnF_mk X G a_sign l_sign cc_sign k_sign fun _ _ _ _ _ _ us hl => match us, hl with | [_], _ => rfl),
    f_part_weights := (fnF_mk X G a_part_weights l_part_weights cc_part_weights k_part_weights fun _ _ _ _ _ _ us hl => match us, hl with | [_, _], _ => rfl),
    f_weights_in := (fnF_mk X G a_weights_in l_weights_in cc_weights_in k_weights_in fun _ _ _ _ _ _ us hl => match us, hl with | [_], _ => rfl),
    f_is_web := (fnF_mk X G a_is_web l_is_web cc_is_web k_is_web fun _ _ _ _ _ _ us hl => match us, hl with | [_], _ => rfl),
    f_sure_web := (fnF_mk X G a_sure_web l_sure_web cc_sure_web k_sure_web fun _ _ _ _ _ _ us hl => match us, hl with | [_], _ => rfl),
    f_full_row := (fnF_mk X G a_full_row l_full_row cc_full_row k_full_row fun _ _ _ _ _ _ us hl => match us, hl with | [_], _ => rfl),
    f_walked_shades := (fnF_mk X G a_walked_shades l_walked_shades cc_walked_shades k_walked_shades fun _ _ _ _ _ _ us hl => match us, hl with | [_, _, _], _ => rfl),
    f_green_path := (fnF_mk X G a_green_path l_green_path cc_green_path k_green_path fun _ _ _ _ _ _ us hl => match us, hl with | [_, _], _ => rfl),
    f_is_full_row := (fnF_mk X G a_is_full_row l_is_full_row cc_is_full_row k_is_full_row fun _ _ _ _ _ _ us hl => match us, hl with | [_, _], _ => rfl),
    f_sure_row := (fnF_mk X G a_sure_row l_sure_row cc_sure_row k_sure_row fun _ _ _ _ _ _ us hl => match us, hl with | [_], _ => rfl),
    f_is_from := (fnF_mk X G a_is_from l_is_from cc_is_from k_is_from fun _ _ _ _ _ _ us hl => match us, hl with | [_, _], _ => rfl),
    f_is_below := (fnF_mk X G a_is_below l_is_below cc_is_below k_is_below fun _ _ _ _ _ _ us hl => match us, hl with | [_, _], _ => rfl),
    f_known_place := (fnF_mk X G a_known_place l_known_place cc_known_place k_known_place fun _ _ _ _ _ _ us hl => match us, hl with | [_, _], _ => rfl),
    f_known_row := (fnF_mk X G a_known_row l_known_row cc_known_row k_known_row fun _ _ _ _ _ _ us hl => match us, hl with | [_, _], _ => rfl),
    f_is_green_row := (fnF_mk X G a_is_green_row l_is_green_row cc_is_green_row k_is_green_row fun _ _ _ _ _ _ us hl => match us, hl with | [_, _], _ => rfl),
    f__law_same := (fnF_mk X G a__law_same l__law_same cc__law_same k__law_same fun _ _ _ _ _ _ us hl => match us, hl with | [_, _], _ => rfl),
    f__law_units := (fnF_mk X G a__law_units l__law_units cc__law_units k__law_units fun _ _ _ _ _ _ us hl => match us, hl with | [_], _ => rfl),
    f__law_greens := (fnF_mk X G a__law_greens l__law_greens cc__law_greens k__law_greens fun _ _ _ _ _ _ us hl => match us, hl with | [_], _ => rfl),
    f__law_hinge := (fnF_mk X G a__law_hinge l__law_hinge cc__law_hinge k__law_hinge fun _ _ _ _ _ _ us hl => match us, hl with | [_, _], _ => rfl),
    f__law_shade := (fnF_mk X G a__law_shade l__law_shade cc__law_shade k__law_shade fun _ _ _ _ _ _ us hl => match us, hl with | [_, _, _], _ => rfl),
    f_law := (fnF_mk X G a_law l_law cc_law k_law fun _ _ _ _ _ _ us hl => match us, hl with | [_], _ => rfl),
    n_abs := (PySem.W.mg_none_of X G n_abs),
    n_all := (PySem.W.mg_none_of X G n_all),
    n_any := (PySem.W.mg_none_of X G n_any),
    n_bool := (PySem.W.mg_none_of X G n_bool),
    n_dict := (PySem.W.mg_none_of X G n_dict),
    n_enumerate := (PySem.W.mg_none_of X G n_enumerate),
    n_int := (PySem.W.mg_none_of X G n_int),
    n_isinstance := (PySem.W.mg_none_of X G n_isinstance),
    n_len := (PySem.W.mg_none_of X G n_len),
    n_list := (PySem.W.mg_none_of X G n_list),
    n_min := (PySem.W.mg_none_of X G n_min),
    n_range := (PySem.W.mg_none_of X G n_range),
    n_set := (PySem.W.mg_none_of X G n_set),
    n_sorted := (PySem.W.mg_none_of X G n_sorted),
    n_str := (PySem.W.mg_none_of X G n_str),
    n_tuple := (PySem.W.mg_none_of X G n_tuple),
    n_zip := (PySem.W.mg_none_of X G n_zip),
    c_MOST_STANDS := (con_i X G u_MOST_STANDS),
    b_gcd := (PySem.W.mg_of X G b_gcd),
    x_Unfit := (exc0_mk X G a_Unfit rfl q_Unfit k_Unfit s_Unfit y_Unfit),
    x_CanNot := (exc0_mk X G a_CanNot rfl q_CanNot k_CanNot s_CanNot y_CanNot),
    x_TooMany := (exc0_mk X G a_TooMany rfl q_TooMany k_TooMany s_TooMany y_TooMany) }
  refine ⟨_, fun s v => ?bb, fun base _ _ SP => (ok_law (zz base SP) (fun_mk l_law cc_law k_law)).imp (spLaw_of LT)⟩
  exact .of_eq rfl
end
end A15
set_option linter.all false
set_option maxRecDepth 10000
namespace A15
open PySem PySem.Spec PyProof.Rows L2 DL
theorem lg (x : Nat) (n : Nat) (h : x < 2 ^ n) (hn : 0 < n) : x.log2 < n := by
  by_cases h0 : x = 0
  · rw [h0]; simpa using hn
  · exact (Nat.log2_lt h0).2 h
theorem szl : sizeLine = 16777216 := sizeLine_eq
theorem eqI (a b : Int) : eqD (.int a) (.int b) = some (a == b) := by
  simp [eqD, toP, SeqAt.shaped, PyData.canLay0, PyData.depth, PyData.eqv]
theorem eqB (a b : Bool) : eqD (.bl a) (.bl b) = some (a == b) := by
  simp [eqD, toP, SeqAt.shaped, PyData.canLay0, PyData.depth, PyData.eqv]
theorem neI (a b : Int) : neD (.int a) (.int b) = some (!(a == b)) := by
  simp [neD, eqI]
def sgn (b : Int) : Int := if 0 < b then 1 else -1
theorem l1 : Nat.log2 1 = 0 := by decide
def Sm (x : Int) : Prop := x.natAbs < 2 ^ 1000
theorem Sm.ok {i j : Int} (h : Sm i) (h2 : Sm j) : i.natAbs.log2 + j.natAbs.log2 < 100000000 := by
  have := lg i.natAbs 1000 h (by decide)
  have := lg j.natAbs 1000 h2 (by decide)
  omega
theorem mulI {i j : Int} {s : S} (h : Sm i) (h2 : Sm j) : mulD (.int i) (.int j) s = .ok (.int (i * j)) s := by
  simp only [mulD]
  rw [if_pos (h.ok h2)]
theorem fdvI {i j : Int} {s : S} (h0 : j ≠ 0) (h : Sm j) : fdivD (.int i) (.int j) s = .ok (.int (i.fdiv j)) s := by
  have := lg j.natAbs 1000 h (by decide)
  simp only [fdivD]
  rw [if_pos ⟨h0, by omega⟩]
theorem modI {i j : Int} {s : S} (h0 : j ≠ 0) : modD (.int i) (.int j) s = .ok (.int (i.fmod j)) s := by
  simp only [modD]
  rw [if_pos h0]
theorem fm_lt (x : Int) {w : Int} (hw : 0 < w) : 0 ≤ x.fmod w ∧ x.fmod w < w := ⟨Int.fmod_nonneg_of_pos x hw, Int.fmod_lt_of_pos x hw⟩
def TinR (q : List Cell) (k : Nat) (m : List Cell) : Prop := ∃ a b c : Int, m = .lst [.int a, .int b, .int c] :: q ∧ 0 ≤ a ∧ 0 ≤ b ∧ b < 2 ^ 62 ∧ 0 ≤ c ∧ c ≤ k
theorem jx0 (a b c : Int) (q : List Cell) (r : List (Option D)) : ixD (.ref 0) (.int 0) ⟨r, .lst [.int a, .int b, .int c] :: q⟩ = .ok (.int a) ⟨r, .lst [.int a, .int b, .int c] :: q⟩ := rfl
theorem jx1 (a b c : Int) (q : List Cell) (r : List (Option D)) : ixD (.ref 0) (.int 1) ⟨r, .lst [.int a, .int b, .int c] :: q⟩ = .ok (.int b) ⟨r, .lst [.int a, .int b, .int c] :: q⟩ := rfl
theorem jx2 (a b c : Int) (q : List Cell) (r : List (Option D)) : ixD (.ref 0) (.int 2) ⟨r, .lst [.int a, .int b, .int c] :: q⟩ = .ok (.int c) ⟨r, .lst [.int a, .int b, .int c] :: q⟩ := rfl
theorem e_takeR {q0 : List Cell} {k : Nat} (hk : k < 1000000) {m : List Cell} (h : TinR q0 k m) {w : Int} (hw : 0 < w) (hw2 : w < 2 ^ 900) : ∃ r m', m__law_take [.ref 0, .int w] m = .ok (.int r) m' ∧ 0 ≤ r ∧ r < w ∧ TinR q0 (k + 1) m' := by
  obtain ⟨a, b, c, rfl, ha, hb, hb2, hc, hc2⟩ := h
  have w0 : w ≠ 0 := by omega
  have sw : Sm w := by unfold Sm; omega
  by_cases hp : 0 < a
  · refine ⟨a.fmod w, .lst [.int (a.fdiv w), .int b, .int c] :: q0, ?_, (fm_lt a hw).1, (fm_lt a hw).2, ⟨_, _, _, rfl, ?_, hb, hb2, hc, by omega⟩⟩
    · have x1 : ixN 3 0 = some 0 := by decide
      simp [m__law_take, q__law_take, mkF, sNil, sSeq, sAsg, sAsgF, sAsgC, sPar, sPar3, sIf, sRet, sFor, forL, sSetM, sSetI, sApp, sExt, sDrop, sRaise, sTry, hSay, hNil, Ex.ix, e1, e2, eBi, eIf, eVar, eC, eTup, eLst, eSl, slD, pNone, pSome, eLc, lcL, wipeD, Tg.vs, tYesS, aCons, aNil, t2, tTru, truB, truD, tNotS, tAndS, tOrS, eAndB, eOrB, eNotB, eOrV, cmpB, cmpD, iCmp, R.then, R.bind, asgD, DL.setL, addD, subD, negD, absD, DL.intD, mLst, lenD, listD, tupleD, allD, blsD, isiD, isi2D, isTy, isND, notND, DL.isNon, ltB_eq, eCallN, eCallV, callR, iN, i1, rng1I, seqI, gcdD, augD, sAug, jx0, jx1, jx2, hp, modI w0, fdvI w0 sw, x1]
    · rw [Int.fdiv_eq_ediv_of_nonneg _ (by omega)]
      exact Int.ediv_nonneg ha (by omega)
  · have x1 : ixN 3 2 = some 2 := by decide
    have sc : Sm (c + 1) := by unfold Sm; omega
    have s1 : Sm (b + 48271 * (c + 1)) := by unfold Sm; omega
    have s2 : Sm (40961 + (c + 1)) := by unfold Sm; omega
    have s3 : Sm 48271 := by unfold Sm; decide
    have s7 : Sm 1000003 := by unfold Sm; decide
    have s8 : Sm 64 := by unfold Sm; decide
    obtain ⟨o, ho⟩ : ∃ o, o = ((b + 48271 * (c + 1)) * (40961 + (c + 1))).fmod 2147483647 := ⟨_, rfl⟩
    have o1 := fm_lt ((b + 48271 * (c + 1)) * (40961 + (c + 1))) (w := 2147483647) (by decide)
    rw [← ho] at o1
    obtain ⟨v, hv⟩ : ∃ v, v = o.fmod 40009 + 7 := ⟨_, rfl⟩
    have v1 := fm_lt o (w := 40009) (by decide)
    obtain ⟨q, hq⟩ : ∃ q, q = b.fdiv 1000003 := ⟨_, rfl⟩
    have q1 : 0 ≤ q ∧ q ≤ b := by
      rw [hq, Int.fdiv_eq_ediv_of_nonneg _ (by decide)]
      omega
    have s4 : Sm (o + (c + 1) + q) := by unfold Sm; omega
    have s5 : Sm v := by unfold Sm; omega
    obtain ⟨t, ht⟩ : ∃ t, t = ((o + (c + 1) + q) * v).fmod 2147483629 := ⟨_, rfl⟩
    have t1 := fm_lt ((o + (c + 1) + q) * v) (w := 2147483629) (by decide)
    rw [← ht] at t1
    have s6 : Sm t := by unfold Sm; omega
    refine ⟨(((t * 48271 + o).fmod 2147483587).fdiv 64).fmod w, .lst [.int a, .int b, .int (c + 1)] :: q0, ?_, (fm_lt _ hw).1, (fm_lt _ hw).2, ⟨_, _, _, rfl, ha, hb, hb2, by omega, by omega⟩⟩
    simp [m__law_take, q__law_take, mkF, sNil, sSeq, sAsg, sAsgF, sAsgC, sPar, sPar3, sIf, sRet, sFor, forL, sSetM, sSetI, sApp, sExt, sDrop, sRaise, sTry, hSay, hNil, Ex.ix, e1, e2, eBi, eIf, eVar, eC, eTup, eLst, eSl, slD, pNone, pSome, eLc, lcL, wipeD, Tg.vs, tYesS, aCons, aNil, t2, tTru, truB, truD, tNotS, tAndS, tOrS, eAndB, eOrB, eNotB, eOrV, cmpB, cmpD, iCmp, R.then, R.bind, asgD, DL.setL, addD, subD, negD, absD, DL.intD, mLst, lenD, listD, tupleD, allD, blsD, isiD, isi2D, isTy, isND, notND, DL.isNon, ltB_eq, eCallN, eCallV, callR, iN, i1, rng1I, seqI, gcdD, augD, sAug, jx0, jx1, jx2, hp, x1, modI w0, modI (show (2147483647 : Int) ≠ 0 by decide), modI (show (40009 : Int) ≠ 0 by decide), modI (show (2147483629 : Int) ≠ 0 by decide), modI (show (2147483587 : Int) ≠ 0 by decide), mulI s3 sc, mulI s1 s2, ← ho, ← hv, fdvI (show (1000003 : Int) ≠ 0 by decide) s7, ← hq, mulI s4 s5, ← ht, mulI s6 s3, fdvI (show (64 : Int) ≠ 0 by decide) s8]
theorem seq_nx {f g : S → RS} {s s' : S} (h : f s = .next s') : sSeq f g s = g s' := by
  unfold sSeq
  rw [h]
theorem mulK {a b : Int} {j k : Nat} {s : S} (h1 : a.natAbs < 2 ^ j) (h2 : b.natAbs < 2 ^ k) (hj : j < 9000) (hk : k < 9000) : mulD (.int a) (.int b) s = .ok (.int (a * b)) s := by
  have l1 := lg a.natAbs (j + 1) (Nat.lt_of_lt_of_le h1 (Nat.pow_le_pow_right (by decide) (by omega))) (by omega)
  have l2 := lg b.natAbs (k + 1) (Nat.lt_of_lt_of_le h2 (Nat.pow_le_pow_right (by decide) (by omega))) (by omega)
  simp only [mulD]
  rw [if_pos (by omega)]
theorem rngS (n : Nat) (s : S) (h : n < 2 ^ 62) : rng1I [.int n] s = .ok (rngL 0 n) s := by
  unfold rng1I
  simp only
  rw [if_pos (show (n : Int).natAbs < 2 ^ 62 by omega)]
  rfl
abbrev Q2 := Int × Int
def lo (a b : Int) : Q2 := (a.fdiv (Nat.gcd a.natAbs b.natAbs * sgn b), b.fdiv (Nat.gcd a.natAbs b.natAbs * sgn b))
/-- a fraction above nought of some size -/
structure PF (k : Nat) (x : Q2) : Prop where
  n : 0 < x.1
  d : 0 < x.2
  c : Nat.gcd x.1.natAbs x.2.natAbs = 1
  s1 : x.1.natAbs < 2 ^ k
  s2 : x.2.natAbs < 2 ^ k
/-- lo, for numbers above nought -/
theorem lo_pos {a b : Int} (ha : 0 < a) (hb : 0 < b) : ∃ (g p q : Nat), 0 < g ∧ 0 < p ∧ 0 < q ∧ a = (g * p : Nat) ∧ b = (g * q : Nat) ∧ Nat.gcd p q = 1 ∧ lo a b = ((p : Int), (q : Int)) := by
  obtain ⟨m, rfl⟩ : ∃ m : Nat, a = m := ⟨a.toNat, by omega⟩
  obtain ⟨n, rfl⟩ : ∃ n : Nat, b = n := ⟨b.toNat, by omega⟩
  have hg : 0 < Nat.gcd m n := Nat.gcd_pos_of_pos_left _ (by omega)
  obtain ⟨p, hp⟩ := Nat.gcd_dvd_left m n
  obtain ⟨q, hq⟩ := Nat.gcd_dvd_right m n
  refine ⟨Nat.gcd m n, p, q, hg, ?_, ?_, by rw [← hp], by rw [← hq], ?_, ?_⟩
  · rcases Nat.eq_zero_or_pos p with h | h
    · rw [h] at hp; omega
    · exact h
  · rcases Nat.eq_zero_or_pos q with h | h
    · rw [h] at hq; omega
    · exact h
  · have e := Nat.gcd_mul_left (Nat.gcd m n) p q
    rw [← hp, ← hq] at e
    exact Nat.eq_of_mul_eq_mul_left hg (by omega)
  · have s : sgn (n : Int) = 1 := if_pos hb
    unfold lo
    rw [s, Int.mul_one, Int.natAbs_natCast, Int.natAbs_natCast]
    have d : ∀ k r : Nat, k = Nat.gcd m n * r → (k : Int).fdiv (Nat.gcd m n : Nat) = (r : Int) := by
      intro k r h
      rw [Int.fdiv_eq_ediv_of_nonneg _ (by omega)]
      rw [h, Int.natCast_mul]
      exact Int.mul_ediv_cancel_left _ (by omega)
    rw [d m p hp, d n q hq]
def val (x : Q2) : Rat := (x.1 : Rat) / (x.2 : Rat)
theorem ne_cast {n : Int} (h : 0 < n) : (n : Rat) ≠ 0 := by
  intro z
  have : (n : Rat) = ((0 : Int) : Rat) := z
  have := Rat.intCast_inj.1 this
  omega
theorem lo_val {a b : Int} (ha : 0 < a) (hb : 0 < b) : val (lo a b) = (a : Rat) / (b : Rat) := by
  obtain ⟨g, p, q, hg, hp, hq, ea, eb, c, e⟩ := lo_pos ha hb
  rw [e, ea, eb]
  unfold val
  simp only [Int.natCast_mul, Rat.intCast_mul]
  have h1 : ((g : Int) : Rat) ≠ 0 := ne_cast (by omega)
  have h2 : ((q : Int) : Rat) ≠ 0 := ne_cast (by omega)
  grind
theorem val_inj {j k : Nat} {x y : Q2} (hx : PF j x) (hy : PF k y) (h : val x = val y) : x = y := by
  unfold val at h
  have h1 := ne_cast hx.d
  have h2 := ne_cast hy.d
  have h3 : (x.1 : Rat) * (y.2 : Rat) = (y.1 : Rat) * (x.2 : Rat) := by grind
  rw [← Rat.intCast_mul, ← Rat.intCast_mul] at h3
  have h4 := Rat.intCast_inj.1 h3
  obtain ⟨x1, x2⟩ := x
  obtain ⟨y1, y2⟩ := y
  have a1 := hx.n
  have a2 := hx.d
  have a3 := hy.n
  have a4 := hy.d
  have c1 := hx.c
  have c2 := hy.c
  simp only at h4 a1 a2 a3 a4 c1 c2
  obtain ⟨m, rfl⟩ : ∃ m : Nat, x1 = m := ⟨x1.toNat, by omega⟩
  obtain ⟨n, rfl⟩ : ∃ n : Nat, x2 = n := ⟨x2.toNat, by omega⟩
  obtain ⟨r, rfl⟩ : ∃ m : Nat, y1 = m := ⟨y1.toNat, by omega⟩
  obtain ⟨s, rfl⟩ : ∃ n : Nat, y2 = n := ⟨y2.toNat, by omega⟩
  simp only [Int.natAbs_natCast] at c1 c2
  rw [← Int.natCast_mul, ← Int.natCast_mul] at h4
  have h5 : m * s = r * n := by exact_mod_cast h4
  have d1 : m ∣ r := Nat.Coprime.dvd_of_dvd_mul_right (k := m) (n := n) (m := r) c1 (by rw [← h5]; exact Nat.dvd_mul_right _ _)
  have d2 : r ∣ m := Nat.Coprime.dvd_of_dvd_mul_right (k := r) (n := s) (m := m) c2 (by rw [h5]; exact Nat.dvd_mul_right _ _)
  have e1' : m = r := Nat.dvd_antisymm d1 d2
  subst e1'
  have e2' : s = n := Nat.eq_of_mul_eq_mul_left (by omega) h5
  rw [e2']
abbrev Web := List (List Int)
def WD (w : Web) : D := .tup (w.map fun r => .tup (r.map D.int))
theorem atN {α : Type} (xs : List α) (p : Nat) (h : p < xs.length) : L2.atI xs (p : Int) = xs[p]? := by
  unfold L2.atI L2.ixN
  rw [if_pos (by omega)]
  simp [h]
theorem ixl (xs : List D) (i : Int) (s : S) : ixD (.lst xs) (.int i) s = match L2.atI xs i with
  | some d => .ok d s
  | none => .stuck := rfl
theorem ixt (xs : List D) (i : Int) (s : S) : ixD (.tup xs) (.int i) s = match L2.atI xs i with
  | some d => .ok d s
  | none => .stuck := rfl
theorem ixrow (r : List Int) (p : Nat) (h : p < r.length) (s : S) : ixD (.tup (r.map D.int)) (.int p) s = .ok (.int (r.getD p 0)) s := by
  rw [ixt, atN _ _ (by simpa using h)]
  simp [h]
theorem neB (a b : Bool) : neD (.bl a) (.bl b) = some (!(a == b)) := by
  simp [neD, eqB]
def isOkM : R D → D → List Cell → Prop
  | .ok d s, d', m => d = d' ∧ s.m = m
  | _, _, _ => False
theorem lc_map {α : Type} (i : Nat) (f : S → R D) (r : List (Option D)) (m : List Cell) (g h : α → D) : ∀ l : List α, (∀ x ∈ l, isOkM (f ⟨(r.set i none).set i (some (g x)), m⟩) (h x) m) → lcL (.one i) tYesS f r (l.map g) m = some (l.map h, m)
  | [], _ => rfl
  | x :: l, hx => by
    have hx0 := hx x (by simp)
    have ih := lc_map i f r m g h l fun y hy => hx y (List.mem_cons_of_mem _ hy)
    rw [List.map_cons, lcL]
    simp only [asgD, Tg.vs, wipeD, tYesS]
    cases q : f ⟨(r.set i none).set i (some (g x)), m⟩ with
    | ok d s' =>
      rw [q] at hx0
      obtain ⟨e, em⟩ := hx0
      simp only [e, em, ih, List.map_cons]
    | raise e s => rw [q] at hx0; exact hx0.elim
    | stuck => rw [q] at hx0; exact hx0.elim
theorem all_tt {α : Type} (xs : List α) : blsD (xs.map fun _ => D.bl true) = some (xs.map fun _ => true) := by
  induction xs with
  | nil => rfl
  | cons x xs ih => simp [blsD, ih]
theorem rngL_succ (j : Int) (n : Nat) : rngL j (n + 1) = .int j :: rngL (j + 1) n := by
  unfold rngL
  rw [List.range_succ_eq_map, List.map_cons, List.map_map]
  congr 1
  · simp
  · apply List.map_congr_left
    intro i _
    simp only [Function.comp, Nat.succ_eq_add_one]
    congr 1
    omega
end A15
set_option linter.all false
set_option maxRecDepth 10000
namespace A15
open PySem PySem.Spec PyProof.Rows L2 DL
def nbL : List Int → Nat → List Nat
  | [], _ => []
  | x :: r, i => if x = 0 then nbL r (i + 1) else i :: nbL r (i + 1)
def rowW (w : Web) (p : Nat) : List Int := w.getD p []
def nb (w : Web) (p : Nat) : List Nat := nbL (rowW w p) 0
def nI (q : Nat) : D := .int (q : Int)
def nD (l : List Nat) : List D := l.map nI
theorem ixW {w : Web} {p : Nat} (h : p < w.length) (s : S) : ixD (WD w) (.int p) s = .ok (.tup ((rowW w p).map D.int)) s := by
  unfold WD rowW
  rw [ixt, atN _ _ (by simpa using h)]
  simp [h]
theorem lc_bes {v0 v1 : Option D} {m : List Cell} : ∀ (r : List Int) (i : Nat) (o2 o3 : Option D), lcL (.many [2, 3]) (t2 (cmpB neD) (eVar 3) (eC (.int 0))) (eVar 2) [v0, v1, o2, o3] (((r.map D.int).zipIdx i).map fun p => D.tup [.int (p.2 : Int), p.1]) m = some (nD (nbL r i), m)
  | [], i, o2, o3 => rfl
  | x :: r, i, o2, o3 => by
    have ih := lc_bes (v0 := v0) (v1 := v1) (m := m) r (i + 1) o2 o3
    rw [List.map_cons, List.zipIdx_cons, List.map_cons, lcL, nbL]
    by_cases h : x = 0
    · subst h
      simp [mkF, sNil, sSeq, sAsg, sAsgF, sAsgC, sPar, sPar3, sIf, sRet, sFor, forL, sSetM, sSetI, sApp, sExt, sDrop, sRaise, sTry, hSay, hNil, Ex.ix, e1, e2, eBi, eIf, eVar, eC, eTup, eLst, eSl, slD, pNone, pSome, eLc, lcL, wipeD, Tg.vs, tYesS, aCons, aNil, t2, tTru, truB, truD, tNotS, tAndS, tOrS, eAndB, eOrB, eNotB, eOrV, cmpB, cmpD, iCmp, R.then, R.bind, asgD, DL.setL, addD, subD, negD, absD, DL.intD, mLst, lenD, listD, tupleD, allD, blsD, isiD, isi2D, isTy, isND, notND, DL.isNon, ltB_eq, eCallN, eCallV, callR, iN, i1, rng1I, seqI, gcdD, augD, sAug, neI] at ih ⊢
      exact ih
    · have hb : (x == 0) = false := by simpa using h
      rw [if_neg h]
      simp [mkF, sNil, sSeq, sAsg, sAsgF, sAsgC, sPar, sPar3, sIf, sRet, sFor, forL, sSetM, sSetI, sApp, sExt, sDrop, sRaise, sTry, hSay, hNil, Ex.ix, e1, e2, eBi, eIf, eVar, eC, eTup, eLst, eSl, slD, pNone, pSome, eLc, lcL, wipeD, Tg.vs, tYesS, aCons, aNil, t2, tTru, truB, truD, tNotS, tAndS, tOrS, eAndB, eOrB, eNotB, eOrV, cmpB, cmpD, iCmp, R.then, R.bind, asgD, DL.setL, addD, subD, negD, absD, DL.intD, mLst, lenD, listD, tupleD, allD, blsD, isiD, isi2D, isTy, isND, notND, DL.isNon, ltB_eq, eCallN, eCallV, callR, iN, i1, rng1I, seqI, gcdD, augD, sAug, neI, hb] at ih ⊢
      rw [ih]
      rfl
theorem e_beside {w : Web} {p : Nat} (m : List Cell) (h : p < w.length) (hr : (rowW w p).length ≤ 1000) : m_beside [WD w, .int p] m = .ok (.lst (nD (nb w p))) m := by
  have e := lc_bes (v0 := some (WD w)) (v1 := some (.int p)) (m := m) (rowW w p) 0 none none
  have hi := ixW h
  have hz : (enumL ((rowW w p).map D.int)).length ≤ sizeLine := by rw [szl]; simp [enumL]; omega
  obtain ⟨C, hC⟩ : ∃ C, C = t2 (cmpB neD) (eVar 3) (eC (.int 0)) := ⟨_, rfl⟩
  obtain ⟨G, hG⟩ : ∃ G : S → R D, G = eVar 2 := ⟨_, rfl⟩
  rw [← hC, ← hG] at e
  unfold m_beside q_beside
  rw [← hC, ← hG]
  have e' : lcL (.many [2, 3]) C G [some (WD w), some (.int p), none, none] (enumL ((rowW w p).map D.int)) m = some (nD (nb w p), m) := e
  simp [mkF, sRet, eLc, iEnumB, tupAt, iN, aCons, aNil, e2, eVar, R.bind, R.then, hi, enumTI, hz, e']
/-! membership among numbers -/
theorem toPs_n : ∀ l : List Nat, toPs (nD l) = some (l.map fun q : Nat => PyData.int (q : Int))
  | [] => rfl
  | q :: l => by
    have := toPs_n l
    simp only [nD, List.map_cons] at this ⊢
    simp [toPs, nI, toP, this]
theorem lay_n : ∀ l : List Nat, PyData.canLayAll0 (l.map fun q : Nat => PyData.int (q : Int)) = true
  | [] => rfl
  | q :: l => by
    rw [List.map_cons]
    simp [PyData.canLayAll0, PyData.canLay0, lay_n l]
theorem dep_n : ∀ l : List Nat, PyData.depthAll (l.map fun q : Nat => PyData.int (q : Int)) ≤ 1
  | [] => by simp [PyData.depthAll]
  | q :: l => by
    have := dep_n l
    rw [List.map_cons]
    simp only [PyData.depthAll, PyData.depth]
    omega
theorem any_n (q : Nat) : ∀ l : List Nat, ((l.map fun q : Nat => PyData.int (q : Int)).any fun z => PyData.eqv z (.int (q : Int))) = l.contains q
  | [] => rfl
  | k :: l => by
    rw [List.map_cons, List.any_cons, any_n q l, List.contains_cons]
    congr 1
    simp only [PyData.eqv]
    by_cases h : k = q
    · subst h; simp
    · have h2 : ((k : Int) == (q : Int)) = false := by simp; omega
      have h3 : (q == k) = false := by simp; omega
      rw [h2, h3]
theorem notin_n (q : Nat) (l : List Nat) : notinD (nI q) (.lst (nD l)) = some (!l.contains q) := by
  have h1 : toP (.lst (nD l)) = some (.list (l.map fun q : Nat => PyData.int (q : Int))) := by
    simp [toP, toPs_n]
  have h2 : SeqAt.shaped (.list (l.map fun q : Nat => PyData.int (q : Int))) = true := by
    have := dep_n l
    simp [SeqAt.shaped, PyData.canLay0, PyData.depth, lay_n]
    omega
  have h3 : SeqAt.shaped (.int (q : Int)) = true := by
    simp [SeqAt.shaped, PyData.canLay0, PyData.depth]
  have h0 : toP (nI q) = some (.int (q : Int)) := rfl
  unfold notinD inD
  rw [h0, h1]
  simp only [h2, h3, Bool.and_self, if_true, Option.map_some, any_n]
theorem lc_filt {α : Type} (i : Nat) (C : S → R Bool) (F : S → R D) (r : List (Option D)) (m : List Cell) (g h : α → D) (c : α → Bool) : ∀ l : List α, (∀ x ∈ l, C ⟨(r.set i none).set i (some (g x)), m⟩ = .ok (c x) ⟨(r.set i none).set i (some (g x)), m⟩ ∧ isOkM (F ⟨(r.set i none).set i (some (g x)), m⟩) (h x) m) → lcL (.one i) C F r (l.map g) m = some ((l.filter c).map h, m)
  | [], _ => rfl
  | x :: l, hx => by
    obtain ⟨hc, hf⟩ := hx x (by simp)
    have ih := lc_filt i C F r m g h c l fun y hy => hx y (List.mem_cons_of_mem _ hy)
    rw [List.map_cons, lcL]
    simp only [asgD, Tg.vs, wipeD, hc]
    cases hcx : c x with
    | false => simp only [ih, List.filter_cons, hcx, Bool.false_eq_true, if_false]
    | true =>
      cases q : F ⟨(r.set i none).set i (some (g x)), m⟩ with
      | ok d s' =>
        rw [q] at hf
        obtain ⟨e, em⟩ := hf
        simp only [q, e, em, ih, List.filter_cons, hcx, if_true, List.map_cons]
      | raise e s => rw [q] at hf; exact hf.elim
      | stuck => rw [q] at hf; exact hf.elim
/-! the part of a place -/
structure Tab (w : Web) : Prop where
  n1 : w.length ≤ 60
  rl : ∀ r ∈ w, r.length = w.length
theorem Tab.row {w : Web} (h : Tab w) {p : Nat} (hp : p < w.length) : (rowW w p).length = w.length := by
  unfold rowW
  rw [List.getD_eq_getElem?_getD, List.getElem?_eq_getElem hp]
  exact h.rl _ (List.getElem_mem hp)
theorem nbL_mem : ∀ (r : List Int) (i q : Nat), q ∈ nbL r i ↔ i ≤ q ∧ q < i + r.length ∧ r.getD (q - i) 0 ≠ 0
  | [], i, q => by simp [nbL]
  | x :: r, i, q => by
    rw [nbL]
    have ih := nbL_mem r (i + 1) q
    have key : q ∈ nbL r (i + 1) ↔ i < q ∧ q < i + (x :: r).length ∧ (x :: r).getD (q - i) 0 ≠ 0 := by
      rw [ih]
      by_cases h : i < q
      · obtain ⟨k, hk⟩ : ∃ k, q - i = k + 1 := ⟨q - i - 1, by omega⟩
        rw [hk, show q - (i + 1) = k by omega]
        simp only [List.length_cons, List.getD_cons_succ]
        constructor <;> intro ⟨a, b, c⟩ <;> exact ⟨by omega, by omega, c⟩
      · constructor <;> intro ⟨a, b, c⟩ <;> omega
    split
    · rename_i hx
      rw [key]
      constructor
      · intro ⟨a, b, c⟩
        exact ⟨by omega, b, c⟩
      · intro ⟨a, b, c⟩
        refine ⟨?_, b, c⟩
        rcases Nat.lt_or_ge i q with h | h
        · exact h
        · have : q = i := by omega
          subst this
          rw [Nat.sub_self] at c
          exact absurd hx c
    · rename_i hx
      rw [List.mem_cons, key]
      constructor
      · rintro (rfl | ⟨a, b, c⟩)
        · exact ⟨Nat.le_refl _, by simp, by rw [Nat.sub_self]; exact hx⟩
        · exact ⟨by omega, b, c⟩
      · intro ⟨a, b, c⟩
        rcases Nat.lt_or_ge i q with h | h
        · exact .inr ⟨h, b, c⟩
        · exact .inl (by omega)
def bW (w : Web) (i j : Nat) : Int := (rowW w i).getD j 0
theorem nb_mem {w : Web} (h : Tab w) {p q : Nat} (hp : p < w.length) : q ∈ nb w p ↔ q < w.length ∧ bW w p q ≠ 0 := by
  unfold nb bW
  rw [nbL_mem, h.row hp]
  simp
theorem nbL_nodup : ∀ (r : List Int) (i : Nat), (nbL r i).Nodup
  | [], i => List.nodup_nil
  | x :: r, i => by
    rw [nbL]
    split
    · exact nbL_nodup r (i + 1)
    · rw [List.nodup_cons]
      refine ⟨fun h => ?_, nbL_nodup r (i + 1)⟩
      have := (nbL_mem r (i + 1) i).1 h
      omega
structure PInv (w : Web) (f : Nat) (P : List Nat) : Prop where
  nd : P.Nodup
  lt : ∀ q ∈ P, q < w.length
  hd : ∃ tl, P = f :: tl
  gd : ∀ pre x post, P = pre ++ x :: post → pre = [] ∨ ∃ y ∈ pre, x ∈ nb w y
theorem nodup_len : ∀ (n : Nat) (P : List Nat), P.Nodup → (∀ q ∈ P, q < n) → P.length ≤ n := by
  intro n
  induction n with
  | zero =>
    intro P _ h
    cases P with
    | nil => simp
    | cons q P => exact absurd (h q (by simp)) (by omega)
  | succ n ih =>
    intro P hn h
    by_cases hm : n ∈ P
    · have h1 := ih (P.erase n) (hn.erase n) fun q hq => by
        have h2 := h q (List.mem_of_mem_erase hq)
        have h3 : q ≠ n := fun e => by
          rw [e] at hq
          exact (hn.mem_erase_iff.1 hq).1 rfl
        omega
      rw [List.length_erase_of_mem hm] at h1
      omega
    · exact Nat.le_succ_of_le (ih P hn fun q hq => by
        have h2 := h q hq
        have h3 : q ≠ n := fun e => hm (by rw [← e]; exact hq)
        omega)
theorem PInv.grow {w : Web} (ht : Tab w) {f : Nat} {P : List Nat} (h : PInv w f P) {y : Nat} (hy : y ∈ P) : PInv w f (P ++ (nb w y).filter fun q => !P.contains q) := by
  have hyl := h.lt y hy
  refine ⟨?_, fun q hq => ?_, ?_, fun pre x post e => ?_⟩
  · rw [List.nodup_append]
    refine ⟨h.nd, (nbL_nodup _ _).filter _, fun a ha b hb e => ?_⟩
    have := (List.mem_filter.1 hb).2
    rw [← e] at this
    simp [ha] at this
  · rcases List.mem_append.1 hq with hq | hq
    · exact h.lt q hq
    · exact ((nb_mem ht hyl).1 (List.mem_filter.1 hq).1).1
  · obtain ⟨tl, e⟩ := h.hd
    exact ⟨tl ++ (nb w y).filter fun q => !P.contains q, by rw [e]; rfl⟩
  · rcases Nat.lt_or_ge pre.length P.length with hl | hl
    · have e2 : P = pre ++ x :: post.take (P.length - pre.length - 1) := by
        have := congrArg (List.take P.length) e
        rw [List.take_left' rfl, List.take_append, List.take_of_length_le (by omega)] at this
        obtain ⟨k, hk⟩ : ∃ k, P.length - pre.length = k + 1 := ⟨P.length - pre.length - 1, by omega⟩
        rw [hk, List.take_succ_cons] at this
        rw [hk, show k + 1 - 1 = k by omega]
        exact this
      exact h.gd pre x _ e2
    · right
      have e2 : x ∈ (nb w y).filter fun q => !P.contains q := by
        have := congrArg (List.drop P.length) e
        rw [List.drop_left' rfl, List.drop_append_of_le_length hl] at this
        rw [this]
        simp
      refine ⟨y, ?_, (List.mem_filter.1 e2).1⟩
      have := congrArg (List.take P.length) e
      rw [List.take_left' rfl, List.take_append_of_le_length hl] at this
      rw [this] at hy
      exact List.mem_of_mem_take hy
end A15
set_option linter.all false
set_option maxRecDepth 10000
namespace A15
open PySem PySem.Spec PyProof.Rows L2 DL
theorem nD_len (l : List Nat) : (nD l).length = l.length := by simp [nD]
theorem pf_step {w : Web} (ht : Tab w) {P : List Nat} {at_ y : Nat} (hy : P[at_]? = some y) (hyl : y < w.length) (hz : P.length ≤ 60) {v1 o4 : Option D} {m : List Cell} :
    q_part_from_b1 ⟨[some (WD w), v1, some (.lst (nD P)), some (.int (at_ : Nat)), o4], m⟩ = .next ⟨[some (WD w), v1, some (.lst (nD (P ++ (nb w y).filter fun q => !P.contains q))), some (.int (at_ + 1 : Nat)), o4], m⟩ := by
  have hr := ht.row hyl
  have h60 := ht.n1
  have eb := fun m => e_beside (w := w) m hyl (by omega)
  have hix : ∀ st, ixD (.lst (nD P)) (.int (at_ : Nat)) st = .ok (.int (y : Nat)) st := fun st => by
    rw [ixl, atN _ _ (by rw [nD_len]; exact (List.getElem?_eq_some_iff.1 hy).1)]
    simp [nD, hy, nI]
  have ef := lc_filt 4 (t2 (cmpB notinD) (eVar 4) (eVar 2)) (eVar 4) [some (WD w), v1, some (.lst (nD P)), some (.int (at_ : Nat)), o4] m nI nI (fun q => !P.contains q) (nb w y) fun q _ => by
    have := notin_n q P
    refine ⟨?_, ?_⟩
    · simp [mkF, sNil, sSeq, sAsg, sAsgF, sAsgC, sPar, sPar3, sIf, sRet, sFor, forL, sSetM, sSetI, sApp, sExt, sDrop, sRaise, sTry, hSay, hNil, Ex.ix, e1, e2, eBi, eIf, eVar, eC, eTup, eLst, eSl, slD, pNone, pSome, eLc, lcL, wipeD, Tg.vs, tYesS, aCons, aNil, t2, tTru, truB, truD, tNotS, tAndS, tOrS, eAndB, eOrB, eNotB, eOrV, cmpB, cmpD, iCmp, R.then, R.bind, asgD, DL.setL, addD, subD, negD, absD, DL.intD, mLst, lenD, listD, tupleD, allD, blsD, isiD, isi2D, isTy, isND, notND, DL.isNon, ltB_eq, eCallN, eCallV, callR, iN, i1, rng1I, seqI, gcdD, augD, sAug, this]
    · simp [isOkM, mkF, sNil, sSeq, sAsg, sAsgF, sAsgC, sPar, sPar3, sIf, sRet, sFor, forL, sSetM, sSetI, sApp, sExt, sDrop, sRaise, sTry, hSay, hNil, Ex.ix, e1, e2, eBi, eIf, eVar, eC, eTup, eLst, eSl, slD, pNone, pSome, eLc, lcL, wipeD, Tg.vs, tYesS, aCons, aNil, t2, tTru, truB, truD, tNotS, tAndS, tOrS, eAndB, eOrB, eNotB, eOrV, cmpB, cmpD, iCmp, R.then, R.bind, asgD, DL.setL, addD, subD, negD, absD, DL.intD, mLst, lenD, listD, tupleD, allD, blsD, isiD, isi2D, isTy, isND, notND, DL.isNon, ltB_eq, eCallN, eCallV, callR, iN, i1, rng1I, seqI, gcdD, augD, sAug]
  have hnl : (nb w y).length ≤ 60 := by
    have := nodup_len w.length (nb w y) (nbL_nodup _ _) fun q hq => ((nb_mem ht hyl).1 hq).1
    omega
  have hz1 : (nD (nb w y)).length ≤ sizeLine := by rw [szl, nD_len]; omega
  have hfl := List.length_filter_le (fun q => !P.contains q) (nb w y)
  have hz2 : (nD P).length + (((nb w y).filter fun q => !P.contains q).map nI).length ≤ sizeLine := by rw [szl, nD_len, List.length_map]; omega
  have happ : nD P ++ ((nb w y).filter fun q => !P.contains q).map nI = nD (P ++ (nb w y).filter fun q => !P.contains q) := by simp [nD]
  obtain ⟨C, hC⟩ : ∃ C, C = t2 (cmpB notinD) (eVar 4) (eVar 2) := ⟨_, rfl⟩
  obtain ⟨G, hG⟩ : ∃ G : S → R D, G = eVar 4 := ⟨_, rfl⟩
  rw [← hC, ← hG] at ef
  obtain ⟨FL, hFL⟩ : ∃ FL, FL = ((nb w y).filter fun q => !P.contains q).map nI := ⟨_, rfl⟩
  rw [← hFL] at ef hz2 happ
  obtain ⟨PD, hPD⟩ : ∃ PD, PD = nD P := ⟨_, rfl⟩
  rw [← hPD] at ef hz2 happ hix ⊢
  unfold q_part_from_b1
  rw [← hC, ← hG]
  have ef' : lcL (.one 4) C G [some (WD w), v1, some (.lst PD), some (.int (at_ : Nat)), o4] (nD (nb w y)) m = some (FL, m) := ef
  simp [sSeq, sAsg, asgD, sAug, e2, eVar, eC, R.bind, R.then, eLc, i1, eCallN, callR, aCons, aNil, seqI, hix, eb, hz1, ef', addD, hz2, happ, augD]
theorem pf_loop {w : Web} (ht : Tab w) {f : Nat} {v1 : Option D} {m : List Cell} : ∀ (k : Nat) (P : List Nat) (at_ : Nat) (o4 : Option D), PInv w f P → at_ ≤ P.length → w.length - at_ < k → (∀ j, j < at_ → ∀ y, P[j]? = some y → ∀ q ∈ nb w y, q ∈ P) →
    ∃ P' o4', whileL (t2 (cmpB (iCmp ltB)) (eVar 3) (e1 lenD (eVar 2))) q_part_from_b1 k ⟨[some (WD w), v1, some (.lst (nD P)), some (.int (at_ : Nat)), o4], m⟩ = .next ⟨[some (WD w), v1, some (.lst (nD P')), some (.int (P'.length : Nat)), o4'], m⟩ ∧ PInv w f P' ∧ ∀ y ∈ P', ∀ q ∈ nb w y, q ∈ P' := by
  intro k
  induction k with
  | zero => intro P at_ o4 _ _ h _; omega
  | succ k ih =>
    intro P at_ o4 hI ha hk hcl
    have hlen := nodup_len w.length P hI.nd hI.lt
    have h60 := ht.n1
    rw [whileL]
    have ec : t2 (cmpB (iCmp ltB)) (eVar 3) (e1 lenD (eVar 2)) ⟨[some (WD w), v1, some (.lst (nD P)), some (.int (at_ : Nat)), o4], m⟩ = .ok (decide (at_ < P.length)) ⟨[some (WD w), v1, some (.lst (nD P)), some (.int (at_ : Nat)), o4], m⟩ := by
      have hl : ltB (at_ : Int) (P.length : Int) = decide (at_ < P.length) := by
        rw [ltB_eq]
        apply decide_eq_decide.2
        omega
      simp only [t2, cmpB, iCmp, e1, eVar, R.bind, List.getD_cons_succ, List.getD_cons_zero, lenD, nD_len, hl]
    rw [ec]
    by_cases h : at_ < P.length
    · obtain ⟨y, hy⟩ : ∃ y, P[at_]? = some y := ⟨P[at_], List.getElem?_eq_getElem h⟩
      have hyP : y ∈ P := List.mem_of_getElem? hy
      have st := pf_step ht hy (hI.lt y hyP) (by omega) (v1 := v1) (o4 := o4) (m := m)
      have hI2 := hI.grow ht hyP
      obtain ⟨P', o4', e, hP'⟩ := ih _ (at_ + 1) o4 hI2 (by rw [List.length_append]; omega) (by omega) (fun j hj y' hy' q hq => by
        rw [List.getElem?_append_left (by omega)] at hy'
        by_cases hqP : q ∈ P
        · exact List.mem_append_left _ hqP
        · rcases Nat.lt_or_ge j at_ with h2 | h2
          · exact absurd (hcl j h2 y' hy' q hq) hqP
          · have hja : j = at_ := by omega
            rw [hja, hy] at hy'
            cases hy'
            exact List.mem_append_right _ (List.mem_filter.2 ⟨hq, by simp [hqP]⟩))
      refine ⟨P', o4', ?_, hP'⟩
      simp only [decide_eq_true h, R.then, if_true, st]
      exact e
    · have hat : at_ = P.length := by omega
      subst hat
      refine ⟨P, o4, ?_, hI, fun y hy q hq => by
        obtain ⟨j, hj, e⟩ := List.mem_iff_getElem.1 hy
        exact hcl j hj y (by rw [List.getElem?_eq_getElem hj, e]) q hq⟩
      simp only [decide_eq_false h, R.then, Bool.false_eq_true, if_false]
theorem e_part {w : Web} (ht : Tab w) {f : Nat} (hf : f < w.length) (m : List Cell) : ∃ P, m_part_from [WD w, .int f] m = .ok (.lst (nD P)) m ∧ PInv w f P ∧ ∀ y ∈ P, ∀ q ∈ nb w y, q ∈ P := by
  have h60 := ht.n1
  have hI : PInv w f [f] := by
    refine ⟨by simp, fun q hq => by rw [List.mem_singleton.1 hq]; exact hf, ⟨[], rfl⟩, fun pre x post e => ?_⟩
    cases pre with
    | nil => exact .inl rfl
    | cons a pre =>
      have := congrArg List.length e
      simp at this
  obtain ⟨P, o4, e, hP⟩ := pf_loop ht (v1 := some (.int f)) (m := m) 64 [f] 0 none hI (by simp) (by omega) (fun j hj => by omega)
  refine ⟨P, ?_, hP⟩
  have o2 : (2 : Nat) ≤ sizeLine := by rw [szl]; decide
  have o1 : (1 : Nat) ≤ sizeLine := by rw [szl]; decide
  simp only [m_part_from, q_part_from, mkF]
  rw [seq_nx (s' := ⟨[some (WD w), some (.int f), some (.lst (nD [f])), some (.int (0 : Nat)), none], m⟩) (by
    simp [mkF, sNil, sSeq, sAsg, sAsgF, sAsgC, sPar, sPar3, sIf, sRet, sFor, forL, sSetM, sSetI, sApp, sExt, sDrop, sRaise, sTry, hSay, hNil, Ex.ix, e1, e2, eBi, eIf, eVar, eC, eTup, eLst, eSl, slD, pNone, pSome, eLc, lcL, wipeD, Tg.vs, tYesS, aCons, aNil, t2, tTru, truB, truD, tNotS, tAndS, tOrS, eAndB, eOrB, eNotB, eOrV, cmpB, cmpD, iCmp, R.then, R.bind, asgD, DL.setL, addD, subD, negD, absD, DL.intD, mLst, lenD, listD, tupleD, allD, blsD, isiD, isi2D, isTy, isND, notND, DL.isNon, ltB_eq, eCallN, eCallV, callR, iN, i1, rng1I, seqI, gcdD, augD, sAug, o1, o2, nD, nI])]
  rw [seq_nx (s' := ⟨[some (WD w), some (.int f), some (.lst (nD P)), some (.int (P.length : Nat)), o4], m⟩) (by exact e)]
  simp [mkF, sNil, sSeq, sAsg, sAsgF, sAsgC, sPar, sPar3, sIf, sRet, sFor, forL, sSetM, sSetI, sApp, sExt, sDrop, sRaise, sTry, hSay, hNil, Ex.ix, e1, e2, eBi, eIf, eVar, eC, eTup, eLst, eSl, slD, pNone, pSome, eLc, lcL, wipeD, Tg.vs, tYesS, aCons, aNil, t2, tTru, truB, truD, tNotS, tAndS, tOrS, eAndB, eOrB, eNotB, eOrV, cmpB, cmpD, iCmp, R.then, R.bind, asgD, DL.setL, addD, subD, negD, absD, DL.intD, mLst, lenD, listD, tupleD, allD, blsD, isiD, isi2D, isTy, isND, notND, DL.isNon, ltB_eq, eCallN, eCallV, callR, iN, i1, rng1I, seqI, gcdD, augD, sAug]
/-! weights -/
structure Sk (w : Web) (wt : Nat → Nat) : Prop where
  ps : ∀ i, 0 < wt i
  sz : ∀ i, wt i < 2 ^ 60
  sk : ∀ i j, i < w.length → j < w.length → (wt i : Int) * bW w i j = -((wt j : Int) * bW w j i)
  bs : ∀ i j, (bW w i j).natAbs < 2 ^ 100
/-- the ratio of a place's weight to the first one's, brought low -/
def rr (wt : Nat → Nat) (f q : Nat) : Q2 := lo (wt q : Int) (wt f : Int)
theorem lo_same {a b c d : Int} (ha : 0 < a) (hb : 0 < b) (hc : 0 < c) (hd : 0 < d) (h : a * d = c * b) (k : Nat) (h1 : a.natAbs < 2 ^ k) (h2 : b.natAbs < 2 ^ k) (h3 : c.natAbs < 2 ^ k) (h4 : d.natAbs < 2 ^ k) : lo a b = lo c d := by
  have pf : ∀ {a b : Int}, 0 < a → 0 < b → a.natAbs < 2 ^ k → b.natAbs < 2 ^ k → PF k (lo a b) := by
    intro a b ha hb h1 h2
    obtain ⟨g, p, q, hg, hp, hq, ea, eb, c, e⟩ := lo_pos ha hb
    rw [e]
    have z1 : p ≤ g * p := Nat.le_mul_of_pos_left p hg
    have z2 : q ≤ g * q := Nat.le_mul_of_pos_left q hg
    refine ⟨by simpa using hp, by simpa using hq, by simpa using c, ?_, ?_⟩
    · simp only [Int.natAbs_natCast]; omega
    · simp only [Int.natAbs_natCast]; omega
  refine val_inj (pf ha hb h1 h2) (pf hc hd h3 h4) ?_
  rw [lo_val ha hb, lo_val hc hd]
  have e1 := ne_cast hb
  have e2 := ne_cast hd
  have e3 : (a : Rat) * (d : Rat) = (c : Rat) * (b : Rat) := by
    rw [← Rat.intCast_mul, ← Rat.intCast_mul, h]
  grind
theorem rr_pos (wt : Nat → Nat) (h : ∀ i, 0 < wt i) (f q : Nat) : 0 < (rr wt f q).1 ∧ 0 < (rr wt f q).2 ∧ (rr wt f q).1 * (wt f : Int) = (wt q : Int) * (rr wt f q).2 ∧ (rr wt f q).1.natAbs ≤ wt q ∧ (rr wt f q).2.natAbs ≤ wt f ∧ (rr wt f q).2 ∣ (wt f : Int) := by
  have h1 := h q
  have h2 := h f
  obtain ⟨g, p, r, hg, hp, hr, ea, eb, c, e⟩ := lo_pos (a := (wt q : Int)) (b := (wt f : Int)) (by omega) (by omega)
  unfold rr
  rw [e]
  have ea' : wt q = g * p := by exact_mod_cast ea
  have eb' : wt f = g * r := by exact_mod_cast eb
  refine ⟨by simpa using hp, by simpa using hr, ?_, ?_, ?_, ?_⟩
  · simp only [ea', eb', Int.natCast_mul]
    rw [← Int.mul_assoc, Int.mul_comm (p : Int) (g : Int)]
  · simp only [Int.natAbs_natCast]
    rw [ea']
    exact Nat.le_mul_of_pos_left p hg
  · simp only [Int.natAbs_natCast]
    rw [eb']
    exact Nat.le_mul_of_pos_left r hg
  · simp only [eb', Int.natCast_mul]
    exact ⟨(g : Int), Int.mul_comm _ _⟩
end A15
set_option linter.all false
set_option maxRecDepth 10000
namespace A15
open PySem PySem.Spec PyProof.Rows L2 DL
def qD (x : Q2) : D := .tup [.int x.1, .int x.2]
def DKf (u : Nat → D) (ks : List Nat) : List (Key × D) := ks.map fun q : Nat => ((Sum.inl (q : Int) : Key), u q)
theorem val_DK (u : Nat → D) (q : Nat) : ∀ ks : List Nat, valD (DKf u ks) (.inl (q : Int)) = if q ∈ ks then some (u q) else none
  | [] => rfl
  | k :: ks => by
    have ih := val_DK u q ks
    unfold valD DKf at ih ⊢
    rw [List.map_cons, List.find?_cons]
    by_cases h : k = q
    · subst h
      simp
    · have h2 : ¬ (Sum.inl (k : Int) : Key) = .inl (q : Int) := by
        intro e
        have := Sum.inl.inj e
        omega
      rw [decide_eq_false h2]
      simp only [ih, List.mem_cons]
      have h3 : ¬ q = k := fun e => h e.symm
      simp [h3]
theorem any_DK (u : Nat → D) (q : Nat) : ∀ ks : List Nat, ((DKf u ks).any fun kv => decide (kv.1 = (.inl (q : Int) : Key))) = decide (q ∈ ks)
  | [] => rfl
  | k :: ks => by
    have ih := any_DK u q ks
    unfold DKf at ih ⊢
    rw [List.map_cons, List.any_cons, ih]
    by_cases h : k = q
    · subst h
      simp
    · have h2 : ¬ (Sum.inl (k : Int) : Key) = .inl (q : Int) := by
        intro e
        have := Sum.inl.inj e
        omega
      have h3 : ¬ q = k := fun e => h e.symm
      simp [h2, h3]
def addK (ks : List Nat) (q : Nat) : List Nat := if q ∈ ks then ks else ks ++ [q]
theorem put_DK (u : Nat → D) (q : Nat) (ks : List Nat) : putD (DKf u ks) (.inl (q : Int)) (u q) = DKf u (addK ks q) := by
  unfold putD addK
  rw [any_DK]
  by_cases h : q ∈ ks
  · simp only [h, decide_true, if_true]
    unfold DKf
    rw [List.map_map]
    apply List.map_congr_left
    intro k _
    simp only [Function.comp]
    split
    · rename_i e
      have := Sum.inl.inj e
      have e2 : k = q := by omega
      rw [e2]
    · rfl
  · simp [h, DKf]
theorem lowS {a b : Int} (m : List Cell) (ha : 0 < a) (hb : 0 < b) (h1 : a.natAbs < 2 ^ 300) (h2 : b.natAbs < 2 ^ 300) : m_lowest_ratio [.int a, .int b] m = .ok (qD (lo a b)) m := by
  have g0 : 0 < Nat.gcd a.natAbs b.natAbs := Nat.gcd_pos_of_pos_right _ (by omega)
  have g1 : Nat.gcd a.natAbs b.natAbs ≤ b.natAbs := Nat.gcd_le_right _ (by omega)
  have g2 : (Nat.gcd a.natAbs b.natAbs).log2 < 300 := lg _ _ (Nat.lt_of_le_of_lt g1 h2) (by decide)
  have hg : Nat.gcd a.natAbs b.natAbs ≠ 0 := by omega
  have g4 : (Nat.gcd a.natAbs b.natAbs).log2 < 9000 := by omega
  have o2 : (2 : Nat) ≤ sizeLine := by rw [szl]; decide
  simp [m_lowest_ratio, q_lowest_ratio, qD, lo, sgn, hb, mkF, sNil, sSeq, sAsg, sAsgF, sAsgC, sPar, sPar3, sIf, sRet, sFor, forL, sSetM, sSetI, sApp, sExt, sDrop, sRaise, sTry, hSay, hNil, Ex.ix, e1, e2, eBi, eIf, eVar, eC, eTup, eLst, eSl, slD, pNone, pSome, eLc, lcL, wipeD, Tg.vs, tYesS, aCons, aNil, t2, tTru, truB, truD, tNotS, tAndS, tOrS, eAndB, eOrB, eNotB, eOrV, cmpB, cmpD, iCmp, R.then, R.bind, asgD, DL.setL, addD, subD, negD, absD, DL.intD, mLst, lenD, listD, tupleD, allD, blsD, isiD, isi2D, isTy, isND, notND, DL.isNon, ltB_eq, eCallN, eCallV, callR, iN, i1, rng1I, seqI, gcdD, augD, sAug, mulD, modD, fdivD, ixD, g4, hg, o2]
def sg (x : Int) : Int := if 0 < x then 1 else if x < 0 then -1 else 0
theorem e_sign (x : Int) (m : List Cell) : m_sign [.int x] m = .ok (.int (sg x)) m := by
  unfold sg
  rcases Int.lt_trichotomy x 0 with h | h | h
  · have h2 : ¬ 0 < x := by omega
    simp [m_sign, q_sign, mkF, sNil, sSeq, sAsg, sAsgF, sAsgC, sPar, sPar3, sIf, sRet, sFor, forL, sSetM, sSetI, sApp, sExt, sDrop, sRaise, sTry, hSay, hNil, Ex.ix, e1, e2, eBi, eIf, eVar, eC, eTup, eLst, eSl, slD, pNone, pSome, eLc, lcL, wipeD, Tg.vs, tYesS, aCons, aNil, t2, tTru, truB, truD, tNotS, tAndS, tOrS, eAndB, eOrB, eNotB, eOrV, cmpB, cmpD, iCmp, R.then, R.bind, asgD, DL.setL, addD, subD, negD, absD, DL.intD, mLst, lenD, listD, tupleD, allD, blsD, isiD, isi2D, isTy, isND, notND, DL.isNon, ltB_eq, eCallN, eCallV, callR, iN, i1, rng1I, seqI, gcdD, augD, sAug, mulD, modD, fdivD, ixD, h, h2, b2i]
  · subst h
    simp [m_sign, q_sign, mkF, sNil, sSeq, sAsg, sAsgF, sAsgC, sPar, sPar3, sIf, sRet, sFor, forL, sSetM, sSetI, sApp, sExt, sDrop, sRaise, sTry, hSay, hNil, Ex.ix, e1, e2, eBi, eIf, eVar, eC, eTup, eLst, eSl, slD, pNone, pSome, eLc, lcL, wipeD, Tg.vs, tYesS, aCons, aNil, t2, tTru, truB, truD, tNotS, tAndS, tOrS, eAndB, eOrB, eNotB, eOrV, cmpB, cmpD, iCmp, R.then, R.bind, asgD, DL.setL, addD, subD, negD, absD, DL.intD, mLst, lenD, listD, tupleD, allD, blsD, isiD, isi2D, isTy, isND, notND, DL.isNon, ltB_eq, eCallN, eCallV, callR, iN, i1, rng1I, seqI, gcdD, augD, sAug, mulD, modD, fdivD, ixD, b2i]
  · have h2 : ¬ x < 0 := by omega
    simp [m_sign, q_sign, mkF, sNil, sSeq, sAsg, sAsgF, sAsgC, sPar, sPar3, sIf, sRet, sFor, forL, sSetM, sSetI, sApp, sExt, sDrop, sRaise, sTry, hSay, hNil, Ex.ix, e1, e2, eBi, eIf, eVar, eC, eTup, eLst, eSl, slD, pNone, pSome, eLc, lcL, wipeD, Tg.vs, tYesS, aCons, aNil, t2, tTru, truB, truD, tNotS, tAndS, tOrS, eAndB, eOrB, eNotB, eOrV, cmpB, cmpD, iCmp, R.then, R.bind, asgD, DL.setL, addD, subD, negD, absD, DL.intD, mLst, lenD, listD, tupleD, allD, blsD, isiD, isi2D, isTy, isND, notND, DL.isNon, ltB_eq, eCallN, eCallV, callR, iN, i1, rng1I, seqI, gcdD, augD, sAug, mulD, modD, fdivD, ixD, h, h2, b2i]
theorem Sk.pos {w : Web} {wt : Nat → Nat} (h : Sk w wt) {i j : Nat} (hi : i < w.length) (hj : j < w.length) : (0 < bW w i j ↔ bW w j i < 0) ∧ (bW w i j = 0 ↔ bW w j i = 0) ∧ wt i * (bW w i j).natAbs = wt j * (bW w j i).natAbs := by
  have h1 := h.ps i
  have h2 := h.ps j
  have h3 := h.sk i j hi hj
  have key : ∀ (a b : Nat) (x y : Int), 0 < a → 0 < b → (a : Int) * x = -((b : Int) * y) → (0 < x ↔ y < 0) ∧ (x = 0 ↔ y = 0) ∧ a * x.natAbs = b * y.natAbs := by
    intro a b x y ha hb e
    refine ⟨?_, ?_, ?_⟩
    · constructor
      · intro hx
        have e1 : 0 < (a : Int) * x := Int.mul_pos (by omega) hx
        rcases Int.lt_trichotomy y 0 with h | h | h
        · exact h
        · have : (b : Int) * y = 0 := by rw [h, Int.mul_zero]
          omega
        · have : 0 < (b : Int) * y := Int.mul_pos (by omega) h
          omega
      · intro hy
        have e1 : 0 < (b : Int) * (-y) := Int.mul_pos (by omega) (by omega)
        rw [Int.mul_neg] at e1
        rcases Int.lt_trichotomy x 0 with h | h | h
        · have : 0 < (a : Int) * (-x) := Int.mul_pos (by omega) (by omega)
          rw [Int.mul_neg] at this
          omega
        · have : (a : Int) * x = 0 := by rw [h, Int.mul_zero]
          omega
        · exact h
    · constructor
      · intro hx
        have h1 : (a : Int) * x = 0 := by rw [hx, Int.mul_zero]
        have h2 : (b : Int) * y = 0 := by omega
        rcases Int.mul_eq_zero.1 h2 with h | h
        · omega
        · exact h
      · intro hy
        have h1 : (b : Int) * y = 0 := by rw [hy, Int.mul_zero]
        have h2 : (a : Int) * x = 0 := by omega
        rcases Int.mul_eq_zero.1 h2 with h | h
        · omega
        · exact h
    · have := congrArg Int.natAbs e
      rw [Int.natAbs_neg, Int.natAbs_mul, Int.natAbs_mul] at this
      simpa using this
  exact key _ _ _ _ h1 h2 h3
theorem Sk.sg {w : Web} {wt : Nat → Nat} (h : Sk w wt) {i j : Nat} (hi : i < w.length) (hj : j < w.length) : sg (bW w i j) = 0 - sg (bW w j i) := by
  have h1 := h.pos hi hj
  have h2 := h.pos hj hi
  unfold A15.sg
  rcases Int.lt_trichotomy (bW w i j) 0 with h | h | h
  · have a : 0 < bW w j i := h2.1.2 h
    rw [if_neg (by omega), if_pos h, if_pos a]
    rfl
  · have a := h1.2.1.1 h
    rw [h, a]
    rfl
  · have a : bW w j i < 0 := h1.1.1 h
    rw [if_pos h, if_neg (by omega), if_pos a]
    rfl
theorem abs_eq (x : Int) : (if x < 0 then -x else x) = (x.natAbs : Int) := by split <;> omega
def uR (wt : Nat → Nat) (f : Nat) (q : Nat) : D := qD (rr wt f q)
theorem qD_ne (x : Q2) : neD (qD x) (qD x) = some false := by
  simp [neD, qD, eqD, toP, toPs, SeqAt.shaped, PyData.canLay0, PyData.canLayAll0, PyData.depth, PyData.depthAll, PyData.eqv, PyData.eqvAll]
theorem pw_b1 {w : Web} {wt : Nat → Nat} (ht : Tab w) (hk : Sk w wt) {f p q : Nat} (hp : p < w.length) (hq : q < w.length) (hb : bW w p q ≠ 0) {ks : List Nat} (hpk : p ∈ ks) (hkl : ks.length ≤ 60) {v1 o5 o6 o7 : Option D} (m : List Cell) :
    ∃ y5 y6 y7, q_part_weights_b1 ⟨[some (WD w), v1, some (.ref m.length), some (nI p), some (nI q), o5, o6, o7], m ++ [.dic false (DKf (uR wt f) ks)]⟩ = .next ⟨[some (WD w), v1, some (.ref m.length), some (nI p), some (nI q), y5, y6, y7], m ++ [.dic false (DKf (uR wt f) (addK ks q))]⟩ := by
  have rp := ht.row hp
  have rq := ht.row hq
  have sgE := hk.sg hp hq
  obtain ⟨_, hz, hab⟩ := hk.pos hp hq
  have hb2 : bW w q p ≠ 0 := fun e => hb (hz.2 e)
  obtain ⟨z1, z2, z3, z4, z5, _⟩ := rr_pos wt hk.ps f p
  have wf := hk.sz f
  have wp := hk.sz p
  have bpq := hk.bs p q
  have bqp := hk.bs q p
  have i1 : ∀ st, ixD (WD w) (nI p) st = .ok (.tup ((rowW w p).map D.int)) st := fun st => ixW hp st
  have i2 : ∀ st, ixD (WD w) (nI q) st = .ok (.tup ((rowW w q).map D.int)) st := fun st => ixW hq st
  have i3 : ∀ st, ixD (.tup ((rowW w p).map D.int)) (nI q) st = .ok (.int (bW w p q)) st := fun st => ixrow _ _ (by omega) st
  have i4 : ∀ st, ixD (.tup ((rowW w q).map D.int)) (nI p) st = .ok (.int (bW w q p)) st := fun st => ixrow _ _ (by omega) st
  have hsz1 : (rr wt f p).1.natAbs < 2 ^ 60 := by omega
  have hsz2 : (rr wt f p).2.natAbs < 2 ^ 60 := by omega
  have c1 : (((bW w p q).natAbs : Nat) : Int).natAbs < 2 ^ 100 := by simpa using bpq
  have c2 : (((bW w q p).natAbs : Nat) : Int).natAbs < 2 ^ 100 := by simpa using bqp
  have m1 : ∀ st, mulD (.int (rr wt f p).1) (.int ((bW w p q).natAbs : Nat)) st = .ok (.int ((rr wt f p).1 * ((bW w p q).natAbs : Nat))) st := fun st => mulK hsz1 c1 (by omega) (by omega)
  have m2 : ∀ st, mulD (.int (rr wt f p).2) (.int ((bW w q p).natAbs : Nat)) st = .ok (.int ((rr wt f p).2 * ((bW w q p).natAbs : Nat))) st := fun st => mulK hsz2 c2 (by omega) (by omega)
  have a1 : 0 < (rr wt f p).1 * ((bW w p q).natAbs : Int) := Int.mul_pos z1 (by omega)
  have a2 : 0 < (rr wt f p).2 * ((bW w q p).natAbs : Int) := Int.mul_pos z2 (by omega)
  have s1 : ((rr wt f p).1 * ((bW w p q).natAbs : Int)).natAbs < 2 ^ 160 := by
    rw [Int.natAbs_mul, show (160 : Nat) = 60 + 100 from rfl, Nat.pow_add]
    exact Nat.mul_lt_mul'' hsz1 c1
  have s2 : ((rr wt f p).2 * ((bW w q p).natAbs : Int)).natAbs < 2 ^ 160 := by
    rw [Int.natAbs_mul, show (160 : Nat) = 60 + 100 from rfl, Nat.pow_add]
    exact Nat.mul_lt_mul'' hsz2 c2
  have hlow : lo ((rr wt f p).1 * ((bW w p q).natAbs : Nat)) ((rr wt f p).2 * ((bW w q p).natAbs : Nat)) = rr wt f q := by
    refine lo_same a1 a2 (by have := hk.ps q; omega) (by have := hk.ps f; omega) ?_ 160 s1 s2 (by have := hk.sz q; omega) (by omega)
    have hab' : (wt p : Int) * ((bW w p q).natAbs : Int) = (wt q : Int) * ((bW w q p).natAbs : Int) := by exact_mod_cast hab
    calc (rr wt f p).1 * ((bW w p q).natAbs : Int) * (wt f : Int) = (rr wt f p).1 * (wt f : Int) * ((bW w p q).natAbs : Int) := by rw [Int.mul_assoc, Int.mul_comm ((bW w p q).natAbs : Int), ← Int.mul_assoc]
      _ = (wt p : Int) * (rr wt f p).2 * ((bW w p q).natAbs : Int) := by rw [z3]
      _ = ((wt p : Int) * ((bW w p q).natAbs : Int)) * (rr wt f p).2 := by rw [Int.mul_assoc, Int.mul_comm (rr wt f p).2, ← Int.mul_assoc]
      _ = (wt q : Int) * ((bW w q p).natAbs : Int) * (rr wt f p).2 := by rw [hab']
      _ = (wt q : Int) * ((rr wt f p).2 * ((bW w q p).natAbs : Int)) := by rw [Int.mul_assoc, Int.mul_comm ((bW w q p).natAbs : Int)]
  have hlw := fun m => lowS m a1 a2 (by omega) (by omega)
  rw [hlow] at hlw
  have es := fun x m => e_sign x m
  have g1 : (m ++ [Cell.dic false (DKf (uR wt f) ks)])[m.length]? = some (.dic false (DKf (uR wt f) ks)) := by simp
  have gset : (m ++ [Cell.dic false (DKf (uR wt f) ks)]).set m.length (.dic false (DKf (uR wt f) (addK ks q))) = m ++ [.dic false (DKf (uR wt f) (addK ks q))] := by simp
  have vp : valD (DKf (uR wt f) ks) (.inl (p : Int)) = some (uR wt f p) := by rw [val_DK, if_pos hpk]
  have pq := put_DK (uR wt f) q ks
  have hgl : (DKf (uR wt f) ks).length < sizeLine := by rw [szl]; unfold DKf; rw [List.length_map]; omega
  have kp : keyD (nI p) = some (.inl (p : Int)) := rfl
  have kq : keyD (nI q) = some (.inl (q : Int)) := rfl
  have hgetD : ∀ r : List (Option D), dgetD (.ref m.length) (nI q) (uR wt f q) ⟨r, m ++ [.dic false (DKf (uR wt f) ks)]⟩ = .ok (uR wt f q) ⟨r, m ++ [.dic false (DKf (uR wt f) ks)]⟩ := by
    intro r
    unfold dgetD mDic
    simp only [kq, g1, val_DK]
    by_cases h : q ∈ ks <;> simp [h]
  have hdix : ∀ r : List (Option D), dixD (.ref m.length) (nI p) ⟨r, m ++ [.dic false (DKf (uR wt f) ks)]⟩ = .ok (uR wt f p) ⟨r, m ++ [.dic false (DKf (uR wt f) ks)]⟩ := by
    intro r
    unfold dixD mDic
    simp only [kp, g1, vp]
  have hisd : ∀ r : List (Option D), isDic (.ref m.length) ⟨r, m ++ [.dic false (DKf (uR wt f) ks)]⟩ = true := by
    intro r
    unfold isDic mDic
    simp only [g1]
    rfl
  have hnq : neD (uR wt f q) (uR wt f q) = some false := qD_ne _
  have hmu : ∀ r : List (Option D), mDicU ⟨r, m ++ [.dic false (DKf (uR wt f) ks)]⟩ m.length = some (DKf (uR wt f) ks) := by
    intro r
    unfold mDicU
    simp only [g1]
  have hup : uR wt f p = .tup [.int (rr wt f p).1, .int (rr wt f p).2] := rfl
  have hlw' : ∀ m, m_lowest_ratio [.int ((rr wt f p).1 * ((bW w p q).natAbs : Nat)), .int ((rr wt f p).2 * ((bW w q p).natAbs : Nat))] m = .ok (uR wt f q) m := hlw
  obtain ⟨NP, hNP⟩ : ∃ NP, NP = nI p := ⟨_, rfl⟩
  obtain ⟨NQ, hNQ⟩ : ∃ NQ, NQ = nI q := ⟨_, rfl⟩
  obtain ⟨UQ, hUQ⟩ : ∃ UQ, UQ = uR wt f q := ⟨_, rfl⟩
  rw [← hNP] at i1 i4 hdix kp ⊢
  rw [← hNQ] at i2 i3 hgetD kq ⊢
  rw [← hUQ] at hgetD hnq hlw' pq
  refine ⟨some (.int (rr wt f p).1), some (.int (rr wt f p).2), some UQ, ?_⟩
  unfold q_part_weights_b1
  rw [seq_nx (s' := ⟨[some (WD w), v1, some (.ref m.length), some NP, some NQ, o5, o6, o7], m ++ [.dic false (DKf (uR wt f) ks)]⟩) (by
    have hne : neI (sg (bW w p q)) (0 - sg (bW w q p)) = neI (sg (bW w p q)) (0 - sg (bW w q p)) := rfl
    simp [-Int.zero_sub, mkF, sNil, sSeq, sAsg, sAsgF, sAsgC, sPar, sPar3, sIf, sRet, sFor, forL, sSetM, sSetI, sApp, sExt, sDrop, sRaise, sTry, hSay, hNil, Ex.ix, e1, e2, eBi, eIf, eVar, eC, eTup, eLst, eSl, slD, pNone, pSome, eLc, lcL, wipeD, Tg.vs, tYesS, aCons, aNil, t2, tTru, truB, truD, tNotS, tAndS, tOrS, eAndB, eOrB, eNotB, eOrV, cmpB, cmpD, iCmp, R.then, R.bind, asgD, DL.setL, addD, subD, negD, absD, DL.intD, mLst, lenD, listD, tupleD, allD, blsD, isiD, isi2D, isTy, isND, notND, DL.isNon, ltB_eq, eCallN, eCallV, callR, iN, i1, rng1I, seqI, gcdD, augD, sAug, i1, i2, i3, i4, es, neI, sgE])]
  rw [seq_nx (s' := ⟨[some (WD w), v1, some (.ref m.length), some NP, some NQ, some (.int (rr wt f p).1), some (.int (rr wt f p).2), o7], m ++ [.dic false (DKf (uR wt f) ks)]⟩) (by
    simp [mkF, sNil, sSeq, sAsg, sAsgF, sAsgC, sPar, sPar3, sIf, sRet, sFor, forL, sSetM, sSetI, sApp, sExt, sDrop, sRaise, sTry, hSay, hNil, Ex.ix, e1, e2, eBi, eIf, eVar, eC, eTup, eLst, eSl, slD, pNone, pSome, eLc, lcL, wipeD, Tg.vs, tYesS, aCons, aNil, t2, tTru, truB, truD, tNotS, tAndS, tOrS, eAndB, eOrB, eNotB, eOrV, cmpB, cmpD, iCmp, R.then, R.bind, asgD, DL.setL, addD, subD, negD, absD, DL.intD, mLst, lenD, listD, tupleD, allD, blsD, isiD, isi2D, isTy, isND, notND, DL.isNon, ltB_eq, eCallN, eCallV, callR, iN, i1, rng1I, seqI, gcdD, augD, sAug, hdix, hup])]
  rw [seq_nx (s' := ⟨[some (WD w), v1, some (.ref m.length), some NP, some NQ, some (.int (rr wt f p).1), some (.int (rr wt f p).2), some UQ], m ++ [.dic false (DKf (uR wt f) ks)]⟩) (by
    simp [mkF, sNil, sSeq, sAsg, sAsgF, sAsgC, sPar, sPar3, sIf, sRet, sFor, forL, sSetM, sSetI, sApp, sExt, sDrop, sRaise, sTry, hSay, hNil, Ex.ix, e1, e2, eBi, eIf, eVar, eC, eTup, eLst, eSl, slD, pNone, pSome, eLc, lcL, wipeD, Tg.vs, tYesS, aCons, aNil, t2, tTru, truB, truD, tNotS, tAndS, tOrS, eAndB, eOrB, eNotB, eOrV, cmpB, cmpD, iCmp, R.then, R.bind, asgD, DL.setL, addD, subD, negD, absD, DL.intD, mLst, lenD, listD, tupleD, allD, blsD, isiD, isi2D, isTy, isND, notND, DL.isNon, ltB_eq, eCallN, eCallV, callR, iN, i1, rng1I, seqI, gcdD, augD, sAug, i1, i2, i3, i4, abs_eq, m1, m2, hlw'])]
  rw [seq_nx (s' := ⟨[some (WD w), v1, some (.ref m.length), some NP, some NQ, some (.int (rr wt f p).1), some (.int (rr wt f p).2), some UQ], m ++ [.dic false (DKf (uR wt f) ks)]⟩) (by
    simp [mkF, sNil, sSeq, sAsg, sAsgF, sAsgC, sPar, sPar3, sIf, sRet, sFor, forL, sSetM, sSetI, sApp, sExt, sDrop, sRaise, sTry, hSay, hNil, Ex.ix, e1, e2, eBi, eIf, eVar, eC, eTup, eLst, eSl, slD, pNone, pSome, eLc, lcL, wipeD, Tg.vs, tYesS, aCons, aNil, t2, tTru, truB, truD, tNotS, tAndS, tOrS, eAndB, eOrB, eNotB, eOrV, cmpB, cmpD, iCmp, R.then, R.bind, asgD, DL.setL, addD, subD, negD, absD, DL.intD, mLst, lenD, listD, tupleD, allD, blsD, isiD, isi2D, isTy, isND, notND, DL.isNon, ltB_eq, eCallN, eCallV, callR, iN, i1, rng1I, seqI, gcdD, augD, sAug, eGet, hisd, hgetD, hnq])]
  simp only [sDput, eVar, R.then, List.getD_cons_succ, List.getD_cons_zero, kq, hmu, hgl, if_true, pq, gset]
end A15
set_option linter.all false
set_option maxRecDepth 10000
namespace A15
open PySem PySem.Spec PyProof.Rows L2 DL
/-- joined by arrows -/
inductive Cn (w : Web) (p : Nat) : Nat → Prop
  | refl : Cn w p p
  | step {q r : Nat} : Cn w p q → r < w.length → bW w q r ≠ 0 → Cn w p r
theorem Cn.trans {w : Web} {p q r : Nat} (h : Cn w p q) (h2 : Cn w q r) : Cn w p r := by
  induction h2 with
  | refl => exact h
  | step _ hr hb ih => exact .step ih hr hb
theorem Cn.lt {w : Web} {p q : Nat} (h : Cn w p q) (hp : p < w.length) : q < w.length := by
  cases h with
  | refl => exact hp
  | step _ hr _ => exact hr
theorem Cn.symm {w : Web} {wt : Nat → Nat} (hk : Sk w wt) {p q : Nat} (h : Cn w p q) (hp : p < w.length) : Cn w q p := by
  induction h with
  | refl => exact .refl
  | step h1 hr hb ih =>
    have hq := h1.lt hp
    have : bW w _ _ ≠ 0 := fun e => hb ((hk.pos hr hq).2.1.1 e)
    exact (Cn.step (.refl) hq this).trans ih
theorem Cn.clos {w : Web} (ht : Tab w) {p q : Nat} (h : Cn w p q) (hp : p < w.length) {P : List Nat} (hP : p ∈ P) (hc : ∀ y ∈ P, ∀ q ∈ nb w y, q ∈ P) : q ∈ P := by
  induction h with
  | refl => exact hP
  | step h1 hr hb ih => exact hc _ ih _ ((nb_mem ht (h1.lt hp)).2 ⟨hr, hb⟩)
structure KInv (w : Web) (f : Nat) (ks : List Nat) : Prop where
  nd : ks.Nodup
  lt : ∀ q ∈ ks, q < w.length
  hf : f ∈ ks
  cn : ∀ q ∈ ks, Cn w f q
theorem KInv.len {w : Web} {f : Nat} {ks : List Nat} (h : KInv w f ks) : ks.length ≤ w.length := nodup_len _ _ h.nd h.lt
theorem KInv.add {w : Web} {f : Nat} {ks : List Nat} (h : KInv w f ks) {q : Nat} (hq : q < w.length) (hc : Cn w f q) : KInv w f (addK ks q) ∧ (∀ x ∈ ks, x ∈ addK ks q) ∧ q ∈ addK ks q := by
  unfold addK
  split
  · exact ⟨h, fun x hx => hx, by assumption⟩
  · rename_i hn
    refine ⟨⟨?_, fun x hx => ?_, List.mem_append_left _ h.hf, fun x hx => by
      rcases List.mem_append.1 hx with hx | hx
      · exact h.cn x hx
      · rw [List.mem_singleton.1 hx]; exact hc⟩, fun x hx => List.mem_append_left _ hx, by simp⟩
    · rw [List.nodup_append]
      refine ⟨h.nd, by simp, fun a ha b hb e => ?_⟩
      rw [List.mem_singleton.1 hb] at e
      exact hn (by rw [← e]; exact ha)
    · rcases List.mem_append.1 hx with hx | hx
      · exact h.lt x hx
      · rw [List.mem_singleton.1 hx]; exact hq
theorem pw_in {w : Web} {wt : Nat → Nat} (ht : Tab w) (hk : Sk w wt) {f p : Nat} (hp : p < w.length) {v1 : Option D} (m : List Cell) : ∀ (l : List Nat) (ks : List Nat) (o4 o5 o6 o7 : Option D), (∀ q ∈ l, q ∈ nb w p) → p ∈ ks → KInv w f ks →
    ∃ ks' y4 y5 y6 y7, forL (.one 4) q_part_weights_b1 (nD l) ⟨[some (WD w), v1, some (.ref m.length), some (nI p), o4, o5, o6, o7], m ++ [.dic false (DKf (uR wt f) ks)]⟩ = .next ⟨[some (WD w), v1, some (.ref m.length), some (nI p), y4, y5, y6, y7], m ++ [.dic false (DKf (uR wt f) ks')]⟩ ∧ KInv w f ks' ∧ (∀ x ∈ ks, x ∈ ks') ∧ ∀ x ∈ l, x ∈ ks'
  | [], ks, o4, o5, o6, o7, _, _, hi => ⟨ks, o4, o5, o6, o7, rfl, hi, fun x h => h, fun x h => (List.not_mem_nil h).elim⟩
  | q :: l, ks, o4, o5, o6, o7, hl, hpk, hi => by
    have hq := (nb_mem ht hp).1 (hl q (by simp))
    have h60 := ht.n1
    have hlen := hi.len
    obtain ⟨y5, y6, y7, e⟩ := pw_b1 ht hk hp hq.1 hq.2 hpk (by omega) (f := f) (v1 := v1) (o5 := o5) (o6 := o6) (o7 := o7) m
    obtain ⟨hi2, hs, hqm⟩ := hi.add hq.1 (.step (hi.cn p hpk) hq.1 hq.2)
    obtain ⟨ks', z4, z5, z6, z7, e2, hi3, hs2, hl2⟩ := pw_in ht hk hp (v1 := v1) m l (addK ks q) (some (nI q)) y5 y6 y7 (fun x hx => hl x (List.mem_cons_of_mem _ hx)) (hs p hpk) hi2
    refine ⟨ks', z4, z5, z6, z7, ?_, hi3, fun x hx => hs2 x (hs x hx), fun x hx => ?_⟩
    · rw [show nD (q :: l) = nI q :: nD l from rfl, forL]
      simp only [asgD, List.set_cons_succ, List.set_cons_zero, e]
      exact e2
    · rcases List.mem_cons.1 hx with rfl | hx
      · exact hs2 _ hqm
      · exact hl2 x hx
theorem pw_out {w : Web} {wt : Nat → Nat} (ht : Tab w) (hk : Sk w wt) {f : Nat} {P : List Nat} (hP : PInv w f P) {v1 : Option D} (m : List Cell) : ∀ (post pre : List Nat) (ks : List Nat) (o3 o4 o5 o6 o7 : Option D), P = pre ++ post → (∀ y ∈ pre, ∀ q ∈ nb w y, q ∈ ks) → KInv w f ks →
    ∃ ks' y3 y4 y5 y6 y7, forL (.one 3) q_part_weights_b2 (nD post) ⟨[some (WD w), v1, some (.ref m.length), o3, o4, o5, o6, o7], m ++ [.dic false (DKf (uR wt f) ks)]⟩ = .next ⟨[some (WD w), v1, some (.ref m.length), y3, y4, y5, y6, y7], m ++ [.dic false (DKf (uR wt f) ks')]⟩ ∧ KInv w f ks' ∧ ∀ x ∈ P, x ∈ ks'
  | [], pre, ks, o3, o4, o5, o6, o7, ep, hpre, hi => ⟨ks, o3, o4, o5, o6, o7, rfl, hi, fun x hx => by
    rw [List.append_nil] at ep
    obtain ⟨pr, po, e2⟩ := List.append_of_mem hx
    rcases hP.gd pr x po e2 with h | ⟨y, hy, h⟩
    · obtain ⟨tl, e3⟩ := hP.hd
      rw [h, List.nil_append, e3] at e2
      rw [← (List.cons.inj e2).1]
      exact hi.hf
    · exact hpre y (by rw [← ep, e2]; exact List.mem_append_left _ hy) x h⟩
  | p :: post, pre, ks, o3, o4, o5, o6, o7, e, hpre, hi => by
    have hp : p < w.length := hP.lt p (by rw [e]; simp)
    have hpk : p ∈ ks := by
      rcases hP.gd pre p post e with h | ⟨y, hy, h⟩
      · obtain ⟨tl, e2⟩ := hP.hd
        rw [h, List.nil_append] at e
        rw [e] at e2
        rw [(List.cons.inj e2).1]
        exact hi.hf
      · exact hpre y hy p h
    obtain ⟨ks1, y4, y5, y6, y7, e1, hi1, hs1, hl1⟩ := pw_in ht hk hp (f := f) (v1 := v1) m (nb w p) ks o4 o5 o6 o7 (fun q h => h) hpk hi
    obtain ⟨ks2, z3, z4, z5, z6, z7, e2, hi2⟩ := pw_out ht hk hP (v1 := v1) m post (pre ++ [p]) ks1 (some (nI p)) y4 y5 y6 y7 (by rw [e]; simp) (fun y hy q hq => by
      rcases List.mem_append.1 hy with hy | hy
      · exact hs1 q (hpre y hy q hq)
      · rw [List.mem_singleton.1 hy] at hq
        exact hl1 q hq) hi1
    refine ⟨ks2, z3, z4, z5, z6, z7, ?_, hi2⟩
    have h60 := ht.n1
    have hr := ht.row hp
    have eb := fun m => e_beside (w := w) m hp (by omega)
    have step : q_part_weights_b2 ⟨[some (WD w), v1, some (.ref m.length), some (nI p), o4, o5, o6, o7], m ++ [.dic false (DKf (uR wt f) ks)]⟩ = .next ⟨[some (WD w), v1, some (.ref m.length), some (nI p), y4, y5, y6, y7], m ++ [.dic false (DKf (uR wt f) ks1)]⟩ := by
      rw [← e1]
      have eb' : ∀ m, m_beside [WD w, nI p] m = .ok (.lst (nD (nb w p))) m := eb
      simp [q_part_weights_b2, sFor, i1, eCallN, callR, aCons, aNil, eVar, R.bind, R.then, eb', seqI]
    rw [show nD (p :: post) = nI p :: nD post from rfl, forL]
    simp only [asgD, List.set_cons_succ, List.set_cons_zero, step]
    exact e2
/-! whole weights -/
theorem pairs_DK (u : Nat → D) : ∀ ks : List Nat, pairsD (ks.map fun q : Nat => D.tup [nI q, u q]) = some (DKf u ks)
  | [] => rfl
  | q :: ks => by
    have ih := pairs_DK u ks
    simp only [List.map_cons] at ih ⊢
    unfold pairsD
    rw [ih]
    rfl
theorem merge_DK (u : Nat → D) : ∀ (ks pre : List Nat), (pre ++ ks).Nodup → mergeD (DKf u pre) (DKf u ks) = DKf u (pre ++ ks)
  | [], pre, _ => by simp [mergeD, DKf]
  | q :: ks, pre, h => by
    have hq : q ∉ pre := by
      intro hq
      rw [List.nodup_append] at h
      exact h.2.2 q hq q (by simp) rfl
    have ih := merge_DK u ks (pre ++ [q]) (by simpa using h)
    have e : mergeD (DKf u pre) (DKf u (q :: ks)) = mergeD (putD (DKf u pre) (.inl (q : Int)) (u q)) (DKf u ks) := rfl
    rw [e, put_DK, addK, if_neg hq, ih]
    simp
theorem items_DK (u : Nat → D) (ks : List Nat) : itemsV (DKf u ks) = ks.map fun q : Nat => D.tup [nI q, u q] := by
  unfold itemsV DKf
  rw [List.map_map]
  rfl
theorem vals_DK (u : Nat → D) (ks : List Nat) : valsV (DKf u ks) = ks.map u := by
  unfold valsV DKf
  rw [List.map_map]
  rfl
theorem ww_loop1 {wt : Nat → Nat} (hps : ∀ i, 0 < wt i) (hsz : ∀ i, wt i < 2 ^ 60) {f : Nat} {v0 o4 o5 o6 o7 : Option D} {m : List Cell} : ∀ (ks : List Nat) (W : Nat) (o2 o3 : Option D), 0 < W → W ∣ wt f →
    ∃ W' y2 y3, forL (.many [2, 3]) q_whole_weights_b1 (ks.map (uR wt f)) ⟨[v0, some (nI W), o2, o3, o4, o5, o6, o7], m⟩ = .next ⟨[v0, some (nI W'), y2, y3, o4, o5, o6, o7], m⟩ ∧ 0 < W' ∧ W' ∣ wt f ∧ W ∣ W' ∧ (∀ q ∈ ks, (rr wt f q).2 ∣ (W' : Int)) ∧ ((∀ i, wt i = 1) → W = 1 → W' = 1)
  | [], W, o2, o3, h0, hd => ⟨W, o2, o3, rfl, h0, hd, Nat.dvd_refl _, fun q h => (List.not_mem_nil h).elim, fun _ h => h⟩
  | q :: ks, W, o2, o3, h0, hd => by
    obtain ⟨z1, z2, z3, z4, z5, z6⟩ := rr_pos wt hps f q
    obtain ⟨b, hb⟩ : ∃ b : Nat, (rr wt f q).2 = b := ⟨(rr wt f q).2.toNat, by omega⟩
    have hb0 : 0 < b := by omega
    have hbd : b ∣ wt f := by
      rw [hb] at z6
      exact_mod_cast z6
    have hfp := hps f
    have hfs := hsz f
    have hWle : W ≤ wt f := Nat.le_of_dvd hfp hd
    have hble : b ≤ wt f := Nat.le_of_dvd hfp hbd
    have hl : Nat.lcm W b ∣ wt f := Nat.lcm_dvd hd hbd
    have hl0 : 0 < Nat.lcm W b := Nat.pos_of_ne_zero fun e => by
      rw [e] at hl
      have := Nat.eq_zero_of_zero_dvd hl
      omega
    obtain ⟨W', y2, y3, e, h1, h2, h3, h4, h5⟩ := ww_loop1 hps hsz (f := f) (v0 := v0) (o4 := o4) (o5 := o5) (o6 := o6) (o7 := o7) (m := m) ks (Nat.lcm W b) (some (.int (rr wt f q).1)) (some (.int (rr wt f q).2)) hl0 hl
    refine ⟨W', y2, y3, ?_, h1, h2, Nat.dvd_trans (Nat.dvd_lcm_left W b) h3, fun k hk => ?_, fun ha hw => h5 ha ?_⟩
    · have hmul : ∀ st, mulD (.int (W : Nat)) (.int (b : Nat)) st = .ok (.int ((W : Int) * (b : Int))) st := fun st => mulK (j := 61) (k := 61) (by simp; omega) (by simp; omega) (by omega) (by omega)
      have hg : 0 < Nat.gcd W b := Nat.gcd_pos_of_pos_left _ h0
      have hgle : Nat.gcd W b ≤ b := Nat.gcd_le_right _ hb0
      have hg2 : (Nat.gcd W b).log2 < 61 := lg _ _ (by omega) (by decide)
      have hdiv : ((W : Int) * (b : Int)).fdiv ((Nat.gcd W b : Nat) : Int) = ((Nat.lcm W b : Nat) : Int) := by
        rw [Int.fdiv_eq_ediv_of_nonneg _ (by omega), ← Int.natCast_mul, ← Int.natCast_ediv]
        rfl
      have hgne : ¬ Nat.gcd W b = 0 := by omega
      have hg3 : (Nat.gcd W b).log2 < 9000 := by omega
      have step : q_whole_weights_b1 ⟨[v0, some (nI W), some (.int (rr wt f q).1), some (.int (rr wt f q).2), o4, o5, o6, o7], m⟩ = .next ⟨[v0, some (nI (Nat.lcm W b)), some (.int (rr wt f q).1), some (.int (rr wt f q).2), o4, o5, o6, o7], m⟩ := by
        rw [hb]
        simp [q_whole_weights_b1, nI, mkF, sNil, sSeq, sAsg, sAsgF, sAsgC, sPar, sPar3, sIf, sRet, sFor, forL, sSetM, sSetI, sApp, sExt, sDrop, sRaise, sTry, hSay, hNil, Ex.ix, e1, e2, eBi, eIf, eVar, eC, eTup, eLst, eSl, slD, pNone, pSome, eLc, lcL, wipeD, Tg.vs, tYesS, aCons, aNil, t2, tTru, truB, truD, tNotS, tAndS, tOrS, eAndB, eOrB, eNotB, eOrV, cmpB, cmpD, iCmp, R.then, R.bind, asgD, DL.setL, addD, subD, negD, absD, DL.intD, mLst, lenD, listD, tupleD, allD, blsD, isiD, isi2D, isTy, isND, notND, DL.isNon, ltB_eq, eCallN, eCallV, callR, iN, i1, rng1I, seqI, gcdD, augD, sAug, hmul, gcdD, fdivD, hgne, hg3, hdiv]
      rw [List.map_cons, forL]
      have hu : uR wt f q = .tup [.int (rr wt f q).1, .int (rr wt f q).2] := rfl
      rw [hu]
      simp only [asgD, DL.setL, List.length_cons, List.length_nil, List.set_cons_succ, List.set_cons_zero, if_true, step]
      exact e
    · rcases List.mem_cons.1 hk with rfl | hk
      · rw [hb]
        have : b ∣ W' := Nat.dvd_trans (Nat.dvd_lcm_right W b) h3
        exact_mod_cast this
      · exact h4 k hk
    · have hb1 : b = 1 := by
        have : b ≤ 1 := by rw [ha f] at hble; exact hble
        omega
      rw [hw, hb1]
      rfl
end A15
set_option linter.all false
set_option maxRecDepth 10000
namespace A15
open PySem PySem.Spec PyProof.Rows L2 DL
def vv (wt : Nat → Nat) (f W q : Nat) : Int := ((rr wt f q).1 * (W : Int)).fdiv (rr wt f q).2
theorem vv_ok {wt : Nat → Nat} (hps : ∀ i, 0 < wt i) (hsz : ∀ i, wt i < 2 ^ 60) {f W q : Nat} (h0 : 0 < W) (hW : W < 2 ^ 60) (hd : (rr wt f q).2 ∣ (W : Int)) : 0 < vv wt f W q ∧ (vv wt f W q).natAbs < 2 ^ 121 := by
  obtain ⟨z1, z2, z3, z4, z5, z6⟩ := rr_pos wt hps f q
  obtain ⟨c, hc⟩ := hd
  have hc0 : 0 < c := by
    rcases Int.lt_trichotomy c 0 with h | h | h
    · have : (rr wt f q).2 * c < 0 := Int.mul_neg_of_pos_of_neg z2 h
      omega
    · rw [h, Int.mul_zero] at hc
      omega
    · exact h
  have e : vv wt f W q = (rr wt f q).1 * c := by
    unfold vv
    rw [hc, Int.fdiv_eq_ediv_of_nonneg _ (by omega), ← Int.mul_assoc, Int.mul_comm (rr wt f q).1, Int.mul_assoc]
    exact Int.mul_ediv_cancel_left _ (by omega)
  have hcle : c ≤ (W : Int) := by
    have : 1 * c ≤ (rr wt f q).2 * c := Int.mul_le_mul_of_nonneg_right (by omega) (by omega)
    omega
  rw [e]
  refine ⟨Int.mul_pos z1 hc0, ?_⟩
  rw [Int.natAbs_mul, show (121 : Nat) = 60 + 61 from rfl, Nat.pow_add]
  have := hsz q
  exact Nat.mul_lt_mul'' (by omega) (by omega)
theorem lc_v {wt : Nat → Nat} (hps : ∀ i, 0 < wt i) (hsz : ∀ i, wt i < 2 ^ 60) {f W : Nat} (hW : W < 2 ^ 60) {v0 o2 o3 o4 o5 o6 o7 : Option D} {m : List Cell} : ∀ ks : List Nat,
    lcL (.many [5, 6]) tYesS (eTup (aCons (eVar 5) (aCons (e2 fdivD (e2 mulD (e2 ixD (eVar 6) (eC (.int 0))) (eVar 1)) (e2 ixD (eVar 6) (eC (.int 1)))) aNil))) [v0, some (nI W), o2, o3, o4, o5, o6, o7] (ks.map fun q : Nat => D.tup [nI q, uR wt f q]) m = some (ks.map fun q : Nat => D.tup [nI q, .int (vv wt f W q)], m)
  | [] => rfl
  | q :: ks => by
    have ih := lc_v hps hsz (f := f) hW (v0 := v0) (o2 := o2) (o3 := o3) (o4 := o4) (o5 := o5) (o6 := o6) (o7 := o7) (m := m) ks
    obtain ⟨z1, z2, z3, z4, z5, z6⟩ := rr_pos wt hps f q
    have hq := hsz q
    have hf := hsz f
    have hmul : ∀ st, mulD (.int (rr wt f q).1) (.int (W : Nat)) st = .ok (.int ((rr wt f q).1 * (W : Int))) st := fun st => mulK (j := 60) (k := 60) (by omega) (by simp; omega) (by omega) (by omega)
    have hl := lg (rr wt f q).2.natAbs 60 (by omega) (by omega)
    have hne : (rr wt f q).2 ≠ 0 := by omega
    have hdv : ∀ st, fdivD (.int ((rr wt f q).1 * (W : Int))) (.int (rr wt f q).2) st = .ok (.int (vv wt f W q)) st := fun st => by
      simp only [fdivD]
      rw [if_pos ⟨hne, by omega⟩]
      rfl
    have i0 : ∀ st, ixD (uR wt f q) (.int 0) st = .ok (.int (rr wt f q).1) st := fun st => rfl
    have i1' : ∀ st, ixD (uR wt f q) (.int 1) st = .ok (.int (rr wt f q).2) st := fun st => rfl
    have o2' : (2 : Nat) ≤ sizeLine := by rw [szl]; decide
    rw [List.map_cons, lcL]
    obtain ⟨U, hU⟩ : ∃ U, U = uR wt f q := ⟨_, rfl⟩
    rw [← hU] at i0 i1' ⊢
    have hw : nI W = .int (W : Nat) := rfl
    simp only [asgD, DL.setL, Tg.vs, wipeD, tYesS, List.length_cons, List.length_nil, List.set_cons_succ, List.set_cons_zero, if_true]
    have hfe : eTup (aCons (eVar 5) (aCons (e2 fdivD (e2 mulD (e2 ixD (eVar 6) (eC (.int 0))) (eVar 1)) (e2 ixD (eVar 6) (eC (.int 1)))) aNil)) ⟨[v0, some (nI W), o2, o3, o4, some (nI q), some U, o7], m⟩ = .ok (.tup [nI q, .int (vv wt f W q)]) ⟨[v0, some (nI W), o2, o3, o4, some (nI q), some U, o7], m⟩ := by
      rw [hw]
      simp [eTup, aCons, aNil, e2, eVar, eC, R.bind, i0, i1', hmul, hdv, o2']
    rw [hfe]
    simp only [ih, List.map_cons]
theorem ww_loop2 {v : Nat → Int} {v0 v1 o2 o3 o4 o5 : Option D} {m : List Cell} : ∀ (ks : List Nat) (S0 : Nat) (o6 : Option D), (∀ q ∈ ks, 0 < v q ∧ (v q).natAbs < 2 ^ 121) → S0 < 2 ^ 121 →
    ∃ S' y6, forL (.one 6) q_whole_weights_b2 (ks.map fun q : Nat => D.int (v q)) ⟨[v0, v1, o2, o3, o4, o5, o6, some (nI S0)], m⟩ = .next ⟨[v0, v1, o2, o3, o4, o5, y6, some (nI S')], m⟩ ∧ S' < 2 ^ 121 ∧ (0 < S0 ∨ ks ≠ [] → 0 < S') ∧ ((∀ q ∈ ks, v q = 1) → (S0 = 0 ∨ S0 = 1) → S' = 1 ∨ (S' = 0 ∧ ks = [] )) ∧ S' ∣ S0 ∧ (∀ q ∈ ks, S' ∣ (v q).natAbs) ∧ ∀ d : Nat, d ∣ S0 → (∀ q ∈ ks, d ∣ (v q).natAbs) → d ∣ S'
  | [], S0, o6, _, hs => ⟨S0, o6, rfl, hs, fun h => by rcases h with h | h; exact h; exact absurd rfl h, fun _ h => by rcases h with h | h; exact .inr ⟨h, rfl⟩; exact .inl h, Nat.dvd_refl _, fun q h => (List.not_mem_nil h).elim, fun d h _ => h⟩
  | q :: ks, S0, o6, hv, hs => by
    obtain ⟨hq1, hq2⟩ := hv q (by simp)
    have hg0 : 0 < Nat.gcd S0 (v q).natAbs := Nat.gcd_pos_of_pos_right _ (by omega)
    have hgl : Nat.gcd S0 (v q).natAbs ≤ (v q).natAbs := Nat.gcd_le_right _ (by omega)
    obtain ⟨S', y6, e, h1, h2, h3, k1, k2, k3⟩ := ww_loop2 (v := v) (v0 := v0) (v1 := v1) (o2 := o2) (o3 := o3) (o4 := o4) (o5 := o5) (m := m) ks (Nat.gcd S0 (v q).natAbs) (some (.int (v q))) (fun k hk => hv k (List.mem_cons_of_mem _ hk)) (by omega)
    refine ⟨S', y6, ?_, h1, fun _ => h2 (.inl hg0), fun ha hz => ?_, Nat.dvd_trans k1 (Nat.gcd_dvd_left _ _), fun x hx => by
      rcases List.mem_cons.1 hx with rfl | hx
      · exact Nat.dvd_trans k1 (Nat.gcd_dvd_right _ _)
      · exact k2 x hx, fun d hd hx => k3 d (Nat.dvd_gcd hd (hx q (by simp))) fun x hx2 => hx x (List.mem_cons_of_mem _ hx2)⟩
    · have step : q_whole_weights_b2 ⟨[v0, v1, o2, o3, o4, o5, some (.int (v q)), some (nI S0)], m⟩ = .next ⟨[v0, v1, o2, o3, o4, o5, some (.int (v q)), some (nI (Nat.gcd S0 (v q).natAbs))], m⟩ := by
        simp [q_whole_weights_b2, nI, mkF, sNil, sSeq, sAsg, sAsgF, sAsgC, sPar, sPar3, sIf, sRet, sFor, forL, sSetM, sSetI, sApp, sExt, sDrop, sRaise, sTry, hSay, hNil, Ex.ix, e1, e2, eBi, eIf, eVar, eC, eTup, eLst, eSl, slD, pNone, pSome, eLc, lcL, wipeD, Tg.vs, tYesS, aCons, aNil, t2, tTru, truB, truD, tNotS, tAndS, tOrS, eAndB, eOrB, eNotB, eOrV, cmpB, cmpD, iCmp, R.then, R.bind, asgD, DL.setL, addD, subD, negD, absD, DL.intD, mLst, lenD, listD, tupleD, allD, blsD, isiD, isi2D, isTy, isND, notND, DL.isNon, ltB_eq, eCallN, eCallV, callR, iN, i1, rng1I, seqI, gcdD, augD, sAug, gcdD]
      rw [List.map_cons, forL]
      simp only [asgD, List.set_cons_succ, List.set_cons_zero, step]
      exact e
    · have hv1 := ha q (by simp)
      have hgd : Nat.gcd S0 (v q).natAbs = 1 := by
        rw [hv1]
        exact Nat.gcd_one_right _
      rcases h3 (fun k hk => ha k (List.mem_cons_of_mem _ hk)) (.inr hgd) with h | ⟨h, he⟩
      · exact .inl h
      · have := h2 (.inl hg0)
        omega
theorem lc_u {v : Nat → Int} {S0 : Nat} (hs : 0 < S0) (hs2 : S0 < 2 ^ 121) {v0 v1 o2 o3 o4 o5 o6 : Option D} {m : List Cell} : ∀ ks : List Nat,
    lcL (.many [5, 6]) tYesS (eTup (aCons (eVar 5) (aCons (e2 fdivD (eVar 6) (eVar 7)) aNil))) [v0, v1, o2, o3, o4, o5, o6, some (nI S0)] (ks.map fun q : Nat => D.tup [nI q, .int (v q)]) m = some (ks.map fun q : Nat => D.tup [nI q, .int ((v q).fdiv (S0 : Int))], m)
  | [] => rfl
  | q :: ks => by
    have ih := lc_u (v := v) hs hs2 (v0 := v0) (v1 := v1) (o2 := o2) (o3 := o3) (o4 := o4) (o5 := o5) (o6 := o6) (m := m) ks
    have hl := lg S0 121 hs2 (by decide)
    have o2' : (2 : Nat) ≤ sizeLine := by rw [szl]; decide
    have hdv : ∀ st, fdivD (.int (v q)) (nI S0) st = .ok (.int ((v q).fdiv (S0 : Int))) st := fun st => by
      simp only [fdivD, nI]
      rw [if_pos ⟨by omega, by simp; omega⟩]
    rw [List.map_cons, lcL]
    simp only [asgD, DL.setL, Tg.vs, wipeD, tYesS, List.length_cons, List.length_nil, List.set_cons_succ, List.set_cons_zero, if_true]
    simp only [eTup, aCons, aNil, e2, eVar, R.bind, List.getD_cons_succ, List.getD_cons_zero, hdv, List.length_cons, List.length_nil, o2', if_true, ih, List.map_cons]
/-- least numbers in the ratios of the weights -/
structure UP (wt : Nat → Nat) (ks : List Nat) (u : Nat → Int) : Prop where
  ps : ∀ q ∈ ks, 0 < u q
  pr : ∀ q ∈ ks, ∀ r ∈ ks, u q * (wt r : Int) = u r * (wt q : Int)
  gc : ∀ d : Nat, (∀ q ∈ ks, (d : Int) ∣ u q) → d = 1
theorem vv_eq {wt : Nat → Nat} (hps : ∀ i, 0 < wt i) {f W q : Nat} (hd : (rr wt f q).2 ∣ (W : Int)) : vv wt f W q * (wt f : Int) = (wt q : Int) * W := by
  obtain ⟨z1, z2, z3, z4, z5, z6⟩ := rr_pos wt hps f q
  obtain ⟨c, hc⟩ := hd
  have e : vv wt f W q = (rr wt f q).1 * c := by
    unfold vv
    rw [hc, Int.fdiv_eq_ediv_of_nonneg _ (by omega), ← Int.mul_assoc, Int.mul_comm (rr wt f q).1, Int.mul_assoc]
    exact Int.mul_ediv_cancel_left _ (by omega)
  rw [e, Int.mul_assoc, Int.mul_comm c, ← Int.mul_assoc, z3, hc, Int.mul_assoc]
theorem up_of {wt : Nat → Nat} (hps : ∀ i, 0 < wt i) {f W S : Nat} {ks : List Nat} (hS : 0 < S) (hW : ∀ q ∈ ks, (rr wt f q).2 ∣ (W : Int)) (hv : ∀ q ∈ ks, 0 < vv wt f W q) (h1 : ∀ q ∈ ks, S ∣ (vv wt f W q).natAbs) (h2 : ∀ d : Nat, (∀ q ∈ ks, d ∣ (vv wt f W q).natAbs) → d ∣ S) : UP wt ks fun q => (vv wt f W q).fdiv (S : Int) := by
  have hu : ∀ q ∈ ks, (vv wt f W q).fdiv (S : Int) * S = vv wt f W q := fun q hq => by
    rw [Int.fdiv_eq_ediv_of_nonneg _ (by omega)]
    exact Int.ediv_mul_cancel (Int.ofNat_dvd_left.2 (h1 q hq))
  have hS' : (0 : Int) < S := by omega
  have hf' := hps f
  refine ⟨fun q hq => ?_, fun q hq r hr => ?_, fun d hd => ?_⟩
  · have a := hu q hq
    have b := hv q hq
    show 0 < (vv wt f W q).fdiv (S : Int)
    rcases (show 0 < (vv wt f W q).fdiv (S : Int) ∨ (vv wt f W q).fdiv (S : Int) ≤ 0 by omega) with h | h
    · exact h
    · have := Int.mul_le_mul_of_nonneg_right h (Int.le_of_lt hS')
      rw [a, Int.zero_mul] at this
      omega
  · have a := vv_eq hps (hW q hq)
    have b := vv_eq hps (hW r hr)
    have c := hu q hq
    have d := hu r hr
    have ne : ((S : Int) * (wt f : Int)) ≠ 0 := Int.mul_ne_zero (by omega) (by omega)
    refine Int.eq_of_mul_eq_mul_right ne ?_
    show (vv wt f W q).fdiv (S : Int) * (wt r : Int) * (S * wt f) = (vv wt f W r).fdiv (S : Int) * (wt q : Int) * (S * wt f)
    have l : ∀ x y : Int, x * y * ((S : Int) * (wt f : Int)) = (x * S) * (wt f : Int) * y := fun x y => by ac_rfl
    rw [l, l, c, d, a, b]
    ac_rfl
  · have := h2 (d * S) fun q hq => by
      obtain ⟨c, hc⟩ := hd q hq
      have e := hu q hq
      have hc' : (vv wt f W q).fdiv (S : Int) = d * c := hc
      rw [hc'] at e
      rw [← e, Int.natAbs_mul, Int.natAbs_mul, Int.natAbs_natCast, Int.natAbs_natCast, Nat.mul_assoc, Nat.mul_comm c.natAbs, ← Nat.mul_assoc]
      exact Nat.dvd_mul_right _ _
    have le := Nat.le_of_dvd hS this
    have d0 : d ≠ 0 := fun e => by
      rw [e, Nat.zero_mul] at this
      have := Nat.eq_zero_of_zero_dvd this
      omega
    rcases Nat.lt_or_ge 1 d with h | h
    · have : 2 * S ≤ d * S := Nat.mul_le_mul_right _ h
      omega
    · omega
theorem e_whole {w : Web} {wt : Nat → Nat} (ht : Tab w) (hk : Sk w wt) {f : Nat} {ks : List Nat} (hi : KInv w f ks) (m : List Cell) :
    ∃ (u : Nat → Int) (X : Cell), m_whole_weights [.ref m.length] (m ++ [.dic false (DKf (uR wt f) ks)]) = .ok (.ref (m.length + 2)) (m ++ [.dic false (DKf (uR wt f) ks), X, .dic false (DKf (fun q => .int (u q)) ks)]) ∧ ((∀ i, wt i = 1) → ∀ q, u q = 1) ∧ UP wt ks u := by
  have h60 := ht.n1
  have hlen := hi.len
  obtain ⟨W, y2, y3, e1', hW0, hWd, _, hWb, hW1⟩ := ww_loop1 hk.ps hk.sz (f := f) (v0 := some (.ref m.length)) (o4 := none) (o5 := none) (o6 := none) (o7 := none) (m := m ++ [.dic true (DKf (uR wt f) ks)]) ks 1 none none (by decide) (Nat.one_dvd _)
  have hfp := hk.ps f
  have hfs := hk.sz f
  have hWs : W < 2 ^ 60 := Nat.lt_of_le_of_lt (Nat.le_of_dvd hfp hWd) hfs
  have ev := lc_v hk.ps hk.sz (f := f) hWs (v0 := some (.ref m.length)) (o2 := y2) (o3 := y3) (o4 := none) (o5 := none) (o6 := none) (o7 := none) (m := m ++ [.dic true (DKf (uR wt f) ks)]) ks
  have hvv : ∀ q ∈ ks, 0 < vv wt f W q ∧ (vv wt f W q).natAbs < 2 ^ 121 := fun q hq => vv_ok hk.ps hk.sz hW0 hWs (hWb q hq)
  obtain ⟨S0, y6, e3, hS2, hS0, hS1, _, hSd, hSg⟩ := ww_loop2 (v := vv wt f W) (v0 := some (.ref m.length)) (v1 := some (nI W)) (o2 := y2) (o3 := y3) (o4 := some (.ref (m.length + 1))) (o5 := none) (m := m ++ [.dic false (DKf (uR wt f) ks), .dic true (DKf (fun q => .int (vv wt f W q)) ks)]) ks 0 none hvv (by decide)
  have hne : ks ≠ [] := fun e => by
    have := hi.hf
    rw [e] at this
    cases this
  have hSp := hS0 (.inr hne)
  have eu := lc_u (v := vv wt f W) hSp hS2 (v0 := some (.ref m.length)) (v1 := some (nI W)) (o2 := y2) (o3 := y3) (o4 := some (.ref (m.length + 1))) (o5 := none) (o6 := y6) (m := m ++ [.dic false (DKf (uR wt f) ks), .dic true (DKf (fun q => .int (vv wt f W q)) ks)]) ks
  refine ⟨fun q => (vv wt f W q).fdiv (S0 : Int), .dic false (DKf (fun q => .int (vv wt f W q)) ks), ?_, fun ha q => ?_, up_of hk.ps hSp hWb (fun q hq => (hvv q hq).1) hSd fun d h => hSg d (Nat.dvd_zero _) h⟩
  rotate_left
  · have hw1 := hW1 ha rfl
    have hr1 : ∀ q, rr wt f q = (1, 1) := fun q => by
      unfold rr
      rw [ha q, ha f]
      decide
    have hv1 : ∀ q, vv wt f W q = 1 := fun q => by
      unfold vv
      rw [hr1, hw1]
      decide
    rcases hS1 (fun q _ => hv1 q) (.inl rfl) with h | ⟨_, h⟩
    · show (vv wt f W q).fdiv (S0 : Int) = 1
      rw [hv1, h]
      decide
    · exact absurd h hne
  have p1 := pairs_DK (fun q => .int (vv wt f W q)) ks
  have p2 := pairs_DK (fun q => .int ((vv wt f W q).fdiv (S0 : Int))) ks
  have mg1 := merge_DK (fun q => .int (vv wt f W q)) ks [] (by simpa using hi.nd)
  have mg2 := merge_DK (fun q => .int ((vv wt f W q).fdiv (S0 : Int))) ks [] (by simpa using hi.nd)
  rw [List.nil_append] at mg1 mg2
  have mg1' : mergeD [] (DKf (fun q => .int (vv wt f W q)) ks) = DKf (fun q => .int (vv wt f W q)) ks := mg1
  have mg2' : mergeD [] (DKf (fun q => .int ((vv wt f W q).fdiv (S0 : Int))) ks) = DKf (fun q => .int ((vv wt f W q).fdiv (S0 : Int))) ks := mg2
  have hsz : ks.length ≤ sizeLine := by rw [szl]; omega
  have it1 := items_DK (uR wt f) ks
  have it2 := items_DK (fun q => .int (vv wt f W q)) ks
  have vl1 := vals_DK (uR wt f) ks
  have vl2 := vals_DK (fun q => .int (vv wt f W q)) ks
  obtain ⟨R0, hR0⟩ : ∃ R0, R0 = DKf (uR wt f) ks := ⟨_, rfl⟩
  obtain ⟨V0, hV0⟩ : ∃ V0, V0 = DKf (fun q => .int (vv wt f W q)) ks := ⟨_, rfl⟩
  rw [← hR0] at e1' ev e3 eu it1 vl1 ⊢
  rw [← hV0] at e3 eu it2 vl2 p1 mg1' ⊢
  obtain ⟨F1, hF1⟩ : ∃ F1, F1 = eTup (aCons (eVar 5) (aCons (e2 fdivD (e2 mulD (e2 ixD (eVar 6) (eC (.int 0))) (eVar 1)) (e2 ixD (eVar 6) (eC (.int 1)))) aNil)) := ⟨_, rfl⟩
  obtain ⟨F2, hF2⟩ : ∃ F2, F2 = eTup (aCons (eVar 5) (aCons (e2 fdivD (eVar 6) (eVar 7)) aNil)) := ⟨_, rfl⟩
  rw [← hF1] at ev
  rw [← hF2] at eu
  simp only [m_whole_weights, q_whole_weights, mkF]
  rw [← hF1, ← hF2]
  rw [seq_nx (s' := ⟨[some (.ref m.length), some (nI 1), none, none, none, none, none, none], m ++ [.dic false R0]⟩) (by rfl)]
  rw [seq_nx (s' := ⟨[some (.ref m.length), some (nI W), y2, y3, none, none, none, none], m ++ [.dic false R0]⟩) (by
    simp [sLock, lockS, sFor, iDic, eVar, R.bind, R.then, mDicL, vl1, e1', unlockS])]
  rw [seq_nx (s' := ⟨[some (.ref m.length), some (nI W), y2, y3, some (.ref (m.length + 1)), none, none, none], m ++ [.dic false R0, .dic false V0]⟩) (by
    simp [sAsg, asgD, e1, eLock, lockS, eLc, iDic, eVar, R.bind, R.then, mDicL, it1, hsz, ev, unlockS, dictD, p1, mg1'])]
  rw [seq_nx (s' := ⟨[some (.ref m.length), some (nI W), y2, y3, some (.ref (m.length + 1)), none, none, some (nI 0)], m ++ [.dic false R0, .dic false V0]⟩) (by
    simp [sAsg, asgD, eC, R.then]
    rfl)]
  rw [seq_nx (s' := ⟨[some (.ref m.length), some (nI W), y2, y3, some (.ref (m.length + 1)), none, y6, some (nI S0)], m ++ [.dic false R0, .dic false V0]⟩) (by
    simp [sLock, lockS, sFor, iDic, eVar, R.bind, R.then, mDicL, vl2, e3, unlockS])]
  simp [sRet, R.then, R.bind, e1, eLock, lockS, eLc, iDic, eVar, mDicL, it2, hsz, eu, unlockS, dictD, p2, mg2']
end A15
set_option linter.all false
set_option maxRecDepth 10000
namespace A15
open PySem PySem.Spec PyProof.Rows L2 DL
theorem rr_self {wt : Nat → Nat} (hps : ∀ i, 0 < wt i) (hsz : ∀ i, wt i < 2 ^ 60) (f : Nat) : rr wt f f = (1, 1) := by
  have h := hps f
  have h2 := hsz f
  unfold rr
  rw [lo_same (a := (wt f : Int)) (b := (wt f : Int)) (c := 1) (d := 1) (by omega) (by omega) (by decide) (by decide) (by rw [Int.mul_one, Int.one_mul]) 60 (by simpa using h2) (by simpa using h2) (by decide) (by decide)]
  decide
theorem e_pweights {w : Web} {wt : Nat → Nat} (ht : Tab w) (hk : Sk w wt) {f : Nat} (hf : f < w.length) (m : List Cell) :
    ∃ (u : Nat → Int) (ks : List Nat) (X Y : Cell), m_part_weights [WD w, nI f] m = .ok (.ref (m.length + 2)) (m ++ [Y, X, .dic false (DKf (fun q => .int (u q)) ks)]) ∧ KInv w f ks ∧ ((∀ i, wt i = 1) → ∀ q, u q = 1) ∧ (∀ q, Cn w f q → q ∈ ks) ∧ UP wt ks u := by
  have h60 := ht.n1
  obtain ⟨P, eP, hP, hcl⟩ := e_part ht hf (m ++ [.dic false (DKf (uR wt f) [f])])
  have hi0 : KInv w f [f] := ⟨by simp, fun q hq => by rw [List.mem_singleton.1 hq]; exact hf, by simp, fun q hq => by rw [List.mem_singleton.1 hq]; exact .refl⟩
  obtain ⟨ks, y3, y4, y5, y6, y7, e2', hi, hPk⟩ := pw_out ht hk hP (v1 := some (nI f)) m P [] [f] none none none none none rfl (fun y hy => (List.not_mem_nil hy).elim) hi0
  obtain ⟨u, X, e3, hu, hup⟩ := e_whole ht hk hi m
  refine ⟨u, ks, X, .dic false (DKf (uR wt f) ks), ?_, hi, hu, fun q hq => hPk q (hq.clos ht hf (by obtain ⟨tl, e⟩ := hP.hd; rw [e]; simp) hcl), hup⟩
  have o2 : (2 : Nat) ≤ sizeLine := by rw [szl]; decide
  have hu0 : uR wt f f = .tup [.int 1, .int 1] := by
    unfold uR
    rw [rr_self hk.ps hk.sz]
    rfl
  have hd0 : DKf (uR wt f) [f] = [(.inl (f : Int), .tup [.int 1, .int 1])] := by
    unfold DKf
    rw [List.map_cons, List.map_nil, hu0]
  have kf : keyD (nI f) = some (.inl (f : Int)) := rfl
  have eP' : m_part_from [WD w, nI f] (m ++ [.dic false (DKf (uR wt f) [f])]) = .ok (.lst (nD P)) (m ++ [.dic false (DKf (uR wt f) [f])]) := eP
  obtain ⟨D0, hD0⟩ : ∃ D0, D0 = DKf (uR wt f) [f] := ⟨_, rfl⟩
  rw [← hD0] at e2' eP' hd0
  obtain ⟨NF, hNF⟩ : ∃ NF, NF = nI f := ⟨_, rfl⟩
  rw [← hNF] at e2' eP' kf ⊢
  simp only [m_part_weights, q_part_weights, mkF]
  rw [seq_nx (s' := ⟨[some (WD w), some NF, some (.ref m.length), none, none, none, none, none], m ++ [.dic false D0]⟩) (by
    rw [hd0]
    simp [mkF, sNil, sSeq, sAsg, sAsgF, sAsgC, sPar, sPar3, sIf, sRet, sFor, forL, sSetM, sSetI, sApp, sExt, sDrop, sRaise, sTry, hSay, hNil, Ex.ix, e1, e2, eBi, eIf, eVar, eC, eTup, eLst, eSl, slD, pNone, pSome, eLc, lcL, wipeD, Tg.vs, tYesS, aCons, aNil, t2, tTru, truB, truD, tNotS, tAndS, tOrS, eAndB, eOrB, eNotB, eOrV, cmpB, cmpD, iCmp, R.then, R.bind, asgD, DL.setL, addD, subD, negD, absD, DL.intD, mLst, lenD, listD, tupleD, allD, blsD, isiD, isi2D, isTy, isND, notND, DL.isNon, ltB_eq, eCallN, eCallV, callR, iN, i1, rng1I, seqI, gcdD, augD, sAug, eDic1, kf, o2])]
  rw [seq_nx (s' := ⟨[some (WD w), some NF, some (.ref m.length), y3, y4, y5, y6, y7], m ++ [.dic false (DKf (uR wt f) ks)]⟩) (by
    rw [← e2']
    simp [sFor, i1, eCallN, callR, aCons, aNil, eVar, R.bind, R.then, eP', seqI])]
  simp [mkF, sNil, sSeq, sAsg, sAsgF, sAsgC, sPar, sPar3, sIf, sRet, sFor, forL, sSetM, sSetI, sApp, sExt, sDrop, sRaise, sTry, hSay, hNil, Ex.ix, e1, e2, eBi, eIf, eVar, eC, eTup, eLst, eSl, slD, pNone, pSome, eLc, lcL, wipeD, Tg.vs, tYesS, aCons, aNil, t2, tTru, truB, truD, tNotS, tAndS, tOrS, eAndB, eOrB, eNotB, eOrV, cmpB, cmpD, iCmp, R.then, R.bind, asgD, DL.setL, addD, subD, negD, absD, DL.intD, mLst, lenD, listD, tupleD, allD, blsD, isiD, isi2D, isTy, isND, notND, DL.isNon, ltB_eq, eCallN, eCallV, callR, iN, i1, rng1I, seqI, gcdD, augD, sAug, e3]
theorem put_DK' (z : Nat → Int) (q : Nat) (d : Int) (ks : List Nat) : putD (DKf (fun x => .int (z x)) ks) (.inl (q : Int)) (.int d) = DKf (fun x => .int (if x = q then d else z x)) (addK ks q) := by
  have h := put_DK (fun x => .int (if x = q then d else z x)) q ks
  simp only [if_true] at h
  rw [← h]
  unfold putD
  rw [any_DK, any_DK]
  by_cases hq : q ∈ ks
  · simp only [hq, decide_true, if_true]
    unfold DKf
    rw [List.map_map, List.map_map]
    apply List.map_congr_left
    intro k _
    simp only [Function.comp]
    split
    · rfl
    · rename_i hne
      have : ¬ k = q := fun e => hne (by rw [e])
      rw [if_neg this]
  · simp only [hq, decide_false, Bool.false_eq_true, if_false]
    congr 1
    unfold DKf
    apply List.map_congr_left
    intro k hk
    have : ¬ k = q := fun e => hq (by rw [← e]; exact hk)
    simp only [this, if_false]
theorem merge_z (v : Nat → Int) : ∀ (ks ks0 : List Nat) (z : Nat → Int), ∃ (z' : Nat → Int) (ks' : List Nat), mergeD (DKf (fun x => .int (z x)) ks0) (DKf (fun x => .int (v x)) ks) = DKf (fun x => .int (z' x)) ks' ∧ (∀ q, q ∈ ks' ↔ q ∈ ks0 ∨ q ∈ ks) ∧ (ks0.Nodup → ks'.Nodup) ∧ ((∀ q, z q = 1) → (∀ q, v q = 1) → ∀ q, z' q = 1) ∧ (∀ q, q ∈ ks → z' q = v q) ∧ (∀ q, ¬ q ∈ ks → z' q = z q)
  | [], ks0, z => ⟨z, ks0, by simp [mergeD, DKf], fun q => by simp, fun h => h, fun h _ => h, fun q h => (List.not_mem_nil h).elim, fun q _ => rfl⟩
  | q :: ks, ks0, z => by
    obtain ⟨z', ks', e, h1, h2, h3, k1, k2⟩ := merge_z v ks (addK ks0 q) (fun x => if x = q then v q else z x)
    refine ⟨z', ks', ?_, fun k => ?_, fun hn => h2 ?_, fun hz hv => h3 (fun k => ?_) hv, fun k hk => ?_, fun k hk => ?_⟩
    rotate_left
    rotate_left
    rotate_left
    rotate_left
    · by_cases h : k ∈ ks
      · exact k1 k h
      · rw [k2 k h]
        rcases List.mem_cons.1 hk with e | e
        · show (if k = q then v q else z k) = v k
          rw [if_pos e, e]
        · exact absurd e h
    · rw [k2 k fun h => hk (List.mem_cons_of_mem _ h)]
      show (if k = q then v q else z k) = z k
      rw [if_neg fun e => hk (by rw [e]; simp)]
    · have e0 : mergeD (DKf (fun x => .int (z x)) ks0) (DKf (fun x => .int (v x)) (q :: ks)) = mergeD (putD (DKf (fun x => .int (z x)) ks0) (.inl (q : Int)) (.int (v q))) (DKf (fun x => .int (v x)) ks) := rfl
      rw [e0, put_DK', e]
    · rw [h1]
      unfold addK
      split
      · rename_i hq
        constructor
        · rintro (h | h)
          · exact .inl h
          · exact .inr (List.mem_cons_of_mem _ h)
        · rintro (h | h)
          · exact .inl h
          · rcases List.mem_cons.1 h with rfl | h
            · exact .inl hq
            · exact .inr h
      · simp only [List.mem_append, List.mem_cons, List.not_mem_nil, or_false]
        constructor
        · rintro ((h | h) | h)
          · exact .inl h
          · exact .inr (.inl h)
          · exact .inr (.inr h)
        · rintro (h | (h | h))
          · exact .inl (.inl h)
          · exact .inl (.inr h)
          · exact .inr h
    · unfold addK
      split
      · exact hn
      · rename_i hq
        rw [List.nodup_append]
        refine ⟨hn, by simp, fun a ha b hb e => hq ?_⟩
        rw [List.mem_singleton.1 hb] at e
        rw [← e]
        exact ha
    · show (if k = q then v q else z k) = 1
      split
      · exact hv q
      · exact hz k
theorem any_ff {α : Type} (xs : List α) : blsD (xs.map fun _ => D.bl false) = some (xs.map fun _ => false) := by
  induction xs with
  | nil => rfl
  | cons x xs ih => simp [blsD, ih]
theorem wi_any {w : Web} {wt : Nat → Nat} (ht : Tab w) (hk : Sk w wt) {p : Nat} (hp : p < w.length) {v1 v3 v4 : Option D} {m : List Cell} :
    tOrS (tTru (e1 anyD (eLc (iN rng1I (aCons (e1 lenD (eVar 0)) aNil)) (.one 3) tYesS (eAndB (e2 (cmpD neD) (e2 ixD (e2 ixD (eVar 0) (eVar 3)) (eVar 2)) (eC (.int 0))) (e2 (cmpD eqD) (e2 ixD (e2 ixD (eVar 0) (eVar 2)) (eVar 3)) (eC (.int 0))))))) (t2 (cmpB neD) (e2 ixD (e2 ixD (eVar 0) (eVar 2)) (eVar 2)) (eC (.int 0))) ⟨[some (WD w), v1, some (nI p), v3, v4], m⟩ = .ok false ⟨[some (WD w), v1, some (nI p), v3, v4], m⟩ := by
  have h60 := ht.n1
  have hr : ∀ s, rng1I [.int w.length] s = .ok (rngL 0 w.length) s := fun s => rngS _ s (by omega)
  have i1' : ∀ st, ixD (WD w) (nI p) st = .ok (.tup ((rowW w p).map D.int)) st := fun st => ixW hp st
  have hpp : bW w p p = 0 := by
    obtain ⟨h1, h2, _⟩ := hk.pos hp hp
    rcases Int.lt_trichotomy (bW w p p) 0 with h | h | h
    · have := h1.2 h; omega
    · exact h
    · have := h1.1 h; omega
  have i2' : ∀ st, ixD (.tup ((rowW w p).map D.int)) (nI p) st = .ok (.int 0) st := fun st => by
    have := ixrow (rowW w p) p (by rw [ht.row hp]; exact hp) st
    rw [show (rowW w p).getD p 0 = 0 from hpp] at this
    exact this
  have lc := lc_map 3 (eAndB (e2 (cmpD neD) (e2 ixD (e2 ixD (eVar 0) (eVar 3)) (eVar 2)) (eC (.int 0))) (e2 (cmpD eqD) (e2 ixD (e2 ixD (eVar 0) (eVar 2)) (eVar 3)) (eC (.int 0)))) [some (WD w), v1, some (nI p), v3, v4] m (fun q : Nat => D.int (0 + (q : Int))) (fun _ => .bl false) (List.range w.length) fun q hq => by
    have hq' := List.mem_range.1 hq
    have j1 : ∀ st, ixD (WD w) (.int (q : Int)) st = .ok (.tup ((rowW w q).map D.int)) st := fun st => ixW hq' st
    have j2 : ∀ st, ixD (.tup ((rowW w q).map D.int)) (nI p) st = .ok (.int (bW w q p)) st := fun st => ixrow _ _ (by rw [ht.row hq']; exact hp) st
    have j3 : ∀ st, ixD (.tup ((rowW w p).map D.int)) (.int (q : Int)) st = .ok (.int (bW w p q)) st := fun st => ixrow _ _ (by rw [ht.row hp]; exact hq') st
    have hz := (hk.pos hq' hp).2.1
    by_cases hb : bW w q p = 0
    · simp [isOkM, mkF, sNil, sSeq, sAsg, sAsgF, sAsgC, sPar, sPar3, sIf, sRet, sFor, forL, sSetM, sSetI, sApp, sExt, sDrop, sRaise, sTry, hSay, hNil, Ex.ix, e1, e2, eBi, eIf, eVar, eC, eTup, eLst, eSl, slD, pNone, pSome, eLc, lcL, wipeD, Tg.vs, tYesS, aCons, aNil, t2, tTru, truB, truD, tNotS, tAndS, tOrS, eAndB, eOrB, eNotB, eOrV, cmpB, cmpD, iCmp, R.then, R.bind, asgD, DL.setL, addD, subD, negD, absD, DL.intD, mLst, lenD, listD, tupleD, allD, blsD, isiD, isi2D, isTy, isND, notND, DL.isNon, ltB_eq, eCallN, eCallV, callR, iN, i1, rng1I, seqI, gcdD, augD, sAug, j1, j2, hb, neI]
    · have hb2 : ¬ bW w p q = 0 := fun e => hb (hz.2 e)
      have hbb : (bW w q p == 0) = false := by simpa using hb
      have hbb2 : (bW w p q == 0) = false := by simpa using hb2
      simp [isOkM, mkF, sNil, sSeq, sAsg, sAsgF, sAsgC, sPar, sPar3, sIf, sRet, sFor, forL, sSetM, sSetI, sApp, sExt, sDrop, sRaise, sTry, hSay, hNil, Ex.ix, e1, e2, eBi, eIf, eVar, eC, eTup, eLst, eSl, slD, pNone, pSome, eLc, lcL, wipeD, Tg.vs, tYesS, aCons, aNil, t2, tTru, truB, truD, tNotS, tAndS, tOrS, eAndB, eOrB, eNotB, eOrV, cmpB, cmpD, iCmp, R.then, R.bind, asgD, DL.setL, addD, subD, negD, absD, DL.intD, mLst, lenD, listD, tupleD, allD, blsD, isiD, isi2D, isTy, isND, notND, DL.isNon, ltB_eq, eCallN, eCallV, callR, iN, i1, rng1I, seqI, gcdD, augD, sAug, j1, j2, j3, i1', neI, eqI, hbb, hbb2]
  have hz : (rngL 0 w.length).length ≤ sizeLine := by rw [szl]; simp [rngL]; omega
  obtain ⟨F, hF⟩ : ∃ F, F = eAndB (e2 (cmpD neD) (e2 ixD (e2 ixD (eVar 0) (eVar 3)) (eVar 2)) (eC (.int 0))) (e2 (cmpD eqD) (e2 ixD (e2 ixD (eVar 0) (eVar 2)) (eVar 3)) (eC (.int 0))) := ⟨_, rfl⟩
  rw [← hF] at lc ⊢
  have lc' : lcL (.one 3) tYesS F [some (WD w), v1, some (nI p), v3, v4] (rngL 0 w.length) m = some ((List.range w.length).map fun _ => .bl false, m) := lc
  have hlw : ∀ st, lenD (WD w) st = .ok (.int w.length) st := fun st => by unfold WD; simp [lenD]
  have hfa : ((List.range w.length).map fun _ => false).any id = false := by simp
  simp only [tOrS, tTru, e1, eLc, iN, aCons, aNil, eVar, R.bind, List.getD_cons_succ, List.getD_cons_zero, hlw, hr, hz, if_true, lc', anyD, any_ff, hfa, truB, truD, Bool.false_eq_true, if_false, t2, cmpB, e2, i1', i2', eC, neI, beq_self_eq_true, Bool.not_true]
end A15
set_option linter.all false
set_option maxRecDepth 10000
namespace A15
open PySem PySem.Spec PyProof.Rows L2 DL
structure FInv (w : Web) (ks : List Nat) : Prop where
  nd : ks.Nodup
  lt : ∀ q ∈ ks, q < w.length
def DZ (z : Nat → Int) (ks : List Nat) : List (Key × D) := DKf (fun q => .int (z q)) ks
/-- the numbers told so far: by parts, least, in the ratios of the weights -/
structure GI (w : Web) (wt : Nat → Nat) (ks : List Nat) (z : Nat → Int) : Prop where
  cl : ∀ p ∈ ks, ∀ q, Cn w p q → q ∈ ks
  ps : ∀ p ∈ ks, 0 < z p
  pr : ∀ p ∈ ks, ∀ q, Cn w p q → z p * (wt q : Int) = z q * (wt p : Int)
  gc : ∀ p ∈ ks, ∀ d : Nat, (∀ q, Cn w p q → (d : Int) ∣ z q) → d = 1
theorem GI.add {w : Web} {wt : Nat → Nat} (hk : Sk w wt) {ks ks2 ks' : List Nat} {z u z' : Nat → Int} (h : GI w wt ks z) {p : Nat} (hp : p < w.length) (hpk : ¬ p ∈ ks) (h2 : KInv w p ks2) (hc : ∀ q, Cn w p q → q ∈ ks2) (hu : UP wt ks2 u) (hm : ∀ q, q ∈ ks' ↔ q ∈ ks ∨ q ∈ ks2) (z1 : ∀ q, q ∈ ks2 → z' q = u q) (z2 : ∀ q, ¬ q ∈ ks2 → z' q = z q) (hlt : ∀ q ∈ ks, q < w.length) : GI w wt ks' z' := by
  have hin : ∀ x, x ∈ ks2 → ∀ q, Cn w x q → q ∈ ks2 := fun x hx q hq => hc q ((h2.cn x hx).trans hq)
  have hout : ∀ x, x ∈ ks → ¬ x ∈ ks2 := fun x hx hx2 => hpk (h.cl x hx p ((h2.cn x hx2).symm hk hp))
  have hoc : ∀ x, x ∈ ks → ∀ q, Cn w x q → ¬ q ∈ ks2 := fun x hx q hq => hout q (h.cl x hx q hq)
  refine ⟨fun x hx q hq => ?_, fun x hx => ?_, fun x hx q hq => ?_, fun x hx d hd => ?_⟩
  · rcases (hm x).1 hx with hx | hx
    · exact (hm q).2 (.inl (h.cl x hx q hq))
    · exact (hm q).2 (.inr (hin x hx q hq))
  · rcases (hm x).1 hx with hx | hx
    · rw [z2 x (hout x hx)]; exact h.ps x hx
    · rw [z1 x hx]; exact hu.ps x hx
  · rcases (hm x).1 hx with hx | hx
    · rw [z2 x (hout x hx), z2 q (hoc x hx q hq)]; exact h.pr x hx q hq
    · rw [z1 x hx, z1 q (hin x hx q hq)]; exact hu.pr x hx q (hin x hx q hq)
  · rcases (hm x).1 hx with hx | hx
    · exact h.gc x hx d fun q hq => by
        rw [← z2 q (hoc x hx q hq)]
        exact hd q hq
    · exact hu.gc d fun q hq => by
        rw [← z1 q hq]
        exact hd q (((h2.cn x hx).symm hk hp).trans (h2.cn q hq))
theorem wi_step {w : Web} {wt : Nat → Nat} (ht : Tab w) (hk : Sk w wt) {p : Nat} (hp : p < w.length) {m0 ext : List Cell} {ks : List Nat} {z : Nat → Int} (hi : FInv w ks) (hgi : GI w wt ks z) (hz1 : (∀ i, wt i = 1) → ∀ q, z q = 1) {o3 o4 : Option D} :
    ∃ z' ks' ext' y4, q_weights_in_b1 ⟨[some (WD w), some (.ref m0.length), some (nI p), o3, o4], m0 ++ .dic false (DZ z ks) :: ext⟩ = .next ⟨[some (WD w), some (.ref m0.length), some (nI p), o3, y4], m0 ++ .dic false (DZ z' ks') :: ext'⟩ ∧ FInv w ks' ∧ (∀ q ∈ ks, q ∈ ks') ∧ p ∈ ks' ∧ ((∀ i, wt i = 1) → ∀ q, z' q = 1) ∧ GI w wt ks' z' := by
  have any := wi_any ht hk hp (v1 := some (.ref m0.length)) (v3 := o3) (v4 := o4) (m := m0 ++ .dic false (DZ z ks) :: ext)
  have h60 := ht.n1
  have hkp : keyD (nI p) = some (.inl (p : Int)) := rfl
  have hg : (m0 ++ Cell.dic false (DZ z ks) :: ext)[m0.length]? = some (.dic false (DZ z ks)) := by simp
  have hdin : dinD true (nI p) (.ref m0.length) ⟨[some (WD w), some (.ref m0.length), some (nI p), o3, o4], m0 ++ .dic false (DZ z ks) :: ext⟩ = .ok (.bl (!decide (p ∈ ks))) ⟨[some (WD w), some (.ref m0.length), some (nI p), o3, o4], m0 ++ .dic false (DZ z ks) :: ext⟩ := by
    unfold dinD mDic
    simp only [hkp, hg]
    unfold DZ
    rw [val_DK]
    by_cases h : p ∈ ks <;> simp [h]
  have first : sIf (tOrS (tTru (e1 anyD (eLc (iN rng1I (aCons (e1 lenD (eVar 0)) aNil)) (.one 3) tYesS (eAndB (e2 (cmpD neD) (e2 ixD (e2 ixD (eVar 0) (eVar 3)) (eVar 2)) (eC (.int 0))) (e2 (cmpD eqD) (e2 ixD (e2 ixD (eVar 0) (eVar 2)) (eVar 3)) (eC (.int 0))))))) (t2 (cmpB neD) (e2 ixD (e2 ixD (eVar 0) (eVar 2)) (eVar 2)) (eC (.int 0)))) (sRet (eC .non)) sNil ⟨[some (WD w), some (.ref m0.length), some (nI p), o3, o4], m0 ++ .dic false (DZ z ks) :: ext⟩ = .next ⟨[some (WD w), some (.ref m0.length), some (nI p), o3, o4], m0 ++ .dic false (DZ z ks) :: ext⟩ := by
    unfold sIf
    rw [any]
    rfl
  by_cases hpk : p ∈ ks
  · refine ⟨z, ks, ext, o4, ?_, hi, fun q h => h, hpk, hz1, hgi⟩
    rw [q_weights_in_b1, seq_nx first]
    simp [sIf, toB, e2, eVar, R.bind, R.then, hdin, hpk, sNil]
  · obtain ⟨u, ks2, X, Y, ep, hi2, hu, hcn, hup⟩ := e_pweights ht hk hp (m0 ++ .dic false (DZ z ks) :: ext)
    obtain ⟨z', ks', em, hm, hnd, hz', hzi, hzo⟩ := merge_z u ks2 ks z
    have hlen : (m0 ++ Cell.dic false (DZ z ks) :: ext).length = m0.length + 1 + ext.length := by simp; omega
    refine ⟨z', ks', ext ++ [Y, X, .dic false (DZ u ks2)], some (.ref ((m0 ++ Cell.dic false (DZ z ks) :: ext).length + 2)), ?_, ⟨hnd hi.nd, fun q hq => ?_⟩, fun q hq => (hm q).2 (.inl hq), (hm p).2 (.inr hi2.hf), fun ha => hz' (hz1 ha) (hu ha), hgi.add hk hp hpk hi2 hcn hup hm hzi hzo hi.lt⟩
    rotate_left
    · rcases (hm q).1 hq with h | h
      · exact hi.lt q h
      · exact hi2.lt q h
    have l1 := nodup_len _ _ hi.nd hi.lt
    have l2 := hi2.len
    have hsz : (DZ z ks).length + (DZ u ks2).length ≤ sizeLine := by
      rw [szl]
      unfold DZ DKf
      rw [List.length_map, List.length_map]
      omega
    have hmem : m0 ++ Cell.dic false (DZ z ks) :: ext ++ [Y, X, Cell.dic false (DZ u ks2)] = m0 ++ .dic false (DZ z ks) :: (ext ++ [Y, X, .dic false (DZ u ks2)]) := by simp
    have ep' : m_part_weights [WD w, nI p] (m0 ++ .dic false (DZ z ks) :: ext) = .ok (.ref ((m0 ++ Cell.dic false (DZ z ks) :: ext).length + 2)) (m0 ++ .dic false (DZ z ks) :: (ext ++ [Y, X, .dic false (DZ u ks2)])) := by
      rw [← hmem]
      exact ep
    have hu2 : ∀ r : List (Option D), mDicU ⟨r, m0 ++ .dic false (DZ z ks) :: (ext ++ [Y, X, .dic false (DZ u ks2)])⟩ m0.length = some (DZ z ks) := fun r => by
      unfold mDicU
      simp
    have hu3 : ∀ r : List (Option D), mDic ⟨r, m0 ++ .dic false (DZ z ks) :: (ext ++ [Y, X, .dic false (DZ u ks2)])⟩ ((m0 ++ Cell.dic false (DZ z ks) :: ext).length + 2) = some (DZ u ks2) := fun r => by
      unfold mDic
      rw [← hmem]
      simp only
      rw [List.getElem?_append_right (by omega), show (m0 ++ Cell.dic false (DZ z ks) :: ext).length + 2 - (m0 ++ Cell.dic false (DZ z ks) :: ext).length = 2 by omega]
      rfl
    have hset : (m0 ++ Cell.dic false (DZ z ks) :: (ext ++ [Y, X, .dic false (DZ u ks2)])).set m0.length (.dic false (DZ z' ks')) = m0 ++ .dic false (DZ z' ks') :: (ext ++ [Y, X, .dic false (DZ u ks2)]) := by simp
    have em' : mergeD (DZ z ks) (DZ u ks2) = DZ z' ks' := em
    have hnn : ¬ m0.length = (m0 ++ Cell.dic false (DZ z ks) :: ext).length + 2 := by rw [hlen]; omega
    obtain ⟨c2, hc2⟩ : ∃ c2, c2 = (m0 ++ Cell.dic false (DZ z ks) :: ext).length + 2 := ⟨_, rfl⟩
    rw [← hc2] at ep' hu3 hnn ⊢
    obtain ⟨M1, hM1⟩ : ∃ M1, M1 = m0 ++ Cell.dic false (DZ z ks) :: ext := ⟨_, rfl⟩
    rw [← hM1] at ep' first hdin ⊢
    obtain ⟨M2, hM2⟩ : ∃ M2, M2 = m0 ++ Cell.dic false (DZ z ks) :: (ext ++ [Y, X, .dic false (DZ u ks2)]) := ⟨_, rfl⟩
    rw [← hM2] at ep' hu2 hu3 hset
    obtain ⟨NP, hNP⟩ : ∃ NP, NP = nI p := ⟨_, rfl⟩
    rw [← hNP] at ep' first hdin ⊢
    rw [q_weights_in_b1, seq_nx first]
    simp only [sIf, toB, e2, eVar, R.bind, R.then, List.getD_cons_succ, List.getD_cons_zero, hdin, hpk, decide_false, Bool.not_false, if_true]
    rw [seq_nx (s' := ⟨[some (WD w), some (.ref m0.length), some NP, o3, some (.ref c2)], M2⟩) (by
      simp [sAsg, asgD, eCallN, callR, aCons, aNil, eVar, R.bind, R.then, ep'])]
    rw [seq_nx (s' := ⟨[some (WD w), some (.ref m0.length), some NP, o3, some (.ref c2)], M2⟩) (by
      simp [sIf, t2, cmpB, isND, DL.isNon, eVar, eC, R.bind, R.then, sNil])]
    simp only [sUpd, eVar, R.then, List.getD_cons_succ, List.getD_cons_zero, hu2, hnn, if_false, hu3, hsz, if_true, em', hset]
theorem wi_loop {w : Web} {wt : Nat → Nat} (ht : Tab w) (hk : Sk w wt) {m0 : List Cell} : ∀ (n i : Nat) (ext : List Cell) (ks : List Nat) (z : Nat → Int) (o2 o3 o4 : Option D), i + n = w.length → FInv w ks → (∀ q, q < i → q ∈ ks) → ((∀ i, wt i = 1) → ∀ q, z q = 1) → GI w wt ks z →
    ∃ z' ks' ext' y2 y4, forL (.one 2) q_weights_in_b1 (rngL (i : Int) n) ⟨[some (WD w), some (.ref m0.length), o2, o3, o4], m0 ++ .dic false (DZ z ks) :: ext⟩ = .next ⟨[some (WD w), some (.ref m0.length), y2, o3, y4], m0 ++ .dic false (DZ z' ks') :: ext'⟩ ∧ FInv w ks' ∧ (∀ q, q < w.length → q ∈ ks') ∧ ((∀ i, wt i = 1) → ∀ q, z' q = 1) ∧ GI w wt ks' z'
  | 0, i, ext, ks, z, o2, o3, o4, hn, hi, hq, hz, hgi => ⟨z, ks, ext, o2, o4, by simp [rngL, forL], hi, fun q h => hq q (by omega), hz, hgi⟩
  | n + 1, i, ext, ks, z, o2, o3, o4, hn, hi, hq, hz, hgi => by
    obtain ⟨z1, ks1, ext1, y4, e1', hi1, hs1, hp1, hz1, hg1⟩ := wi_step ht hk (p := i) (by omega) (m0 := m0) (ext := ext) hi hgi hz (o3 := o3) (o4 := o4)
    obtain ⟨z2, ks2, ext2, y2, y4', e2', hi2, hq2, hz2, hg2⟩ := wi_loop ht hk (m0 := m0) n (i + 1) ext1 ks1 z1 (some (nI i)) o3 y4 (by omega) hi1 (fun q h => by
      rcases Nat.lt_or_ge q i with h2 | h2
      · exact hs1 q (hq q h2)
      · have : q = i := by omega
        rw [this]; exact hp1) hz1 hg1
    refine ⟨z2, ks2, ext2, y2, y4', ?_, hi2, hq2, hz2, hg2⟩
    rw [rngL_succ, forL]
    have e1'' : q_weights_in_b1 ⟨[some (WD w), some (.ref m0.length), some (.int (i : Int)), o3, o4], m0 ++ .dic false (DZ z ks) :: ext⟩ = _ := e1'
    simp only [asgD, List.set_cons_succ, List.set_cons_zero, e1'']
    exact_mod_cast e2'
theorem lc_fnd {w : Web} {z : Nat → Int} {ks : List Nat} {c : Nat} {m : List Cell} (hc : m[c]? = some (.dic false (DZ z ks))) {o2 o3 o4 : Option D} : ∀ l : List Nat, (∀ q ∈ l, q ∈ ks) → lcL (.one 2) tYesS (e2 dixD (eVar 1) (eVar 2)) [some (WD w), some (.ref c), o2, o3, o4] (l.map fun q : Nat => D.int (0 + (q : Int))) m = some (l.map fun q => .int (z q), m) := fun l hl =>
  lc_map 2 (e2 dixD (eVar 1) (eVar 2)) [some (WD w), some (.ref c), o2, o3, o4] m (fun q : Nat => D.int (0 + (q : Int))) (fun q => .int (z q)) l fun q hq => by
    have hd : ∀ r : List (Option D), dixD (.ref c) (.int (q : Int)) ⟨r, m⟩ = .ok (.int (z q)) ⟨r, m⟩ := fun r => by
      have hk : keyD (.int (q : Int)) = some (.inl (q : Int)) := rfl
      unfold dixD mDic
      simp only [hk, hc]
      unfold DZ
      rw [val_DK, if_pos (hl q hq)]
    simp [isOkM, mkF, sNil, sSeq, sAsg, sAsgF, sAsgC, sPar, sPar3, sIf, sRet, sFor, forL, sSetM, sSetI, sApp, sExt, sDrop, sRaise, sTry, hSay, hNil, Ex.ix, e1, e2, eBi, eIf, eVar, eC, eTup, eLst, eSl, slD, pNone, pSome, eLc, lcL, wipeD, Tg.vs, tYesS, aCons, aNil, t2, tTru, truB, truD, tNotS, tAndS, tOrS, eAndB, eOrB, eNotB, eOrV, cmpB, cmpD, iCmp, R.then, R.bind, asgD, DL.setL, addD, subD, negD, absD, DL.intD, mLst, lenD, listD, tupleD, allD, blsD, isiD, isi2D, isTy, isND, notND, DL.isNon, ltB_eq, eCallN, eCallV, callR, iN, i1, rng1I, seqI, gcdD, augD, sAug, hd]
def zD (z : Nat → Int) (n : Nat) : List D := (List.range n).map fun q => .int (z q)
theorem e_wi {w : Web} {wt : Nat → Nat} (ht : Tab w) (hk : Sk w wt) (m : List Cell) : ∃ (z : Nat → Int) (ext : List Cell), m_weights_in [WD w] m = .ok (.tup (zD z w.length)) (m ++ ext) ∧ ((∀ i, wt i = 1) → ∀ q, z q = 1) ∧ ∃ ks, (∀ q, q < w.length → q ∈ ks) ∧ GI w wt ks z := by
  have h60 := ht.n1
  obtain ⟨z, ks, ext, y2, y4, e, hi, hq, hz, hgi⟩ := wi_loop ht hk (m0 := m) w.length 0 [] [] (fun _ => 1) none none none (by omega) ⟨by simp, fun q h => (List.not_mem_nil h).elim⟩ (fun q h => by omega) (fun _ _ => rfl) ⟨fun p h => (List.not_mem_nil h).elim, fun p h => (List.not_mem_nil h).elim, fun p h => (List.not_mem_nil h).elim, fun p h => (List.not_mem_nil h).elim⟩
  refine ⟨z, .dic false (DZ z ks) :: ext, ?_, hz, ks, hq, hgi⟩
  have hc : (m ++ Cell.dic false (DZ z ks) :: ext)[m.length]? = some (.dic false (DZ z ks)) := by simp
  have hl := lc_fnd (w := w) hc (o2 := y2) (o3 := none) (o4 := y4) (List.range w.length) fun q h => hq q (List.mem_range.1 h)
  have hlw : ∀ st, lenD (WD w) st = .ok (.int w.length) st := fun st => by unfold WD; simp [lenD]
  have hr : ∀ s, rng1I [.int w.length] s = .ok (rngL 0 w.length) s := fun s => rngS _ s (by omega)
  have hzl : (rngL 0 w.length).length ≤ sizeLine := by rw [szl]; simp [rngL]; omega
  have hl' : lcL (.one 2) tYesS (e2 dixD (eVar 1) (eVar 2)) [some (WD w), some (.ref m.length), y2, none, y4] (rngL 0 w.length) (m ++ Cell.dic false (DZ z ks) :: ext) = some (zD z w.length, m ++ Cell.dic false (DZ z ks) :: ext) := hl
  obtain ⟨F, hF⟩ : ∃ F, F = e2 dixD (eVar 1) (eVar 2) := ⟨_, rfl⟩
  rw [← hF] at hl'
  simp only [m_weights_in, q_weights_in, mkF]
  rw [← hF]
  rw [seq_nx (s' := ⟨[some (WD w), some (.ref m.length), none, none, none], m ++ .dic false (DZ (fun _ => 1) []) :: []⟩) (by rfl)]
  rw [seq_nx (s' := ⟨[some (WD w), some (.ref m.length), y2, none, y4], m ++ .dic false (DZ z ks) :: ext⟩) (by
    unfold sFor iN aCons aNil e1 eVar
    simp only [R.bind, R.then, List.getD_cons_succ, List.getD_cons_zero, hlw, hr]
    exact e)]
  simp [sRet, R.then, R.bind, e1, eLc, iN, aCons, aNil, eVar, hlw, hr, hzl, hl', tupleD]
theorem nrs_z (z : Nat → Int) : ∀ l : List Nat, nrs (l.map fun q => D.int (z q)) = true
  | [] => rfl
  | q :: l => by
    simp only [List.map_cons, nrs, nr, Bool.true_and]
    exact nrs_z z l
theorem e_wiT {w : Web} {wt : Nat → Nat} (ht : Tab w) (hk : Sk w wt) (m : List Cell) (hm : m.all nrC = true) : ∃ z : Nat → Int, trimF m_weights_in [WD w] m = .ok (.tup (zD z w.length)) m ∧ ((∀ i, wt i = 1) → ∀ q, z q = 1) ∧ ∃ ks, (∀ q, q < w.length → q ∈ ks) ∧ GI w wt ks z := by
  obtain ⟨z, ext, e, hz⟩ := e_wi ht hk m
  refine ⟨z, ?_, hz⟩
  have hn : nr (.tup (zD z w.length)) = true := by
    simp only [nr]
    exact nrs_z z _
  unfold trimF
  rw [e]
  simp only [List.take_left, hn, hm, Bool.and_self, if_true]
end A15
set_option linter.all false
set_option maxRecDepth 10000
namespace A15
open PySem PySem.Spec PyProof.Rows L2 DL
/-! webs as functions -/
def rowF (n : Nat) (g : Nat → Int) : D := .tup ((List.range n).map fun j => .int (g j))
def webF (n : Nat) (b : Nat → Nat → Int) : D := .tup ((List.range n).map fun i => rowF n (b i))
def ofF (n : Nat) (b : Nat → Nat → Int) : Web := (List.range n).map fun i => (List.range n).map (b i)
theorem WD_of (n : Nat) (b : Nat → Nat → Int) : WD (ofF n b) = webF n b := by
  unfold WD ofF webF rowF
  rw [List.map_map]
  congr 1
  apply List.map_congr_left
  intro i _
  simp only [Function.comp, List.map_map]
  rfl
theorem bW_of {n : Nat} {b : Nat → Nat → Int} {i j : Nat} (hi : i < n) (hj : j < n) : bW (ofF n b) i j = b i j := by
  unfold bW rowW ofF
  rw [List.getD_eq_getElem?_getD, List.getD_eq_getElem?_getD]
  simp [hi, hj]
theorem bW_out {n : Nat} {b : Nat → Nat → Int} {i j : Nat} (h : ¬ (i < n ∧ j < n)) : bW (ofF n b) i j = 0 := by
  unfold bW rowW ofF
  rw [List.getD_eq_getElem?_getD, List.getD_eq_getElem?_getD]
  by_cases hi : i < n
  · have hj : n ≤ j := by omega
    simp [hi, hj]
  · have hi' : n ≤ i := by omega
    simp [hi']
theorem tab_of {n : Nat} {b : Nat → Nat → Int} (hn : n ≤ 60) : Tab (ofF n b) := by
  refine ⟨by simpa [ofF] using hn, fun r hr => ?_⟩
  obtain ⟨i, _, rfl⟩ := List.mem_map.1 hr
  simp [ofF]
structure SkF (n : Nat) (b : Nat → Nat → Int) (wt : Nat → Nat) : Prop where
  ps : ∀ i, 0 < wt i
  sz : ∀ i, wt i < 2 ^ 60
  sk : ∀ i j, i < n → j < n → (wt i : Int) * b i j = -((wt j : Int) * b j i)
  bs : ∀ i j, i < n → j < n → (b i j).natAbs < 2 ^ 100
theorem SkF.of {n : Nat} {b : Nat → Nat → Int} {wt : Nat → Nat} (h : SkF n b wt) : Sk (ofF n b) wt := by
  refine ⟨h.ps, h.sz, fun i j hi hj => ?_, fun i j => ?_⟩
  · have hi' : i < n := by simpa [ofF] using hi
    have hj' : j < n := by simpa [ofF] using hj
    rw [bW_of hi' hj', bW_of hj' hi']
    exact h.sk i j hi' hj'
  · by_cases hij : i < n ∧ j < n
    · rw [bW_of hij.1 hij.2]
      exact h.bs i j hij.1 hij.2
    · rw [bW_out hij]
      decide
theorem ixF {n : Nat} {b : Nat → Nat → Int} {i : Nat} (h : i < n) (st : S) : ixD (webF n b) (.int i) st = .ok (rowF n (b i)) st := by
  unfold webF
  rw [ixt, atN _ _ (by simpa using h)]
  simp [h]
theorem ixR {n : Nat} {g : Nat → Int} {j : Nat} (h : j < n) (st : S) : ixD (rowF n g) (.int j) st = .ok (.int (g j)) st := by
  unfold rowF
  rw [ixt, atN _ _ (by simpa using h)]
  simp [h]
theorem webF_congr {n : Nat} {b b' : Nat → Nat → Int} (h : ∀ i j, i < n → j < n → b i j = b' i j) : webF n b = webF n b' := by
  unfold webF rowF
  congr 1
  apply List.map_congr_left
  intro i hi
  congr 1
  apply List.map_congr_left
  intro j hj
  rw [h i j (List.mem_range.1 hi) (List.mem_range.1 hj)]
theorem lenF (n : Nat) (b : Nat → Nat → Int) (st : S) : lenD (webF n b) st = .ok (.int n) st := by simp [webF, lenD]
/-! equality -/
def pR (n : Nat) (g : Nat → Int) : PyData := .tuple ((List.range n).map fun j => .int (g j))
def pW (n : Nat) (b : Nat → Nat → Int) : PyData := .tuple ((List.range n).map fun i => pR n (b i))
theorem toPs_map {α : Type} (g : α → D) (p : α → PyData) : ∀ l : List α, (∀ x ∈ l, toP (g x) = some (p x)) → toPs (l.map g) = some (l.map p)
  | [], _ => rfl
  | x :: l, h => by
    have h1 := h x (by simp)
    have h2 := toPs_map g p l fun y hy => h y (List.mem_cons_of_mem _ hy)
    simp only [List.map_cons, toPs, h1, h2]
theorem toP_row (n : Nat) (g : Nat → Int) : toP (rowF n g) = some (pR n g) := by
  unfold rowF pR
  simp only [toP, toPs_map (fun j => D.int (g j)) (fun j => PyData.int (g j)) (List.range n) fun _ _ => rfl, Option.map_some]
theorem toP_web (n : Nat) (b : Nat → Nat → Int) : toP (webF n b) = some (pW n b) := by
  unfold webF pW
  simp only [toP, toPs_map (fun i => rowF n (b i)) (fun i => pR n (b i)) (List.range n) fun i _ => toP_row n (b i), Option.map_some]
theorem lay_map {α : Type} (p : α → PyData) : ∀ l : List α, (∀ x ∈ l, (p x).canLay0 = true) → PyData.canLayAll0 (l.map p) = true
  | [], _ => rfl
  | x :: l, h => by
    simp only [List.map_cons, PyData.canLayAll0, h x (by simp), lay_map p l fun y hy => h y (List.mem_cons_of_mem _ hy), Bool.and_self]
theorem dep_map {α : Type} (p : α → PyData) (k : Nat) : ∀ l : List α, (∀ x ∈ l, (p x).depth ≤ k) → PyData.depthAll (l.map p) ≤ k
  | [], _ => by simp [PyData.depthAll]
  | x :: l, h => by
    have h1 := h x (by simp)
    have h2 := dep_map p k l fun y hy => h y (List.mem_cons_of_mem _ hy)
    simp only [List.map_cons, PyData.depthAll]
    omega
theorem lay_row (n : Nat) (g : Nat → Int) : (pR n g).canLay0 = true := by
  unfold pR
  simp only [PyData.canLay0]
  exact lay_map _ _ fun _ _ => rfl
theorem dep_row (n : Nat) (g : Nat → Int) : (pR n g).depth ≤ 2 := by
  unfold pR
  have := dep_map (fun j => PyData.int (g j)) 1 (List.range n) fun _ _ => by simp [PyData.depth]
  simp only [PyData.depth]
  omega
theorem shp_web (n : Nat) (b : Nat → Nat → Int) : SeqAt.shaped (pW n b) = true := by
  unfold pW SeqAt.shaped
  have h1 := lay_map (fun i => pR n (b i)) (List.range n) fun i _ => lay_row n (b i)
  have h2 := dep_map (fun i => pR n (b i)) 2 (List.range n) fun i _ => dep_row n (b i)
  simp only [PyData.canLay0, h1, Bool.true_and, decide_eq_true_eq, PyData.depth]
  exact decide_eq_true (by omega)
theorem eqD_nil (n : Nat) (b : Nat → Nat → Int) (hn : 0 < n) : eqD (webF n b) (.tup []) = some false := by
  obtain ⟨k, rfl⟩ : ∃ k, n = k + 1 := ⟨n - 1, by omega⟩
  have e : PyData.eqv (pW (k + 1) b) (.tuple []) = false := by
    unfold pW
    rw [List.range_succ_eq_map, List.map_cons]
    simp [PyData.eqv, PyData.eqvAll]
  have h0 : toP (.tup []) = some (.tuple []) := rfl
  have h1 : SeqAt.shaped (.tuple []) = true := by decide
  unfold eqD
  rw [toP_web, h0]
  simp only [shp_web, h1, Bool.and_self, if_true, e]
/-! sure_web -/
theorem tup_int (k : Nat) (i : Int) (m : List Cell) : m_tupled (k + 1) [.int i] m = .ok (.int i) m := by
  simp [m_tupled, q_tupled, mkF, sNil, sSeq, sAsg, sAsgF, sAsgC, sPar, sPar3, sIf, sRet, sFor, forL, sSetM, sSetI, sApp, sExt, sDrop, sRaise, sTry, hSay, hNil, Ex.ix, e1, e2, eBi, eIf, eVar, eC, eTup, eLst, eSl, slD, pNone, pSome, eLc, lcL, wipeD, Tg.vs, tYesS, aCons, aNil, t2, tTru, truB, truD, tNotS, tAndS, tOrS, eAndB, eOrB, eNotB, eOrV, cmpB, cmpD, iCmp, R.then, R.bind, asgD, DL.setL, addD, subD, negD, absD, DL.intD, mLst, lenD, listD, tupleD, allD, blsD, isiD, isi2D, isTy, isND, notND, DL.isNon, ltB_eq, eCallN, eCallV, callR, iN, i1, rng1I, seqI, gcdD, augD, sAug, mulD, modD, fdivD, ixD, szl]
theorem tup_seq {α : Type} (k : Nat) (g h : α → D) (l : List α) (m : List Cell) (hl : l.length ≤ 1000) (v : D) (hv : v = .tup (l.map g) ∨ v = .lst (l.map g)) (e : ∀ x ∈ l, m_tupled k [g x] m = .ok (h x) m) : m_tupled (k + 1) [v] m = .ok (.tup (l.map h)) m := by
  have t1 := lc_map 1 (eCallN 1 (m_tupled k) (aCons (eVar 1) aNil)) [some v, none] m g h l fun x hx => by simp [isOkM, mkF, sNil, sSeq, sAsg, sAsgF, sAsgC, sPar, sPar3, sIf, sRet, sFor, forL, sSetM, sSetI, sApp, sExt, sDrop, sRaise, sTry, hSay, hNil, Ex.ix, e1, e2, eBi, eIf, eVar, eC, eTup, eLst, eSl, slD, pNone, pSome, eLc, lcL, wipeD, Tg.vs, tYesS, aCons, aNil, t2, tTru, truB, truD, tNotS, tAndS, tOrS, eAndB, eOrB, eNotB, eOrV, cmpB, cmpD, iCmp, R.then, R.bind, asgD, DL.setL, addD, subD, negD, absD, DL.intD, mLst, lenD, listD, tupleD, allD, blsD, isiD, isi2D, isTy, isND, notND, DL.isNon, ltB_eq, eCallN, eCallV, callR, iN, i1, rng1I, seqI, gcdD, augD, sAug, e x hx]
  have hz : l.length ≤ sizeLine := by rw [szl]; omega
  obtain ⟨F, hF⟩ : ∃ F, F = eCallN 1 (m_tupled k) (aCons (eVar 1) aNil) := ⟨_, rfl⟩
  rw [← hF] at t1
  unfold m_tupled q_tupled
  rw [← hF]
  rcases hv with rfl | rfl
  · simp [mkF, sRet, eIf, tTru, e1, eVar, isi2D, isTy, R.bind, R.then, truB, truD, tupleD, eLc, i1, seqI, hz, t1]
  · simp [mkF, sRet, eIf, tTru, e1, eVar, isi2D, isTy, R.bind, R.then, truB, truD, tupleD, eLc, i1, seqI, hz, t1]
theorem tup_row (k n : Nat) (hn : n ≤ 1000) (g : Nat → Int) (m : List Cell) : m_tupled (k + 2) [rowF n g] m = .ok (rowF n g) m :=
  tup_seq (k + 1) (fun j => D.int (g j)) (fun j => D.int (g j)) (List.range n) m (by simpa using hn) _ (.inl rfl) fun j _ => tup_int k _ m
theorem tup_web (n : Nat) (hn : n ≤ 1000) (b : Nat → Nat → Int) (m : List Cell) : m_tupled 6 [webF n b] m = .ok (webF n b) m :=
  tup_seq 5 (fun i => rowF n (b i)) (fun i => rowF n (b i)) (List.range n) m (by simpa using hn) _ (.inl rfl) fun i _ => tup_row 3 n hn (b i) m
theorem e_table (n : Nat) (h0 : 0 < n) (hn : n ≤ 60) (b : Nat → Nat → Int) (m : List Cell) : m_is_table [webF n b] m = .ok (.bl true) m := by
  have hz : (List.range n).length ≤ sizeLine := by rw [szl, List.length_range]; omega
  have lr : ∀ (g : Nat → Int) (r : List (Option D)), lcL (.one 1) tYesS (eCallN 1 m_is_number (aCons (eVar 1) aNil)) [r.getD 0 none, r.getD 1 none, r.getD 2 none] ((List.range n).map fun j => D.int (g j)) m = some ((List.range n).map fun _ => .bl true, m) := fun g r =>
    lc_map 1 (eCallN 1 m_is_number (aCons (eVar 1) aNil)) _ m (fun j => D.int (g j)) (fun _ => .bl true) (List.range n) fun j _ => by simp [isOkM, mkF, sNil, sSeq, sAsg, sAsgF, sAsgC, sPar, sPar3, sIf, sRet, sFor, forL, sSetM, sSetI, sApp, sExt, sDrop, sRaise, sTry, hSay, hNil, Ex.ix, e1, e2, eBi, eIf, eVar, eC, eTup, eLst, eSl, slD, pNone, pSome, eLc, lcL, wipeD, Tg.vs, tYesS, aCons, aNil, t2, tTru, truB, truD, tNotS, tAndS, tOrS, eAndB, eOrB, eNotB, eOrV, cmpB, cmpD, iCmp, R.then, R.bind, asgD, DL.setL, addD, subD, negD, absD, DL.intD, mLst, lenD, listD, tupleD, allD, blsD, isiD, isi2D, isTy, isND, notND, DL.isNon, ltB_eq, eCallN, eCallV, callR, iN, i1, rng1I, seqI, gcdD, augD, sAug, m_is_number, q_is_number]
  have lw := lc_map 2 (eAndB (eCallN 2 m_is_long (aCons (eVar 2) (aCons (e1 lenD (eVar 0)) aNil))) (e1 allD (eLc (i1 seqI (eVar 2)) (.one 1) tYesS (eCallN 1 m_is_number (aCons (eVar 1) aNil))))) [some (webF n b), none, none] m (fun i => rowF n (b i)) (fun _ => .bl true) (List.range n) fun i _ => by
    have h1 := lr (b i) [some (webF n b), none, some (rowF n (b i))]
    have hlong : m_is_long [rowF n (b i), .int n] m = .ok (.bl true) m := by
      simp [m_is_long, q_is_long, rowF, mkF, sNil, sSeq, sAsg, sAsgF, sAsgC, sPar, sPar3, sIf, sRet, sFor, forL, sSetM, sSetI, sApp, sExt, sDrop, sRaise, sTry, hSay, hNil, Ex.ix, e1, e2, eBi, eIf, eVar, eC, eTup, eLst, eSl, slD, pNone, pSome, eLc, lcL, wipeD, Tg.vs, tYesS, aCons, aNil, t2, tTru, truB, truD, tNotS, tAndS, tOrS, eAndB, eOrB, eNotB, eOrV, cmpB, cmpD, iCmp, R.then, R.bind, asgD, DL.setL, addD, subD, negD, absD, DL.intD, mLst, lenD, listD, tupleD, allD, blsD, isiD, isi2D, isTy, isND, notND, DL.isNon, ltB_eq, eCallN, eCallV, callR, iN, i1, rng1I, seqI, gcdD, augD, sAug, mulD, modD, fdivD, ixD, eqI]
    have hlw := lenF n b
    simp only [List.getD_cons_zero, List.getD_cons_succ] at h1
    obtain ⟨F, hF⟩ : ∃ F, F = eCallN 1 m_is_number (aCons (eVar 1) aNil) := ⟨_, rfl⟩
    rw [← hF] at h1 ⊢
    obtain ⟨WB, hW⟩ : ∃ WB, WB = webF n b := ⟨_, rfl⟩
    rw [← hW] at h1 hlw ⊢
    simp only [eAndB, eCallN, aCons, aNil, eVar, R.bind, e1, List.set_cons_succ, List.set_cons_zero, List.getD_cons_succ, List.getD_cons_zero, hlw, List.length_cons, List.length_nil, if_true, hlong, callR, truD]
    have hsr : ∀ st, seqI (rowF n (b i)) st = .ok ((List.range n).map fun j => D.int (b i j)) st := fun st => rfl
    simp only [eLc, i1, eVar, R.bind, List.getD_cons_succ, List.getD_cons_zero, hsr, List.length_map, hz, if_true, h1]
    simp [isOkM, allD, all_tt]
  have hne := eqD_nil n b h0
  have o0 : (0 : Nat) ≤ sizeLine := Nat.zero_le _
  obtain ⟨F, hF⟩ : ∃ F, F = eAndB (eCallN 2 m_is_long (aCons (eVar 2) (aCons (e1 lenD (eVar 0)) aNil))) (e1 allD (eLc (i1 seqI (eVar 2)) (.one 1) tYesS (eCallN 1 m_is_number (aCons (eVar 1) aNil)))) := ⟨_, rfl⟩
  rw [← hF] at lw
  have hz' : n ≤ sizeLine := by simpa using hz
  have hsq : ∀ st, seqI (webF n b) st = .ok ((List.range n).map fun i => rowF n (b i)) st := fun st => rfl
  have hty : ∀ st, isiD .tuple (webF n b) st = .ok (.bl true) st := fun st => rfl
  unfold m_is_table q_is_table
  rw [← hF]
  obtain ⟨WB, hW⟩ : ∃ WB, WB = webF n b := ⟨_, rfl⟩
  rw [← hW] at lw hne hsq hty ⊢
  simp [mkF, sSeq, sIf, tOrS, tNotS, tTru, e1, eVar, R.bind, R.then, hty, truB, truD, DL.t2, cmpB, eTup, aNil, hne, sNil, sRet, eLc, i1, hsq, hz', lw, allD, all_tt]
theorem nrs_row (n : Nat) (g : Nat → Int) : nr (rowF n g) = true := by
  unfold rowF
  simp only [nr]
  exact nrs_z g _
theorem nr_web (n : Nat) (b : Nat → Nat → Int) : nr (webF n b) = true := by
  have : ∀ l : List Nat, nrs (l.map fun i => rowF n (b i)) = true := by
    intro l
    induction l with
    | nil => rfl
    | cons i l ih => simp only [List.map_cons, nrs, nrs_row, ih, Bool.and_self]
  unfold webF
  simp only [nr]
  exact this _
theorem e_isweb {n : Nat} (h0 : 0 < n) (hn : n ≤ 60) {b : Nat → Nat → Int} {wt : Nat → Nat} (h : SkF n b wt) (m : List Cell) (hm : m.all nrC = true) : m_is_web [webF n b] m = .ok (.bl true) m := by
  obtain ⟨z, e, _⟩ := e_wiT (tab_of (b := b) hn) h.of m hm
  rw [WD_of] at e
  have et := fun m => e_table n h0 hn b m
  simp [m_is_web, q_is_web, mkF, sNil, sSeq, sAsg, sAsgF, sAsgC, sPar, sPar3, sIf, sRet, sFor, forL, sSetM, sSetI, sApp, sExt, sDrop, sRaise, sTry, hSay, hNil, Ex.ix, e1, e2, eBi, eIf, eVar, eC, eTup, eLst, eSl, slD, pNone, pSome, eLc, lcL, wipeD, Tg.vs, tYesS, aCons, aNil, t2, tTru, truB, truD, tNotS, tAndS, tOrS, eAndB, eOrB, eNotB, eOrV, cmpB, cmpD, iCmp, R.then, R.bind, asgD, DL.setL, addD, subD, negD, absD, DL.intD, mLst, lenD, listD, tupleD, allD, blsD, isiD, isi2D, isTy, isND, notND, DL.isNon, ltB_eq, eCallN, eCallV, callR, iN, i1, rng1I, seqI, gcdD, augD, sAug, et, e]
end A15
set_option linter.all false
set_option maxRecDepth 10000
namespace A15
open PySem PySem.Spec PyProof.Rows L2 DL
theorem zipIdx_range {β : Type} (g : Nat → β) : ∀ (n k : Nat), (((List.range n).map fun j => g (k + j)).zipIdx k) = (List.range n).map fun j => (g (k + j), k + j)
  | 0, k => rfl
  | n + 1, k => by
    have ih := zipIdx_range g n (k + 1)
    rw [List.range_succ_eq_map, List.map_cons, List.map_map, List.map_cons, List.map_map, List.zipIdx_cons]
    congr 1
    have e1 : ((fun j => g (k + j)) ∘ Nat.succ) = fun j => g (k + 1 + j) := by
      funext j
      simp only [Function.comp, Nat.succ_eq_add_one]
      congr 1
      omega
    have e2 : ((fun j => (g (k + j), k + j)) ∘ Nat.succ) = fun j => (g (k + 1 + j), k + 1 + j) := by
      funext j
      simp only [Function.comp, Nat.succ_eq_add_one]
      rw [show k + (j + 1) = k + 1 + j by omega]
    rw [e1, e2]
    exact ih
theorem enum_range (g : Nat → D) (n : Nat) : enumL ((List.range n).map g) = (List.range n).map fun j : Nat => D.tup [.int (j : Int), g j] := by
  have h := zipIdx_range g n 0
  have e : (fun j => g (0 + j)) = g := by funext j; rw [Nat.zero_add]
  rw [e] at h
  unfold enumL
  rw [h, List.map_map]
  apply List.map_congr_left
  intro j _
  simp
theorem lc_map2 {α : Type} (i j : Nat) (f : S → R D) (r : List (Option D)) (m : List Cell) (g1 g2 h : α → D) : ∀ l : List α, (∀ x ∈ l, isOkM (f ⟨(((r.set j none).set i none).set i (some (g1 x))).set j (some (g2 x)), m⟩) (h x) m) → lcL (.many [i, j]) tYesS f r (l.map fun x => D.tup [g1 x, g2 x]) m = some (l.map h, m)
  | [], _ => rfl
  | x :: l, hx => by
    have hx0 := hx x (by simp)
    have ih := lc_map2 i j f r m g1 g2 h l fun y hy => hx y (List.mem_cons_of_mem _ hy)
    rw [List.map_cons, lcL]
    simp only [asgD, DL.setL, Tg.vs, wipeD, tYesS, List.length_cons, List.length_nil, if_true]
    cases q : f ⟨(((r.set j none).set i none).set i (some (g1 x))).set j (some (g2 x)), m⟩ with
    | ok d s' =>
      rw [q] at hx0
      obtain ⟨e, em⟩ := hx0
      simp only [e, em, ih, List.map_cons]
    | raise e s => rw [q] at hx0; exact hx0.elim
    | stuck => rw [q] at hx0; exact hx0.elim
def hgF (b : Nat → Nat → Int) (p i j : Nat) : Int := if p = i ∨ p = j then 0 - b i j else b i j + (((b i p).natAbs : Int) * b p j + b i p * ((b p j).natAbs : Int)).fdiv 2
theorem in_two (p i j : Nat) : inD (.int p) (.tup [.int i, .int j]) = some (decide (p = i ∨ p = j)) := by
  have e : ((i : Int) == (p : Int) || (j : Int) == (p : Int)) = decide (p = i ∨ p = j) := by
    by_cases h1 : p = i
    · subst h1; simp
    · by_cases h2 : p = j
      · subst h2; simp
      · have a1 : ((i : Int) == (p : Int)) = false := by simp; omega
        have a2 : ((j : Int) == (p : Int)) = false := by simp; omega
        rw [a1, a2]
        simp [h1, h2]
  simp [inD, toP, toPs, SeqAt.shaped, PyData.canLay0, PyData.canLayAll0, PyData.depth, PyData.depthAll, PyData.eqv]
  rw [e]
  simp
theorem hg_b1 {n : Nat} (hn : n ≤ 60) {b : Nat → Nat → Int} (hb : ∀ i j, i < n → j < n → (b i j).natAbs < 2 ^ 100) {p i : Nat} (hp : p < n) (hi : i < n) {acc : List D} (ha : acc.length ≤ 100) {o5 o6 o7 : Option D} {m : List Cell} :
    q_hinge_b1 ⟨[some (webF n b), some (.int p), some (.lst acc), some (.int i), some (rowF n (b i)), o5, o6, o7], m⟩ = .next ⟨[some (webF n b), some (.int p), some (.lst (acc ++ [rowF n (hgF b p i)])), some (.int i), some (rowF n (b i)), some (.int (b i p)), o6, o7], m⟩ := by
  have i1' : ∀ st, ixD (rowF n (b i)) (.int p) st = .ok (.int (b i p)) st := fun st => ixR hp st
  have i2' : ∀ st, ixD (webF n b) (.int p) st = .ok (rowF n (b p)) st := fun st => ixF hp st
  have lc := lc_map2 6 7 (eIf (t2 (cmpB inD) (eVar 1) (eTup (aCons (eVar 3) (aCons (eVar 6) aNil)))) (e2 subD (eC (.int 0)) (eVar 7)) (e2 addD (eVar 7) (e2 fdivD (e2 addD (e2 mulD (e1 absD (eVar 5)) (e2 ixD (e2 ixD (eVar 0) (eVar 1)) (eVar 6))) (e2 mulD (eVar 5) (e1 absD (e2 ixD (e2 ixD (eVar 0) (eVar 1)) (eVar 6))))) (eC (.int 2))))) [some (webF n b), some (.int p), some (.lst acc), some (.int i), some (rowF n (b i)), some (.int (b i p)), o6, o7] m (fun j : Nat => D.int (j : Int)) (fun j => .int (b i j)) (fun j => .int (hgF b p i j)) (List.range n) fun j hj => by
    have hj' := List.mem_range.1 hj
    have i3' : ∀ st, ixD (rowF n (b p)) (.int (j : Int)) st = .ok (.int (b p j)) st := fun st => ixR hj' st
    have b1 := hb i p hi hp
    have b2 := hb p j hp hj'
    have m1 : ∀ st, mulD (.int ((b i p).natAbs : Nat)) (.int (b p j)) st = .ok (.int (((b i p).natAbs : Nat) * b p j)) st := fun st => mulK (j := 100) (k := 100) (by simpa using b1) b2 (by omega) (by omega)
    have m2 : ∀ st, mulD (.int (b i p)) (.int ((b p j).natAbs : Nat)) st = .ok (.int (b i p * ((b p j).natAbs : Nat))) st := fun st => mulK (j := 100) (k := 100) b1 (by simpa using b2) (by omega) (by omega)
    have hin := in_two p i j
    have o2 : (2 : Nat) ≤ sizeLine := by rw [szl]; decide
    have l2 : Nat.log2 2 = 1 := by decide
    by_cases h : p = i ∨ p = j
    · simp [-Int.zero_sub, isOkM, mkF, sNil, sSeq, sAsg, sAsgF, sAsgC, sPar, sPar3, sIf, sRet, sFor, forL, sSetM, sSetI, sApp, sExt, sDrop, sRaise, sTry, hSay, hNil, Ex.ix, e1, e2, eBi, eIf, eVar, eC, eTup, eLst, eSl, slD, pNone, pSome, eLc, lcL, wipeD, Tg.vs, tYesS, aCons, aNil, t2, tTru, truB, truD, tNotS, tAndS, tOrS, eAndB, eOrB, eNotB, eOrV, cmpB, cmpD, iCmp, R.then, R.bind, asgD, DL.setL, addD, subD, negD, absD, DL.intD, mLst, lenD, listD, tupleD, allD, blsD, isiD, isi2D, isTy, isND, notND, DL.isNon, ltB_eq, eCallN, eCallV, callR, iN, i1, rng1I, seqI, gcdD, augD, sAug, hin, h, hgF, o2]
    · simp [isOkM, mkF, sNil, sSeq, sAsg, sAsgF, sAsgC, sPar, sPar3, sIf, sRet, sFor, forL, sSetM, sSetI, sApp, sExt, sDrop, sRaise, sTry, hSay, hNil, Ex.ix, e1, e2, eBi, eIf, eVar, eC, eTup, eLst, eSl, slD, pNone, pSome, eLc, lcL, wipeD, Tg.vs, tYesS, aCons, aNil, t2, tTru, truB, truD, tNotS, tAndS, tOrS, eAndB, eOrB, eNotB, eOrV, cmpB, cmpD, iCmp, R.then, R.bind, asgD, DL.setL, addD, subD, negD, absD, DL.intD, mLst, lenD, listD, tupleD, allD, blsD, isiD, isi2D, isTy, isND, notND, DL.isNon, ltB_eq, eCallN, eCallV, callR, iN, i1, rng1I, seqI, gcdD, augD, sAug, hin, h, hgF, o2, i2', i3', abs_eq, m1, m2, fdivD, l2]
  have hen := enum_range (fun j => D.int (b i j)) n
  have hz : ((List.range n).map fun j : Nat => D.tup [.int (j : Int), .int (b i j)]).length ≤ sizeLine := by rw [szl]; simp; omega
  obtain ⟨F, hF⟩ : ∃ F, F = eIf (t2 (cmpB inD) (eVar 1) (eTup (aCons (eVar 3) (aCons (eVar 6) aNil)))) (e2 subD (eC (.int 0)) (eVar 7)) (e2 addD (eVar 7) (e2 fdivD (e2 addD (e2 mulD (e1 absD (eVar 5)) (e2 ixD (e2 ixD (eVar 0) (eVar 1)) (eVar 6))) (e2 mulD (eVar 5) (e1 absD (e2 ixD (e2 ixD (eVar 0) (eVar 1)) (eVar 6))))) (eC (.int 2)))) := ⟨_, rfl⟩
  rw [← hF] at lc
  have hz2 : acc.length < sizeLine := by rw [szl]; omega
  have hz3 : acc.length + 1 ≤ sizeLine := by rw [szl]; omega
  have hta : ∀ st : S, st.r.getD 4 none = some (rowF n (b i)) → iEnumB (aCons (eVar 4) aNil) st = .ok ((List.range n).map fun j : Nat => D.tup [.int (j : Int), .int (b i j)]) st := fun st hst => by
    rw [← hen]
    simp only [iEnumB, tupAt, iN, aCons, aNil, eVar, R.bind, hst, rowF]
    rfl
  unfold q_hinge_b1
  rw [← hF]
  rw [seq_nx (s' := ⟨[some (webF n b), some (.int p), some (.lst acc), some (.int i), some (rowF n (b i)), some (.int (b i p)), o6, o7], m⟩) (by
    simp [mkF, sNil, sSeq, sAsg, sAsgF, sAsgC, sPar, sPar3, sIf, sRet, sFor, forL, sSetM, sSetI, sApp, sExt, sDrop, sRaise, sTry, hSay, hNil, Ex.ix, e1, e2, eBi, eIf, eVar, eC, eTup, eLst, eSl, slD, pNone, pSome, eLc, lcL, wipeD, Tg.vs, tYesS, aCons, aNil, t2, tTru, truB, truD, tNotS, tAndS, tOrS, eAndB, eOrB, eNotB, eOrV, cmpB, cmpD, iCmp, R.then, R.bind, asgD, DL.setL, addD, subD, negD, absD, DL.intD, mLst, lenD, listD, tupleD, allD, blsD, isiD, isi2D, isTy, isND, notND, DL.isNon, ltB_eq, eCallN, eCallV, callR, iN, i1, rng1I, seqI, gcdD, augD, sAug, i1'])]
  have he := hta ⟨[some (webF n b), some (.int p), some (.lst acc), some (.int i), some (rowF n (b i)), some (.int (b i p)), o6, o7], m⟩ rfl
  simp only [sApp, R.then, List.getD_cons_succ, List.getD_cons_zero, e1, eLc, he, R.bind, hz, if_true, lc, tupleD, hz2]
  rfl
theorem hg_loop {n : Nat} (hn : n ≤ 60) {b : Nat → Nat → Int} (hb : ∀ i j, i < n → j < n → (b i j).natAbs < 2 ^ 100) {p : Nat} (hp : p < n) {m : List Cell} : ∀ (l : List Nat) (acc : List D) (o3 o4 o5 o6 o7 : Option D), (∀ i ∈ l, i < n) → acc.length + l.length ≤ 100 →
    ∃ y3 y4 y5, forL (.many [3, 4]) q_hinge_b1 (l.map fun i : Nat => D.tup [.int (i : Int), rowF n (b i)]) ⟨[some (webF n b), some (.int p), some (.lst acc), o3, o4, o5, o6, o7], m⟩ = .next ⟨[some (webF n b), some (.int p), some (.lst (acc ++ l.map fun i => rowF n (hgF b p i))), y3, y4, y5, o6, o7], m⟩
  | [], acc, o3, o4, o5, o6, o7, _, _ => ⟨o3, o4, o5, by simp [forL]⟩
  | i :: l, acc, o3, o4, o5, o6, o7, hl, hz => by
    simp only [List.length_cons] at hz
    have st := hg_b1 hn hb hp (hl i (by simp)) (acc := acc) (by omega) (o5 := o5) (o6 := o6) (o7 := o7) (m := m)
    obtain ⟨y3, y4, y5, e⟩ := hg_loop hn hb hp (m := m) l (acc ++ [rowF n (hgF b p i)]) (some (.int i)) (some (rowF n (b i))) (some (.int (b i p))) o6 o7 (fun k hk => hl k (List.mem_cons_of_mem _ hk)) (by simp; omega)
    refine ⟨y3, y4, y5, ?_⟩
    rw [List.map_cons, forL]
    simp only [asgD, DL.setL, List.length_cons, List.length_nil, List.set_cons_succ, List.set_cons_zero, if_true, st]
    rw [e]
    simp
theorem e_hinge {n : Nat} (hn : n ≤ 60) {b : Nat → Nat → Int} (hb : ∀ i j, i < n → j < n → (b i j).natAbs < 2 ^ 100) {p : Nat} (hp : p < n) (m : List Cell) : m_hinge [webF n b, .int p] m = .ok (webF n (hgF b p)) m := by
  obtain ⟨y3, y4, y5, e⟩ := hg_loop hn hb hp (m := m) (List.range n) [] none none none none none (fun i h => List.mem_range.1 h) (by simp; omega)
  have hen := enum_range (fun i => rowF n (b i)) n
  simp only [m_hinge, q_hinge, mkF]
  rw [seq_nx (s' := ⟨[some (webF n b), some (.int p), some (.lst []), none, none, none, none, none], m⟩) (by rfl)]
  rw [seq_nx (s' := ⟨[some (webF n b), some (.int p), some (.lst ([] ++ (List.range n).map fun i => rowF n (hgF b p i))), y3, y4, y5, none, none], m⟩) (by
    rw [← e, ← hen]
    rfl)]
  rfl
/-! names one less -/
theorem intsOf_map : ∀ l : List Int, intsOf (l.map D.int) = some l
  | [] => rfl
  | i :: l => by simp only [List.map_cons, intsOf, intsOf_map l, Option.map_some]
def rowC (n : Nat) (g : Nat → Int) : List D := (List.range n).map fun j => .int (g j)
def mem (m : List Cell) (n : Nat) (B : Nat → Nat → Int) : List Cell := m ++ (List.range n).map fun i => .lst (rowC n (B i))
def refs (c n : Nat) : List D := (List.range n).map fun t => .ref (c + t)
def updB (B : Nat → Nat → Int) (i j : Nat) (v : Int) : Nat → Nat → Int := fun a b => if a = i ∧ b = j then v else B a b
theorem mem_get {m : List Cell} {n : Nat} {B : Nat → Nat → Int} {i : Nat} (hi : i < n) : (mem m n B)[m.length + i]? = some (.lst (rowC n (B i))) := by
  unfold mem
  rw [List.getElem?_append_right (by omega), show m.length + i - m.length = i by omega]
  simp [hi]
theorem mLst_mem {r : List (Option D)} {m : List Cell} {n : Nat} {B : Nat → Nat → Int} {i : Nat} (hi : i < n) : mLst ⟨r, mem m n B⟩ (m.length + i) = some (rowC n (B i)) := by
  unfold mLst
  simp only [mem_get hi]
theorem row_set {n : Nat} {g : Nat → Int} {j : Nat} {v : Int} (hj : j < n) : (rowC n g).set j (.int v) = rowC n fun b => if b = j then v else g b := by
  unfold rowC
  apply List.ext_getElem
  · simp
  · intro k h1 h2
    have hk : k < n := by simpa using h2
    rw [List.getElem_set]
    simp only [List.getElem_map, List.getElem_range]
    by_cases h : j = k
    · subst h
      simp
    · have h' : ¬ k = j := fun e => h e.symm
      rw [if_neg h, if_neg h']
theorem mem_set {m : List Cell} {n : Nat} {B : Nat → Nat → Int} {i j : Nat} {v : Int} (hi : i < n) (hj : j < n) : (mem m n B).set (m.length + i) (.lst ((rowC n (B i)).set j (.int v))) = mem m n (updB B i j v) := by
  unfold mem
  rw [List.set_append_right _ _ (by omega), show m.length + i - m.length = i by omega]
  congr 1
  apply List.ext_getElem
  · simp
  · intro k h1 h2
    have hk : k < n := by simpa using h2
    rw [List.getElem_set]
    simp only [List.getElem_map, List.getElem_range]
    by_cases h : i = k
    · subst h
      rw [if_pos rfl, row_set hj]
      congr 2
      funext b
      unfold updB
      by_cases hb : b = j <;> simp [hb]
    · rw [if_neg h]
      congr 2
      funext b
      unfold updB
      have h' : ¬ k = i := fun e => h e.symm
      simp [h']
theorem ix_refs {c n i : Nat} (hi : i < n) (st : S) : ixD (.lst (refs c n)) (.int i) st = .ok (.ref (c + i)) st := by
  unfold refs
  rw [ixl, atN _ _ (by simpa using hi)]
  simp [hi]
theorem ix_cell {r : List (Option D)} {m : List Cell} {n : Nat} {B : Nat → Nat → Int} {i j : Nat} (hi : i < n) (hj : j < n) : ixD (.ref (m.length + i)) (.int j) ⟨r, mem m n B⟩ = .ok (.int (B i j)) ⟨r, mem m n B⟩ := by
  unfold ixD
  simp only [mLst_mem hi]
  have : L2.atI (rowC n (B i)) (j : Int) = some (.int (B i j)) := by
    rw [atN _ _ (by unfold rowC; simpa using hj)]
    unfold rowC
    simp [hj]
  rw [this]
theorem ixN_nat {n j : Nat} (h : j < n) : ixN n (j : Int) = some j := by
  unfold ixN
  rw [if_pos (by omega), if_pos (by omega)]
  simp
theorem set_cell {fo fk fe : S → R D} {r : List (Option D)} {m : List Cell} {n : Nat} {B : Nat → Nat → Int} {i j : Nat} {v : Int} (hi : i < n) (hj : j < n) (he : fe ⟨r, mem m n B⟩ = .ok (.int v) ⟨r, mem m n B⟩) (ho : fo ⟨r, mem m n B⟩ = .ok (.ref (m.length + i)) ⟨r, mem m n B⟩) (hk : fk ⟨r, mem m n B⟩ = .ok (.int j) ⟨r, mem m n B⟩) :
    sSetR fo fk fe ⟨r, mem m n B⟩ = .next ⟨r, mem m n (updB B i j v)⟩ := by
  unfold sSetR
  have hl : (rowC n (B i)).length = n := by simp [rowC]
  simp only [he, ho, hk, R.then, mLst_mem hi, hl, ixN_nat hj, mem_set hi hj]
theorem lc_cells {α : Type} (i : Nat) (F : S → R D) (r : List (Option D)) (g : α → D) (h : α → List D) : ∀ (l : List α) (m : List Cell), (∀ x ∈ l, ∀ m, F ⟨(r.set i none).set i (some (g x)), m⟩ = .ok (.lst (h x)) ⟨(r.set i none).set i (some (g x)), m⟩) → lcL (.one i) tYesS (eCell F) r (l.map g) m = some (refs m.length l.length, m ++ l.map fun x => .lst (h x))
  | [], m, _ => by simp [lcL, refs]
  | x :: l, m, hx => by
    have h0 := hx x (by simp) m
    have ih := lc_cells i F r g h l (m ++ [.lst (h x)]) fun y hy => hx y (List.mem_cons_of_mem _ hy)
    rw [List.map_cons, lcL]
    have hc : eCell F ⟨(r.set i none).set i (some (g x)), m⟩ = .ok (.ref m.length) ⟨(r.set i none).set i (some (g x)), m ++ [.lst (h x)]⟩ := by
      unfold eCell
      rw [h0]
      rfl
    simp only [asgD, Tg.vs, wipeD, tYesS, hc]
    have ih' : lcL (.one i) tYesS (eCell F) r (l.map g) (m ++ [.lst (h x)]) = _ := ih
    have hty : (tYesS : S → R Bool) = fun s => .ok true s := rfl
    rw [ih']
    simp only [Option.some.injEq, Prod.mk.injEq]
    refine ⟨?_, by simp⟩
    unfold refs
    rw [List.length_cons, List.range_succ_eq_map, List.map_cons, List.map_map]
    congr 1
    apply List.map_congr_left
    intro t _
    simp only [Function.comp, Nat.succ_eq_add_one, List.length_append, List.length_cons, List.length_nil]
    congr 1
    omega
theorem lc_tups {i : Nat} {r : List (Option D)} {m : List Cell} {n : Nat} {B : Nat → Nat → Int} (hr : i < r.length) : lcL (.one i) tYesS (e1 tupleC (eVar i)) r (refs m.length n) (mem m n B) = some ((List.range n).map fun a => rowF n (B a), mem m n B) :=
  lc_map i (e1 tupleC (eVar i)) r (mem m n B) (fun t => D.ref (m.length + t)) (fun a => rowF n (B a)) (List.range n) fun a ha => by
    have hg : ((r.set i none).set i (some (D.ref (m.length + a)))).getD i none = some (.ref (m.length + a)) := by
      simp only [List.getD_eq_getElem?_getD, List.set_set]
      rw [List.getElem?_set_self hr]
      rfl
    simp only [e1, eVar, hg, R.bind, tupleC, mLst_mem (List.mem_range.1 ha)]
    exact ⟨rfl, rfl⟩
theorem rowC_nrs (n : Nat) (g : Nat → Int) : nrs (rowC n g) = true := nrs_z g _
theorem mem_take (m : List Cell) (n : Nat) (B : Nat → Nat → Int) : (mem m n B).take m.length = m := by
  unfold mem
  simp
/-! the law's own hinge -/
def lhF (b : Nat → Nat → Int) (p i j : Nat) : Int := if p = i ∨ p = j then 0 - b i j else if 0 < b i p ∧ 0 < b p j then b i j + b i p * b p j else if b i p < 0 ∧ b p j < 0 then b i j - b i p * b p j else b i j
theorem lh_b1 {n : Nat} {b : Nat → Nat → Int} (hb : ∀ i j, i < n → j < n → (b i j).natAbs < 2 ^ 100) {p i j : Nat} (hp : p < n) (hi : i < n) (hj : j < n) {B : Nat → Nat → Int} (hB : B i j = b i j) {o3 o6 o7 : Option D} {m : List Cell} :
    q__law_hinge_b1 ⟨[some (webF n b), some (nI p), some (.lst (refs m.length n)), o3, some (nI i), some (nI j), o6, o7], mem m n B⟩ = .next ⟨[some (webF n b), some (nI p), some (.lst (refs m.length n)), o3, some (nI i), some (nI j), some (.int (b i p)), some (.int (b p j))], mem m n (updB B i j (lhF b p i j))⟩ := by
  have a1 : ∀ st, ixD (webF n b) (nI i) st = .ok (rowF n (b i)) st := fun st => ixF hi st
  have a2 : ∀ st, ixD (webF n b) (nI p) st = .ok (rowF n (b p)) st := fun st => ixF hp st
  have a3 : ∀ st, ixD (rowF n (b i)) (nI p) st = .ok (.int (b i p)) st := fun st => ixR hp st
  have a4 : ∀ st, ixD (rowF n (b p)) (nI j) st = .ok (.int (b p j)) st := fun st => ixR hj st
  have a5 : ∀ st, ixD (rowF n (b i)) (nI j) st = .ok (.int (b i j)) st := fun st => ixR hj st
  have a6 : ∀ st, ixD (.lst (refs m.length n)) (nI i) st = .ok (.ref (m.length + i)) st := fun st => ix_refs hi st
  have a7 : ∀ r : List (Option D), ixD (.ref (m.length + i)) (nI j) ⟨r, mem m n B⟩ = .ok (.int (B i j)) ⟨r, mem m n B⟩ := fun r => ix_cell hi hj
  have hin : inD (nI p) (.tup [nI i, nI j]) = some (decide (p = i ∨ p = j)) := in_two p i j
  have o2 : (2 : Nat) ≤ sizeLine := by rw [szl]; decide
  have hmul : ∀ st, mulD (.int (b i p)) (.int (b p j)) st = .ok (.int (b i p * b p j)) st := fun st => mulK (hb i p hi hp) (hb p j hp hj) (by omega) (by omega)
  unfold q__law_hinge_b1
  rw [seq_nx (s' := ⟨[some (webF n b), some (nI p), some (.lst (refs m.length n)), o3, some (nI i), some (nI j), some (.int (b i p)), some (.int (b p j))], mem m n B⟩) (by
    simp [mkF, sNil, sSeq, sAsg, sAsgF, sAsgC, sPar, sPar3, sIf, sRet, sFor, forL, sSetM, sSetI, sApp, sExt, sDrop, sRaise, sTry, hSay, hNil, Ex.ix, e1, e2, eBi, eIf, eVar, eC, eTup, eLst, eSl, slD, pNone, pSome, eLc, lcL, wipeD, Tg.vs, tYesS, aCons, aNil, t2, tTru, truB, truD, tNotS, tAndS, tOrS, eAndB, eOrB, eNotB, eOrV, cmpB, cmpD, iCmp, R.then, R.bind, asgD, DL.setL, addD, subD, negD, absD, DL.intD, mLst, lenD, listD, tupleD, allD, blsD, isiD, isi2D, isTy, isND, notND, DL.isNon, ltB_eq, eCallN, eCallV, callR, iN, i1, rng1I, seqI, gcdD, augD, sAug, a1, a2, a3, a4])]
  have hobj : e2 ixD (eVar 2) (eVar 4) ⟨[some (webF n b), some (nI p), some (.lst (refs m.length n)), o3, some (nI i), some (nI j), some (.int (b i p)), some (.int (b p j))], mem m n B⟩ = .ok (.ref (m.length + i)) ⟨[some (webF n b), some (nI p), some (.lst (refs m.length n)), o3, some (nI i), some (nI j), some (.int (b i p)), some (.int (b p j))], mem m n B⟩ := by
    simp [mkF, sNil, sSeq, sAsg, sAsgF, sAsgC, sPar, sPar3, sIf, sRet, sFor, forL, sSetM, sSetI, sApp, sExt, sDrop, sRaise, sTry, hSay, hNil, Ex.ix, e1, e2, eBi, eIf, eVar, eC, eTup, eLst, eSl, slD, pNone, pSome, eLc, lcL, wipeD, Tg.vs, tYesS, aCons, aNil, t2, tTru, truB, truD, tNotS, tAndS, tOrS, eAndB, eOrB, eNotB, eOrV, cmpB, cmpD, iCmp, R.then, R.bind, asgD, DL.setL, addD, subD, negD, absD, DL.intD, mLst, lenD, listD, tupleD, allD, blsD, isiD, isi2D, isTy, isND, notND, DL.isNon, ltB_eq, eCallN, eCallV, callR, iN, i1, rng1I, seqI, gcdD, augD, sAug, a6]
  have hkey : (eVar 5 : S → R D) ⟨[some (webF n b), some (nI p), some (.lst (refs m.length n)), o3, some (nI i), some (nI j), some (.int (b i p)), some (.int (b p j))], mem m n B⟩ = .ok (.int (j : Nat)) ⟨[some (webF n b), some (nI p), some (.lst (refs m.length n)), o3, some (nI i), some (nI j), some (.int (b i p)), some (.int (b p j))], mem m n B⟩ := rfl
  have htup : t2 (cmpB inD) (eVar 1) (eTup (aCons (eVar 4) (aCons (eVar 5) aNil))) ⟨[some (webF n b), some (nI p), some (.lst (refs m.length n)), o3, some (nI i), some (nI j), some (.int (b i p)), some (.int (b p j))], mem m n B⟩ = .ok (decide (p = i ∨ p = j)) ⟨[some (webF n b), some (nI p), some (.lst (refs m.length n)), o3, some (nI i), some (nI j), some (.int (b i p)), some (.int (b p j))], mem m n B⟩ := by
    simp only [t2, cmpB, eTup, aCons, aNil, eVar, R.bind, List.getD_cons_succ, List.getD_cons_zero, List.length_cons, List.length_nil, o2, if_true, hin]
  unfold sIf
  rw [htup]
  by_cases h : p = i ∨ p = j
  · simp only [R.then, decide_eq_true h, if_true]
    rw [show lhF b p i j = 0 - b i j from if_pos h]
    refine set_cell hi hj ?_ hobj hkey
    simp [-Int.zero_sub, mkF, sNil, sSeq, sAsg, sAsgF, sAsgC, sPar, sPar3, sIf, sRet, sFor, forL, sSetM, sSetI, sApp, sExt, sDrop, sRaise, sTry, hSay, hNil, Ex.ix, e1, e2, eBi, eIf, eVar, eC, eTup, eLst, eSl, slD, pNone, pSome, eLc, lcL, wipeD, Tg.vs, tYesS, aCons, aNil, t2, tTru, truB, truD, tNotS, tAndS, tOrS, eAndB, eOrB, eNotB, eOrV, cmpB, cmpD, iCmp, R.then, R.bind, asgD, DL.setL, addD, subD, negD, absD, DL.intD, mLst, lenD, listD, tupleD, allD, blsD, isiD, isi2D, isTy, isND, notND, DL.isNon, ltB_eq, eCallN, eCallV, callR, iN, i1, rng1I, seqI, gcdD, augD, sAug, a1, a5]
  · simp only [R.then, decide_eq_false h, Bool.false_eq_true, if_false]
    have hl : lhF b p i j = if 0 < b i p ∧ 0 < b p j then b i j + b i p * b p j else if b i p < 0 ∧ b p j < 0 then b i j - b i p * b p j else b i j := if_neg h
    have t1' : tAndS (t2 (cmpB (iCmp fun i j => ltB j i)) (eVar 6) (eC (.int 0))) (t2 (cmpB (iCmp fun i j => ltB j i)) (eVar 7) (eC (.int 0))) ⟨[some (webF n b), some (nI p), some (.lst (refs m.length n)), o3, some (nI i), some (nI j), some (.int (b i p)), some (.int (b p j))], mem m n B⟩ = .ok (decide (0 < b i p ∧ 0 < b p j)) ⟨[some (webF n b), some (nI p), some (.lst (refs m.length n)), o3, some (nI i), some (nI j), some (.int (b i p)), some (.int (b p j))], mem m n B⟩ := by
      by_cases h1 : 0 < b i p
      · simp [tAndS, DL.t2, cmpB, iCmp, eVar, eC, R.bind, ltB_eq, h1]
      · simp [tAndS, DL.t2, cmpB, iCmp, eVar, eC, R.bind, ltB_eq, h1]
    have t2' : tAndS (t2 (cmpB (iCmp ltB)) (eVar 6) (eC (.int 0))) (t2 (cmpB (iCmp ltB)) (eVar 7) (eC (.int 0))) ⟨[some (webF n b), some (nI p), some (.lst (refs m.length n)), o3, some (nI i), some (nI j), some (.int (b i p)), some (.int (b p j))], mem m n B⟩ = .ok (decide (b i p < 0 ∧ b p j < 0)) ⟨[some (webF n b), some (nI p), some (.lst (refs m.length n)), o3, some (nI i), some (nI j), some (.int (b i p)), some (.int (b p j))], mem m n B⟩ := by
      by_cases h1 : b i p < 0
      · simp [tAndS, DL.t2, cmpB, iCmp, eVar, eC, R.bind, ltB_eq, h1]
      · simp [tAndS, DL.t2, cmpB, iCmp, eVar, eC, R.bind, ltB_eq, h1]
    rw [t1']
    by_cases h1 : 0 < b i p ∧ 0 < b p j
    · simp only [R.then, decide_eq_true h1, if_true]
      rw [hl, if_pos h1]
      refine set_cell hi hj ?_ hobj hkey
      simp [mkF, sNil, sSeq, sAsg, sAsgF, sAsgC, sPar, sPar3, sIf, sRet, sFor, forL, sSetM, sSetI, sApp, sExt, sDrop, sRaise, sTry, hSay, hNil, Ex.ix, e1, e2, eBi, eIf, eVar, eC, eTup, eLst, eSl, slD, pNone, pSome, eLc, lcL, wipeD, Tg.vs, tYesS, aCons, aNil, t2, tTru, truB, truD, tNotS, tAndS, tOrS, eAndB, eOrB, eNotB, eOrV, cmpB, cmpD, iCmp, R.then, R.bind, asgD, DL.setL, addD, subD, negD, absD, DL.intD, mLst, lenD, listD, tupleD, allD, blsD, isiD, isi2D, isTy, isND, notND, DL.isNon, ltB_eq, eCallN, eCallV, callR, iN, i1, rng1I, seqI, gcdD, augD, sAug, a6, a7, hB, hmul]
    · simp only [R.then, decide_eq_false h1, Bool.false_eq_true, if_false]
      rw [t2']
      by_cases h2 : b i p < 0 ∧ b p j < 0
      · simp only [R.then, decide_eq_true h2, if_true]
        rw [hl, if_neg h1, if_pos h2]
        refine set_cell hi hj ?_ hobj hkey
        simp [mkF, sNil, sSeq, sAsg, sAsgF, sAsgC, sPar, sPar3, sIf, sRet, sFor, forL, sSetM, sSetI, sApp, sExt, sDrop, sRaise, sTry, hSay, hNil, Ex.ix, e1, e2, eBi, eIf, eVar, eC, eTup, eLst, eSl, slD, pNone, pSome, eLc, lcL, wipeD, Tg.vs, tYesS, aCons, aNil, t2, tTru, truB, truD, tNotS, tAndS, tOrS, eAndB, eOrB, eNotB, eOrV, cmpB, cmpD, iCmp, R.then, R.bind, asgD, DL.setL, addD, subD, negD, absD, DL.intD, mLst, lenD, listD, tupleD, allD, blsD, isiD, isi2D, isTy, isND, notND, DL.isNon, ltB_eq, eCallN, eCallV, callR, iN, i1, rng1I, seqI, gcdD, augD, sAug, a6, a7, hB, hmul]
      · simp only [R.then, decide_eq_false h2, Bool.false_eq_true, if_false, sNil]
        have : updB B i j (lhF b p i j) = B := by
          funext x y
          unfold updB
          split
          · rename_i hxy
            rw [hxy.1, hxy.2, hl, if_neg h1, if_neg h2, hB]
          · rfl
        rw [this]
theorem rngL_nD (n : Nat) : rngL 0 n = nD (List.range n) := by
  unfold rngL nD
  apply List.map_congr_left
  intro i _
  unfold nI
  rw [Int.zero_add]
theorem lh_in {n : Nat} {b : Nat → Nat → Int} (hb : ∀ i j, i < n → j < n → (b i j).natAbs < 2 ^ 100) {p i : Nat} (hp : p < n) (hi : i < n) {o3 : Option D} {m : List Cell} : ∀ (l : List Nat) (B : Nat → Nat → Int) (o5 o6 o7 : Option D), (∀ j ∈ l, j < n) → l.Nodup → (∀ j ∈ l, B i j = b i j) →
    ∃ B' y5 y6 y7, forL (.one 5) q__law_hinge_b1 (nD l) ⟨[some (webF n b), some (nI p), some (.lst (refs m.length n)), o3, some (nI i), o5, o6, o7], mem m n B⟩ = .next ⟨[some (webF n b), some (nI p), some (.lst (refs m.length n)), o3, some (nI i), y5, y6, y7], mem m n B'⟩ ∧ ∀ x y, B' x y = if x = i ∧ y ∈ l then lhF b p i y else B x y
  | [], B, o5, o6, o7, _, _, _ => ⟨B, o5, o6, o7, rfl, fun x y => by simp⟩
  | j :: l, B, o5, o6, o7, hl, hn, hB => by
    rw [List.nodup_cons] at hn
    have st := lh_b1 hb hp hi (hl j (by simp)) (hB j (by simp)) (o3 := o3) (o6 := o6) (o7 := o7) (m := m)
    obtain ⟨B', y5, y6, y7, e, hp'⟩ := lh_in hb hp hi (o3 := o3) (m := m) l (updB B i j (lhF b p i j)) (some (nI j)) (some (.int (b i p))) (some (.int (b p j))) (fun k hk => hl k (List.mem_cons_of_mem _ hk)) hn.2 (fun k hk => by
      unfold updB
      have : ¬ k = j := fun e => hn.1 (by rw [← e]; exact hk)
      simp only [this, and_false, if_false]
      exact hB k (List.mem_cons_of_mem _ hk))
    refine ⟨B', y5, y6, y7, ?_, fun x y => ?_⟩
    · rw [show nD (j :: l) = nI j :: nD l from rfl, forL]
      simp only [asgD, List.set_cons_succ, List.set_cons_zero, st]
      exact e
    · rw [hp' x y]
      unfold updB
      by_cases hx : x = i
      · by_cases hy : y ∈ l
        · simp [hx, hy]
        · by_cases hyj : y = j
          · subst hyj
            simp [hx, hn.1]
          · simp [hx, hy, hyj]
      · simp [hx]
theorem lh_out {n : Nat} (hn60 : n ≤ 60) {b : Nat → Nat → Int} (hb : ∀ i j, i < n → j < n → (b i j).natAbs < 2 ^ 100) {p : Nat} (hp : p < n) {o3 : Option D} {m : List Cell} : ∀ (l : List Nat) (B : Nat → Nat → Int) (o4 o5 o6 o7 : Option D), (∀ i ∈ l, i < n) → l.Nodup → (∀ i ∈ l, ∀ j, j < n → B i j = b i j) →
    ∃ B' y4 y5 y6 y7, forL (.one 4) q__law_hinge_b2 (nD l) ⟨[some (webF n b), some (nI p), some (.lst (refs m.length n)), o3, o4, o5, o6, o7], mem m n B⟩ = .next ⟨[some (webF n b), some (nI p), some (.lst (refs m.length n)), o3, y4, y5, y6, y7], mem m n B'⟩ ∧ ∀ x y, y < n → B' x y = if x ∈ l then lhF b p x y else B x y
  | [], B, o4, o5, o6, o7, _, _, _ => ⟨B, o4, o5, o6, o7, rfl, fun x y _ => by simp⟩
  | i :: l, B, o4, o5, o6, o7, hl, hn, hB => by
    rw [List.nodup_cons] at hn
    obtain ⟨B1, y5, y6, y7, e1', h1⟩ := lh_in hb hp (hl i (by simp)) (o3 := o3) (m := m) (List.range n) B o5 o6 o7 (fun j hj => List.mem_range.1 hj) List.nodup_range (fun j hj => hB i (by simp) j (List.mem_range.1 hj))
    obtain ⟨B', z4, z5, z6, z7, e2', h2⟩ := lh_out hn60 hb hp (o3 := o3) (m := m) l B1 (some (nI i)) y5 y6 y7 (fun k hk => hl k (List.mem_cons_of_mem _ hk)) hn.2 (fun k hk j hj => by
      have : ¬ k = i := fun e => hn.1 (by rw [← e]; exact hk)
      rw [h1, if_neg (fun hh => this hh.1)]
      exact hB k (List.mem_cons_of_mem _ hk) j hj)
    have hlC : ∀ st, lenC (webF n b) st = .ok (.int n) st := fun st => lenF n b st
    have hr : ∀ s, rng1I [.int n] s = .ok (nD (List.range n)) s := fun s => by rw [← rngL_nD]; exact rngS _ s (by omega)
    refine ⟨B', z4, z5, z6, z7, ?_, fun x y hy => ?_⟩
    · rw [show nD (i :: l) = nI i :: nD l from rfl, forL]
      have step : q__law_hinge_b2 ⟨[some (webF n b), some (nI p), some (.lst (refs m.length n)), o3, some (nI i), o5, o6, o7], mem m n B⟩ = .next ⟨[some (webF n b), some (nI p), some (.lst (refs m.length n)), o3, some (nI i), y5, y6, y7], mem m n B1⟩ := by
        rw [← e1']
        simp only [q__law_hinge_b2, sFor, iN, aCons, aNil, e1, eVar, R.bind, R.then, List.getD_cons_zero, hlC, hr]
      simp only [asgD, List.set_cons_succ, List.set_cons_zero, step]
      exact e2'
    · rw [h2 x y hy, h1]
      by_cases hx : x = i
      · subst hx
        simp [hn.1, hy]
      · simp [hx]
theorem trim_mem {mf : MF} {ds : List D} {m : List Cell} {n n' : Nat} {b B : Nat → Nat → Int} (hm : m.all nrC = true) (e : mf ds m = .ok (webF n b) (mem m n' B)) : trimF mf ds m = .ok (webF n b) m := by
  unfold trimF
  rw [e]
  simp only [mem_take, nr_web, hm, Bool.and_self, if_true]
theorem e_lhinge {n : Nat} (h0 : 0 < n) (hn : n ≤ 60) {b : Nat → Nat → Int} (hb : ∀ i j, i < n → j < n → (b i j).natAbs < 2 ^ 100) {p : Nat} (hp : p < n) (m : List Cell) (hm : m.all nrC = true) : trimF m__law_hinge [webF n b, nI p] m = .ok (webF n (lhF b p)) m := by
  obtain ⟨B', y4, y5, y6, y7, e, hB⟩ := lh_out hn hb hp (o3 := none) (m := m) (List.range n) b none none none none (fun i hi => List.mem_range.1 hi) List.nodup_range (fun i _ j _ => rfl)
  have hB' : ∀ i j, i < n → j < n → B' i j = lhF b p i j := fun i j hi hj => by rw [hB i j hj, if_pos (List.mem_range.2 hi)]
  have hlC : ∀ st, lenC (webF n b) st = .ok (.int n) st := fun st => lenF n b st
  have hr : ∀ s, rng1I [.int n] s = .ok (nD (List.range n)) s := fun s => by rw [← rngL_nD]; exact rngS _ s (by omega)
  have hz : (List.range n).length ≤ sizeLine := by rw [szl, List.length_range]; omega
  have lc := lc_cells 3 (e1 listC (eVar 3)) [some (webF n b), some (nI p), none, none, none, none, none, none] (fun i => rowF n (b i)) (fun i => rowC n (b i)) (List.range n) m fun i _ m => by
    simp [e1, eVar, R.bind, listC, listD, rowF, rowC]
  rw [List.length_range] at lc
  have hrefs : (refs m.length n).length ≤ sizeLine := by rw [szl]; simp [refs]; omega
  have lt := lc_tups (i := 3) (r := [some (webF n b), some (nI p), some (.lst (refs m.length n)), none, y4, y5, y6, y7]) (m := m) (n := n) (B := B') (by simp)
  refine trim_mem (n' := n) (B := B') hm ?_
  rw [← webF_congr hB']
  have hsq : ∀ st, seqI (webF n b) st = .ok ((List.range n).map fun i => rowF n (b i)) st := fun st => rfl
  obtain ⟨F, hF⟩ : ∃ F, F = eCell (e1 listC (eVar 3)) := ⟨_, rfl⟩
  obtain ⟨G, hG⟩ : ∃ G, G = e1 tupleC (eVar 3) := ⟨_, rfl⟩
  rw [← hF] at lc
  rw [← hG] at lt
  simp only [m__law_hinge, q__law_hinge, mkF]
  rw [← hF, ← hG]
  have lc' : lcL (.one 3) tYesS F [some (webF n b), some (nI p), none, none, none, none, none, none] ((List.range n).map fun i => rowF n (b i)) m = some (refs m.length n, mem m n b) := lc
  rw [seq_nx (s' := ⟨[some (webF n b), some (nI p), some (.lst (refs m.length n)), none, none, none, none, none], mem m n b⟩) (by
    have hz' : n ≤ sizeLine := by simpa using hz
    obtain ⟨WB, hW⟩ : ∃ WB, WB = webF n b := ⟨_, rfl⟩
    rw [← hW] at hsq lc' ⊢
    simp [sAsgF, eLc, i1, eVar, R.bind, R.then, hsq, hz', lc'])]
  rw [seq_nx (s' := ⟨[some (webF n b), some (nI p), some (.lst (refs m.length n)), none, y4, y5, y6, y7], mem m n B'⟩) (by
    rw [← e]
    simp only [sFor, iN, aCons, aNil, e1, eVar, R.bind, R.then, List.getD_cons_zero, hlC, hr])]
  simp only [sRet, e1, eLc, i1, eVar, R.bind, R.then, List.getD_cons_zero, List.getD_cons_succ, seqI, hrefs, if_true, lt, tupleC, tupleD]
  rfl
theorem lh_hg (b : Nat → Nat → Int) (p i j : Nat) : lhF b p i j = hgF b p i j := by
  unfold lhF hgF
  by_cases h : p = i ∨ p = j
  · rw [if_pos h, if_pos h]
  · rw [if_neg h, if_neg h]
    obtain ⟨x, hx⟩ : ∃ x, x = b i p := ⟨_, rfl⟩
    obtain ⟨y, hy⟩ : ∃ y, y = b p j := ⟨_, rfl⟩
    rw [← hx, ← hy]
    have two : ∀ z : Int, (2 * z).fdiv 2 = z := fun z => by
      rw [Int.fdiv_eq_ediv_of_nonneg _ (by decide)]
      omega
    by_cases h1 : 0 < x ∧ 0 < y
    · rw [if_pos h1]
      have e1 : (x.natAbs : Int) = x := by omega
      have e2 : (y.natAbs : Int) = y := by omega
      rw [e1, e2, show x * y + x * y = 2 * (x * y) by omega, two]
    · rw [if_neg h1]
      by_cases h2 : x < 0 ∧ y < 0
      · rw [if_pos h2]
        have e1 : (x.natAbs : Int) = -x := by omega
        have e2 : (y.natAbs : Int) = -y := by omega
        rw [e1, e2, Int.neg_mul, Int.mul_neg, show -(x * y) + -(x * y) = 2 * -(x * y) by omega, two]
        omega
      · rw [if_neg h2]
        have e0 : (x.natAbs : Int) * y + x * (y.natAbs : Int) = 0 := by
          rcases Int.lt_trichotomy x 0 with hx' | hx' | hx'
          · have a1 : (x.natAbs : Int) = -x := by omega
            have a2 : (y.natAbs : Int) = y := by omega
            rw [a1, a2, Int.neg_mul]
            omega
          · rw [hx']
            simp
          · have a1 : (x.natAbs : Int) = x := by omega
            have a2 : (y.natAbs : Int) = -y := by omega
            rw [a1, a2, Int.mul_neg]
            omega
        rw [e0]
        simp
/-! the law's own names -/
end A15
set_option linter.all false
set_option maxRecDepth 10000
namespace A15
open PySem PySem.Spec PyProof.Rows L2 DL
def GQ (m : List Cell) : Prop := m.all nrC = true ∧ m.all nlC = true
def TM (k : Nat) (m : List Cell) : Prop := ∃ q, TinR q k m ∧ GQ q
theorem TM.good {k : Nat} {m : List Cell} (h : TM k m) : GQ m := by
  obtain ⟨q, ⟨a, b, c, rfl, _⟩, h1, h2⟩ := h
  exact ⟨by rw [List.all_cons, h1]; rfl, by rw [List.all_cons, h2]; rfl⟩
theorem e_takeM {k : Nat} (hk : k < 1000000) {m : List Cell} (h : TM k m) {w : Int} (hw : 0 < w) (hw2 : w < 2 ^ 900) : ∃ r m', m__law_take [.ref 0, .int w] m = .ok (.int r) m' ∧ 0 ≤ r ∧ r < w ∧ TM (k + 1) m' ∧ m'.length = m.length := by
  obtain ⟨q, t, hq⟩ := h
  obtain ⟨r, m', e, h1, h2, t2⟩ := e_takeR hk t hw hw2
  refine ⟨r, m', e, h1, h2, ⟨q, t2, hq⟩, ?_⟩
  obtain ⟨a, b, c, rfl, _⟩ := t
  obtain ⟨a, b, c, rfl, _⟩ := t2
  rfl
theorem rowC_nr (n : Nat) (g : Nat → Int) : nrC (.lst (rowC n g)) = true := rowC_nrs n g
theorem nls_ints : ∀ l : List Int, nls (l.map D.int) = true
  | [] => rfl
  | i :: l => by simp only [List.map_cons, nls, nl, nls_ints l, Bool.and_self]
theorem rowC_nl (n : Nat) (g : Nat → Int) : nlC (.lst (rowC n g)) = true := by
  have : rowC n g = ((List.range n).map g).map D.int := by unfold rowC; rw [List.map_map]; rfl
  unfold nlC
  rw [this]
  exact nls_ints _
theorem TM.mem {k : Nat} {m : List Cell} (h : TM k m) (n : Nat) (B : Nat → Nat → Int) : TM k (mem m n B) := by
  obtain ⟨q, ⟨a, b, c, rfl, r⟩, h1, h2⟩ := h
  refine ⟨q ++ (List.range n).map fun i => .lst (rowC n (B i)), ⟨a, b, c, rfl, r⟩, ?_, ?_⟩
  · rw [List.all_append, h1, Bool.true_and, List.all_eq_true]
    intro x hx
    obtain ⟨i, _, rfl⟩ := List.mem_map.1 hx
    exact rowC_nr _ _
  · rw [List.all_append, h2, Bool.true_and, List.all_eq_true]
    intro x hx
    obtain ⟨i, _, rfl⟩ := List.mem_map.1 hx
    exact rowC_nl _ _
mutual
def good : Nat → D → Bool
  | _, .non => true
  | _, .bl _ => true
  | _, .int _ => true
  | _, .str x => PyData.strOk x
  | 0, _ => false
  | n + 1, .tup xs => goods n xs && decide (xs.length ≤ sizeLine)
  | n + 1, .lst xs => goods n xs && decide (xs.length ≤ sizeLine)
  | _, _ => false
def goods : Nat → List D → Bool
  | _, [] => true
  | n, x :: xs => good n x && goods n xs
end
theorem lc_same (n : Nat) (a b : D) (ih : ∀ (d : D) (m : List Cell), good n d = true → m__law_same (n + 1) [d, d] m = .ok (.bl true) m) : ∀ (xs : List D) (m : List Cell), goods n xs = true →
    lcL (.many [2, 3]) tYesS (eCallN 2 (m__law_same (n + 1)) (aCons (eVar 2) (aCons (eVar 3) aNil))) [some a, some b, none, none] (zipL xs xs) m = some (xs.map fun _ => .bl true, m) := by
  intro xs
  induction xs with
  | nil => intro m _; rfl
  | cons x xs ihx =>
    intro m h
    simp only [goods, Bool.and_eq_true] at h
    have e := ih x m h.1
    have e' := ihx m h.2
    simp [zipL, mkF, sNil, sSeq, sAsg, sAsgF, sAsgC, sPar, sPar3, sIf, sRet, sFor, forL, sSetM, sSetI, sApp, sExt, sDrop, sRaise, sTry, hSay, hNil, Ex.ix, e1, e2, eBi, eIf, eVar, eC, eTup, eLst, eSl, slD, pNone, pSome, eLc, lcL, wipeD, Tg.vs, tYesS, aCons, aNil, t2, tTru, truB, truD, tNotS, tAndS, tOrS, eAndB, eOrB, eNotB, eOrV, cmpB, cmpD, iCmp, R.then, R.bind, asgD, DL.setL, addD, subD, negD, absD, DL.intD, mLst, lenD, listD, tupleD, allD, blsD, isiD, isi2D, isTy, isND, notND, DL.isNon, ltB_eq, eCallN, eCallV, callR, iN, i1, rng1I, seqI, gcdD, augD, sAug, mulD, modD, fdivD, ixD, e] at e' ⊢
    rw [e']
theorem strEq (x : Str) (h : PyData.strOk x = true) : eqD (.str x) (.str x) = some true := by
  simp [eqD, toP, SeqAt.shaped, PyData.canLay0, PyData.depth, PyData.eqv, h]
theorem e_same : ∀ (n : Nat) (d : D) (m : List Cell), good n d = true → m__law_same (n + 1) [d, d] m = .ok (.bl true) m := by
  intro n
  induction n with
  | zero =>
    intro d m h
    cases d with
    | non => simp [m__law_same, q__law_same, mkF, sNil, sSeq, sAsg, sAsgF, sAsgC, sPar, sPar3, sIf, sRet, sFor, forL, sSetM, sSetI, sApp, sExt, sDrop, sRaise, sTry, hSay, hNil, Ex.ix, e1, e2, eBi, eIf, eVar, eC, eTup, eLst, eSl, slD, pNone, pSome, eLc, lcL, wipeD, Tg.vs, tYesS, aCons, aNil, t2, tTru, truB, truD, tNotS, tAndS, tOrS, eAndB, eOrB, eNotB, eOrV, cmpB, cmpD, iCmp, R.then, R.bind, asgD, DL.setL, addD, subD, negD, absD, DL.intD, mLst, lenD, listD, tupleD, allD, blsD, isiD, isi2D, isTy, isND, notND, DL.isNon, ltB_eq, eCallN, eCallV, callR, iN, i1, rng1I, seqI, gcdD, augD, sAug, mulD, modD, fdivD, ixD]
    | bl b => simp [m__law_same, q__law_same, mkF, sNil, sSeq, sAsg, sAsgF, sAsgC, sPar, sPar3, sIf, sRet, sFor, forL, sSetM, sSetI, sApp, sExt, sDrop, sRaise, sTry, hSay, hNil, Ex.ix, e1, e2, eBi, eIf, eVar, eC, eTup, eLst, eSl, slD, pNone, pSome, eLc, lcL, wipeD, Tg.vs, tYesS, aCons, aNil, t2, tTru, truB, truD, tNotS, tAndS, tOrS, eAndB, eOrB, eNotB, eOrV, cmpB, cmpD, iCmp, R.then, R.bind, asgD, DL.setL, addD, subD, negD, absD, DL.intD, mLst, lenD, listD, tupleD, allD, blsD, isiD, isi2D, isTy, isND, notND, DL.isNon, ltB_eq, eCallN, eCallV, callR, iN, i1, rng1I, seqI, gcdD, augD, sAug, mulD, modD, fdivD, ixD, eqB]
    | int i => simp [m__law_same, q__law_same, mkF, sNil, sSeq, sAsg, sAsgF, sAsgC, sPar, sPar3, sIf, sRet, sFor, forL, sSetM, sSetI, sApp, sExt, sDrop, sRaise, sTry, hSay, hNil, Ex.ix, e1, e2, eBi, eIf, eVar, eC, eTup, eLst, eSl, slD, pNone, pSome, eLc, lcL, wipeD, Tg.vs, tYesS, aCons, aNil, t2, tTru, truB, truD, tNotS, tAndS, tOrS, eAndB, eOrB, eNotB, eOrV, cmpB, cmpD, iCmp, R.then, R.bind, asgD, DL.setL, addD, subD, negD, absD, DL.intD, mLst, lenD, listD, tupleD, allD, blsD, isiD, isi2D, isTy, isND, notND, DL.isNon, ltB_eq, eCallN, eCallV, callR, iN, i1, rng1I, seqI, gcdD, augD, sAug, mulD, modD, fdivD, ixD, eqI]
    | str x => simp [m__law_same, q__law_same, mkF, sNil, sSeq, sAsg, sAsgF, sAsgC, sPar, sPar3, sIf, sRet, sFor, forL, sSetM, sSetI, sApp, sExt, sDrop, sRaise, sTry, hSay, hNil, Ex.ix, e1, e2, eBi, eIf, eVar, eC, eTup, eLst, eSl, slD, pNone, pSome, eLc, lcL, wipeD, Tg.vs, tYesS, aCons, aNil, t2, tTru, truB, truD, tNotS, tAndS, tOrS, eAndB, eOrB, eNotB, eOrV, cmpB, cmpD, iCmp, R.then, R.bind, asgD, DL.setL, addD, subD, negD, absD, DL.intD, mLst, lenD, listD, tupleD, allD, blsD, isiD, isi2D, isTy, isND, notND, DL.isNon, ltB_eq, eCallN, eCallV, callR, iN, i1, rng1I, seqI, gcdD, augD, sAug, mulD, modD, fdivD, ixD, eqB, strEq x (by simpa [good] using h)]
    | tup xs => simp [good] at h
    | lst xs => simp [good] at h
    | fn i => simp [good] at h
    | ref i => simp [good] at h
    | scr i => simp [good] at h
    | pt i => simp [good] at h
  | succ n ih =>
    intro d m h
    cases d with
    | non => simp [m__law_same, q__law_same, mkF, sNil, sSeq, sAsg, sAsgF, sAsgC, sPar, sPar3, sIf, sRet, sFor, forL, sSetM, sSetI, sApp, sExt, sDrop, sRaise, sTry, hSay, hNil, Ex.ix, e1, e2, eBi, eIf, eVar, eC, eTup, eLst, eSl, slD, pNone, pSome, eLc, lcL, wipeD, Tg.vs, tYesS, aCons, aNil, t2, tTru, truB, truD, tNotS, tAndS, tOrS, eAndB, eOrB, eNotB, eOrV, cmpB, cmpD, iCmp, R.then, R.bind, asgD, DL.setL, addD, subD, negD, absD, DL.intD, mLst, lenD, listD, tupleD, allD, blsD, isiD, isi2D, isTy, isND, notND, DL.isNon, ltB_eq, eCallN, eCallV, callR, iN, i1, rng1I, seqI, gcdD, augD, sAug, mulD, modD, fdivD, ixD]
    | bl b => simp [m__law_same, q__law_same, mkF, sNil, sSeq, sAsg, sAsgF, sAsgC, sPar, sPar3, sIf, sRet, sFor, forL, sSetM, sSetI, sApp, sExt, sDrop, sRaise, sTry, hSay, hNil, Ex.ix, e1, e2, eBi, eIf, eVar, eC, eTup, eLst, eSl, slD, pNone, pSome, eLc, lcL, wipeD, Tg.vs, tYesS, aCons, aNil, t2, tTru, truB, truD, tNotS, tAndS, tOrS, eAndB, eOrB, eNotB, eOrV, cmpB, cmpD, iCmp, R.then, R.bind, asgD, DL.setL, addD, subD, negD, absD, DL.intD, mLst, lenD, listD, tupleD, allD, blsD, isiD, isi2D, isTy, isND, notND, DL.isNon, ltB_eq, eCallN, eCallV, callR, iN, i1, rng1I, seqI, gcdD, augD, sAug, mulD, modD, fdivD, ixD, eqB]
    | int i => simp [m__law_same, q__law_same, mkF, sNil, sSeq, sAsg, sAsgF, sAsgC, sPar, sPar3, sIf, sRet, sFor, forL, sSetM, sSetI, sApp, sExt, sDrop, sRaise, sTry, hSay, hNil, Ex.ix, e1, e2, eBi, eIf, eVar, eC, eTup, eLst, eSl, slD, pNone, pSome, eLc, lcL, wipeD, Tg.vs, tYesS, aCons, aNil, t2, tTru, truB, truD, tNotS, tAndS, tOrS, eAndB, eOrB, eNotB, eOrV, cmpB, cmpD, iCmp, R.then, R.bind, asgD, DL.setL, addD, subD, negD, absD, DL.intD, mLst, lenD, listD, tupleD, allD, blsD, isiD, isi2D, isTy, isND, notND, DL.isNon, ltB_eq, eCallN, eCallV, callR, iN, i1, rng1I, seqI, gcdD, augD, sAug, mulD, modD, fdivD, ixD, eqI]
    | str x => simp [m__law_same, q__law_same, mkF, sNil, sSeq, sAsg, sAsgF, sAsgC, sPar, sPar3, sIf, sRet, sFor, forL, sSetM, sSetI, sApp, sExt, sDrop, sRaise, sTry, hSay, hNil, Ex.ix, e1, e2, eBi, eIf, eVar, eC, eTup, eLst, eSl, slD, pNone, pSome, eLc, lcL, wipeD, Tg.vs, tYesS, aCons, aNil, t2, tTru, truB, truD, tNotS, tAndS, tOrS, eAndB, eOrB, eNotB, eOrV, cmpB, cmpD, iCmp, R.then, R.bind, asgD, DL.setL, addD, subD, negD, absD, DL.intD, mLst, lenD, listD, tupleD, allD, blsD, isiD, isi2D, isTy, isND, notND, DL.isNon, ltB_eq, eCallN, eCallV, callR, iN, i1, rng1I, seqI, gcdD, augD, sAug, mulD, modD, fdivD, ixD, eqB, strEq x (by simpa [good] using h)]
    | tup xs =>
      simp only [good, Bool.and_eq_true, decide_eq_true_eq] at h
      have e := lc_same n (.tup xs) (.tup xs) ih xs m h.1
      have hz : (zipL xs xs).length ≤ sizeLine := by rw [zipL_len]; omega
      rw [m__law_same]
      simp [q__law_same, mkF, sNil, sSeq, sAsg, sAsgF, sAsgC, sPar, sPar3, sIf, sRet, sFor, forL, sSetM, sSetI, sApp, sExt, sDrop, sRaise, sTry, hSay, hNil, Ex.ix, e1, e2, eBi, eIf, eVar, eC, eTup, eLst, eSl, slD, pNone, pSome, eLc, lcL, wipeD, Tg.vs, tYesS, aCons, aNil, t2, tTru, truB, truD, tNotS, tAndS, tOrS, eAndB, eOrB, eNotB, eOrV, cmpB, cmpD, iCmp, R.then, R.bind, asgD, DL.setL, addD, subD, negD, absD, DL.intD, mLst, lenD, listD, tupleD, allD, blsD, isiD, isi2D, isTy, isND, notND, DL.isNon, ltB_eq, eCallN, eCallV, callR, iN, i1, rng1I, seqI, gcdD, augD, sAug, mulD, modD, fdivD, ixD, iZipB, shapeAt, zipMI, isTup, sqD, eqB, neI, neB, eqI, hz] at e ⊢
      rw [e]
      simp [all_tt]
    | lst xs =>
      simp only [good, Bool.and_eq_true, decide_eq_true_eq] at h
      have e := lc_same n (.lst xs) (.lst xs) ih xs m h.1
      have hz : (zipL xs xs).length ≤ sizeLine := by rw [zipL_len]; omega
      rw [m__law_same]
      simp [q__law_same, mkF, sNil, sSeq, sAsg, sAsgF, sAsgC, sPar, sPar3, sIf, sRet, sFor, forL, sSetM, sSetI, sApp, sExt, sDrop, sRaise, sTry, hSay, hNil, Ex.ix, e1, e2, eBi, eIf, eVar, eC, eTup, eLst, eSl, slD, pNone, pSome, eLc, lcL, wipeD, Tg.vs, tYesS, aCons, aNil, t2, tTru, truB, truD, tNotS, tAndS, tOrS, eAndB, eOrB, eNotB, eOrV, cmpB, cmpD, iCmp, R.then, R.bind, asgD, DL.setL, addD, subD, negD, absD, DL.intD, mLst, lenD, listD, tupleD, allD, blsD, isiD, isi2D, isTy, isND, notND, DL.isNon, ltB_eq, eCallN, eCallV, callR, iN, i1, rng1I, seqI, gcdD, augD, sAug, mulD, modD, fdivD, ixD, iZipB, shapeAt, zipMI, isTup, sqD, eqB, neI, neB, eqI, hz] at e ⊢
      rw [e]
      simp [all_tt]
    | fn i => simp [good] at h
    | ref i => simp [good] at h
    | scr i => simp [good] at h
    | pt i => simp [good] at h
theorem rng_len (n : Nat) : (rngL 0 n).length = n := by simp [rngL]
theorem mulL {i j : Int} {s : S} (h : i.natAbs.log2 + j.natAbs.log2 < 100000000) : mulD (.int i) (.int j) s = .ok (.int (i * j)) s := by
  simp only [mulD]
  rw [if_pos h]
theorem md1 (n : Int) (s : S) : modD (.int n) (.int 1) s = .ok (.int 0) s := by
  rw [modI (by decide)]
  rw [Int.fmod_eq_emod_of_nonneg _ (by decide), Int.emod_one]
theorem ix10 (c : D) : L2.atI [c] 0 = some c := rfl
theorem ixn10 : L2.ixN 1 0 = some 0 := by decide
theorem cellsL (B : Nat) (hL : ∀ y : Nat, y ≤ 8192 * B → y.log2 < 90000000) (x0 : D) (m : List Cell) : ∀ (xs : List Int) (i : Nat) (c : Int) (o3 o4 o5 : Option D), (∀ z ∈ xs, z.natAbs ≤ B) → i + xs.length ≤ 62 → c.natAbs ≤ B + i * (64 * B) →
    ∃ c' o3' o4' o5', forL (.many [3, 4]) q__law_cells_b1 (((xs.map D.int).zipIdx i).map fun p => D.tup [.int (p.2 : Int), p.1]) ⟨[some x0, some (.int 1), some (.lst [.int c]), o3, o4, o5], m⟩ = .next ⟨[some x0, some (.int 1), some (.lst [.int c']), o3', o4', o5'], m⟩ ∧ c'.natAbs ≤ 8192 * B := by
  intro xs
  induction xs with
  | nil =>
    intro i c o3 o4 o5 _ hi hc
    refine ⟨c, o3, o4, o5, by simp [forL], ?_⟩
    have h1 : i * (64 * B) ≤ 62 * (64 * B) := Nat.mul_le_mul_right _ (by simpa using hi)
    omega
  | cons x xs ih =>
    intro i c o3 o4 o5 hb hi hc
    have hx : x.natAbs ≤ B := hb x (by simp)
    simp only [List.length_cons] at hi
    have hm : (x * ((i : Int) + 2)).natAbs ≤ 64 * B := by
      rw [Int.natAbs_mul]
      have : ((i : Int) + 2).natAbs ≤ 64 := by omega
      calc x.natAbs * ((i : Int) + 2).natAbs ≤ B * 64 := Nat.mul_le_mul hx this
        _ = 64 * B := Nat.mul_comm _ _
    have hc' : (c + x * ((i : Int) + 2)).natAbs ≤ B + (i + 1) * (64 * B) := by
      have h1 := Int.natAbs_add_le c (x * ((i : Int) + 2))
      rw [Nat.add_mul, Nat.one_mul]
      omega
    obtain ⟨c', o3', o4', o5', e, hq⟩ := ih (i + 1) (c + x * ((i : Int) + 2)) (some (.int i)) (some (.int x)) (some (.int 0)) (fun z hz => hb z (List.mem_cons_of_mem _ hz)) (by omega) hc'
    refine ⟨c', o3', o4', o5', ?_, hq⟩
    have l1 : x.natAbs.log2 < 90000000 := hL _ (by omega)
    have l2 : ((i : Int) + 2).natAbs.log2 < 7 := lg _ 7 (by omega) (by decide)
    have mm : ∀ s, mulD (.int x) (.int ((i : Int) + 2)) s = .ok (.int (x * ((i : Int) + 2))) s := fun s => mulL (by omega)
    rw [List.map_cons, List.zipIdx_cons, List.map_cons, forL]
    have step : q__law_cells_b1 ⟨[some x0, some (.int 1), some (.lst [.int c]), some (.int i), some (.int x), o5], m⟩ = .next ⟨[some x0, some (.int 1), some (.lst [.int (c + x * ((i : Int) + 2))]), some (.int i), some (.int x), some (.int 0)], m⟩ := by
      simp [q__law_cells_b1, mkF, sNil, sSeq, sAsg, sAsgF, sAsgC, sPar, sPar3, sIf, sRet, sFor, forL, sSetM, sSetI, sApp, sExt, sDrop, sRaise, sTry, hSay, hNil, Ex.ix, e1, e2, eBi, eIf, eVar, eC, eTup, eLst, eSl, slD, pNone, pSome, eLc, lcL, wipeD, Tg.vs, tYesS, aCons, aNil, t2, tTru, truB, truD, tNotS, tAndS, tOrS, eAndB, eOrB, eNotB, eOrV, cmpB, cmpD, iCmp, R.then, R.bind, asgD, DL.setL, addD, subD, negD, absD, DL.intD, mLst, lenD, listD, tupleD, allD, blsD, isiD, isi2D, isTy, isND, notND, DL.isNon, ltB_eq, eCallN, eCallV, callR, iN, i1, rng1I, seqI, gcdD, augD, sAug, md1, mm, ixD, ix10, ixn10]
    simp only [asgD, DL.setL, List.length_cons, List.length_nil, List.set_cons_succ, List.set_cons_zero, if_true, step]
    exact e
theorem e_cells (ns : List Int) (B : Nat) (hL : ∀ y : Nat, y ≤ 8192 * B → y.log2 < 90000000) (hb : ∀ z ∈ ns, z.natAbs ≤ B) (hn : ns.length ≤ 63) (m : List Cell) : ∃ c : Int, m__law_cells [.scr ns, .int 1] m = .ok (.lst [.int c]) m ∧ c.natAbs ≤ 8192 * B := by
  have s1 : (1 : Nat) ≤ sizeLine := by rw [szl]; decide
  cases ns with
  | nil =>
    refine ⟨0, ?_, by simp⟩
    simp [m__law_cells, q__law_cells, mkF, sNil, sSeq, sAsg, sAsgF, sAsgC, sPar, sPar3, sIf, sRet, sFor, forL, sSetM, sSetI, sApp, sExt, sDrop, sRaise, sTry, hSay, hNil, Ex.ix, e1, e2, eBi, eIf, eVar, eC, eTup, eLst, eSl, slD, pNone, pSome, eLc, lcL, wipeD, Tg.vs, tYesS, aCons, aNil, t2, tTru, truB, truD, tNotS, tAndS, tOrS, eAndB, eOrB, eNotB, eOrV, cmpB, cmpD, iCmp, R.then, R.bind, asgD, DL.setL, addD, subD, negD, absD, DL.intD, mLst, lenD, listD, tupleD, allD, blsD, isiD, isi2D, isTy, isND, notND, DL.isNon, ltB_eq, eCallN, eCallV, callR, iN, i1, rng1I, seqI, gcdD, augD, sAug, mulD, modD, fdivD, ixD, cutG, HT.sIx, iEnumB, tupAt, enumI, enumL, s1]
  | cons x xs =>
    simp only [List.length_cons] at hn
    obtain ⟨c', o3', o4', o5', e, hq⟩ := cellsL B hL (.scr (x :: xs)) m xs 0 x none none none (fun z hz => hb z (List.mem_cons_of_mem _ hz)) (by omega) (by have := hb x (by simp); omega)
    refine ⟨c', ?_, hq⟩
    have c1 : cutG (x :: xs) none (some 1) = [x] := by
      unfold cutG
      rw [HT.sIx_none, show HT.sIx (x :: xs).length (x :: xs).length (some 1) = min 1 (x :: xs).length from HT.sIx_nat _ _ 1]
      simp
    have c2 : cutG (x :: xs) (some 1) (some 63) = xs := by
      unfold cutG
      rw [show HT.sIx (x :: xs).length (x :: xs).length (some 63) = min 63 (x :: xs).length from HT.sIx_nat _ _ 63, show HT.sIx (x :: xs).length 0 (some 1) = min 1 (x :: xs).length from HT.sIx_nat _ _ 1]
      have a1 : min 1 (x :: xs).length = 1 := by simp
      have a2 : min 63 (x :: xs).length = xs.length + 1 := by
        rw [List.length_cons]
        omega
      rw [a1, a2]
      simp
    have e' : forL (.many [3, 4]) q__law_cells_b1 (enumL (xs.map D.int)) ⟨[some (.scr (x :: xs)), some (.int 1), some (.lst [.int x]), none, none, none], m⟩ = _ := e
    simp only [m__law_cells, q__law_cells, mkF]
    rw [seq_nx (s' := ⟨[some (.scr (x :: xs)), some (.int 1), some (.lst [.int x]), none, none, none], m⟩) (by simp [mkF, sNil, sSeq, sAsg, sAsgF, sAsgC, sPar, sPar3, sIf, sRet, sFor, forL, sSetM, sSetI, sApp, sExt, sDrop, sRaise, sTry, hSay, hNil, Ex.ix, e1, e2, eBi, eIf, eVar, eC, eTup, eLst, eSl, slD, pNone, pSome, eLc, lcL, wipeD, Tg.vs, tYesS, aCons, aNil, t2, tTru, truB, truD, tNotS, tAndS, tOrS, eAndB, eOrB, eNotB, eOrV, cmpB, cmpD, iCmp, R.then, R.bind, asgD, DL.setL, addD, subD, negD, absD, DL.intD, mLst, lenD, listD, tupleD, allD, blsD, isiD, isi2D, isTy, isND, notND, DL.isNon, ltB_eq, eCallN, eCallV, callR, iN, i1, rng1I, seqI, gcdD, augD, sAug, mulD, modD, fdivD, ixD, c1])]
    rw [seq_nx (s' := ⟨[some (.scr (x :: xs)), some (.int 1), some (.lst [.int c']), o3', o4', o5'], m⟩) (by
      simp [sFor, iEnumB, tupAt, iN, aCons, aNil, eSl, slD, pSome, eVar, eC, R.bind, R.then, c2, enumI]
      exact e')]
    simp [sRet, eVar, R.then]
theorem e_box (c : Int) (m : List Cell) (hc : c.natAbs.log2 < 90000000) : ∃ A b : Int, m__law_box [.lst [.int c], .int 0] m = .ok (.lst [.int A, .int b, .int 0]) m ∧ 0 ≤ A ∧ 0 ≤ b ∧ b < 2 ^ 62 := by
  have s1 : (3 : Nat) ≤ sizeLine := by rw [szl]; decide
  have fm := fm_lt c (w := 2305843009213693951) (by decide)
  have hab : (if c < 0 then -c else c) = (c.natAbs : Int) := by split <;> omega
  have m0 : ∀ s, mulD (.int (c.natAbs : Int)) (.int 0) s = .ok (.int 0) s := fun s => by
    rw [mulL (by simpa using (show c.natAbs.log2 + Nat.log2 0 < 100000000 by rw [show Nat.log2 0 = 0 by decide]; omega)), Int.mul_zero]
  have m1 : ∀ s, mulD (.int (c.natAbs : Int)) (.int 1) s = .ok (.int c.natAbs) s := fun s => by
    rw [mulL (by simpa using (show c.natAbs.log2 + Nat.log2 1 < 100000000 by rw [l1]; omega)), Int.mul_one]
  have m2 : ∀ s, mulD (.int 40961) (.int 0) s = .ok (.int 0) s := fun s => by
    rw [mulL (by decide), Int.mul_zero]
  have md : ∀ s, modD (.int c) (.int 2305843009213693951) s = .ok (.int (c.fmod 2305843009213693951)) s := fun s => modI (by decide)
  by_cases h : (c.natAbs : Int) < 1000000000000000000
  · refine ⟨0, c.fmod 2305843009213693951 + 9520015, ?_, by decide, by omega, by omega⟩
    have hl : ltB c.natAbs 1000000000000000000 = true := by rw [ltB_eq]; exact decide_eq_true h
    have h01 : ltB 0 1 = true := by decide
    simp [m__law_box, q__law_box, mkF, sNil, sSeq, sAsg, sAsgF, sAsgC, sPar, sPar3, sIf, sRet, sFor, forL, sSetM, sSetI, sApp, sExt, sDrop, sRaise, sTry, hSay, hNil, Ex.ix, e1, e2, eBi, eIf, eVar, eC, eTup, eLst, eSl, slD, pNone, pSome, eLc, lcL, wipeD, Tg.vs, tYesS, aCons, aNil, t2, tTru, truB, truD, tNotS, tAndS, tOrS, eAndB, eOrB, eNotB, eOrV, cmpB, cmpD, iCmp, R.then, R.bind, asgD, DL.setL, addD, subD, negD, absD, DL.intD, mLst, lenD, listD, tupleD, allD, blsD, isiD, isi2D, isTy, isND, notND, DL.isNon, eCallN, eCallV, callR, iN, i1, rng1I, seqI, gcdD, augD, sAug, ixD, ix10, hab, powD, hl, h01, m0, m2, md, s1]
  · refine ⟨c.natAbs, c.fmod 2305843009213693951 + 9520015, ?_, by omega, by omega, by omega⟩
    have hl : ltB c.natAbs 1000000000000000000 = false := by rw [ltB_eq]; exact decide_eq_false h
    have h01 : ltB 0 1 = true := by decide
    simp [m__law_box, q__law_box, mkF, sNil, sSeq, sAsg, sAsgF, sAsgC, sPar, sPar3, sIf, sRet, sFor, forL, sSetM, sSetI, sApp, sExt, sDrop, sRaise, sTry, hSay, hNil, Ex.ix, e1, e2, eBi, eIf, eVar, eC, eTup, eLst, eSl, slD, pNone, pSome, eLc, lcL, wipeD, Tg.vs, tYesS, aCons, aNil, t2, tTru, truB, truD, tNotS, tAndS, tOrS, eAndB, eOrB, eNotB, eOrV, cmpB, cmpD, iCmp, R.then, R.bind, asgD, DL.setL, addD, subD, negD, absD, DL.intD, mLst, lenD, listD, tupleD, allD, blsD, isiD, isi2D, isTy, isND, notND, DL.isNon, eCallN, eCallV, callR, iN, i1, rng1I, seqI, gcdD, augD, sAug, ixD, ix10, hab, powD, hl, h01, m1, m2, md, s1]
end A15
set_option linter.all false
set_option maxRecDepth 10000
namespace A15
open PySem PySem.Spec PyProof.Rows L2 DL
/-! what is handed in, in all three styles -/
def rowLs (n : Nat) (g : Nat → Int) : D := .lst ((List.range n).map fun j => .int (g j))
inductive WS (n : Nat) (b : Nat → Nat → Int) : D → Prop
  | tt : WS n b (webF n b)
  | ll : WS n b (.lst ((List.range n).map fun i => rowLs n (b i)))
  | lt : WS n b (.lst ((List.range n).map fun i => rowF n (b i)))
inductive RS' (l : List Nat) : D → Prop
  | t : RS' l (.tup (nD l))
  | l : RS' l (.lst (nD l))
section
variable {n : Nat} {b : Nat → Nat → Int} {d : D}
theorem e_tupW (hn : n ≤ 60) (h : WS n b d) (m : List Cell) : m_tupled 6 [d] m = .ok (webF n b) m := by
  have hl : (List.range n).length ≤ 1000 := by rw [List.length_range]; omega
  cases h with
  | tt => exact tup_web n (by omega) b m
  | ll => exact tup_seq 5 (fun i => rowLs n (b i)) (fun i => rowF n (b i)) (List.range n) m hl _ (.inr rfl) fun i _ => tup_seq 4 (fun j => D.int (b i j)) (fun j => D.int (b i j)) (List.range n) m hl _ (.inr rfl) fun j _ => tup_int 3 _ m
  | lt => exact tup_seq 5 (fun i => rowF n (b i)) (fun i => rowF n (b i)) (List.range n) m hl _ (.inr rfl) fun i _ => tup_row 3 n (by omega) (b i) m
theorem e_sureW (h0 : 0 < n) (hn : n ≤ 60) {wt : Nat → Nat} (h : SkF n b wt) (hd : WS n b d) (m : List Cell) (hm : m.all nrC = true) : trimF m_sure_web [d] m = .ok (webF n b) m := by
  have e1' := fun m => e_tupW hn hd m
  have e2' := e_isweb h0 hn h m hm
  have e : m_sure_web [d] m = .ok (webF n b) m := by
    simp [m_sure_web, q_sure_web, mkF, sNil, sSeq, sAsg, sAsgF, sAsgC, sPar, sPar3, sIf, sRet, sFor, forL, sSetM, sSetI, sApp, sExt, sDrop, sRaise, sTry, hSay, hNil, Ex.ix, e1, e2, eBi, eIf, eVar, eC, eTup, eLst, eSl, slD, pNone, pSome, eLc, lcL, wipeD, Tg.vs, tYesS, aCons, aNil, t2, tTru, truB, truD, tNotS, tAndS, tOrS, eAndB, eOrB, eNotB, eOrV, cmpB, cmpD, iCmp, R.then, R.bind, asgD, DL.setL, addD, subD, negD, absD, DL.intD, mLst, lenD, listD, tupleD, allD, blsD, isiD, isi2D, isTy, isND, notND, DL.isNon, ltB_eq, eCallN, eCallV, callR, iN, i1, rng1I, seqI, gcdD, augD, sAug, e1', e2']
  unfold trimF
  rw [e]
  simp only [List.take_length, nr_web, hm, Bool.and_self, if_true]
theorem e_tupR {l : List Nat} (hl : l.length ≤ 1000) (h : RS' l d) (m : List Cell) : m_tupled 6 [d] m = .ok (.tup (nD l)) m := by
  cases h with
  | t => exact tup_seq 5 nI nI l m hl _ (.inl rfl) fun q _ => tup_int 4 _ m
  | l => exact tup_seq 5 nI nI l m hl _ (.inr rfl) fun q _ => tup_int 4 _ m
theorem e_sureR {l : List Nat} (hl : l.length ≤ 1000) (hd : RS' l d) (m : List Cell) : m_sure_row [d] m = .ok (.tup (nD l)) m := by
  have e := fun m => e_tupR hl hd m
  have hz : (nD l).length ≤ sizeLine := by rw [szl, nD_len]; omega
  have t1 := lc_map 2 (eCallN 1 m_is_number (aCons (eVar 2) aNil)) [some d, some (.tup (nD l)), none] m nI (fun _ => .bl true) l fun x _ => by simp [isOkM, nI, mkF, sNil, sSeq, sAsg, sAsgF, sAsgC, sPar, sPar3, sIf, sRet, sFor, forL, sSetM, sSetI, sApp, sExt, sDrop, sRaise, sTry, hSay, hNil, Ex.ix, e1, e2, eBi, eIf, eVar, eC, eTup, eLst, eSl, slD, pNone, pSome, eLc, lcL, wipeD, Tg.vs, tYesS, aCons, aNil, t2, tTru, truB, truD, tNotS, tAndS, tOrS, eAndB, eOrB, eNotB, eOrV, cmpB, cmpD, iCmp, R.then, R.bind, asgD, DL.setL, addD, subD, negD, absD, DL.intD, mLst, lenD, listD, tupleD, allD, blsD, isiD, isi2D, isTy, isND, notND, DL.isNon, ltB_eq, eCallN, eCallV, callR, iN, i1, rng1I, seqI, gcdD, augD, sAug, m_is_number, q_is_number]
  have t1' : lcL (.one 2) tYesS (eCallN 1 m_is_number (aCons (eVar 2) aNil)) [some d, some (.tup (nD l)), none] (nD l) m = some (l.map fun _ => .bl true, m) := t1
  obtain ⟨F, hF⟩ : ∃ F, F = eCallN 1 m_is_number (aCons (eVar 2) aNil) := ⟨_, rfl⟩
  rw [← hF] at t1'
  unfold m_sure_row q_sure_row
  rw [← hF]
  simp [mkF, sSeq, sAsg, asgD, sIf, tOrS, tNotS, eCallN, aCons, aNil, callR, sRet, tTru, e1, eVar, isiD, isTy, R.bind, R.then, truB, truD, eLc, i1, seqI, hz, t1', e, allD, all_tt, sNil]
theorem e_kplace {p : Nat} (hp : p < n) (m : List Cell) : m_known_place [webF n b, nI p] m = .ok (nI p) m := by
  have h2 : ltB (p : Int) 0 = false := by rw [ltB_eq]; exact decide_eq_false (by omega)
  have h3 : ltB (p : Int) (n : Int) = true := by rw [ltB_eq]; exact decide_eq_true (by omega)
  have hl := lenF n b
  obtain ⟨WB, hW⟩ : ∃ WB, WB = webF n b := ⟨_, rfl⟩
  rw [← hW] at hl ⊢
  have nb : m_is_below [nI p, .int n] m = .ok (.bl true) m := by
    simp [m_is_below, q_is_below, m_is_from, q_is_from, m_is_number, q_is_number, nI, mkF, sNil, sSeq, sAsg, sAsgF, sAsgC, sPar, sPar3, sIf, sRet, sFor, forL, sSetM, sSetI, sApp, sExt, sDrop, sRaise, sTry, hSay, hNil, Ex.ix, e1, e2, eBi, eIf, eVar, eC, eTup, eLst, eSl, slD, pNone, pSome, eLc, lcL, wipeD, Tg.vs, tYesS, aCons, aNil, t2, tTru, truB, truD, tNotS, tAndS, tOrS, eAndB, eOrB, eNotB, eOrV, cmpB, cmpD, iCmp, R.then, R.bind, asgD, DL.setL, addD, subD, negD, absD, DL.intD, mLst, lenD, listD, tupleD, allD, blsD, isiD, isi2D, isTy, isND, notND, DL.isNon, eCallN, eCallV, callR, iN, i1, rng1I, seqI, gcdD, augD, sAug, h2, h3]
  simp [m_known_place, q_known_place, mkF, sSeq, sIf, tNotS, tTru, eCallN, aCons, aNil, callR, eVar, e1, R.bind, R.then, hl, nb, truB, truD, sNil, sRet]
theorem kr_loop {v1 : Option D} {m : List Cell} : ∀ (l : List Nat) (o2 : Option D), (∀ p ∈ l, p < n) → ∃ o2', forL (.one 2) q_known_row_b1 (nD l) ⟨[some (webF n b), v1, o2], m⟩ = .next ⟨[some (webF n b), v1, o2'], m⟩
  | [], o2, _ => ⟨o2, rfl⟩
  | p :: l, o2, h => by
    obtain ⟨o2', e⟩ := kr_loop (v1 := v1) (m := m) l (some (nI p)) fun q hq => h q (List.mem_cons_of_mem _ hq)
    have k := fun m => e_kplace (b := b) (h p (by simp)) m
    refine ⟨o2', ?_⟩
    rw [show nD (p :: l) = nI p :: nD l from rfl, forL]
    have step : q_known_row_b1 ⟨[some (webF n b), v1, some (nI p)], m⟩ = .next ⟨[some (webF n b), v1, some (nI p)], m⟩ := by
      simp [q_known_row_b1, sDrop, eCallN, aCons, aNil, eVar, callR, R.bind, R.then, k]
    simp only [asgD, List.set_cons_succ, List.set_cons_zero, step]
    exact e
theorem e_krow {l : List Nat} (h : ∀ p ∈ l, p < n) (m : List Cell) : m_known_row [webF n b, .tup (nD l)] m = .ok (.tup (nD l)) m := by
  obtain ⟨o2', e⟩ := kr_loop (b := b) (v1 := some (.tup (nD l))) (m := m) l none h
  simp only [m_known_row, q_known_row, mkF]
  rw [seq_nx (s' := ⟨[some (webF n b), some (.tup (nD l)), o2'], m⟩) (by
    unfold sFor i1 eVar
    exact e)]
  simp [q_known_row_r1, mkF, sNil, sSeq, sAsg, sAsgF, sAsgC, sPar, sPar3, sIf, sRet, sFor, forL, sSetM, sSetI, sApp, sExt, sDrop, sRaise, sTry, hSay, hNil, Ex.ix, e1, e2, eBi, eIf, eVar, eC, eTup, eLst, eSl, slD, pNone, pSome, eLc, lcL, wipeD, Tg.vs, tYesS, aCons, aNil, t2, tTru, truB, truD, tNotS, tAndS, tOrS, eAndB, eOrB, eNotB, eOrV, cmpB, cmpD, iCmp, R.then, R.bind, asgD, DL.setL, addD, subD, negD, absD, DL.intD, mLst, lenD, listD, tupleD, allD, blsD, isiD, isi2D, isTy, isND, notND, DL.isNon, ltB_eq, eCallN, eCallV, callR, iN, i1, rng1I, seqI, gcdD, augD, sAug]
end
end A15
set_option linter.all false
set_option maxRecDepth 10000
namespace A15
open PySem PySem.Spec PyProof.Rows L2 DL
theorem TinR.len {q m : List Cell} {k : Nat} (h : TinR q k m) : m.length = q.length + 1 := by
  obtain ⟨a, b, c, rfl, _⟩ := h
  rfl
theorem TinR.mono {q m : List Cell} {j k : Nat} (h : TinR q j m) (hk : j ≤ k) : TinR q k m := by
  obtain ⟨a, b, c, e, h1, h2, h3, h4, h5⟩ := h
  exact ⟨a, b, c, e, h1, h2, h3, h4, by omega⟩
theorem e_ofR {q : List Cell} {k : Nat} (hk : k < 1000000) {m : List Cell} (h : TinR q k m) (xs : List D) (h0 : xs ≠ []) (h1 : xs.length ≤ 1000) : ∃ d m', d ∈ xs ∧ m__law_of [.ref 0, .lst xs] m = .ok d m' ∧ TinR q (k + 1) m' := by
  have hl : 0 < xs.length := by
    cases xs with
    | nil => exact absurd rfl h0
    | cons _ _ => simp
  obtain ⟨r, m', e, r0, r1, t⟩ := e_takeR hk h (w := (xs.length : Int)) (by omega) (by omega)
  obtain ⟨j, rfl⟩ : ∃ j : Nat, r = j := ⟨r.toNat, by omega⟩
  have hj : j < xs.length := by omega
  refine ⟨xs[j], m', List.getElem_mem hj, ?_, t⟩
  have ix : ∀ st : S, ixD (.lst xs) (.int (j : Int)) st = .ok xs[j] st := fun st => by
    rw [ixl, atN _ _ hj, List.getElem?_eq_getElem hj]
  simp [m__law_of, q__law_of, mkF, sRet, e2, e1, eVar, eCallN, aCons, aNil, callR, R.bind, R.then, lenD, e, ix]
theorem TinR.memR {q m : List Cell} {k n : Nat} {B : Nat → Nat → Int} (h : TinR q k m) : TinR (q ++ (List.range n).map fun i => .lst (rowC n (B i))) k (mem m n B) := by
  obtain ⟨a, b, c, rfl, r⟩ := h
  exact ⟨a, b, c, rfl, r⟩
theorem TinR.unmem {q m : List Cell} {k n : Nat} {B : Nat → Nat → Int} (h : TinR (q ++ (List.range n).map fun i => .lst (rowC n (B i))) k m) : ∃ m', m = mem m' n B ∧ TinR q k m' := by
  obtain ⟨a, b, c, rfl, r⟩ := h
  exact ⟨.lst [.int a, .int b, .int c] :: q, rfl, ⟨a, b, c, rfl, r⟩⟩
theorem perm_erase {α : Type} : ∀ (l : List α) (j : Nat) (p : α), l[j]? = some p → l.Perm (p :: l.eraseIdx j)
  | [], j, p, h => by simp at h
  | x :: l, 0, p, h => by
    simp at h
    subst h
    exact .refl _
  | x :: l, j + 1, p, h => by
    have ih := perm_erase l j p (by simpa using h)
    rw [List.eraseIdx_cons_succ]
    exact (ih.cons x).trans (.swap p x _)
theorem erase_map {α β : Type} (f : α → β) : ∀ (l : List α) (j : Nat), (l.map f).eraseIdx j = (l.eraseIdx j).map f
  | [], j => by simp
  | x :: l, 0 => by simp
  | x :: l, j + 1 => by simp [erase_map f l j]
/-! a drawn order -/
theorem mx_loop {α : Type} (g : α → D) {c : Nat} : ∀ (n : Nat) (l : List D) (pool acc : List α) (k : Nat) (q : List Cell) (m : List Cell) (o4 : Option D) (x y z : Int) (v1 : Option D), l.length = n → pool.length = n → acc.length + n ≤ 1000 → k + n < 900000 → GQ q → c = q.length + 1 → m = .lst [.int x, .int y, .int z] :: q ++ [.lst (pool.map g)] → 0 ≤ x → 0 ≤ y → y < 2 ^ 62 → 0 ≤ z → z ≤ k →
    ∃ (perm : List α) (o4' : Option D) (x' y' z' : Int), forL (.one 4) q__law_mixed_b1 l ⟨[some (.ref 0), v1, some (.ref c), some (.lst (acc.map g)), o4], m⟩ = .next ⟨[some (.ref 0), v1, some (.ref c), some (.lst ((acc ++ perm).map g)), o4'], .lst [.int x', .int y', .int z'] :: q ++ [.lst []]⟩ ∧ perm.Perm pool ∧ 0 ≤ x' ∧ 0 ≤ y' ∧ y' < 2 ^ 62 ∧ 0 ≤ z' ∧ z' ≤ k + n := by
  intro n
  induction n with
  | zero =>
    intro l pool acc k q m o4 x y z v1 hl hp _ _ hq hc hm h1 h2 h3 h4 h5
    have e1 : l = [] := List.eq_nil_of_length_eq_zero hl
    have e2' : pool = [] := List.eq_nil_of_length_eq_zero hp
    subst e1 e2' hm
    exact ⟨[], o4, x, y, z, by simp [forL], .refl _, h1, h2, h3, h4, by simpa using h5⟩
  | succ n ih =>
    intro l pool acc k q m o4 x y z v1 hl hp ha hk hq hc hm h1 h2 h3 h4 h5
    cases l with
    | nil => simp at hl
    | cons d l =>
      subst hm
      have hpl : pool ≠ [] := fun e => by rw [e] at hp; simp at hp
      obtain ⟨r, m', er, r0, r1, ⟨x', y', z', em, a1, a2, a3, a4, a5⟩⟩ := e_takeR (q0 := q ++ [.lst (pool.map g)]) (k := k) (by omega) (m := .lst [.int x, .int y, .int z] :: (q ++ [.lst (pool.map g)])) ⟨x, y, z, rfl, h1, h2, h3, h4, h5⟩ (w := (pool.length : Int)) (by omega) (by omega)
      subst em
      obtain ⟨j, rfl⟩ : ∃ j : Nat, r = j := ⟨r.toNat, by omega⟩
      have hj : j < pool.length := by omega
      obtain ⟨p, hpj⟩ : ∃ p, pool[j]? = some p := ⟨pool[j], List.getElem?_eq_getElem hj⟩
      have hperm : pool.Perm (p :: pool.eraseIdx j) := perm_erase pool j p hpj
      obtain ⟨perm, o4', x2, y2, z2, e, hpm, b1, b2, b3, b4, b5⟩ := ih l (pool.eraseIdx j) (acc ++ [p]) (k + 1) q _ (some d) x' y' z' v1 (by simpa using hl) (by rw [List.length_eraseIdx_of_lt hj]; omega) (by simp; omega) (by omega) hq hc rfl a1 a2 a3 a4 (by omega)
      refine ⟨p :: perm, o4', x2, y2, z2, ?_, ?_, b1, b2, b3, b4, by omega⟩
      · have hml : ∀ (r : List (Option D)) (X : Cell), mLst ⟨r, X :: q ++ [.lst (pool.map g)]⟩ c = some (pool.map g) := fun r X => by
          unfold mLst
          rw [hc]
          simp
        have hset : ∀ X : Cell, (X :: q ++ [Cell.lst (pool.map g)]).set c (.lst ((pool.map g).eraseIdx j)) = X :: q ++ [.lst ((pool.eraseIdx j).map g)] := fun X => by
          have he : (pool.map g).eraseIdx j = (pool.eraseIdx j).map g := by rw [erase_map]
          rw [hc, he]
          simp
        have hlen : (pool.map g).length = pool.length := List.length_map g
        have hle : (pool.map g).length ≤ sizeLine := by rw [szl, hlen]; omega
        have hget : (pool.map g)[j]? = some (g p) := by simp [hpj]
        have hz : (acc.map g).length < sizeLine := by rw [szl, List.length_map]; omega
        have hacc : acc.map g ++ [g p] = (acc ++ [p]).map g := by simp
        have hlc : ∀ (r : List (Option D)) (X : Cell), lenC (.ref c) ⟨r, X :: q ++ [.lst (pool.map g)]⟩ = .ok (.int pool.length) ⟨r, X :: q ++ [.lst (pool.map g)]⟩ := fun r X => by
          unfold lenC
          simp only [hml, hlen]
        have er' : m__law_take [.ref 0, .int (pool.length : Int)] (.lst [.int x, .int y, .int z] :: q ++ [.lst (pool.map g)]) = .ok (.int (j : Int)) (.lst [.int x', .int y', .int z'] :: q ++ [.lst (pool.map g)]) := er
        have step : q__law_mixed_b1 ⟨[some (.ref 0), v1, some (.ref c), some (.lst (acc.map g)), some d], .lst [.int x, .int y, .int z] :: q ++ [.lst (pool.map g)]⟩ = .next ⟨[some (.ref 0), v1, some (.ref c), some (.lst ((acc ++ [p]).map g)), some d], .lst [.int x', .int y', .int z'] :: q ++ [.lst ((pool.eraseIdx j).map g)]⟩ := by
          simp only [q__law_mixed_b1, sApp, ePop, eCallN, aCons, aNil, e1, eVar, R.bind, R.then, List.getD_cons_zero, List.getD_cons_succ, hml, hlc, List.length_cons, List.length_nil, if_true, er', callR, hle, ixN_nat (n := (pool.map g).length) (j := j) (by omega), hget, hset, hz, hacc]
          rfl
        rw [forL]
        simp only [asgD, List.set_cons_succ, List.set_cons_zero, step]
        rw [e]
        simp
      · exact (hpm.cons p).trans hperm.symm
theorem e_mixedG {α : Type} (g : α → D) (hg : ∀ l : List α, nrs (l.map g) = true) {k : Nat} {m : List Cell} (t : TM k m) (xs : List α) {n : Nat} (hxn : xs.length = n) (hn : n ≤ 60) (hk : k + n < 900000) : ∃ (perm : List α) (m' : List Cell), trimF m__law_mixed [.ref 0, .lst (xs.map g)] m = .ok (.lst (perm.map g)) m' ∧ perm.Perm xs ∧ TM (k + n) m' := by
  obtain ⟨q, ⟨x, y, z, rfl, h1, h2, h3, h4, h5⟩, hq⟩ := t
  obtain ⟨perm, o4, x', y', z', e, hp, a1, a2, a3, a4, a5⟩ := mx_loop g (c := q.length + 1) n (rngL 0 n) xs [] k q (.lst [.int x, .int y, .int z] :: q ++ [.lst (xs.map g)]) none x y z (some (.lst (xs.map g))) (by simp [rngL]) hxn (by simp; omega) (by omega) hq rfl rfl h1 h2 h3 h4 h5
  refine ⟨perm, .lst [.int x', .int y', .int z'] :: q, ?_, hp, ⟨q, ⟨x', y', z', rfl, a1, a2, a3, a4, a5⟩, hq⟩⟩
  have hlc : ∀ (r : List (Option D)) (X : Cell), lenC (.ref (q.length + 1)) ⟨r, X :: q ++ [.lst (xs.map g)]⟩ = .ok (.int n) ⟨r, X :: q ++ [.lst (xs.map g)]⟩ := fun r X => by
    unfold lenC mLst
    simp [hxn]
  have hr : ∀ st, rng1I [.int n] st = .ok (rngL 0 n) st := fun st => rngS _ st (by omega)
  have e0 : m__law_mixed [.ref 0, .lst (xs.map g)] (.lst [.int x, .int y, .int z] :: q) = .ok (.lst (perm.map g)) (.lst [.int x', .int y', .int z'] :: q ++ [.lst []]) := by
    obtain ⟨PD, hPD⟩ : ∃ PD, PD = xs.map g := ⟨_, rfl⟩
    rw [← hPD] at e hlc ⊢
    simp only [m__law_mixed, q__law_mixed, mkF]
    rw [seq_nx (s' := ⟨[some (.ref 0), some (.lst PD), some (.ref (q.length + 1)), some (.lst (List.map g [])), none], .lst [.int x, .int y, .int z] :: q ++ [.lst PD]⟩) (by rfl)]
    rw [seq_nx (s' := ⟨[some (.ref 0), some (.lst PD), some (.ref (q.length + 1)), some (.lst (([] ++ perm).map g)), o4], .lst [.int x', .int y', .int z'] :: q ++ [.lst []]⟩) (by
      rw [← e]
      simp only [sFor, iN, aCons, aNil, e1, eVar, R.bind, R.then, List.getD_cons_zero, List.getD_cons_succ, hlc, hr])]
    rfl
  have hnr : nr (.lst (perm.map g)) = true := by
    simp only [nr]
    exact hg perm
  have htk : (Cell.lst [.int x', .int y', .int z'] :: q ++ [Cell.lst []]).take (Cell.lst [.int x, .int y, .int z] :: q).length = .lst [.int x', .int y', .int z'] :: q := by
    simp
  have hgd : (Cell.lst [.int x', .int y', .int z'] :: q).all nrC = true := by rw [List.all_cons, hq.1]; rfl
  unfold trimF
  rw [e0]
  simp only [htk, hnr, hgd, Bool.and_self, if_true]
theorem nrs_nI (l : List Nat) : nrs (l.map nI) = true := nrs_z (fun q => (q : Int)) l
theorem e_mixed {k : Nat} {m : List Cell} (t : TM k m) (n : Nat) (hn : n ≤ 60) (hk : k + n < 900000) : ∃ perm m', trimF m__law_mixed [.ref 0, .lst (nD (List.range n))] m = .ok (.lst (nD perm)) m' ∧ perm.Perm (List.range n) ∧ TM (k + n) m' :=
  e_mixedG nI nrs_nI t (List.range n) (by simp) hn hk
end A15
set_option linter.all false
set_option maxRecDepth 10000
namespace A15
open PySem PySem.Spec PyProof.Rows L2 DL
def NDl (L : List Nat) : D := .tup (nD L)
variable {n : Nat} {L : List Nat} {σ inv : Nat → Nat}
structure Nm (n : Nat) (L : List Nat) (σ inv : Nat → Nat) : Prop where
  len : L.length = n
  at_ : ∀ i, i < n → L[i]? = some (σ i)
  lt : ∀ i, i < n → σ i < n
  ilt : ∀ x, x < n → inv x < n
  li : ∀ i, i < n → inv (σ i) = i
  ri : ∀ x, x < n → σ (inv x) = x
  out : ∀ x, n ≤ x → inv x = x
  perm : ((List.range n).map inv).Perm (List.range n)
theorem nm_of {n : Nat} {L : List Nat} (h : L.Perm (List.range n)) : ∃ σ inv, Nm n L σ inv := by
  have hl : L.length = n := by rw [h.length_eq, List.length_range]
  have hnd : L.Nodup := h.nodup_iff.2 List.nodup_range
  have hm : ∀ x, x ∈ L ↔ x < n := fun x => by rw [h.mem_iff, List.mem_range]
  have hat : ∀ i, i < n → L[i]? = some (L.getD i 0) := fun i hi => by
    rw [List.getD_eq_getElem?_getD, List.getElem?_eq_getElem (by omega)]
    rfl
  have hg : ∀ i (hi : i < n), L.getD i 0 = L[i]'(by omega) := fun i hi => by
    rw [List.getD_eq_getElem?_getD, List.getElem?_eq_getElem (by omega)]
    rfl
  have hlt : ∀ i, i < n → L.getD i 0 < n := fun i hi => by
    rw [hg i hi]
    exact (hm _).1 (List.getElem_mem _)
  have hil : ∀ x, x < n → L.idxOf x < n := fun x hx => by
    have := List.idxOf_lt_length_iff.2 ((hm x).2 hx)
    omega
  refine ⟨fun i => L.getD i 0, fun x => if x < n then L.idxOf x else x, hl, hat, hlt, fun x hx => ?_, fun i hi => ?_, fun x hx => ?_, fun x hx => ?_, ?_⟩
  · simp only [if_pos hx]
    exact hil x hx
  · simp only [if_pos (hlt i hi)]
    rw [hg i hi]
    exact hnd.idxOf_getElem i (by omega)
  · simp only [if_pos hx]
    rw [hg _ (hil x hx)]
    exact List.getElem_idxOf _
  · simp only [if_neg (show ¬ x < n by omega)]
  · have e : L.map (fun x => if x < n then L.idxOf x else x) = List.range n := by
      apply List.ext_getElem
      · simp [hl]
      · intro i h1 h2
        have hi : i < n := by simpa using h2
        simp only [List.getElem_map, List.getElem_range]
        rw [if_pos ((hm _).1 (List.getElem_mem _))]
        exact hnd.idxOf_getElem i (by omega)
    have := (h.map (fun x => if x < n then L.idxOf x else x)).symm
    rw [e] at this
    exact this
theorem Nm.iff (h : Nm n L σ inv) {p : Nat} (hp : p < n) (x : Nat) : σ p = x ↔ p = inv x := by
  constructor
  · rintro rfl
    exact (h.li p hp).symm
  · intro e
    rcases Nat.lt_or_ge x n with hx | hx
    · rw [e, h.ri x hx]
    · have := h.out x hx
      omega
/-! the law's own naming -/
theorem ixL (h : Nm n L σ inv) {i : Nat} (hi : i < n) (st : S) : ixD (NDl L) (nI i) st = .ok (nI (σ i)) st := by
  unfold NDl nD
  rw [show nI i = .int (i : Int) from rfl, ixt, atN _ _ (by simp; rw [h.len]; exact hi), List.getElem?_map, h.at_ i hi]
  rfl
theorem e_names {m : List Cell} {k : Nat} (t : TM k m) (n : Nat) (hn : n ≤ 60) (hk : k + n < 900000) : ∃ L m', m__law_names [.ref 0, .int n] m = .ok (NDl L) m' ∧ L.Perm (List.range n) ∧ TM (k + n) m' := by
  obtain ⟨L, m', e, hp, t'⟩ := e_mixed t n hn hk
  refine ⟨L, m', ?_, hp, t'⟩
  have hl : ∀ st, lrgD (.int n) st = .ok (.lst (nD (List.range n))) st := fun st => by
    rw [← rngL_nD]
    simp only [lrgD]
    rw [if_pos (by omega), Int.toNat_natCast]
  obtain ⟨PD, hPD⟩ : ∃ PD, PD = D.lst (nD (List.range n)) := ⟨_, rfl⟩
  rw [← hPD] at e hl
  simp [m__law_names, q__law_names, mkF, sRet, e1, eCallN, aCons, aNil, eVar, callR, R.bind, R.then, hl, e, tupleD, NDl]
section
variable {n : Nat} {b : Nat → Nat → Int} {L : List Nat} {σ inv : Nat → Nat}
theorem ln_b1 (h : Nm n L σ inv) {c : Nat → Nat → Int} {i j : Nat} (hi : i < n) (hj : j < n) {B : Nat → Nat → Int} {v0 v5 : Option D} {m : List Cell} :
    q__law_named_b1 ⟨[v0, some (NDl L), some (.lst (refs m.length n)), some (.int (c i j)), some (nI i), v5, some (nI j)], mem m n B⟩ = .next ⟨[v0, some (NDl L), some (.lst (refs m.length n)), some (.int (c i j)), some (nI i), v5, some (nI j)], mem m n (updB B (σ i) (σ j) (c i j))⟩ := by
  have a1 : ∀ st, ixD (NDl L) (nI i) st = .ok (nI (σ i)) st := ixL h hi
  have a2 : ∀ st, ixD (NDl L) (nI j) st = .ok (nI (σ j)) st := ixL h hj
  have a3 : ∀ st, ixD (.lst (refs m.length n)) (nI (σ i)) st = .ok (.ref (m.length + σ i)) st := fun st => ix_refs (h.lt i hi) st
  refine set_cell (h.lt i hi) (h.lt j hj) rfl ?_ ?_
  · simp only [e2, eVar, R.bind, List.getD_cons_zero, List.getD_cons_succ, a1, a3]
  · simp only [e2, eVar, R.bind, List.getD_cons_zero, List.getD_cons_succ, a2]
    rfl
theorem ln_in (h : Nm n L σ inv) {c : Nat → Nat → Int} {i : Nat} (hi : i < n) {v0 v5 : Option D} {m : List Cell} : ∀ (l : List Nat) (B : Nat → Nat → Int) (o3 o6 : Option D), (∀ j ∈ l, j < n) →
    ∃ B' y3 y6, forL (.many [6, 3]) q__law_named_b1 (l.map fun j : Nat => D.tup [.int (j : Int), .int (c i j)]) ⟨[v0, some (NDl L), some (.lst (refs m.length n)), o3, some (nI i), v5, o6], mem m n B⟩ = .next ⟨[v0, some (NDl L), some (.lst (refs m.length n)), y3, some (nI i), v5, y6], mem m n B'⟩ ∧ ∀ x y, x < n → y < n → B' x y = if inv x = i ∧ inv y ∈ l then c (inv x) (inv y) else B x y
  | [], B, o3, o6, _ => ⟨B, o3, o6, rfl, fun x y _ _ => by simp⟩
  | j :: l, B, o3, o6, hl => by
    have hj := hl j (by simp)
    have st := ln_b1 h (c := c) hi hj (B := B) (v0 := v0) (v5 := v5) (m := m)
    obtain ⟨B', y3, y6, e, hp'⟩ := ln_in h (c := c) hi (v0 := v0) (v5 := v5) (m := m) l (updB B (σ i) (σ j) (c i j)) (some (.int (c i j))) (some (nI j)) (fun k hk => hl k (List.mem_cons_of_mem _ hk))
    refine ⟨B', y3, y6, ?_, fun x y hx hy => ?_⟩
    · rw [List.map_cons, forL]
      simp only [asgD, DL.setL, List.length_cons, List.length_nil, List.set_cons_succ, List.set_cons_zero, if_true]
      have st' : q__law_named_b1 ⟨[v0, some (NDl L), some (.lst (refs m.length n)), some (.int (c i j)), some (nI i), v5, some (.int (j : Int))], mem m n B⟩ = _ := st
      rw [st']
      exact e
    · rw [hp' x y hx hy]
      unfold updB
      have ix : x = σ i ↔ inv x = i := by
        constructor
        · intro e; exact ((h.iff hi x).1 e.symm).symm
        · intro e; exact ((h.iff hi x).2 e.symm).symm
      have iy : y = σ j ↔ inv y = j := by
        constructor
        · intro e; exact ((h.iff hj y).1 e.symm).symm
        · intro e; exact ((h.iff hj y).2 e.symm).symm
      simp only [ix, iy]
      by_cases hxi : inv x = i
      · by_cases hyl : inv y ∈ l
        · simp [hxi, hyl]
        · by_cases hyj : inv y = j
          · simp [hxi, hyj, hyl]
          · simp [hxi, hyj, hyl]
      · simp [hxi]
theorem ln_out (h : Nm n L σ inv) (hn : n ≤ 60) {c : Nat → Nat → Int} {v0 : Option D} {m : List Cell} : ∀ (l : List Nat) (B : Nat → Nat → Int) (o3 o4 o5 o6 : Option D), (∀ i ∈ l, i < n) →
    ∃ B' y3 y4 y5 y6, forL (.many [4, 5]) q__law_named_b2 (l.map fun i : Nat => D.tup [.int (i : Int), rowF n (c i)]) ⟨[v0, some (NDl L), some (.lst (refs m.length n)), o3, o4, o5, o6], mem m n B⟩ = .next ⟨[v0, some (NDl L), some (.lst (refs m.length n)), y3, y4, y5, y6], mem m n B'⟩ ∧ ∀ x y, x < n → y < n → B' x y = if inv x ∈ l then c (inv x) (inv y) else B x y
  | [], B, o3, o4, o5, o6, _ => ⟨B, o3, o4, o5, o6, rfl, fun x y _ _ => by simp⟩
  | i :: l, B, o3, o4, o5, o6, hl => by
    have hi := hl i (by simp)
    obtain ⟨B1, y3, y6, e1', h1⟩ := ln_in h (c := c) hi (v0 := v0) (v5 := some (rowF n (c i))) (m := m) (List.range n) B o3 o6 (fun j hj => List.mem_range.1 hj)
    obtain ⟨B', z3, z4, z5, z6, e2', h2⟩ := ln_out h hn (c := c) (v0 := v0) (m := m) l B1 y3 (some (nI i)) (some (rowF n (c i))) y6 (fun k hk => hl k (List.mem_cons_of_mem _ hk))
    have hen := enum_range (fun j => D.int (c i j)) n
    refine ⟨B', z3, z4, z5, z6, ?_, fun x y hx hy => ?_⟩
    · have step : q__law_named_b2 ⟨[v0, some (NDl L), some (.lst (refs m.length n)), o3, some (nI i), some (rowF n (c i)), o6], mem m n B⟩ = .next ⟨[v0, some (NDl L), some (.lst (refs m.length n)), y3, some (nI i), some (rowF n (c i)), y6], mem m n B1⟩ := by
        rw [← e1', ← hen]
        rfl
      rw [List.map_cons, forL]
      simp only [asgD, DL.setL, List.length_cons, List.length_nil, List.set_cons_succ, List.set_cons_zero, if_true]
      have step' : q__law_named_b2 ⟨[v0, some (NDl L), some (.lst (refs m.length n)), o3, some (.int (i : Int)), some (rowF n (c i)), o6], mem m n B⟩ = _ := step
      rw [step']
      exact e2'
    · rw [h2 x y hx hy, h1 x y hx hy]
      have hny := h.ilt y hy
      by_cases hxi : inv x = i
      · by_cases hxl : i ∈ l
        · simp [hxi, hxl]
        · simp [hxi, hxl, hny]
      · simp [hxi]
theorem e_lnamed (h : Nm n L σ inv) (h0 : 0 < n) (hn : n ≤ 60) (c : Nat → Nat → Int) (m : List Cell) (hm : m.all nrC = true) : trimF m__law_named [webF n c, NDl L] m = .ok (webF n fun x y => c (inv x) (inv y)) m := by
  obtain ⟨B', y3, y4, y5, y6, e, hB⟩ := ln_out h hn (c := c) (v0 := some (webF n c)) (m := m) (List.range n) (fun _ _ => 0) none none none none (fun i hi => List.mem_range.1 hi)
  have hB' : ∀ i j, i < n → j < n → B' i j = c (inv i) (inv j) := fun i j hi hj => by rw [hB i j hi hj, if_pos (List.mem_range.2 (h.ilt i hi))]
  have hlC : ∀ st, lenC (webF n c) st = .ok (.int n) st := fun st => lenF n c st
  have hz : (List.range n).length ≤ sizeLine := by rw [szl, List.length_range]; omega
  have hz' : n ≤ sizeLine := by simpa using hz
  have o1 : (1 : Nat) ≤ sizeLine := by rw [szl]; decide
  have hrep : (List.replicate n [D.int 0]).flatten = rowC n fun _ => 0 := by
    unfold rowC
    apply List.ext_getElem
    · simp
    · intro k h1 h2
      simp
  have hmul : ∀ st, mulD (.lst [.int 0]) (.int n) st = .ok (.lst (rowC n fun _ => 0)) st := fun st => by
    simp only [mulD]
    rw [if_pos ⟨by omega, by simp; omega⟩, Int.toNat_natCast, hrep]
  have lc := lc_cells 3 (e2 mulD (eLst (aCons (eC (.int 0)) aNil)) (e1 lenC (eVar 0))) [some (webF n c), some (NDl L), none, none, none, none, none] (fun i => rowF n (c i)) (fun _ => rowC n fun _ => 0) (List.range n) m fun i _ m => by
    obtain ⟨WB, hW⟩ : ∃ WB, WB = webF n c := ⟨_, rfl⟩
    rw [← hW] at hlC ⊢
    simp [e2, eLst, aCons, aNil, eC, e1, eVar, R.bind, o1, hlC, hmul]
  rw [List.length_range] at lc
  have hrefs : (refs m.length n).length ≤ sizeLine := by rw [szl]; simp [refs]; omega
  have lt := lc_tups (i := 5) (r := [some (webF n c), some (NDl L), some (.lst (refs m.length n)), y3, y4, y5, y6]) (m := m) (n := n) (B := B') (by simp)
  refine trim_mem (n' := n) (B := B') hm ?_
  rw [← webF_congr hB']
  have hsq : ∀ st, seqI (webF n c) st = .ok ((List.range n).map fun i => rowF n (c i)) st := fun st => rfl
  have hen := enum_range (fun i => rowF n (c i)) n
  obtain ⟨F, hF⟩ : ∃ F, F = eCell (e2 mulD (eLst (aCons (eC (.int 0)) aNil)) (e1 lenC (eVar 0))) := ⟨_, rfl⟩
  obtain ⟨G, hG⟩ : ∃ G, G = e1 tupleC (eVar 5) := ⟨_, rfl⟩
  rw [← hF] at lc
  rw [← hG] at lt
  simp only [m__law_named, q__law_named, mkF]
  rw [← hF, ← hG]
  have lc' : lcL (.one 3) tYesS F [some (webF n c), some (NDl L), none, none, none, none, none] ((List.range n).map fun i => rowF n (c i)) m = some (refs m.length n, mem m n fun _ _ => 0) := lc
  rw [seq_nx (s' := ⟨[some (webF n c), some (NDl L), some (.lst (refs m.length n)), none, none, none, none], mem m n fun _ _ => 0⟩) (by
    obtain ⟨WB, hW⟩ : ∃ WB, WB = webF n c := ⟨_, rfl⟩
    obtain ⟨TL, hTL⟩ : ∃ TL, TL = NDl L := ⟨_, rfl⟩
    rw [← hW, ← hTL] at lc'
    rw [← hW] at hsq
    rw [← hW, ← hTL]
    simp [sAsgF, eLc, i1, eVar, R.bind, R.then, hsq, hz', lc'])]
  rw [seq_nx (s' := ⟨[some (webF n c), some (NDl L), some (.lst (refs m.length n)), y3, y4, y5, y6], mem m n B'⟩) (by
    rw [← e, ← hen]
    rfl)]
  simp only [sRet, e1, eLc, i1, eVar, R.bind, R.then, List.getD_cons_zero, List.getD_cons_succ, seqI, hrefs, if_true, lt, tupleC, tupleD]
  rfl
end
end A15
set_option linter.all false
set_option maxRecDepth 10000
namespace A15
open PySem PySem.Spec PyProof.Rows L2 DL
/-! shades hinged -/
def wyI (x y : Int) : Int := (((x.natAbs : Nat) : Int) * y + x * ((y.natAbs : Nat) : Int)).fdiv 2
def shF (b t : Nat → Nat → Int) (p i j : Nat) : Int := if i = p then 0 - t i j else t i j + wyI (t p j) (b p i)
section
variable {n : Nat} {b t : Nat → Nat → Int} {p : Nat}
theorem sh_b1 (hn : n ≤ 60) (hb : ∀ i j, i < n → j < n → (b i j).natAbs < 2 ^ 100) (ht : ∀ i j, i < n → j < n → (t i j).natAbs < 2 ^ 100) (hp : p < n) {i : Nat} (hi : i < n) {acc : List D} (ha : acc.length ≤ 100) {o6 o7 o8 : Option D} {m : List Cell} :
    q_shaded_b1 ⟨[some (webF n b), some (webF n t), some (.int p), some (.lst acc), some (.int i), some (rowF n (t i)), o6, o7, o8], m⟩ = .next ⟨[some (webF n b), some (webF n t), some (.int p), some (.lst (acc ++ [rowF n (shF b t p i)])), some (.int i), some (rowF n (t i)), some (.int (b p i)), o7, o8], m⟩ := by
  have i1' : ∀ st, ixD (webF n b) (.int p) st = .ok (rowF n (b p)) st := fun st => ixF hp st
  have i2' : ∀ st, ixD (rowF n (b p)) (.int i) st = .ok (.int (b p i)) st := fun st => ixR hi st
  have i3' : ∀ st, ixD (webF n t) (.int p) st = .ok (rowF n (t p)) st := fun st => ixF hp st
  have hz : (List.range n).length ≤ sizeLine := by rw [szl, List.length_range]; omega
  have hzn : n ≤ sizeLine := by rw [szl]; omega
  have hz2 : acc.length < sizeLine := by rw [szl]; omega
  have bp := hb p i hp hi
  unfold q_shaded_b1
  by_cases h : i = p
  · subst h
    have lc := lc_map 7 (e2 subD (eC (.int 0)) (eVar 7)) [some (webF n b), some (webF n t), some (.int i), some (.lst acc), some (.int i), some (rowF n (t i)), some (.int (b i i)), o7, o8] m (fun j => D.int (t i j)) (fun j => D.int (0 - t i j)) (List.range n) fun j hj => by
      simp [-Int.zero_sub, isOkM, mkF, sNil, sSeq, sAsg, sAsgF, sAsgC, sPar, sPar3, sIf, sRet, sFor, forL, sSetM, sSetI, sApp, sExt, sDrop, sRaise, sTry, hSay, hNil, Ex.ix, e1, e2, eBi, eIf, eVar, eC, eTup, eLst, eSl, slD, pNone, pSome, eLc, lcL, wipeD, Tg.vs, tYesS, aCons, aNil, t2, tTru, truB, truD, tNotS, tAndS, tOrS, eAndB, eOrB, eNotB, eOrV, cmpB, cmpD, iCmp, R.then, R.bind, asgD, DL.setL, addD, subD, negD, absD, DL.intD, mLst, lenD, listD, tupleD, allD, blsD, isiD, isi2D, isTy, isND, notND, DL.isNon, ltB_eq, eCallN, eCallV, callR, iN, i1, rng1I, seqI, gcdD, augD, sAug]
    have lc' : lcL (.one 7) tYesS (e2 subD (eC (.int 0)) (eVar 7)) [some (webF n b), some (webF n t), some (.int i), some (.lst acc), some (.int i), some (rowF n (t i)), some (.int (b i i)), o7, o8] ((List.range n).map fun j => D.int (t i j)) m = _ := lc
    have hr : rowF n (shF b t i i) = .tup ((List.range n).map fun j => .int (0 - t i j)) := by
      unfold rowF shF
      simp only [if_true]
    rw [seq_nx (s' := ⟨[some (webF n b), some (webF n t), some (.int i), some (.lst acc), some (.int i), some (rowF n (t i)), some (.int (b i i)), o7, o8], m⟩) (by
      simp [mkF, sNil, sSeq, sAsg, sAsgF, sAsgC, sPar, sPar3, sIf, sRet, sFor, forL, sSetM, sSetI, sApp, sExt, sDrop, sRaise, sTry, hSay, hNil, Ex.ix, e1, e2, eBi, eIf, eVar, eC, eTup, eLst, eSl, slD, pNone, pSome, eLc, lcL, wipeD, Tg.vs, tYesS, aCons, aNil, t2, tTru, truB, truD, tNotS, tAndS, tOrS, eAndB, eOrB, eNotB, eOrV, cmpB, cmpD, iCmp, R.then, R.bind, asgD, DL.setL, addD, subD, negD, absD, DL.intD, mLst, lenD, listD, tupleD, allD, blsD, isiD, isi2D, isTy, isND, notND, DL.isNon, ltB_eq, eCallN, eCallV, callR, iN, i1, rng1I, seqI, gcdD, augD, sAug, i1', i2'])]
    have hs : ∀ st, seqI (rowF n (t i)) st = .ok ((List.range n).map fun j => D.int (t i j)) st := fun st => rfl
    rw [hr]
    obtain ⟨F, hF⟩ : ∃ F, F = e2 subD (eC (.int 0)) (eVar 7) := ⟨_, rfl⟩
    rw [← hF] at lc' ⊢
    simp [-Int.zero_sub, sIf, t2, cmpB, eVar, R.bind, R.then, eqI, sApp, e1, eLc, i1, hs, lc', tupleD, hz2, hzn]
  · have lc := lc_map2 7 8 (e2 addD (eVar 7) (e2 fdivD (e2 addD (e2 mulD (e1 absD (eVar 8)) (eVar 6)) (e2 mulD (eVar 8) (e1 absD (eVar 6)))) (eC (.int 2)))) [some (webF n b), some (webF n t), some (.int p), some (.lst acc), some (.int i), some (rowF n (t i)), some (.int (b p i)), o7, o8] m (fun j => D.int (t i j)) (fun j => D.int (t p j)) (fun j => D.int (shF b t p i j)) (List.range n) fun j hj => by
      have hj' := List.mem_range.1 hj
      have b2 := ht p j hp hj'
      have m1 : ∀ st, mulD (.int ((t p j).natAbs : Nat)) (.int (b p i)) st = .ok (.int (((t p j).natAbs : Nat) * b p i)) st := fun st => mulK (j := 100) (k := 100) (by simpa using b2) bp (by omega) (by omega)
      have m2 : ∀ st, mulD (.int (t p j)) (.int ((b p i).natAbs : Nat)) st = .ok (.int (t p j * ((b p i).natAbs : Nat))) st := fun st => mulK (j := 100) (k := 100) b2 (by simpa using bp) (by omega) (by omega)
      have l2 : Nat.log2 2 = 1 := by decide
      have ab : ∀ x : Int, (if x < 0 then -x else x) = (x.natAbs : Int) := fun x => abs_eq x
      simp [isOkM, mkF, sNil, sSeq, sAsg, sAsgF, sAsgC, sPar, sPar3, sIf, sRet, sFor, forL, sSetM, sSetI, sApp, sExt, sDrop, sRaise, sTry, hSay, hNil, Ex.ix, e1, e2, eBi, eIf, eVar, eC, eTup, eLst, eSl, slD, pNone, pSome, eLc, lcL, wipeD, Tg.vs, tYesS, aCons, aNil, t2, tTru, truB, truD, tNotS, tAndS, tOrS, eAndB, eOrB, eNotB, eOrV, cmpB, cmpD, iCmp, R.then, R.bind, asgD, DL.setL, addD, subD, negD, absD, DL.intD, mLst, lenD, listD, tupleD, allD, blsD, isiD, isi2D, isTy, isND, notND, DL.isNon, ltB_eq, eCallN, eCallV, callR, iN, i1, rng1I, seqI, gcdD, augD, sAug, m1, m2, ab, fdivD, l2, shF, h, wyI]
    have lc' : lcL (.many [7, 8]) tYesS (e2 addD (eVar 7) (e2 fdivD (e2 addD (e2 mulD (e1 absD (eVar 8)) (eVar 6)) (e2 mulD (eVar 8) (e1 absD (eVar 6)))) (eC (.int 2)))) [some (webF n b), some (webF n t), some (.int p), some (.lst acc), some (.int i), some (rowF n (t i)), some (.int (b p i)), o7, o8] ((List.range n).map fun j => D.tup [.int (t i j), .int (t p j)]) m = _ := lc
    rw [seq_nx (s' := ⟨[some (webF n b), some (webF n t), some (.int p), some (.lst acc), some (.int i), some (rowF n (t i)), some (.int (b p i)), o7, o8], m⟩) (by
      simp [mkF, sNil, sSeq, sAsg, sAsgF, sAsgC, sPar, sPar3, sIf, sRet, sFor, forL, sSetM, sSetI, sApp, sExt, sDrop, sRaise, sTry, hSay, hNil, Ex.ix, e1, e2, eBi, eIf, eVar, eC, eTup, eLst, eSl, slD, pNone, pSome, eLc, lcL, wipeD, Tg.vs, tYesS, aCons, aNil, t2, tTru, truB, truD, tNotS, tAndS, tOrS, eAndB, eOrB, eNotB, eOrV, cmpB, cmpD, iCmp, R.then, R.bind, asgD, DL.setL, addD, subD, negD, absD, DL.intD, mLst, lenD, listD, tupleD, allD, blsD, isiD, isi2D, isTy, isND, notND, DL.isNon, ltB_eq, eCallN, eCallV, callR, iN, i1, rng1I, seqI, gcdD, augD, sAug, i1', i2'])]
    have hzip : ∀ st : S, st.r.getD 1 none = some (webF n t) → st.r.getD 2 none = some (.int p) → st.r.getD 5 none = some (rowF n (t i)) → iZipB (aCons (eVar 5) (aCons (e2 ixD (eVar 1) (eVar 2)) aNil)) st = .ok ((List.range n).map fun j => D.tup [.int (t i j), .int (t p j)]) st := fun st h1 h2 h5 => by
      have : zipL ((List.range n).map fun j => D.int (t i j)) ((List.range n).map fun j => D.int (t p j)) = (List.range n).map fun j => D.tup [.int (t i j), .int (t p j)] := by
        unfold zipL
        rw [List.zip_map', List.map_map]
        rfl
      rw [← this]
      simp only [iZipB, shapeAt, iN, aCons, aNil, e2, eVar, R.bind, h1, h2, h5, i3']
      rfl
    have he := hzip ⟨[some (webF n b), some (webF n t), some (.int p), some (.lst acc), some (.int i), some (rowF n (t i)), some (.int (b p i)), o7, o8], m⟩ rfl rfl rfl
    obtain ⟨F, hF⟩ : ∃ F, F = e2 addD (eVar 7) (e2 fdivD (e2 addD (e2 mulD (e1 absD (eVar 8)) (eVar 6)) (e2 mulD (eVar 8) (e1 absD (eVar 6)))) (eC (.int 2))) := ⟨_, rfl⟩
    obtain ⟨G, hG⟩ : ∃ G, G = iZipB (aCons (eVar 5) (aCons (e2 ixD (eVar 1) (eVar 2)) aNil)) := ⟨_, rfl⟩
    rw [← hF] at lc' ⊢
    rw [← hG] at he ⊢
    have hne : ((i : Int) == (p : Int)) = false := by simp; omega
    simp [sIf, t2, cmpB, eVar, R.bind, R.then, eqI, hne, sApp, e1, eLc, he, lc', tupleD, hz2, hzn, h]
    rfl
theorem sh_loop (hn : n ≤ 60) (hb : ∀ i j, i < n → j < n → (b i j).natAbs < 2 ^ 100) (ht : ∀ i j, i < n → j < n → (t i j).natAbs < 2 ^ 100) (hp : p < n) {m : List Cell} : ∀ (l : List Nat) (acc : List D) (o4 o5 o6 o7 o8 : Option D), (∀ i ∈ l, i < n) → acc.length + l.length ≤ 100 →
    ∃ y4 y5 y6, forL (.many [4, 5]) q_shaded_b1 (l.map fun i : Nat => D.tup [.int (i : Int), rowF n (t i)]) ⟨[some (webF n b), some (webF n t), some (.int p), some (.lst acc), o4, o5, o6, o7, o8], m⟩ = .next ⟨[some (webF n b), some (webF n t), some (.int p), some (.lst (acc ++ l.map fun i => rowF n (shF b t p i))), y4, y5, y6, o7, o8], m⟩
  | [], acc, o4, o5, o6, o7, o8, _, _ => ⟨o4, o5, o6, by simp [forL]⟩
  | i :: l, acc, o4, o5, o6, o7, o8, hl, hz => by
    simp only [List.length_cons] at hz
    have st := sh_b1 hn hb ht hp (hl i (by simp)) (acc := acc) (by omega) (o6 := o6) (o7 := o7) (o8 := o8) (m := m)
    obtain ⟨y4, y5, y6, e⟩ := sh_loop hn hb ht hp (m := m) l (acc ++ [rowF n (shF b t p i)]) (some (.int i)) (some (rowF n (t i))) (some (.int (b p i))) o7 o8 (fun k hk => hl k (List.mem_cons_of_mem _ hk)) (by simp; omega)
    refine ⟨y4, y5, y6, ?_⟩
    rw [List.map_cons, forL]
    simp only [asgD, DL.setL, List.length_cons, List.length_nil, List.set_cons_succ, List.set_cons_zero, if_true, st]
    rw [e]
    simp
theorem e_shaded (hn : n ≤ 60) (hb : ∀ i j, i < n → j < n → (b i j).natAbs < 2 ^ 100) (ht : ∀ i j, i < n → j < n → (t i j).natAbs < 2 ^ 100) (hp : p < n) (m : List Cell) : m_shaded [webF n b, webF n t, nI p] m = .ok (webF n (shF b t p)) m := by
  obtain ⟨y4, y5, y6, e⟩ := sh_loop hn hb ht hp (m := m) (List.range n) [] none none none none none (fun i h => List.mem_range.1 h) (by simp; omega)
  have hen := enum_range (fun i => rowF n (t i)) n
  simp only [m_shaded, q_shaded, mkF, nI]
  rw [seq_nx (s' := ⟨[some (webF n b), some (webF n t), some (.int p), some (.lst []), none, none, none, none, none], m⟩) (by rfl)]
  rw [seq_nx (s' := ⟨[some (webF n b), some (webF n t), some (.int p), some (.lst ([] ++ (List.range n).map fun i => rowF n (shF b t p i))), y4, y5, y6, none, none], m⟩) (by
    rw [← e, ← hen]
    rfl)]
  rfl
end
end A15
set_option linter.all false
set_option maxRecDepth 10000
namespace A15
open PySem PySem.Spec PyProof.Rows L2 DL
/-! the law's own shading -/
def lsF (b t : Nat → Nat → Int) (p i j : Nat) : Int := if i = p then 0 - t i j else if 0 < t p j ∧ 0 < b p i then t i j + t p j * b p i else if t p j < 0 ∧ b p i < 0 then t i j - t p j * b p i else t i j
theorem ls_sh (b t : Nat → Nat → Int) (p i j : Nat) : lsF b t p i j = shF b t p i j := by
  unfold lsF shF wyI
  by_cases h : i = p
  · rw [if_pos h, if_pos h]
  · rw [if_neg h, if_neg h]
    obtain ⟨x, hx⟩ : ∃ x, x = t p j := ⟨_, rfl⟩
    obtain ⟨y, hy⟩ : ∃ y, y = b p i := ⟨_, rfl⟩
    rw [← hx, ← hy]
    have two : ∀ z : Int, (2 * z).fdiv 2 = z := fun z => by
      rw [Int.fdiv_eq_ediv_of_nonneg _ (by decide)]
      omega
    by_cases h1 : 0 < x ∧ 0 < y
    · rw [if_pos h1]
      have e1 : (x.natAbs : Int) = x := by omega
      have e2 : (y.natAbs : Int) = y := by omega
      rw [e1, e2, show x * y + x * y = 2 * (x * y) by omega, two]
    · rw [if_neg h1]
      by_cases h2 : x < 0 ∧ y < 0
      · rw [if_pos h2]
        have e1 : (x.natAbs : Int) = -x := by omega
        have e2 : (y.natAbs : Int) = -y := by omega
        rw [e1, e2, Int.neg_mul, Int.mul_neg, show -(x * y) + -(x * y) = 2 * -(x * y) by omega, two]
        omega
      · rw [if_neg h2]
        have e0 : (x.natAbs : Int) * y + x * (y.natAbs : Int) = 0 := by
          rcases Int.lt_trichotomy x 0 with hx' | hx' | hx'
          · have a1 : (x.natAbs : Int) = -x := by omega
            have a2 : (y.natAbs : Int) = y := by omega
            rw [a1, a2, Int.neg_mul]
            omega
          · rw [hx']
            simp
          · have a1 : (x.natAbs : Int) = x := by omega
            have a2 : (y.natAbs : Int) = -y := by omega
            rw [a1, a2, Int.mul_neg]
            omega
        rw [e0]
        simp
section
variable {n : Nat} {b t : Nat → Nat → Int} {p : Nat}
theorem set_own {fk fe : S → R D} {r : List (Option D)} {m : List Cell} {g : Nat → Int} {j : Nat} {v : Int} (hj : j < n) (he : fe ⟨r, m⟩ = .ok (.int v) ⟨r, m⟩) (h7 : r.getD 7 none = some (.lst (rowC n g))) (hk : fk ⟨r, m⟩ = .ok (.int (j : Nat)) ⟨r, m⟩) :
    sSetI 7 fk fe ⟨r, m⟩ = .next ⟨r.set 7 (some (.lst (rowC n fun x => if x = j then v else g x))), m⟩ := by
  have hl : (rowC n g).length = n := by simp [rowC]
  unfold sSetI
  rw [he]
  simp only [R.then, h7, hk]
  rw [hl, ixN_nat hj]
  simp only [row_set hj]
theorem ls_b1 (hb : ∀ i j, i < n → j < n → (b i j).natAbs < 2 ^ 100) (ht : ∀ i j, i < n → j < n → (t i j).natAbs < 2 ^ 100) (hp : p < n) {i j : Nat} (hi : i < n) (hj : j < n) {g : Nat → Int} (hg : g j = t i j) {o0 o1 o3 o5 : Option D} {m : List Cell} :
    q__law_shade_b1 ⟨[o0, o1, some (nI p), o3, some (nI i), o5, some (.int (b p i)), some (.lst (rowC n g)), some (nI j), some (.int (t p j))], m⟩ = .next ⟨[o0, o1, some (nI p), o3, some (nI i), o5, some (.int (b p i)), some (.lst (rowC n fun x => if x = j then lsF b t p i j else g x)), some (nI j), some (.int (t p j))], m⟩ := by
  have hmul : ∀ st, mulD (.int (t p j)) (.int (b p i)) st = .ok (.int (t p j * b p i)) st := fun st => mulK (ht p j hp hj) (hb p i hp hi) (by omega) (by omega)
  have a1 : ∀ st, ixD (.lst (rowC n g)) (nI j) st = .ok (.int (t i j)) st := fun st => by
    rw [show nI j = .int (j : Int) from rfl, ixl, atN _ _ (by simp [rowC, hj])]
    simp [rowC, hj, hg]
  have heq : t2 (cmpB eqD) (eVar 4) (eVar 2) ⟨[o0, o1, some (nI p), o3, some (nI i), o5, some (.int (b p i)), some (.lst (rowC n g)), some (nI j), some (.int (t p j))], m⟩ = .ok (decide (i = p)) ⟨[o0, o1, some (nI p), o3, some (nI i), o5, some (.int (b p i)), some (.lst (rowC n g)), some (nI j), some (.int (t p j))], m⟩ := by
    have : ((i : Int) == (p : Int)) = decide (i = p) := by
      by_cases h : i = p
      · simp [h]
      · simp [h]; omega
    simp [t2, cmpB, eVar, R.bind, nI, eqI, this]
  have hkey : (eVar 8 : S → R D) ⟨[o0, o1, some (nI p), o3, some (nI i), o5, some (.int (b p i)), some (.lst (rowC n g)), some (nI j), some (.int (t p j))], m⟩ = .ok (.int (j : Nat)) ⟨[o0, o1, some (nI p), o3, some (nI i), o5, some (.int (b p i)), some (.lst (rowC n g)), some (nI j), some (.int (t p j))], m⟩ := rfl
  unfold q__law_shade_b1 sIf
  rw [heq]
  by_cases h : i = p
  · simp only [R.then, decide_eq_true h, if_true]
    rw [show lsF b t p i j = 0 - t i j from if_pos h]
    refine set_own hj ?_ rfl hkey
    simp [-Int.zero_sub, mkF, sNil, sSeq, sAsg, sAsgF, sAsgC, sPar, sPar3, sIf, sRet, sFor, forL, sSetM, sSetI, sApp, sExt, sDrop, sRaise, sTry, hSay, hNil, Ex.ix, e1, e2, eBi, eIf, eVar, eC, eTup, eLst, eSl, slD, pNone, pSome, eLc, lcL, wipeD, Tg.vs, tYesS, aCons, aNil, t2, tTru, truB, truD, tNotS, tAndS, tOrS, eAndB, eOrB, eNotB, eOrV, cmpB, cmpD, iCmp, R.then, R.bind, asgD, DL.setL, addD, subD, negD, absD, DL.intD, mLst, lenD, listD, tupleD, allD, blsD, isiD, isi2D, isTy, isND, notND, DL.isNon, ltB_eq, eCallN, eCallV, callR, iN, i1, rng1I, seqI, gcdD, augD, sAug, a1]
  · simp only [R.then, decide_eq_false h, Bool.false_eq_true, if_false]
    have hl : lsF b t p i j = if 0 < t p j ∧ 0 < b p i then t i j + t p j * b p i else if t p j < 0 ∧ b p i < 0 then t i j - t p j * b p i else t i j := if_neg h
    have t1' : tAndS (t2 (cmpB (iCmp fun i j => ltB j i)) (eVar 9) (eC (.int 0))) (t2 (cmpB (iCmp fun i j => ltB j i)) (eVar 6) (eC (.int 0))) ⟨[o0, o1, some (nI p), o3, some (nI i), o5, some (.int (b p i)), some (.lst (rowC n g)), some (nI j), some (.int (t p j))], m⟩ = .ok (decide (0 < t p j ∧ 0 < b p i)) ⟨[o0, o1, some (nI p), o3, some (nI i), o5, some (.int (b p i)), some (.lst (rowC n g)), some (nI j), some (.int (t p j))], m⟩ := by
      by_cases h1 : 0 < t p j
      · simp [tAndS, DL.t2, cmpB, iCmp, eVar, eC, R.bind, ltB_eq, h1]
      · simp [tAndS, DL.t2, cmpB, iCmp, eVar, eC, R.bind, ltB_eq, h1]
    have t2' : tAndS (t2 (cmpB (iCmp ltB)) (eVar 9) (eC (.int 0))) (t2 (cmpB (iCmp ltB)) (eVar 6) (eC (.int 0))) ⟨[o0, o1, some (nI p), o3, some (nI i), o5, some (.int (b p i)), some (.lst (rowC n g)), some (nI j), some (.int (t p j))], m⟩ = .ok (decide (t p j < 0 ∧ b p i < 0)) ⟨[o0, o1, some (nI p), o3, some (nI i), o5, some (.int (b p i)), some (.lst (rowC n g)), some (nI j), some (.int (t p j))], m⟩ := by
      by_cases h1 : t p j < 0
      · simp [tAndS, DL.t2, cmpB, iCmp, eVar, eC, R.bind, ltB_eq, h1]
      · simp [tAndS, DL.t2, cmpB, iCmp, eVar, eC, R.bind, ltB_eq, h1]
    rw [t1']
    by_cases h1 : 0 < t p j ∧ 0 < b p i
    · simp only [R.then, decide_eq_true h1, if_true]
      rw [hl, if_pos h1]
      refine set_own hj ?_ rfl hkey
      simp [mkF, sNil, sSeq, sAsg, sAsgF, sAsgC, sPar, sPar3, sIf, sRet, sFor, forL, sSetM, sSetI, sApp, sExt, sDrop, sRaise, sTry, hSay, hNil, Ex.ix, e1, e2, eBi, eIf, eVar, eC, eTup, eLst, eSl, slD, pNone, pSome, eLc, lcL, wipeD, Tg.vs, tYesS, aCons, aNil, t2, tTru, truB, truD, tNotS, tAndS, tOrS, eAndB, eOrB, eNotB, eOrV, cmpB, cmpD, iCmp, R.then, R.bind, asgD, DL.setL, addD, subD, negD, absD, DL.intD, mLst, lenD, listD, tupleD, allD, blsD, isiD, isi2D, isTy, isND, notND, DL.isNon, ltB_eq, eCallN, eCallV, callR, iN, i1, rng1I, seqI, gcdD, augD, sAug, a1, hmul]
    · simp only [R.then, decide_eq_false h1, Bool.false_eq_true, if_false]
      rw [t2']
      by_cases h2 : t p j < 0 ∧ b p i < 0
      · simp only [R.then, decide_eq_true h2, if_true]
        rw [hl, if_neg h1, if_pos h2]
        refine set_own hj ?_ rfl hkey
        simp [mkF, sNil, sSeq, sAsg, sAsgF, sAsgC, sPar, sPar3, sIf, sRet, sFor, forL, sSetM, sSetI, sApp, sExt, sDrop, sRaise, sTry, hSay, hNil, Ex.ix, e1, e2, eBi, eIf, eVar, eC, eTup, eLst, eSl, slD, pNone, pSome, eLc, lcL, wipeD, Tg.vs, tYesS, aCons, aNil, t2, tTru, truB, truD, tNotS, tAndS, tOrS, eAndB, eOrB, eNotB, eOrV, cmpB, cmpD, iCmp, R.then, R.bind, asgD, DL.setL, addD, subD, negD, absD, DL.intD, mLst, lenD, listD, tupleD, allD, blsD, isiD, isi2D, isTy, isND, notND, DL.isNon, ltB_eq, eCallN, eCallV, callR, iN, i1, rng1I, seqI, gcdD, augD, sAug, a1, hmul]
      · simp only [R.then, decide_eq_false h2, Bool.false_eq_true, if_false, sNil]
        have : (fun x => if x = j then lsF b t p i j else g x) = g := by
          funext x
          split
          · rename_i hx
            rw [hx, hl, if_neg h1, if_neg h2, hg]
          · rfl
        rw [this]
theorem ls_in (hb : ∀ i j, i < n → j < n → (b i j).natAbs < 2 ^ 100) (ht : ∀ i j, i < n → j < n → (t i j).natAbs < 2 ^ 100) (hp : p < n) {i : Nat} (hi : i < n) {o0 o1 o3 o5 : Option D} {m : List Cell} : ∀ (l : List Nat) (g : Nat → Int) (o8 o9 : Option D), l.Nodup → (∀ j ∈ l, j < n ∧ g j = t i j) →
    ∃ g' y8 y9, forL (.many [8, 9]) q__law_shade_b1 (l.map fun j : Nat => D.tup [nI j, .int (t p j)]) ⟨[o0, o1, some (nI p), o3, some (nI i), o5, some (.int (b p i)), some (.lst (rowC n g)), o8, o9], m⟩ = .next ⟨[o0, o1, some (nI p), o3, some (nI i), o5, some (.int (b p i)), some (.lst (rowC n g')), y8, y9], m⟩ ∧ ∀ x, g' x = if x ∈ l then lsF b t p i x else g x
  | [], g, o8, o9, _, _ => ⟨g, o8, o9, by simp [forL], fun x => by simp⟩
  | j :: l, g, o8, o9, hnd, hl => by
    rw [List.nodup_cons] at hnd
    obtain ⟨hj, hgj⟩ := hl j (by simp)
    have st := ls_b1 hb ht hp hi hj hgj (o0 := o0) (o1 := o1) (o3 := o3) (o5 := o5) (m := m)
    obtain ⟨g', y8, y9, e, hg'⟩ := ls_in hb ht hp hi (o0 := o0) (o1 := o1) (o3 := o3) (o5 := o5) (m := m) l (fun x => if x = j then lsF b t p i j else g x) (some (nI j)) (some (.int (t p j))) hnd.2 (fun x hx => ⟨(hl x (List.mem_cons_of_mem _ hx)).1, by
      have hxj : ¬ x = j := fun e => hnd.1 (by rw [← e]; exact hx)
      show (if x = j then lsF b t p i j else g x) = t i x
      rw [if_neg hxj]
      exact (hl x (List.mem_cons_of_mem _ hx)).2⟩)
    refine ⟨g', y8, y9, ?_, fun x => ?_⟩
    · rw [List.map_cons, forL]
      simp only [asgD, DL.setL, List.length_cons, List.length_nil, List.set_cons_succ, List.set_cons_zero, if_true, st]
      exact e
    · rw [hg']
      by_cases hx : x ∈ l
      · simp [hx]
      · by_cases hxj : x = j
        · subst hxj
          simp [hx]
        · simp [hx, hxj]
theorem ls_b2 (hn : n ≤ 60) (hb : ∀ i j, i < n → j < n → (b i j).natAbs < 2 ^ 100) (ht : ∀ i j, i < n → j < n → (t i j).natAbs < 2 ^ 100) (hp : p < n) {i : Nat} (hi : i < n) {acc : List D} (ha : acc.length ≤ 100) {o6 o7 o8 o9 : Option D} {m : List Cell} :
    ∃ y7 y8 y9, q__law_shade_b2 ⟨[some (webF n b), some (webF n t), some (nI p), some (.lst acc), some (nI i), some (rowF n (t i)), o6, o7, o8, o9], m⟩ = .next ⟨[some (webF n b), some (webF n t), some (nI p), some (.lst (acc ++ [rowF n (shF b t p i)])), some (nI i), some (rowF n (t i)), some (.int (b p i)), y7, y8, y9], m⟩ := by
  have i1' : ∀ st, ixD (webF n b) (nI p) st = .ok (rowF n (b p)) st := fun st => ixF hp st
  have i2' : ∀ st, ixD (rowF n (b p)) (nI i) st = .ok (.int (b p i)) st := fun st => ixR hi st
  have i3' : ∀ st, ixD (webF n t) (nI p) st = .ok (rowF n (t p)) st := fun st => ixF hp st
  have hz2 : acc.length < sizeLine := by rw [szl]; omega
  have hlist : ∀ st, listC (rowF n (t i)) st = .ok (.lst (rowC n (t i))) st := fun st => rfl
  obtain ⟨g', y8, y9, e, hg'⟩ := ls_in hb ht hp hi (o0 := some (webF n b)) (o1 := some (webF n t)) (o3 := some (.lst acc)) (o5 := some (rowF n (t i))) (m := m) (List.range n) (t i) o8 o9 List.nodup_range (fun j hj => ⟨List.mem_range.1 hj, rfl⟩)
  have hen := enum_range (fun j => D.int (t p j)) n
  refine ⟨some (.lst (rowC n g')), y8, y9, ?_⟩
  have hen' : ∀ st : S, st.r.getD 1 none = some (webF n t) → st.r.getD 2 none = some (nI p) → iEnumB (aCons (e2 ixD (eVar 1) (eVar 2)) aNil) st = .ok ((List.range n).map fun j : Nat => D.tup [nI j, .int (t p j)]) st := fun st h1 h2 => by
    have : ((List.range n).map fun j : Nat => D.tup [nI j, .int (t p j)]) = enumL ((List.range n).map fun j => D.int (t p j)) := hen.symm
    rw [this]
    simp only [iEnumB, tupAt, iN, aCons, aNil, e2, eVar, R.bind, h1, h2, i3']
    rfl
  unfold q__law_shade_b2
  rw [seq_nx (s' := ⟨[some (webF n b), some (webF n t), some (nI p), some (.lst acc), some (nI i), some (rowF n (t i)), some (.int (b p i)), some (.lst (rowC n (t i))), o8, o9], m⟩) (by
    simp [sParM, e2, e1, eVar, R.bind, R.then, i1', i2', hlist, isL])]
  rw [seq_nx (s' := ⟨[some (webF n b), some (webF n t), some (nI p), some (.lst acc), some (nI i), some (rowF n (t i)), some (.int (b p i)), some (.lst (rowC n g')), y8, y9], m⟩) (by
    have h1 := hen' ⟨[some (webF n b), some (webF n t), some (nI p), some (.lst acc), some (nI i), some (rowF n (t i)), some (.int (b p i)), some (.lst (rowC n (t i))), o8, o9], m⟩ rfl rfl
    simp only [sFor, h1, R.then]
    exact e)]
  have hrow : D.tup (rowC n g') = rowF n (shF b t p i) := by
    unfold rowF rowC
    congr 1
    apply List.map_congr_left
    intro j hj
    rw [hg' j, if_pos hj, ls_sh]
  simp [sSeq, sNil, sApp, e1, eVar, R.then, R.bind, tupleC, tupleD, hz2, hrow]
theorem ls_out (hn : n ≤ 60) (hb : ∀ i j, i < n → j < n → (b i j).natAbs < 2 ^ 100) (ht : ∀ i j, i < n → j < n → (t i j).natAbs < 2 ^ 100) (hp : p < n) {m : List Cell} : ∀ (l : List Nat) (acc : List D) (o4 o5 o6 o7 o8 o9 : Option D), (∀ i ∈ l, i < n) → acc.length + l.length ≤ 100 →
    ∃ y4 y5 y6 y7 y8 y9, forL (.many [4, 5]) q__law_shade_b2 (l.map fun i : Nat => D.tup [nI i, rowF n (t i)]) ⟨[some (webF n b), some (webF n t), some (nI p), some (.lst acc), o4, o5, o6, o7, o8, o9], m⟩ = .next ⟨[some (webF n b), some (webF n t), some (nI p), some (.lst (acc ++ l.map fun i => rowF n (shF b t p i))), y4, y5, y6, y7, y8, y9], m⟩
  | [], acc, o4, o5, o6, o7, o8, o9, _, _ => ⟨o4, o5, o6, o7, o8, o9, by simp [forL]⟩
  | i :: l, acc, o4, o5, o6, o7, o8, o9, hl, hz => by
    simp only [List.length_cons] at hz
    obtain ⟨z7, z8, z9, st⟩ := ls_b2 hn hb ht hp (hl i (by simp)) (acc := acc) (by omega) (o6 := o6) (o7 := o7) (o8 := o8) (o9 := o9) (m := m)
    obtain ⟨y4, y5, y6, y7, y8, y9, e⟩ := ls_out hn hb ht hp (m := m) l (acc ++ [rowF n (shF b t p i)]) (some (nI i)) (some (rowF n (t i))) (some (.int (b p i))) z7 z8 z9 (fun k hk => hl k (List.mem_cons_of_mem _ hk)) (by simp; omega)
    refine ⟨y4, y5, y6, y7, y8, y9, ?_⟩
    rw [List.map_cons, forL]
    simp only [asgD, DL.setL, List.length_cons, List.length_nil, List.set_cons_succ, List.set_cons_zero, if_true, st]
    rw [e]
    simp
theorem e_lshade (hn : n ≤ 60) (hb : ∀ i j, i < n → j < n → (b i j).natAbs < 2 ^ 100) (ht : ∀ i j, i < n → j < n → (t i j).natAbs < 2 ^ 100) (hp : p < n) (m : List Cell) : m__law_shade [webF n b, webF n t, nI p] m = .ok (webF n (shF b t p)) m := by
  obtain ⟨y4, y5, y6, y7, y8, y9, e⟩ := ls_out hn hb ht hp (m := m) (List.range n) [] none none none none none none (fun i h => List.mem_range.1 h) (by simp; omega)
  have hen : enumL ((List.range n).map fun i => rowF n (t i)) = (List.range n).map fun i : Nat => D.tup [nI i, rowF n (t i)] := enum_range (fun i => rowF n (t i)) n
  simp only [m__law_shade, q__law_shade, mkF]
  rw [seq_nx (s' := ⟨[some (webF n b), some (webF n t), some (nI p), some (.lst []), none, none, none, none, none, none], m⟩) (by rfl)]
  rw [seq_nx (s' := ⟨[some (webF n b), some (webF n t), some (nI p), some (.lst ([] ++ (List.range n).map fun i => rowF n (shF b t p i))), y4, y5, y6, y7, y8, y9], m⟩) (by
    rw [← e, ← hen]
    rfl)]
  rfl
end
end A15
set_option linter.all false
set_option maxRecDepth 10000
namespace A15
open PySem PySem.Spec PyProof.Rows L2 DL
/-! green places -/
theorem lc_filt2 {α : Type} (i j : Nat) (C : S → R Bool) (F : S → R D) (r : List (Option D)) (m : List Cell) (g1 g2 h : α → D) (c : α → Bool) : ∀ l : List α, (∀ x ∈ l, C ⟨(((r.set j none).set i none).set i (some (g1 x))).set j (some (g2 x)), m⟩ = .ok (c x) ⟨(((r.set j none).set i none).set i (some (g1 x))).set j (some (g2 x)), m⟩ ∧ isOkM (F ⟨(((r.set j none).set i none).set i (some (g1 x))).set j (some (g2 x)), m⟩) (h x) m) → lcL (.many [i, j]) C F r (l.map fun x => D.tup [g1 x, g2 x]) m = some ((l.filter c).map h, m)
  | [], _ => rfl
  | x :: l, hx => by
    obtain ⟨hc, hf⟩ := hx x (by simp)
    have ih := lc_filt2 i j C F r m g1 g2 h c l fun y hy => hx y (List.mem_cons_of_mem _ hy)
    rw [List.map_cons, lcL]
    simp only [asgD, DL.setL, Tg.vs, wipeD, List.length_cons, List.length_nil, if_true, hc]
    cases hcx : c x with
    | false => simp only [ih, List.filter_cons, hcx, Bool.false_eq_true, if_false]
    | true =>
      cases q : F ⟨(((r.set j none).set i none).set i (some (g1 x))).set j (some (g2 x)), m⟩ with
      | ok d s' =>
        rw [q] at hf
        obtain ⟨e, em⟩ := hf
        simp only [q, e, em, ih, List.filter_cons, hcx, if_true, List.map_cons]
      | raise e s => rw [q] at hf; exact hf.elim
      | stuck => rw [q] at hf; exact hf.elim
def upR (n : Nat) (g : Nat → Int) : Bool := (List.range n).all fun j => !ltB (g j) 0
def upsF (n : Nat) (t : Nat → Nat → Int) : List Nat := (List.range n).filter fun i => upR n (t i)
theorem bls_map {α : Type} (f : α → Bool) : ∀ l : List α, blsD (l.map fun x => D.bl (f x)) = some (l.map f)
  | [] => rfl
  | x :: l => by simp [blsD, bls_map f l]
section
variable {n : Nat} {b t : Nat → Nat → Int} {p : Nat}
theorem e_goesup (hn : n ≤ 60) (g : Nat → Int) (m : List Cell) : m_goes_up [rowF n g] m = .ok (.bl (upR n g)) m := by
  have hz : n ≤ sizeLine := by rw [szl]; omega
  have lc := lc_map 1 (e2 (cmpD (iCmp fun i j => !ltB i j)) (eVar 1) (eC (.int 0))) [some (rowF n g), none] m (fun j => D.int (g j)) (fun j => D.bl (!ltB (g j) 0)) (List.range n) fun j hj => by
    simp [isOkM, e2, cmpD, iCmp, eVar, eC, R.bind]
  have lc' : lcL (.one 1) tYesS (e2 (cmpD (iCmp fun i j => !ltB i j)) (eVar 1) (eC (.int 0))) [some (rowF n g), none] ((List.range n).map fun j => D.int (g j)) m = _ := lc
  have hs : ∀ st, seqI (rowF n g) st = .ok ((List.range n).map fun j => D.int (g j)) st := fun st => rfl
  obtain ⟨F, hF⟩ : ∃ F, F = e2 (cmpD (iCmp fun i j => !ltB i j)) (eVar 1) (eC (.int 0)) := ⟨_, rfl⟩
  unfold m_goes_up q_goes_up
  rw [← hF] at lc' ⊢
  have hb := bls_map (fun j => !ltB (g j) 0) (List.range n)
  simp only [mkF, sRet, e1, eLc, i1, eVar, R.bind, R.then, List.getD_cons_zero, List.length_cons, List.length_nil, List.replicate, List.cons_append, List.nil_append, List.map_cons, List.map_nil, if_true, hs, lc', List.length_map, List.length_range, hz, allD, hb]
  simp only [upR, List.all_map]
  rfl
theorem e_greenin (hn : n ≤ 60) (t : Nat → Nat → Int) (m : List Cell) : m_green_in [webF n t] m = .ok (.tup (nD (upsF n t))) m := by
  have hz : n ≤ sizeLine := by rw [szl]; omega
  have hz2 : (upsF n t).length ≤ sizeLine := Nat.le_trans (by unfold upsF; exact Nat.le_trans (List.length_filter_le _ _) (by simp)) hz
  have lc := lc_filt2 1 2 (tTru (eCallN 1 m_goes_up (aCons (eVar 2) aNil))) (eVar 1) [some (webF n t), none, none] m (fun i => nI i) (fun i => rowF n (t i)) (fun i => nI i) (fun i => upR n (t i)) (List.range n) fun i hi => by
    have e := e_goesup hn (t i) m
    refine ⟨?_, ?_⟩
    · simp [tTru, eCallN, aCons, aNil, eVar, callR, R.bind, R.then, e, truB, truD]
    · simp [isOkM, eVar]
  have hen : enumL ((List.range n).map fun i => rowF n (t i)) = (List.range n).map fun i : Nat => D.tup [nI i, rowF n (t i)] := enum_range (fun i => rowF n (t i)) n
  have he : ∀ st : S, st.r.getD 0 none = some (webF n t) → iEnumB (aCons (eVar 0) aNil) st = .ok ((List.range n).map fun i : Nat => D.tup [nI i, rowF n (t i)]) st := fun st h => by
    rw [← hen]
    simp only [iEnumB, tupAt, iN, aCons, aNil, eVar, R.bind, h]
    rfl
  obtain ⟨F, hF⟩ : ∃ F, F = tTru (eCallN 1 m_goes_up (aCons (eVar 2) aNil)) := ⟨_, rfl⟩
  rw [← hF] at lc
  unfold m_green_in q_green_in
  rw [← hF]
  have h0 := he ⟨[some (webF n t), none, none], m⟩ rfl
  have hl : ((List.filter (fun i => upR n (t i)) (List.range n)).map fun i => nI i).length ≤ sizeLine := by rw [List.length_map]; exact hz2
  simp only [mkF, sRet, e1, eLc, R.bind, R.then, List.length_cons, List.length_nil, List.replicate, List.cons_append, List.nil_append, List.map_cons, List.map_nil, if_true, h0, lc, List.length_map, List.length_range, hz, tupleD]
  rfl
/-- the law's own reading of it -/
theorem min_up : ∀ (ns : List Int) (x : Int), (!ltB (minF x ns) 0) = (x :: ns).all fun y => !ltB y 0
  | [], x => by simp [minF]
  | y :: ns, x => by
    have ih := min_up ns (if ltB y x then y else x)
    have e : minF x (y :: ns) = minF (if ltB y x then y else x) ns := rfl
    rw [e, ih]
    simp only [List.all_cons, ← Bool.and_assoc]
    congr 1
    simp only [ltB_eq]
    by_cases h : y < x
    · simp only [h, decide_true, if_true]
      by_cases h1 : y < 0
      · simp [h1]
      · have : ¬ x < 0 := by omega
        simp [h1, this]
    · simp only [h, decide_false, Bool.false_eq_true, if_false]
      by_cases h1 : x < 0
      · simp [h1]
      · have : ¬ y < 0 := by omega
        simp [h1, this]
theorem e_min (h0 : 0 < n) (g : Nat → Int) (s : S) : ∃ k, min1D (rowF n g) s = .ok (.int k) s ∧ (!ltB k 0) = upR n g := by
  obtain ⟨x, ns, hx⟩ : ∃ x ns, (List.range n).map g = x :: ns := by
    cases h : (List.range n).map g with
    | nil => simp at h; omega
    | cons x ns => exact ⟨x, ns, rfl⟩
  refine ⟨minF x ns, ?_, ?_⟩
  · have : rowF n g = .tup (((List.range n).map g).map D.int) := by
      unfold rowF
      rw [List.map_map]
      rfl
    rw [this]
    unfold min1D
    simp only [intsOf_map, hx]
  · rw [min_up, ← hx, List.all_map]
    rfl
theorem e_lups (h0 : 0 < n) (hn : n ≤ 60) (t : Nat → Nat → Int) (r : List (Option D)) (m : List Cell) (h9 : r.getD 9 none = some (webF n t)) (hr : 12 < r.length) :
    eLc (iEnumB (aCons (eVar 9) aNil)) (.many [11, 12]) (t2 (cmpB (iCmp fun i j => !ltB i j)) (e1 min1D (eVar 12)) (eC (.int 0))) (eVar 11) ⟨r, m⟩ = .ok (.lst (nD (upsF n t))) ⟨r, m⟩ := by
  have hz : n ≤ sizeLine := by rw [szl]; omega
  have hz2 : (upsF n t).length ≤ sizeLine := Nat.le_trans (by unfold upsF; exact Nat.le_trans (List.length_filter_le _ _) (by simp)) hz
  have lc := lc_filt2 11 12 (t2 (cmpB (iCmp fun i j => !ltB i j)) (e1 min1D (eVar 12)) (eC (.int 0))) (eVar 11) r m (fun i => nI i) (fun i => rowF n (t i)) (fun i => nI i) (fun i => upR n (t i)) (List.range n) fun i hi => by
    obtain ⟨R', hR⟩ : ∃ R', R' = (((r.set 12 none).set 11 none).set 11 (some (nI i))).set 12 (some (rowF n (t i))) := ⟨_, rfl⟩
    rw [← hR]
    have g12 : R'.getD 12 none = some (rowF n (t i)) := by
      rw [hR, List.getD_eq_getElem?_getD, List.getElem?_set_self (by simpa using hr)]
      rfl
    have g11 : R'.getD 11 none = some (nI i) := by
      rw [hR, List.getD_eq_getElem?_getD, List.getElem?_set_ne (by decide), List.getElem?_set_self (by simp; omega)]
      rfl
    obtain ⟨k, e, hk⟩ := e_min h0 (t i) ⟨R', m⟩
    refine ⟨?_, ?_⟩
    · simp only [t2, e1, eVar, eC, R.bind, g12, e, cmpB, iCmp, hk]
    · simp only [eVar, g11, isOkM, and_self]
  have hen : enumL ((List.range n).map fun i => rowF n (t i)) = (List.range n).map fun i : Nat => D.tup [nI i, rowF n (t i)] := enum_range (fun i => rowF n (t i)) n
  have he : iEnumB (aCons (eVar 9) aNil) ⟨r, m⟩ = .ok ((List.range n).map fun i : Nat => D.tup [nI i, rowF n (t i)]) ⟨r, m⟩ := by
    rw [← hen]
    simp only [iEnumB, tupAt, iN, aCons, aNil, eVar, R.bind, h9]
    rfl
  have hl : ((List.filter (fun i => upR n (t i)) (List.range n)).map fun i => nI i).length ≤ sizeLine := by rw [List.length_map]; exact hz2
  simp only [eLc, he, R.bind, lc, List.length_map, List.length_range, hz, if_true]
  rfl
/-! the units -/
def unF (i j : Nat) : Int := if i = j then 1 else 0
theorem e_firstin (hn : n ≤ 60) (m : List Cell) : m_first_in [.int n] m = .ok (webF n unF) m := by
  have hz : n ≤ sizeLine := by rw [szl]; omega
  have hu : ∀ i m, m_unit_row [.int n, nI i] m = .ok (rowF n (unF i)) m := fun i m => by
    have lc := lc_map 2 (e1 intD (e2 (cmpD eqD) (eVar 2) (eVar 1))) [some (.int n), some (nI i), none] m (fun j => nI j) (fun j => D.int (unF i j)) (List.range n) fun j hj => by
      have : ((j : Int) == (i : Int)) = decide (i = j) := by
        by_cases h : i = j
        · simp [h]
        · simp [h]; omega
      by_cases h : i = j
      · simp [isOkM, e1, e2, cmpD, eVar, R.bind, nI, eqI, unF, h, DL.intD]
      · simp [isOkM, e1, e2, cmpD, eVar, R.bind, nI, eqI, this, unF, h, DL.intD]
    have hr : ∀ st, rng1I [.int n] st = .ok ((List.range n).map fun j => nI j) st := fun st => by rw [rngS n st (by omega), rngL_nD]; rfl
    obtain ⟨F, hF⟩ : ∃ F, F = e1 intD (e2 (cmpD eqD) (eVar 2) (eVar 1)) := ⟨_, rfl⟩
    unfold m_unit_row q_unit_row
    rw [← hF] at lc ⊢
    simp only [mkF, sRet, e1, eLc, iN, aCons, aNil, eVar, R.bind, R.then, List.getD_cons_zero, List.length_cons, List.length_nil, List.replicate, List.cons_append, List.nil_append, List.map_cons, List.map_nil, if_true, hr, lc, List.length_map, List.length_range, hz, tupleD]
    rfl
  have lc := lc_map 1 (eCallN 2 m_unit_row (aCons (eVar 0) (aCons (eVar 1) aNil))) [some (.int n), none] m (fun i => nI i) (fun i => rowF n (unF i)) (List.range n) fun i hi => by
    simp [isOkM, eCallN, aCons, aNil, eVar, callR, R.bind, R.then, hu]
  have hr : ∀ st, rng1I [.int n] st = .ok ((List.range n).map fun j => nI j) st := fun st => by rw [rngS n st (by omega), rngL_nD]; rfl
  obtain ⟨F, hF⟩ : ∃ F, F = eCallN 2 m_unit_row (aCons (eVar 0) (aCons (eVar 1) aNil)) := ⟨_, rfl⟩
  unfold m_first_in q_first_in
  rw [← hF] at lc ⊢
  simp only [mkF, sRet, e1, eLc, iN, aCons, aNil, eVar, R.bind, R.then, List.getD_cons_zero, List.length_cons, List.length_nil, List.replicate, List.cons_append, List.nil_append, List.map_cons, List.map_nil, if_true, hr, lc, List.length_map, List.length_range, hz, tupleD]
  rfl
theorem e_lunits (hn : n ≤ 60) (m : List Cell) : m__law_units [.int n] m = .ok (webF n unF) m := by
  have hz : n ≤ sizeLine := by rw [szl]; omega
  have hr : ∀ st, rng1I [.int n] st = .ok ((List.range n).map fun j => nI j) st := fun st => by rw [rngS n st (by omega), rngL_nD]; rfl
  have lc := lc_map 2 (e1 tupleD (eLc (iN rng1I (aCons (eVar 0) aNil)) (.one 1) tYesS (e1 intD (e2 (cmpD eqD) (eVar 1) (eVar 2))))) [some (.int n), none, none] m (fun i => nI i) (fun i => rowF n (unF i)) (List.range n) fun i hi => by
    have l1 := lc_map 1 (e1 intD (e2 (cmpD eqD) (eVar 1) (eVar 2))) [some (.int n), none, some (nI i)] m (fun j => nI j) (fun j => D.int (unF i j)) (List.range n) fun j hj => by
      have : ((j : Int) == (i : Int)) = decide (i = j) := by
        by_cases h : i = j
        · simp [h]
        · simp [h]; omega
      by_cases h : i = j
      · simp [isOkM, e1, e2, cmpD, eVar, R.bind, nI, eqI, unF, h, DL.intD]
      · simp [isOkM, e1, e2, cmpD, eVar, R.bind, nI, eqI, this, unF, h, DL.intD]
    obtain ⟨F, hF⟩ : ∃ F, F = e1 intD (e2 (cmpD eqD) (eVar 1) (eVar 2)) := ⟨_, rfl⟩
    rw [← hF] at l1 ⊢
    simp only [e1, eLc, iN, aCons, aNil, eVar, R.bind, R.then, List.set_cons_succ, List.set_cons_zero, List.getD_cons_zero, hr, l1, List.length_map, List.length_range, hz, if_true, tupleD, isOkM, and_true]
    rfl
  obtain ⟨F, hF⟩ : ∃ F, F = e1 tupleD (eLc (iN rng1I (aCons (eVar 0) aNil)) (.one 1) tYesS (e1 intD (e2 (cmpD eqD) (eVar 1) (eVar 2)))) := ⟨_, rfl⟩
  unfold m__law_units q__law_units
  rw [← hF] at lc ⊢
  simp only [mkF, sRet, e1, eLc, iN, aCons, aNil, eVar, R.bind, R.then, List.getD_cons_zero, List.length_cons, List.length_nil, List.replicate, List.cons_append, List.nil_append, List.map_cons, List.map_nil, if_true, hr, lc, List.length_map, List.length_range, hz, tupleD]
  rfl
end
end A15
set_option linter.all false
set_option maxRecDepth 10000
namespace A15
open PySem PySem.Spec PyProof.Rows L2 DL
/-! a walk of hinges, by tables -/
abbrev WT := Web × Web
def wD (n : Nat) (w : Web) : D := webF n (bW w)
def stp (n : Nat) (s : WT) (p : Nat) : WT := (ofF n (hgF (bW s.1) p), ofF n (shF (bW s.1) (bW s.2) p))
def stD (n : Nat) (s : WT) : D := .tup [wD n s.1, wD n s.2]
def bdM (n : Nat) (w : Web) : Bool := (List.range n).all fun i => (List.range n).all fun j => Nat.ble (bW w i j).natAbs 1000
def okS (n : Nat) (s : WT) : Bool := bdM n s.1 && bdM n s.2
theorem bdM_of {n : Nat} {w : Web} (h : bdM n w = true) : ∀ i j, i < n → j < n → (bW w i j).natAbs < 2 ^ 100 := fun i j hi hj => by
  have h1 := List.all_eq_true.1 (List.all_eq_true.1 h i (List.mem_range.2 hi)) j (List.mem_range.2 hj)
  have h2 := Nat.le_of_ble_eq_true h1
  exact Nat.lt_of_le_of_lt h2 (by decide)
theorem wD_of (n : Nat) (b : Nat → Nat → Int) : wD n (ofF n b) = webF n b := webF_congr fun i j hi hj => bW_of hi hj
def unM (n : Nat) : Web := ofF n unF
theorem wD_un (n : Nat) : wD n (unM n) = webF n unF := wD_of n unF
def upM (n : Nat) (w : Web) (p : Nat) : Bool := upR n (bW w p)
def upsM (n : Nat) (w : Web) : List Nat := upsF n (bW w)
section
variable {n p : Nat} {s : WT}
theorem hinge_M (hn : n ≤ 60) (h : okS n s = true) (hp : p < n) (m : List Cell) : m_hinge [wD n s.1, nI p] m = .ok (wD n (stp n s p).1) m := by
  rw [okS, Bool.and_eq_true] at h
  rw [show (stp n s p).1 = ofF n (hgF (bW s.1) p) from rfl, wD_of]
  exact e_hinge hn (bdM_of h.1) hp m
theorem shade_M (hn : n ≤ 60) (h : okS n s = true) (hp : p < n) (m : List Cell) : m_shaded [wD n s.1, wD n s.2, nI p] m = .ok (wD n (stp n s p).2) m := by
  rw [okS, Bool.and_eq_true] at h
  rw [show (stp n s p).2 = ofF n (shF (bW s.1) (bW s.2) p) from rfl, wD_of]
  exact e_shaded hn (bdM_of h.1) (bdM_of h.2) hp m
theorem lhinge_M (h0 : 0 < n) (hn : n ≤ 60) (h : okS n s = true) (hp : p < n) (m : List Cell) (hm : m.all nrC = true) : trimF m__law_hinge [wD n s.1, nI p] m = .ok (wD n (stp n s p).1) m := by
  rw [okS, Bool.and_eq_true] at h
  rw [show (stp n s p).1 = ofF n (hgF (bW s.1) p) from rfl, wD_of]
  have e := e_lhinge h0 hn (bdM_of h.1) hp m hm
  have el : lhF (bW s.1) p = hgF (bW s.1) p := by
    funext i j
    exact lh_hg _ _ _ _
  rw [el] at e
  exact e
theorem lshade_M (hn : n ≤ 60) (h : okS n s = true) (hp : p < n) (m : List Cell) : m__law_shade [wD n s.1, wD n s.2, nI p] m = .ok (wD n (stp n s p).2) m := by
  rw [okS, Bool.and_eq_true] at h
  rw [show (stp n s p).2 = ofF n (shF (bW s.1) (bW s.2) p) from rfl, wD_of]
  exact e_lshade hn (bdM_of h.1) (bdM_of h.2) hp m
end
def runL (n : Nat) : WT → List Nat → List WT
  | _, [] => []
  | s, p :: row => stp n s p :: runL n (stp n s p) row
def Go (n : Nat) : WT → List Nat → Prop
  | _, [] => True
  | s, p :: row => p < n ∧ okS n s = true ∧ Go n (stp n s p) row
def lastW (n : Nat) (s : WT) (row : List Nat) : WT := row.foldl (stp n) s
def grn (n : Nat) : WT → List Nat → Bool
  | _, [] => true
  | s, p :: row => upM n s.2 p && grn n (stp n s p) row
theorem at_l1 {α : Type} (pre : List α) (a : α) : L2.atI (pre ++ [a]) (-1) = some a := by
  unfold L2.atI L2.ixN
  simp only [List.length_append, List.length_cons, List.length_nil]
  rw [if_neg (by decide), if_pos (by omega)]
  have e : ((-1 : Int) + ((pre.length + (0 + 1) : Nat) : Int)).toNat = pre.length := by omega
  rw [e]
  simp
theorem Go.lt {n : Nat} : ∀ {row : List Nat} {s : WT}, Go n s row → ∀ p ∈ row, p < n
  | [], _, _, p, hp => by simp at hp
  | q :: row, s, h, p, hp => by
    rcases List.mem_cons.1 hp with rfl | hp
    · exact h.1
    · exact Go.lt h.2.2 p hp
theorem runL_last {n : Nat} : ∀ (row : List Nat) (s : WT), ∃ pre, [s] ++ runL n s row = pre ++ [lastW n s row]
  | [], s => ⟨[], rfl⟩
  | p :: row, s => by
    obtain ⟨pre, e⟩ := runL_last (n := n) row (stp n s p)
    refine ⟨s :: pre, ?_⟩
    show s :: ([stp n s p] ++ runL n (stp n s p) row) = s :: (pre ++ [lastW n (stp n s p) row])
    rw [e]
theorem runL_len {n : Nat} : ∀ (row : List Nat) (s : WT), (runL n s row).length = row.length
  | [], s => rfl
  | p :: row, s => by rw [runL, List.length_cons, runL_len row, List.length_cons]
theorem ws_loop {n : Nat} (hn : n ≤ 60) {v0 v1 v2 : Option D} {m : List Cell} : ∀ (row : List Nat) (s : WT) (acc : List D) (o4 o5 o6 : Option D), Go n s row → acc.length + row.length ≤ 1000 →
    ∃ y4 y5 y6, forL (.one 4) q_walked_shades_b1 (nD row) ⟨[v0, v1, v2, some (.lst (acc ++ [stD n s])), o4, o5, o6], m⟩ = .next ⟨[v0, v1, v2, some (.lst (acc ++ [stD n s] ++ (runL n s row).map (stD n))), y4, y5, y6], m⟩
  | [], s, acc, o4, o5, o6, _, _ => ⟨o4, o5, o6, by simp [nD, forL, runL]⟩
  | p :: row, s, acc, o4, o5, o6, hg, hz => by
    simp only [List.length_cons] at hz
    obtain ⟨y4, y5, y6, ei⟩ := ws_loop hn (v0 := v0) (v1 := v1) (v2 := v2) (m := m) row (stp n s p) (acc ++ [stD n s]) (some (nI p)) (some (wD n s.1)) (some (wD n s.2)) hg.2.2 (by simp; omega)
    refine ⟨y4, y5, y6, ?_⟩
    have eh' := hinge_M hn hg.2.1 hg.1 m
    have et := shade_M hn hg.2.1 hg.1 m
    have hz2 : acc.length + 1 < sizeLine := by rw [szl]; omega
    have o2 : (2 : Nat) ≤ sizeLine := by rw [szl]; decide
    have hsd : stD n s = .tup [wD n s.1, wD n s.2] := rfl
    have hsd2 : stD n (stp n s p) = .tup [wD n (stp n s p).1, wD n (stp n s p).2] := rfl
    obtain ⟨WB, hW⟩ : ∃ WB, WB = wD n s.1 := ⟨_, rfl⟩
    obtain ⟨VB, hV⟩ : ∃ VB, VB = wD n s.2 := ⟨_, rfl⟩
    obtain ⟨W2, hW2⟩ : ∃ WB, WB = wD n (stp n s p).1 := ⟨_, rfl⟩
    obtain ⟨V2, hV2⟩ : ∃ VB, VB = wD n (stp n s p).2 := ⟨_, rfl⟩
    rw [← hW, ← hV] at ei hsd et
    rw [← hW2] at eh' hsd2
    rw [← hV2] at et hsd2
    rw [← hW] at eh'
    have step : q_walked_shades_b1 ⟨[v0, v1, v2, some (.lst (acc ++ [stD n s])), some (nI p), o5, o6], m⟩ = .next ⟨[v0, v1, v2, some (.lst (acc ++ [stD n s] ++ [stD n (stp n s p)])), some (nI p), some WB, some VB], m⟩ := by
      rw [hsd2]
      simp [q_walked_shades_b1, sSeq, sAsg, asgD, DL.setL, e2, e1, eVar, eC, negD, R.bind, R.then, ixl, at_l1, hsd, sApp, eTup, aCons, aNil, eCallN, callR, eh', et, o2, hz2]
    rw [show nD (p :: row) = nI p :: nD row from rfl, forL, runL]
    simp only [asgD, List.set_cons_succ, List.set_cons_zero, step]
    rw [ei]
    simp
theorem e_walked {n : Nat} (hn : n ≤ 60) {s : WT} {row : List Nat} (hg : Go n s row) (hz : row.length ≤ 900) (m : List Cell) : m_walked_shades [wD n s.1, wD n s.2, .tup (nD row)] m = .ok (.lst (([s] ++ runL n s row).map (stD n))) m := by
  obtain ⟨y4, y5, y6, e⟩ := ws_loop hn (v0 := some (wD n s.1)) (v1 := some (wD n s.2)) (v2 := some (.tup (nD row))) (m := m) row s [] none none none hg (by simp; omega)
  have o1 : (1 : Nat) ≤ sizeLine := by rw [szl]; decide
  have o2 : (2 : Nat) ≤ sizeLine := by rw [szl]; decide
  have hsd : stD n s = .tup [wD n s.1, wD n s.2] := rfl
  obtain ⟨WB, hW⟩ : ∃ WB, WB = wD n s.1 := ⟨_, rfl⟩
  obtain ⟨VB, hV⟩ : ∃ VB, VB = wD n s.2 := ⟨_, rfl⟩
  rw [← hW, ← hV] at e hsd ⊢
  simp only [m_walked_shades, q_walked_shades, mkF]
  rw [seq_nx (s' := ⟨[some WB, some VB, some (.tup (nD row)), some (.lst ([] ++ [stD n s])), none, none, none], m⟩) (by
    rw [hsd]
    simp [sAsgF, eLst, eTup, aCons, aNil, eVar, R.bind, R.then, o1, o2])]
  rw [seq_nx (s' := ⟨[some WB, some VB, some (.tup (nD row)), some (.lst ([] ++ [stD n s] ++ (runL n s row).map (stD n))), y4, y5, y6], m⟩) (by
    unfold sFor i1 eVar
    simp only [R.bind, R.then, List.getD_cons_succ, List.getD_cons_zero, seqI]
    exact e)]
  simp [sRet, eVar, R.then]
/-! green_path -/
theorem gp_zip {n : Nat} : ∀ (row : List Nat) (s : WT), (([s] ++ runL n s row).map (stD n)).zip (nD row) = (([s] ++ runL n s row).zip row).map fun x => (stD n x.1, nI x.2)
  | row, s => by
    unfold nD
    rw [List.zip_map]
    rfl
theorem gp_all {n : Nat} : ∀ (row : List Nat) (s : WT), (([s] ++ runL n s row).zip row).all (fun x => upM n x.1.2 x.2) = grn n s row
  | [], s => by simp [grn]
  | p :: row, s => by
    have ih := gp_all (n := n) row (stp n s p)
    rw [grn, runL]
    show (upM n s.2 p && (([stp n s p] ++ runL n (stp n s p) row).zip row).all _) = _
    rw [ih]
theorem gp_mem {n : Nat} : ∀ (row : List Nat) (s : WT), Go n s row → ∀ x ∈ ([s] ++ runL n s row).zip row, x.2 < n
  | row, s, h, x, hx => h.lt x.2 (List.of_mem_zip hx).2
theorem e_gpath {n : Nat} (hn : n ≤ 60) {w : Web} {row : List Nat} (hg : Go n (w, unM n) row) (hz : row.length ≤ 900) (m : List Cell) : m_green_path [wD n w, .tup (nD row)] m = .ok (.bl (grn n (w, unM n) row)) m := by
  have ew := e_walked hn hg hz m
  simp only at ew
  have ef := e_firstin hn m
  rw [← wD_un] at ef
  have hlen : ∀ st, lenD (wD n w) st = .ok (.int n) st := fun st => lenF n _ st
  obtain ⟨ss, hss⟩ : ∃ ss, ss = [(w, unM n)] ++ runL n (w, unM n) row := ⟨_, rfl⟩
  have hsl : ss.length = row.length + 1 := by rw [hss]; simp [runL_len]
  rw [← hss] at ew
  have lc := lc_map2 3 4 (eCallN 1 m_goes_up (aCons (e2 ixD (e2 ixD (eVar 3) (eC (.int 1))) (eVar 4)) aNil)) [some (wD n w), some (.tup (nD row)), some (.lst (ss.map (stD n))), none, none] m (fun x : WT × Nat => stD n x.1) (fun x => nI x.2) (fun x => D.bl (upM n x.1.2 x.2)) (ss.zip row) fun x hx => by
    have hp : x.2 < n := by rw [hss] at hx; exact gp_mem row _ hg x hx
    have i1 : ∀ st, ixD (stD n x.1) (.int 1) st = .ok (wD n x.1.2) st := fun st => rfl
    have i2 : ∀ st, ixD (wD n x.1.2) (nI x.2) st = .ok (rowF n (bW x.1.2 x.2)) st := fun st => ixF hp st
    have eg := e_goesup hn (bW x.1.2 x.2) m
    obtain ⟨SD, hSD⟩ : ∃ SD, SD = stD n x.1 := ⟨_, rfl⟩
    rw [← hSD] at i1
    simp only [isOkM, eCallN, aCons, aNil, e2, eVar, eC, R.bind, List.set_cons_succ, List.set_cons_zero, List.getD_cons_succ, List.getD_cons_zero, ← hSD, i1, i2, List.length_cons, List.length_nil, if_true, callR, eg, upM, and_self]
  have hzl : zipL (ss.map (stD n)) (nD row) = (ss.zip row).map fun x => D.tup [stD n x.1, nI x.2] := by
    unfold zipL
    rw [hss, gp_zip, List.map_map]
    rfl
  have hb := bls_map (fun x : WT × Nat => upM n x.1.2 x.2) (ss.zip row)
  have hall : (ss.zip row).all (fun x => upM n x.1.2 x.2) = grn n (w, unM n) row := by rw [hss]; exact gp_all row _
  have hzz : ∀ st : S, st.r.getD 2 none = some (.lst (ss.map (stD n))) → st.r.getD 1 none = some (.tup (nD row)) → iZipB (aCons (eVar 2) (aCons (eVar 1) aNil)) st = .ok ((ss.zip row).map fun x => D.tup [stD n x.1, nI x.2]) st := fun st h2 h1 => by
    rw [← hzl]
    simp only [iZipB, shapeAt, iN, aCons, aNil, eVar, R.bind, h1, h2]
    rfl
  have hle : (ss.zip row).length ≤ sizeLine := by rw [List.length_zip, szl]; omega
  obtain ⟨F, hF⟩ : ∃ F, F = eCallN 1 m_goes_up (aCons (e2 ixD (e2 ixD (eVar 3) (eC (.int 1))) (eVar 4)) aNil) := ⟨_, rfl⟩
  obtain ⟨G, hG⟩ : ∃ G, G = iZipB (aCons (eVar 2) (aCons (eVar 1) aNil)) := ⟨_, rfl⟩
  unfold m_green_path q_green_path
  rw [← hG] at hzz ⊢
  rw [← hF] at lc ⊢
  simp only [mkF]
  obtain ⟨WD', hWD⟩ : ∃ WD', WD' = wD n w := ⟨_, rfl⟩
  obtain ⟨UD, hUD⟩ : ∃ UD, UD = wD n (unM n) := ⟨_, rfl⟩
  obtain ⟨RD, hRD⟩ : ∃ RD, RD = D.tup (nD row) := ⟨_, rfl⟩
  rw [← hWD] at ew lc hlen ⊢
  rw [← hUD] at ew ef
  rw [← hRD] at ew lc hzz ⊢
  rw [seq_nx (s' := ⟨[some WD', some RD, some (.lst (ss.map (stD n))), none, none], m⟩) (by
    simp [sAsg, asgD, eCallN, aCons, aNil, e1, eVar, callR, R.bind, R.then, hlen, ef, ew])]
  have h0 := hzz ⟨[some WD', some RD, some (.lst (ss.map (stD n))), none, none], m⟩ rfl rfl
  simp only [sRet, e1, eLc, R.bind, R.then, h0, lc, List.length_map, hle, if_true, allD, hb, List.all_map]
  rw [← hall]
  rfl
end A15
set_option linter.all false
set_option maxRecDepth 10000
namespace A15
open PySem PySem.Spec PyProof.Rows L2 DL
/-! is_green_row, is_full_row -/
theorem eqNil : ∀ l : List Nat, l.length ≤ 1000 → eqD (.tup (nD l)) (.tup []) = some (decide (l = []))
  | [], _ => by simp [eqD, nD, toP, toPs, SeqAt.shaped, PyData.canLay0, PyData.canLayAll0, PyData.depth, PyData.depthAll, PyData.eqv, PyData.eqvAll]
  | q :: l, hl => by
    have h1 := toPs_n (q :: l)
    have h2 := lay_n (q :: l)
    have h3 := dep_n (q :: l)
    obtain ⟨ps, hps⟩ : ∃ ps, ps = (q :: l).map fun q : Nat => PyData.int (q : Int) := ⟨_, rfl⟩
    have hne : ps ≠ [] := by rw [hps]; simp
    rw [← hps] at h1 h2 h3
    cases ps with
    | nil => exact absurd rfl hne
    | cons a ps =>
      unfold eqD
      simp only [toP, h1, Option.map_some, toPs]
      have d1 : SeqAt.shaped (PyData.tuple (a :: ps)) = true := by
        simp only [SeqAt.shaped, PyData.canLay0, h2, PyData.depth, Bool.true_and, Bool.and_true]
        simp; omega
      have d2 : SeqAt.shaped (PyData.tuple []) = true := by decide
      simp [d1, d2, PyData.eqv, PyData.eqvAll]
section
variable {n : Nat} {w : Web} {row : List Nat} {wt : Nat → Nat}
theorem e_isgreen (h0 : 0 < n) (hn : n ≤ 60) (sk : SkF n (bW w) wt) (hg : Go n (w, unM n) row) (hz : row.length ≤ 900) (m : List Cell) (hm : m.all nrC = true) : m_is_green_row [wD n w, .tup (nD row)] m = .ok (.bl (grn n (w, unM n) row)) m := by
  have e1' : trimF m_sure_web [wD n w] m = .ok (wD n w) m := e_sureW h0 hn sk .tt m hm
  have e2' := e_sureR (by omega) (.t (l := row)) m
  have e3' : m_known_row [wD n w, .tup (nD row)] m = .ok (.tup (nD row)) m := e_krow hg.lt m
  have e4' := e_gpath hn hg hz m
  obtain ⟨WD', hWD⟩ : ∃ WD', WD' = wD n w := ⟨_, rfl⟩
  obtain ⟨RD, hRD⟩ : ∃ RD, RD = D.tup (nD row) := ⟨_, rfl⟩
  rw [← hWD, ← hRD] at e3' e4' ⊢
  rw [← hWD] at e1'
  rw [← hRD] at e2'
  simp [m_is_green_row, q_is_green_row, mkF, sSeq, sPar, asgD, sRet, eCallN, aCons, aNil, eVar, callR, R.bind, R.then, e1', e2', e3', e4']
theorem e_isfull (h0 : 0 < n) (hn : n ≤ 60) (sk : SkF n (bW w) wt) (hg : Go n (w, unM n) row) (hz : row.length ≤ 900) (hgr : grn n (w, unM n) row = true) (m : List Cell) (hm : m.all nrC = true) : m_is_full_row [wD n w, .tup (nD row)] m = .ok (.bl (decide (upsM n (lastW n (w, unM n) row).2 = []))) m := by
  have e1' : trimF m_sure_web [wD n w] m = .ok (wD n w) m := e_sureW h0 hn sk .tt m hm
  have ew := e_walked hn hg hz m
  simp only at ew
  have ef := e_firstin hn m
  rw [← wD_un] at ef
  have e4' := e_gpath hn hg hz m
  rw [hgr] at e4'
  have eg : m_green_in [wD n (lastW n (w, unM n) row).2] m = .ok (.tup (nD (upsM n (lastW n (w, unM n) row).2))) m := e_greenin hn _ m
  have hq := eqNil (upsM n (lastW n (w, unM n) row).2) (by
    unfold upsM upsF
    exact Nat.le_trans (List.length_filter_le _ _) (by simp; omega))
  obtain ⟨pre, hpre⟩ := runL_last (n := n) row (w, unM n)
  rw [hpre] at ew
  have hlen : ∀ st, lenD (wD n w) st = .ok (.int n) st := fun st => lenF n _ st
  have hzl : (nD row).length ≤ sizeLine := by rw [szl, nD_len]; omega
  have lc := lc_map 3 (eAndB (eCallN 1 m_is_number (aCons (eVar 3) aNil)) (eChain (iCmp fun i j => !ltB j i) (iCmp ltB) (eC (.int 0)) (eVar 3) (e1 lenD (eVar 2)))) [some (wD n w), some (.tup (nD row)), some (wD n w), none, none] m nI (fun _ => .bl true) row fun x hx => by
    have hp := hg.lt x hx
    have c1 : m_is_number [.int (x : Int)] m = .ok (.bl true) m := by simp [mkF, sNil, sSeq, sAsg, sAsgF, sAsgC, sPar, sPar3, sIf, sRet, sFor, forL, sSetM, sSetI, sApp, sExt, sDrop, sRaise, sTry, hSay, hNil, Ex.ix, e1, e2, eBi, eIf, eVar, eC, eTup, eLst, eSl, slD, pNone, pSome, eLc, lcL, wipeD, Tg.vs, tYesS, aCons, aNil, t2, tTru, truB, truD, tNotS, tAndS, tOrS, eAndB, eOrB, eNotB, eOrV, cmpB, cmpD, iCmp, R.then, R.bind, asgD, DL.setL, addD, subD, negD, absD, DL.intD, mLst, lenD, listD, tupleD, allD, blsD, isiD, isi2D, isTy, isND, notND, DL.isNon, ltB_eq, eCallN, eCallV, callR, iN, i1, rng1I, seqI, gcdD, augD, sAug, m_is_number, q_is_number]
    have l1 : (!ltB (x : Int) 0) = true := by rw [ltB_eq]; simp
    have l2 : ltB (x : Int) (n : Int) = true := by rw [ltB_eq]; simp; exact hp
    have hlen' := hlen
    obtain ⟨WD', hWD⟩ : ∃ WD', WD' = wD n w := ⟨_, rfl⟩
    rw [← hWD] at hlen' ⊢
    simp only [isOkM, eAndB, eCallN, aCons, aNil, eVar, R.bind, List.set_cons_succ, List.set_cons_zero, List.getD_cons_succ, List.getD_cons_zero, List.length_cons, List.length_nil, if_true, callR, c1, eChain, eC, nI, iCmp, l1, e1, hlen', l2, and_self]
  have lc' : lcL (.one 3) tYesS (eAndB (eCallN 1 m_is_number (aCons (eVar 3) aNil)) (eChain (iCmp fun i j => !ltB j i) (iCmp ltB) (eC (.int 0)) (eVar 3) (e1 lenD (eVar 2)))) [some (wD n w), some (.tup (nD row)), some (wD n w), none, none] (nD row) m = some (row.map fun _ => .bl true, m) := lc
  obtain ⟨F, hF⟩ : ∃ F, F = eAndB (eCallN 1 m_is_number (aCons (eVar 3) aNil)) (eChain (iCmp fun i j => !ltB j i) (iCmp ltB) (eC (.int 0)) (eVar 3) (e1 lenD (eVar 2))) := ⟨_, rfl⟩
  unfold m_is_full_row q_is_full_row
  rw [← hF] at lc' ⊢
  simp only [mkF]
  have hst : ∀ st, ixD (stD n (lastW n (w, unM n) row)) (.int 1) st = .ok (wD n (lastW n (w, unM n) row).2) st := fun st => rfl
  obtain ⟨WD', hWD⟩ : ∃ WD', WD' = wD n w := ⟨_, rfl⟩
  obtain ⟨UD, hUD⟩ : ∃ UD, UD = wD n (unM n) := ⟨_, rfl⟩
  obtain ⟨LD, hLD⟩ : ∃ LD, LD = wD n (lastW n (w, unM n) row).2 := ⟨_, rfl⟩
  obtain ⟨SD, hSD⟩ : ∃ SD, SD = stD n (lastW n (w, unM n) row) := ⟨_, rfl⟩
  rw [← hWD] at ew lc' hlen e1' e4' ⊢
  rw [← hUD] at ew ef
  rw [← hLD] at eg hst
  rw [← hSD] at hst
  rw [List.map_append, List.map_cons, List.map_nil, ← hSD] at ew
  rw [seq_nx (s' := ⟨[some WD', some (.tup (nD row)), some WD', none, none], m⟩) (by
    simp [sAsg, asgD, eCallN, aCons, aNil, eVar, callR, R.bind, R.then, e1'])]
  rw [seq_nx (s' := ⟨[some WD', some (.tup (nD row)), some WD', none, none], m⟩) (by
    simp [sIf, tOrS, tNotS, tTru, e1, eVar, isiD, isTy, R.bind, R.then, truB, truD, eLc, i1, seqI, hzl, lc', allD, all_tt, sNil])]
  rw [seq_nx (s' := ⟨[some WD', some (.tup (nD row)), some WD', none, some LD], m⟩) (by
    simp [sAsg, asgD, eCallN, aCons, aNil, e1, e2, eC, eVar, negD, callR, R.bind, R.then, hlen, ef, ew, ixl, at_l1, hst])]
  simp [sRet, eAndB, eCallN, aCons, aNil, e2, eVar, callR, R.bind, R.then, e4', eg, eTup, cmpD, hq]
end
end A15
set_option linter.all false
set_option maxRecDepth 10000
namespace A15
open PySem PySem.Spec PyProof.Rows L2 DL
/-! the law's own walk -/
theorem eqNilL {α : Type} (g : α → D) (p : α → PyData) (l : List α) (h1 : ∀ x ∈ l, toP (g x) = some (p x)) (h2 : ∀ x ∈ l, (p x).canLay0 = true) (h3 : ∀ x ∈ l, (p x).depth ≤ 6) : eqD (.lst (l.map g)) (.lst []) = some (decide (l = [])) := by
  have a1 := toPs_map g p l h1
  have a2 := lay_map p l h2
  have a3 := dep_map p 6 l h3
  unfold eqD
  simp only [toP, a1, Option.map_some, toPs]
  have d1 : SeqAt.shaped (PyData.list (l.map p)) = true := by
    simp only [SeqAt.shaped, PyData.canLay0, a2, PyData.depth, Bool.true_and, Bool.and_true]
    simp; omega
  have d2 : SeqAt.shaped (PyData.list []) = true := by decide
  rw [d1, d2]
  cases l with
  | nil => simp [PyData.eqv, PyData.eqvAll]
  | cons x l => simp [PyData.eqv, PyData.eqvAll]
abbrev Node := List Nat × WT
def nodD (n : Nat) (x : Node) : D := .tup [NDl x.1, wD n x.2.1, wD n x.2.2]
def pNod (n : Nat) (x : Node) : PyData := .tuple [.tuple (x.1.map fun q : Nat => PyData.int (q : Int)), pW n (bW x.2.1), pW n (bW x.2.2)]
theorem lay_web (n : Nat) (b : Nat → Nat → Int) : (pW n b).canLay0 = true := by
  have h1 := lay_map (fun i => pR n (b i)) (List.range n) fun i _ => lay_row n (b i)
  simp only [pW, PyData.canLay0, h1]
theorem dep_web (n : Nat) (b : Nat → Nat → Int) : (pW n b).depth ≤ 3 := by
  have h2 := dep_map (fun i => pR n (b i)) 2 (List.range n) fun i _ => dep_row n (b i)
  simp only [pW, PyData.depth]
  omega
theorem toP_nod (n : Nat) (x : Node) : toP (nodD n x) = some (pNod n x) := by
  have a := toPs_n x.1
  have b := toP_web n (bW x.2.1)
  have c := toP_web n (bW x.2.2)
  simp only [nodD, NDl, toP, toPs, a, wD, b, c, Option.map_some, pNod]
theorem lay_nod (n : Nat) (x : Node) : (pNod n x).canLay0 = true := by
  have a := lay_n x.1
  simp only [pNod, PyData.canLay0, PyData.canLayAll0, a, lay_web, Bool.and_self]
theorem dep_nod (n : Nat) (x : Node) : (pNod n x).depth ≤ 6 := by
  have a := dep_n x.1
  have b := dep_web n (bW x.2.1)
  have c := dep_web n (bW x.2.2)
  simp only [pNod, PyData.depth, PyData.depthAll]
  omega
theorem eq_nods (n : Nat) (l : List Node) : eqD (.lst (l.map (nodD n))) (.lst []) = some (decide (l = [])) :=
  eqNilL (nodD n) (pNod n) l (fun x _ => toP_nod n x) (fun x _ => lay_nod n x) fun x _ => dep_nod n x
theorem eq_nD (l : List Nat) : eqD (.lst (nD l)) (.lst []) = some (decide (l = [])) :=
  eqNilL nI (fun q => .int (q : Int)) l (fun x _ => rfl) (fun x _ => rfl) fun x _ => by simp [PyData.depth]
/-- the walk, checked -/
def wk (n : Nat) : Nat → List Node → List (List Nat) → Option (List (List Nat))
  | 0, _, _ => none
  | _ + 1, [], fnd => some fnd
  | f + 1, (row, s) :: st, fnd =>
    if okS n s = true then wk n f (((upsM n s.2).map fun k => (row ++ [k], stp n s k)).reverse ++ st) (if upsM n s.2 = [] then fnd ++ [row] else fnd) else none
theorem ups_lt {n : Nat} {w : Web} : ∀ k ∈ upsM n w, k < n := fun k hk => List.mem_range.1 (List.mem_filter.1 hk).1
theorem ups_len {n : Nat} {w : Web} : (upsM n w).length ≤ n := by
  unfold upsM upsF
  exact Nat.le_trans (List.length_filter_le _ _) (by simp)
theorem lw_step {n : Nat} (h0 : 0 < n) (hn : n ≤ 60) {row : List Nat} {s : WT} (hs : okS n s = true) {st : List Node} {fnd : List (List Nat)} (h1 : st.length ≤ 900000) (h2 : fnd.length ≤ 900000) (h3 : row.length ≤ 900000) {o0 o1 o2 o3 o4 o7 o8 o9 o10 o11 o12 o13 o14 : Option D} {m : List Cell} (hm : m.all nrC = true) :
    q_law_b1 ⟨[o0, o1, o2, o3, o4, some (.lst ((((row, s) :: st).reverse).map (nodD n))), some (.lst (fnd.map NDl)), o7, o8, o9, o10, o11, o12, o13, o14], m⟩ =
    .next ⟨[o0, o1, o2, o3, o4, some (.lst (((((upsM n s.2).map fun k => (row ++ [k], stp n s k)).reverse ++ st).reverse).map (nodD n))), some (.lst ((if upsM n s.2 = [] then fnd ++ [row] else fnd).map NDl)), some (NDl row), some (wD n s.1), some (wD n s.2), some (.lst (nD (upsM n s.2))), o11, o12, o13, o14], m⟩ := by
  obtain ⟨us, hus⟩ : ∃ us, us = upsM n s.2 := ⟨_, rfl⟩
  have hlt : ∀ k ∈ us, k < n := by rw [hus]; exact ups_lt
  have hul : us.length ≤ 60 := by rw [hus]; exact Nat.le_trans ups_len hn
  have hpop : ∀ xs : List D, ∀ d : D, (xs ++ [d])[(xs ++ [d]).length - 1]? = some d := fun xs d => by simp
  unfold q_law_b1
  rw [seq_nx (s' := ⟨[o0, o1, o2, o3, o4, some (.lst ((st.reverse).map (nodD n))), some (.lst (fnd.map NDl)), some (NDl row), some (wD n s.1), some (wD n s.2), o10, o11, o12, o13, o14], m⟩) (by
    rw [List.reverse_cons, List.map_append, List.map_cons, List.map_nil]
    unfold sPop
    simp only [List.getD_cons_succ, List.getD_cons_zero, hpop, List.dropLast_concat, List.set_cons_succ, List.set_cons_zero]
    rfl)]
  rw [seq_nx (s' := ⟨[o0, o1, o2, o3, o4, some (.lst ((st.reverse).map (nodD n))), some (.lst (fnd.map NDl)), some (NDl row), some (wD n s.1), some (wD n s.2), some (.lst (nD us)), o11, o12, o13, o14], m⟩) (by
    have e := e_lups h0 hn (bW s.2) [o0, o1, o2, o3, o4, some (.lst ((st.reverse).map (nodD n))), some (.lst (fnd.map NDl)), some (NDl row), some (wD n s.1), some (wD n s.2), o10, o11, o12, o13, o14] m rfl (by simp)
    unfold sAsgF
    rw [e, hus]
    rfl)]
  have hf1 : fnd.length < sizeLine := by rw [szl]; omega
  rw [seq_nx (s' := ⟨[o0, o1, o2, o3, o4, some (.lst ((st.reverse).map (nodD n))), some (.lst ((if us = [] then fnd ++ [row] else fnd).map NDl)), some (NDl row), some (wD n s.1), some (wD n s.2), some (.lst (nD us)), o11, o12, o13, o14], m⟩) (by
    have hq := eq_nD us
    obtain ⟨UD, hUD⟩ : ∃ UD, UD = D.lst (nD us) := ⟨_, rfl⟩
    rw [← hUD] at hq ⊢
    obtain ⟨W1, hW1⟩ : ∃ W1, W1 = wD n s.1 := ⟨_, rfl⟩
    obtain ⟨W2, hW2⟩ : ∃ W2, W2 = wD n s.2 := ⟨_, rfl⟩
    rw [← hW1, ← hW2]
    by_cases h : us = []
    · simp [sIf, t2, cmpB, eVar, eLst, aNil, R.bind, R.then, hq, h, sApp, hf1]
    · simp [sIf, t2, cmpB, eVar, eLst, aNil, R.bind, R.then, hq, h, sNil])]
  have hrl : (nD row).length + 1 ≤ sizeLine := by rw [szl, nD_len]; omega
  have o3' : (3 : Nat) ≤ sizeLine := by rw [szl]; decide
  have o1' : (1 : Nat) ≤ sizeLine := by rw [szl]; decide
  have lc := lc_map 11 (eTup (aCons (e2 addD (eVar 7) (eTup (aCons (eVar 11) aNil))) (aCons (eCallN 2 (trimF m__law_hinge) (aCons (eVar 8) (aCons (eVar 11) aNil))) (aCons (eCallN 3 m__law_shade (aCons (eVar 8) (aCons (eVar 9) (aCons (eVar 11) aNil)))) aNil)))) [o0, o1, o2, o3, o4, some (.lst ((st.reverse).map (nodD n))), some (.lst ((if us = [] then fnd ++ [row] else fnd).map NDl)), some (NDl row), some (wD n s.1), some (wD n s.2), some (.lst (nD us)), o11, o12, o13, o14] m nI (fun k => nodD n (row ++ [k], stp n s k)) us fun k hk => by
    have e1' := lhinge_M h0 hn hs (hlt k hk) m hm
    have e2' := lshade_M hn hs (hlt k hk) m
    have ea : ∀ st, addD (NDl row) (.tup [nI k]) st = .ok (NDl (row ++ [k])) st := fun st => by
      simp only [NDl, addD, List.length_cons, List.length_nil]
      rw [if_pos (by simpa using hrl)]
      simp [nD]
    have hnd : nodD n (row ++ [k], stp n s k) = .tup [NDl (row ++ [k]), wD n (stp n s k).1, wD n (stp n s k).2] := rfl
    rw [hnd]
    obtain ⟨W1, hW1⟩ : ∃ W1, W1 = wD n s.1 := ⟨_, rfl⟩
    obtain ⟨W2, hW2⟩ : ∃ W2, W2 = wD n s.2 := ⟨_, rfl⟩
    obtain ⟨W3, hW3⟩ : ∃ W3, W3 = wD n (stp n s k).1 := ⟨_, rfl⟩
    obtain ⟨W4, hW4⟩ : ∃ W4, W4 = wD n (stp n s k).2 := ⟨_, rfl⟩
    obtain ⟨RD, hRD⟩ : ∃ RD, RD = NDl row := ⟨_, rfl⟩
    rw [← hW1, ← hW3] at e1'
    rw [← hW1, ← hW2, ← hW4] at e2'
    rw [← hRD] at ea
    rw [← hW1, ← hW2, ← hW3, ← hW4, ← hRD]
    simp only [isOkM, eTup, aCons, aNil, e2, eVar, eCallN, R.bind, List.set_cons_succ, List.set_cons_zero, List.getD_cons_succ, List.getD_cons_zero, List.length_cons, List.length_nil, if_true, o1', o3', ea, callR, e1', e2', and_self]
  have lc' : lcL (.one 11) tYesS (eTup (aCons (e2 addD (eVar 7) (eTup (aCons (eVar 11) aNil))) (aCons (eCallN 2 (trimF m__law_hinge) (aCons (eVar 8) (aCons (eVar 11) aNil))) (aCons (eCallN 3 m__law_shade (aCons (eVar 8) (aCons (eVar 9) (aCons (eVar 11) aNil)))) aNil)))) [o0, o1, o2, o3, o4, some (.lst ((st.reverse).map (nodD n))), some (.lst ((if us = [] then fnd ++ [row] else fnd).map NDl)), some (NDl row), some (wD n s.1), some (wD n s.2), some (.lst (nD us)), o11, o12, o13, o14] (nD us) m = _ := lc
  obtain ⟨F, hF⟩ : ∃ F, F = eTup (aCons (e2 addD (eVar 7) (eTup (aCons (eVar 11) aNil))) (aCons (eCallN 2 (trimF m__law_hinge) (aCons (eVar 8) (aCons (eVar 11) aNil))) (aCons (eCallN 3 m__law_shade (aCons (eVar 8) (aCons (eVar 9) (aCons (eVar 11) aNil)))) aNil))) := ⟨_, rfl⟩
  rw [← hF] at lc' ⊢
  have hlu : (nD us).length ≤ sizeLine := by rw [szl, nD_len]; omega
  have hle : ((st.reverse).map (nodD n)).length + (us.map fun k => nodD n (row ++ [k], stp n s k)).length ≤ sizeLine := by
    rw [szl, List.length_map, List.length_map, List.length_reverse]
    omega
  rw [← hus]
  have efin : (((us.map fun k => (row ++ [k], stp n s k)).reverse ++ st).reverse).map (nodD n) = (st.reverse).map (nodD n) ++ us.map fun k => nodD n (row ++ [k], stp n s k) := by
    rw [List.reverse_append, List.reverse_reverse, List.map_append, List.map_map]
    rfl
  rw [efin]
  simp only [sSeq, sExt, List.getD_cons_succ, List.getD_cons_zero, eLc, i1, eVar, R.bind, R.then, seqI, hlu, if_true, lc', hle, List.set_cons_succ, List.set_cons_zero, sNil]
theorem lw_loop {n : Nat} (h0 : 0 < n) (hn : n ≤ 60) {o0 o1 o2 o3 o4 : Option D} {m : List Cell} (hm : m.all nrC = true) : ∀ (f : Nat) (st : List Node) (fnd res : List (List Nat)) (c : Nat) (o7 o8 o9 o10 o11 o12 o13 o14 : Option D), wk n f st fnd = some res → c + f ≤ 5000 → st.length ≤ 60 * c + 1 → fnd.length ≤ c → (∀ x ∈ st, x.1.length ≤ c) →
    ∃ y7 y8 y9 y10, whileL (t2 (cmpB neD) (eVar 5) (eLst aNil)) q_law_b1 f ⟨[o0, o1, o2, o3, o4, some (.lst ((st.reverse).map (nodD n))), some (.lst (fnd.map NDl)), o7, o8, o9, o10, o11, o12, o13, o14], m⟩ = .next ⟨[o0, o1, o2, o3, o4, some (.lst []), some (.lst (res.map NDl)), y7, y8, y9, y10, o11, o12, o13, o14], m⟩
  | 0, st, fnd, res, c, o7, o8, o9, o10, o11, o12, o13, o14, hw, _, _, _, _ => by simp [wk] at hw
  | f + 1, [], fnd, res, c, o7, o8, o9, o10, o11, o12, o13, o14, hw, _, _, _, _ => by
    simp only [wk, Option.some.injEq] at hw
    subst hw
    refine ⟨o7, o8, o9, o10, ?_⟩
    have hq := eq_nods n []
    simp only [List.map_nil, decide_true] at hq
    simp [whileL, t2, cmpB, eVar, eLst, aNil, R.bind, R.then, neD, hq]
  | f + 1, (row, s) :: st, fnd, res, c, o7, o8, o9, o10, o11, o12, o13, o14, hw, hc, hst, hfn, hrow => by
    rw [wk] at hw
    split at hw
    · rename_i hs
      have hr := hrow (row, s) (by simp)
      simp only at hr
      have step := lw_step h0 hn hs (st := st) (fnd := fnd) (row := row) (by simp only [List.length_cons] at hst; omega) (by omega) (by omega) (o0 := o0) (o1 := o1) (o2 := o2) (o3 := o3) (o4 := o4) (o7 := o7) (o8 := o8) (o9 := o9) (o10 := o10) (o11 := o11) (o12 := o12) (o13 := o13) (o14 := o14) hm
      have hul : (upsM n s.2).length ≤ 60 := Nat.le_trans ups_len hn
      obtain ⟨y7, y8, y9, y10, e⟩ := lw_loop h0 hn (o0 := o0) (o1 := o1) (o2 := o2) (o3 := o3) (o4 := o4) hm f _ _ res (c + 1) (some (NDl row)) (some (wD n s.1)) (some (wD n s.2)) (some (.lst (nD (upsM n s.2)))) o11 o12 o13 o14 hw (by omega) (by
          simp only [List.length_append, List.length_reverse, List.length_map, List.length_cons] at hst ⊢
          omega) (by
          split
          · simp; omega
          · omega) (fun x hx => by
          rcases List.mem_append.1 hx with hx | hx
          · rw [List.mem_reverse, List.mem_map] at hx
            obtain ⟨k, _, rfl⟩ := hx
            simp; omega
          · have := hrow x (List.mem_cons_of_mem _ hx)
            omega)
      refine ⟨y7, y8, y9, y10, ?_⟩
      rw [whileL]
      have hq := eq_nods n ((row, s) :: st).reverse
      have hne : ¬ ((row, s) :: st).reverse = [] := by simp
      have hcond : t2 (cmpB neD) (eVar 5) (eLst aNil) ⟨[o0, o1, o2, o3, o4, some (.lst ((((row, s) :: st).reverse).map (nodD n))), some (.lst (fnd.map NDl)), o7, o8, o9, o10, o11, o12, o13, o14], m⟩ = .ok true ⟨[o0, o1, o2, o3, o4, some (.lst ((((row, s) :: st).reverse).map (nodD n))), some (.lst (fnd.map NDl)), o7, o8, o9, o10, o11, o12, o13, o14], m⟩ := by
        rw [decide_eq_false hne] at hq
        obtain ⟨SD, hSD⟩ : ∃ SD, SD = D.lst ((((row, s) :: st).reverse).map (nodD n)) := ⟨_, rfl⟩
        rw [← hSD] at hq ⊢
        simp [t2, cmpB, eVar, eLst, aNil, R.bind, neD, hq]
      rw [hcond]
      simp only [R.then, if_true, step]
      exact e
    · cases hw
end A15
set_option linter.all false
set_option maxRecDepth 10000
namespace A15
open PySem PySem.Spec PyProof.Rows L2 DL
/-! what is found: green to the end, and every part of it green, never done early -/
section
variable {n : Nat}
theorem go_snoc {k : Nat} : ∀ {row : List Nat} {s : WT}, Go n s row → k < n → okS n (lastW n s row) = true → Go n s (row ++ [k])
  | [], s, _, hk, ho => ⟨hk, ho, True.intro⟩
  | p :: row, s, h, hk, ho => ⟨h.1, h.2.1, go_snoc (s := stp n s p) h.2.2 hk ho⟩
theorem grn_snoc {k : Nat} : ∀ {row : List Nat} {s : WT}, grn n s (row ++ [k]) = (grn n s row && upM n (lastW n s row).2 k)
  | [], s => by simp [grn, lastW]
  | p :: row, s => by
    have ih := grn_snoc (k := k) (row := row) (s := stp n s p)
    rw [List.cons_append, grn, ih, grn, Bool.and_assoc]
    rfl
theorem last_snoc {k : Nat} (row : List Nat) (s : WT) : lastW n s (row ++ [k]) = stp n (lastW n s row) k := by
  simp [lastW]
theorem mem_ups {w : Web} {p : Nat} : p ∈ upsM n w ↔ p < n ∧ upM n w p = true := by
  simp [upsM, upsF, upM]
theorem go_take : ∀ (row : List Nat) (s : WT), Go n s row → grn n s row = true → ∀ k, Go n s (row.take k) ∧ grn n s (row.take k) = true ∧ (k < row.length → upsM n (lastW n s (row.take k)).2 ≠ [])
  | [], s, h, hg, k => by simp [Go, grn]
  | p :: row, s, h, hg, 0 => by
    rw [grn, Bool.and_eq_true] at hg
    refine ⟨by simp [Go], by simp [grn], fun _ e => ?_⟩
    have : p ∈ upsM n s.2 := mem_ups.2 ⟨h.1, hg.1⟩
    have e' : upsM n s.2 = [] := e
    rw [e'] at this
    cases this
  | p :: row, s, h, hg, k + 1 => by
    rw [grn, Bool.and_eq_true] at hg
    obtain ⟨a, b, c⟩ := go_take row (stp n s p) h.2.2 hg.2 k
    refine ⟨⟨h.1, h.2.1, a⟩, ?_, fun hk => ?_⟩
    · rw [List.take_succ_cons, grn, hg.1, b]
      rfl
    · exact c (by simpa using hk)
structure Good (n : Nat) (s0 : WT) (x : Node) : Prop where
  go : Go n s0 x.1
  gr : grn n s0 x.1 = true
  la : lastW n s0 x.1 = x.2
structure Full (n : Nat) (s0 : WT) (r : List Nat) : Prop where
  go : Go n s0 r
  gr : grn n s0 r = true
  up : upsM n (lastW n s0 r).2 = []
theorem wk_full {s0 : WT} : ∀ (f : Nat) (st : List Node) (fnd res : List (List Nat)), wk n f st fnd = some res → (∀ x ∈ st, Good n s0 x) → (∀ r ∈ fnd, Full n s0 r) → ∀ r ∈ res, Full n s0 r
  | 0, st, fnd, res, h, _, _ => by simp [wk] at h
  | f + 1, [], fnd, res, h, _, hf => by
    simp only [wk, Option.some.injEq] at h
    subst h
    exact hf
  | f + 1, (row, s) :: st, fnd, res, h, hg, hf => by
    rw [wk] at h
    split at h
    · rename_i hs
      have g := hg (row, s) (by simp)
      refine wk_full f _ _ res h (fun x hx => ?_) (fun r hr => ?_)
      · rcases List.mem_append.1 hx with hx | hx
        · rw [List.mem_reverse, List.mem_map] at hx
          obtain ⟨k, hk, rfl⟩ := hx
          have hk' := mem_ups.1 hk
          have gl : lastW n s0 row = s := g.la
          refine ⟨go_snoc g.go hk'.1 (by rw [gl]; exact hs), ?_, ?_⟩
          · show grn n s0 (row ++ [k]) = true
            rw [grn_snoc, gl, hk'.2, Bool.and_true]
            exact g.gr
          · show lastW n s0 (row ++ [k]) = stp n s k
            rw [last_snoc, gl]
        · exact hg x (List.mem_cons_of_mem _ hx)
      · split at hr
        · rename_i hu
          rcases List.mem_append.1 hr with hr | hr
          · exact hf r hr
          · rw [List.mem_singleton.1 hr]
            have gl : lastW n s0 row = s := g.la
            exact ⟨g.go, g.gr, by rw [gl]; exact hu⟩
        · exact hf r hr
    · cases h
end
theorem cutT (xs : List D) (j : Nat) : cutG xs none (some (j : Int)) = xs.take j := by
  unfold cutG
  rw [HT.sIx_none, show HT.sIx xs.length xs.length (some (j : Int)) = min j xs.length from HT.sIx_nat _ _ j]
  simp [List.take_take]
/-- one row asked -/
theorem lq_b2 {n : Nat} (h0 : 0 < n) (hn : n ≤ 60) {w : Web} {wt : Nat → Nat} (sk : SkF n (bW w) wt) {r : List Nat} (hf : Full n (w, unM n) r) (hz : r.length ≤ 900) {k : Nat} (hk : k < 900000) {m : List Cell} (t : TM k m) {o0 o2 o3 o5 o6 o7 o8 o9 o10 o11 o13 o14 : Option D} :
    ∃ y11 y14 m', q_law_b2 ⟨[o0, some (.ref 0), o2, o3, some (wD n w), o5, o6, o7, o8, o9, o10, o11, some (NDl r), o13, o14], m⟩ = .next ⟨[o0, some (.ref 0), o2, o3, some (wD n w), o5, o6, o7, o8, o9, o10, y11, some (NDl r), o13, y14], m'⟩ ∧ TM (k + 1) m' := by
  obtain ⟨j, m', et, j0, j1, t', _⟩ := e_takeM (by omega) t (w := ((r.length : Int) + 1)) (by omega) (by
    have : ((r.length : Int) + 1) ≤ 901 := by omega
    exact Int.lt_of_le_of_lt this (by decide))
  obtain ⟨j, rfl⟩ : ∃ i : Nat, j = i := ⟨j.toNat, by omega⟩
  have hj : j ≤ r.length := by omega
  have hm' := (TM.good t').1
  obtain ⟨t1, t2', t3⟩ := go_take r _ hf.go hf.gr j
  have htz : (r.take j).length ≤ 900 := by rw [List.length_take]; omega
  have c1 := e_isfull h0 hn sk hf.go hz hf.gr m' hm'
  rw [decide_eq_true hf.up] at c1
  have c2 := e_isgreen h0 hn sk hf.go hz m' hm'
  rw [hf.gr] at c2
  have c3 := e_isgreen h0 hn sk t1 htz m' hm'
  rw [t2'] at c3
  have c4 := e_isfull h0 hn sk t1 htz t2' m' hm'
  have hd : decide (upsM n (lastW n (w, unM n) (r.take j)).2 = []) = ((j : Int) == (r.length : Int)) := by
    by_cases hjl : j = r.length
    · subst hjl
      rw [List.take_length, decide_eq_true hf.up]
      simp
    · rw [decide_eq_false (t3 (by omega))]
      have : ¬ (j : Int) = (r.length : Int) := by omega
      exact (beq_eq_false_iff_ne.2 this).symm
  rw [hd] at c4
  obtain ⟨B, hB⟩ : ∃ B, B = ((j : Int) == (r.length : Int)) := ⟨_, rfl⟩
  rw [← hB] at c4
  have hsl : ∀ st, slD (NDl r) none (some (j : Int)) st = .ok (NDl (r.take j)) st := fun st => by
    simp only [NDl, slD, cutT, nD, List.map_take]
  have hlen : ∀ st, lenC (NDl r) st = .ok (.int r.length) st := fun st => by
    simp [NDl, lenC, lenD, nD]
  have hsame : m__law_same 8 [.lst [.bl true, .bl true, .bl true, .bl B], .lst [.bl true, .bl true, .bl true, .bl B]] m' = .ok (.bl true) m' := e_same 7 _ m' (by simp [good, goods, szl])
  refine ⟨some (.int (j : Int)), some (.lst [.bl true, .bl true, .bl true, .bl B]), m', ?_, t'⟩
  have o4 : (4 : Nat) ≤ sizeLine := by rw [szl]; decide
  have c1' : m_is_full_row [wD n w, NDl r] m' = .ok (.bl true) m' := c1
  have c2' : m_is_green_row [wD n w, NDl r] m' = .ok (.bl true) m' := c2
  have c3' : m_is_green_row [wD n w, NDl (r.take j)] m' = .ok (.bl true) m' := c3
  have c4' : m_is_full_row [wD n w, NDl (r.take j)] m' = .ok (.bl B) m' := c4
  obtain ⟨WD', hWD⟩ : ∃ WD', WD' = wD n w := ⟨_, rfl⟩
  obtain ⟨RD, hRD⟩ : ∃ RD, RD = NDl r := ⟨_, rfl⟩
  obtain ⟨TD, hTD⟩ : ∃ TD, TD = NDl (r.take j) := ⟨_, rfl⟩
  rw [← hWD, ← hRD] at c1' c2'
  rw [← hWD, ← hTD] at c3' c4'
  rw [← hRD] at hsl hlen
  rw [← hTD] at hsl
  rw [← hWD, ← hRD]
  unfold q_law_b2
  rw [seq_nx (s' := ⟨[o0, some (.ref 0), o2, o3, some WD', o5, o6, o7, o8, o9, o10, some (.int (j : Int)), some RD, o13, o14], m'⟩) (by
    simp [sAsg, asgD, eCallN, aCons, aNil, e1, e2, eC, eVar, addD, callR, R.bind, R.then, hlen, et])]
  rw [seq_nx (s' := ⟨[o0, some (.ref 0), o2, o3, some WD', o5, o6, o7, o8, o9, o10, some (.int (j : Int)), some RD, o13, some (.lst [.bl true, .bl true, .bl true, .bl B])], m'⟩) (by
    simp [sAsg, asgD, eLst, eCallN, aCons, aNil, e1, e2, eC, eVar, eSl, pNone, pSome, callR, R.bind, R.then, hsl, c1', c2', c3', c4', o4])]
  simp [sIf, tNotS, tTru, eLst, eCallN, aCons, aNil, e1, e2, eC, eVar, callR, R.bind, R.then, hlen, cmpD, eqI, ← hB, o4, hsame, truB, truD, sNil]
theorem lq_loop {n : Nat} (h0 : 0 < n) (hn : n ≤ 60) {w : Web} {wt : Nat → Nat} (sk : SkF n (bW w) wt) {o0 o2 o3 o5 o6 o7 o8 o9 o10 o13 : Option D} : ∀ (l : List (List Nat)) (k : Nat) (m : List Cell) (o11 o12 o14 : Option D), (∀ r ∈ l, Full n (w, unM n) r ∧ r.length ≤ 900) → k + l.length < 900000 → TM k m →
    ∃ y11 y12 y14 m', forL (.one 12) q_law_b2 (l.map NDl) ⟨[o0, some (.ref 0), o2, o3, some (wD n w), o5, o6, o7, o8, o9, o10, o11, o12, o13, o14], m⟩ = .next ⟨[o0, some (.ref 0), o2, o3, some (wD n w), o5, o6, o7, o8, o9, o10, y11, y12, o13, y14], m'⟩ ∧ TM (k + l.length) m'
  | [], k, m, o11, o12, o14, _, _, t => ⟨o11, o12, o14, m, rfl, t⟩
  | r :: l, k, m, o11, o12, o14, hl, hk, t => by
    simp only [List.length_cons] at hk
    obtain ⟨hf, hz⟩ := hl r (by simp)
    obtain ⟨z11, z14, m1, e1', t1⟩ := lq_b2 h0 hn sk hf hz (by omega) t (o0 := o0) (o2 := o2) (o3 := o3) (o5 := o5) (o6 := o6) (o7 := o7) (o8 := o8) (o9 := o9) (o10 := o10) (o11 := o11) (o13 := o13) (o14 := o14)
    obtain ⟨y11, y12, y14, m', e, t'⟩ := lq_loop h0 hn sk (o0 := o0) (o2 := o2) (o3 := o3) (o5 := o5) (o6 := o6) (o7 := o7) (o8 := o8) (o9 := o9) (o10 := o10) (o13 := o13) l (k + 1) m1 z11 (some (NDl r)) z14 (fun x hx => hl x (List.mem_cons_of_mem _ hx)) (by omega) t1
    refine ⟨y11, y12, y14, m', ?_, by rw [show k + (r :: l).length = k + 1 + l.length by simp; omega]; exact t'⟩
    rw [List.map_cons, forL]
    simp only [asgD, List.set_cons_succ, List.set_cons_zero, e1']
    exact e
end A15
set_option linter.all false
set_option maxRecDepth 10000
namespace A15
open PySem PySem.Spec PyProof.Rows L2 DL
/-! the search, level by level -/
def nodS (n : Nat) (x : Node) : D := .tup [wD n x.2.1, wD n x.2.2, NDl x.1]
def sObj (m : List Cell) (lv : List D) : Cell := .obj 3 [("level", .lst lv), ("met", .ref (m.length + 1))]
def SM (m : List Cell) (lv : List D) (kvs : List (D × D)) : List Cell := m ++ [sObj m lv, .dit kvs]
section
variable {m : List Cell} {lv : List D} {kvs : List (D × D)} {r : List (Option D)}
theorem sm_obj : (SM m lv kvs)[m.length]? = some (sObj m lv) := by simp [SM]
theorem sm_dit : (SM m lv kvs)[m.length + 1]? = some (.dit kvs) := by simp [SM]
theorem f_level : fldD 3 "level" (.ref m.length) ⟨r, SM m lv kvs⟩ = .ok (.lst lv) ⟨r, SM m lv kvs⟩ := by
  simp only [fldD, mObj, sm_obj, sObj, if_true]
  rfl
theorem f_met : fldD 3 "met" (.ref m.length) ⟨r, SM m lv kvs⟩ = .ok (.ref (m.length + 1)) ⟨r, SM m lv kvs⟩ := by
  simp only [fldD, mObj, sm_obj, sObj, if_true]
  rfl
theorem sm_setd (k2 : List (D × D)) : (SM m lv kvs).set (m.length + 1) (.dit k2) = SM m lv k2 := by
  simp [SM]
theorem sm_seto (l2 : List D) : (SM m lv kvs).set m.length (.obj 3 (putFD "level" (.lst l2) [("level", .lst lv), ("met", .ref (m.length + 1))])) = SM m l2 kvs := by
  simp [SM, sObj, putFD]
theorem m_dit : mDit ⟨r, SM m lv kvs⟩ (m.length + 1) = some kvs := by
  simp only [mDit, sm_dit]
end
def kD (n : Nat) (s : WT) : D := .tup [wD n s.1, wD n s.2]
/-- one neighbour met -/
def vis (n : Nat) (row : List Nat) (s : WT) (k : Nat) (a : List Node × List (D × D)) : Option (List Node × List (D × D)) :=
  if okS n s = true then (match keyT (kD n (stp n s k)) with
    | none => none
    | some kk => if (valT a.2 kk).isSome = true then some a else if a.2.length < 5000 then some (a.1 ++ [(row ++ [k], stp n s k)], putT a.2 (kD n (stp n s k)) kk (.bl true)) else none) else none
def visL (n : Nat) (row : List Nat) (s : WT) : List Nat → List Node × List (D × D) → Option (List Node × List (D × D))
  | [], a => some a
  | k :: l, a => (match vis n row s k a with
    | some a' => visL n row s l a'
    | none => none)
def lvl (n : Nat) : List Node → List Node × List (D × D) → Option (List Node × List (D × D))
  | [], a => some a
  | x :: l, a => (match visL n x.1 x.2 (upsM n x.2.2) a with
    | some a' => lvl n l a'
    | none => none)
def bfs (n : Nat) : Nat → List Node → List (D × D) → Option (List Nat)
  | 0, _, _ => none
  | f + 1, lv, kvs => if lv = [] then none else if 1600 < lv.length then none else (match lv.filter fun x => decide (upsM n x.2.2 = []) with
    | x :: _ => some x.1
    | [] => (match lvl n lv ([], kvs) with
      | some a => if a.2.length ≤ 2000 then bfs n f a.1 a.2 else none
      | none => none))
theorem vis_len {n : Nat} {row : List Nat} {s : WT} {k : Nat} {a a' : List Node × List (D × D)} (h : vis n row s k a = some a') : a'.1.length ≤ a.1.length + 1 := by
  unfold vis at h
  split at h
  · split at h
    · cases h
    · split at h
      · cases h; omega
      · split at h
        · cases h; simp
        · cases h
  · cases h
theorem vis_rows {n : Nat} {row : List Nat} {s : WT} {k c : Nat} {a a' : List Node × List (D × D)} (h : vis n row s k a = some a') (hr : row.length < c) (ha : ∀ x ∈ a.1, x.1.length ≤ c) : ∀ x ∈ a'.1, x.1.length ≤ c := by
  unfold vis at h
  split at h
  · split at h
    · cases h
    · split at h
      · cases h; exact ha
      · split at h
        · cases h
          intro x hx
          rcases List.mem_append.1 hx with hx | hx
          · exact ha x hx
          · rw [List.mem_singleton.1 hx]
            simp; omega
        · cases h
  · cases h
section
variable {n : Nat} {m : List Cell} {lv : List D}
theorem go_b1 (hn : n ≤ 60) {row : List Nat} (hrl : row.length ≤ 900) {s : WT} {k : Nat} (hk : k < n) {a a' : List Node × List (D × D)} (hv : vis n row s k a = some a') (hal : a.1.length ≤ 100000) {o6 o7 : Option D} :
    ∃ y6 y7, q_Search_go_on_b1 ⟨[some (.ref m.length), some (.lst (a.1.map (nodS n))), some (wD n s.1), some (wD n s.2), some (NDl row), some (nI k), o6, o7], SM m lv a.2⟩ = .next ⟨[some (.ref m.length), some (.lst (a'.1.map (nodS n))), some (wD n s.1), some (wD n s.2), some (NDl row), some (nI k), y6, y7], SM m lv a'.2⟩ := by
  refine ⟨some (wD n (stp n s k).1), some (wD n (stp n s k).2), ?_⟩
  unfold vis at hv
  split at hv
  case isFalse => cases hv
  rename_i hs
  have e1' := fun M => hinge_M hn hs hk M
  have e2' := fun M => shade_M hn hs hk M
  have o2' : (2 : Nat) ≤ sizeLine := by rw [szl]; decide
  have o3' : (3 : Nat) ≤ sizeLine := by rw [szl]; decide
  have o1' : (1 : Nat) ≤ sizeLine := by rw [szl]; decide
  have hrl' : (nD row).length + 1 ≤ sizeLine := by rw [szl, nD_len]; omega
  have ea : ∀ st, addD (NDl row) (.tup [nI k]) st = .ok (NDl (row ++ [k])) st := fun st => by
    simp only [NDl, addD, List.length_cons, List.length_nil]
    rw [if_pos (by simpa using hrl')]
    simp [nD]
  have hnod : nodS n (row ++ [k], stp n s k) = .tup [wD n (stp n s k).1, wD n (stp n s k).2, NDl (row ++ [k])] := rfl
  unfold q_Search_go_on_b1
  unfold kD at hv
  obtain ⟨W1, hW1⟩ : ∃ W1, W1 = wD n s.1 := ⟨_, rfl⟩
  obtain ⟨W2, hW2⟩ : ∃ W2, W2 = wD n s.2 := ⟨_, rfl⟩
  obtain ⟨W3, hW3⟩ : ∃ W3, W3 = wD n (stp n s k).1 := ⟨_, rfl⟩
  obtain ⟨W4, hW4⟩ : ∃ W4, W4 = wD n (stp n s k).2 := ⟨_, rfl⟩
  obtain ⟨RD, hRD⟩ : ∃ RD, RD = NDl row := ⟨_, rfl⟩
  obtain ⟨RE, hRE⟩ : ∃ RE, RE = NDl (row ++ [k]) := ⟨_, rfl⟩
  rw [← hW1, ← hW3] at e1'
  rw [← hW1, ← hW2, ← hW4] at e2'
  rw [← hRD, ← hRE] at ea
  rw [← hW3, ← hW4, ← hRE] at hnod
  rw [← hW3, ← hW4] at hv
  rw [← hW1, ← hW2, ← hW3, ← hW4, ← hRD]
  rw [seq_nx (s' := ⟨[some (.ref m.length), some (.lst (a.1.map (nodS n))), some W1, some W2, some RD, some (nI k), some W3, some W4], SM m lv a.2⟩) (by
    simp [sPar, asgD, eCallN, aCons, aNil, eVar, callR, R.bind, R.then, e1', e2'])]
  split at hv
  case h_1 => cases hv
  rename_i kk hkk
  have hin : e2 (tinD true) (eTup (aCons (eVar 6) (aCons (eVar 7) aNil))) (e1 (fldD 3 "met") (eVar 0)) ⟨[some (.ref m.length), some (.lst (a.1.map (nodS n))), some W1, some W2, some RD, some (nI k), some W3, some W4], SM m lv a.2⟩ = .ok (.bl (!(valT a.2 kk).isSome)) ⟨[some (.ref m.length), some (.lst (a.1.map (nodS n))), some W1, some W2, some RD, some (nI k), some W3, some W4], SM m lv a.2⟩ := by
    simp only [e2, e1, eTup, aCons, aNil, eVar, R.bind, List.getD_cons_succ, List.getD_cons_zero, List.length_cons, List.length_nil, o2', if_true, f_met, tinD, hkk, m_dit]
  by_cases hsome : (valT a.2 kk).isSome = true
  · rw [if_pos hsome] at hv
    cases hv
    simp only [sIf, toB, hin, hsome, R.bind, R.then, Bool.not_true, Bool.false_eq_true, if_false, sNil]
  · rw [if_neg hsome] at hv
    split at hv
    case isFalse => cases hv
    rename_i h5
    cases hv
    have hsf : (valT a.2 kk).isSome = false := by simpa using hsome
    have h5' : a.2.length < sizeLine := by rw [szl]; omega
    have ha' : (a.1.map (nodS n)).length < sizeLine := by rw [szl, List.length_map]; omega
    simp only [sIf, toB, hin, hsf, R.bind, R.then, Bool.not_false, if_true]
    rw [seq_nx (s' := ⟨[some (.ref m.length), some (.lst (a.1.map (nodS n))), some W1, some W2, some RD, some (nI k), some W3, some W4], SM m lv (putT a.2 (.tup [W3, W4]) kk (.bl true))⟩) (by
      simp only [sTput, e1, eTup, aCons, aNil, eVar, eC, R.bind, R.then, List.getD_cons_succ, List.getD_cons_zero, List.length_cons, List.length_nil, o2', if_true, f_met, hkk, m_dit, h5', sm_setd])]
    rw [List.map_append, List.map_cons, List.map_nil, hnod]
    simp only [sApp, e2, eTup, aCons, aNil, eVar, R.bind, R.then, List.getD_cons_succ, List.getD_cons_zero, List.length_cons, List.length_nil, o1', o3', if_true, ea, ha', List.set_cons_succ, List.set_cons_zero]
theorem go_in (hn : n ≤ 60) {row : List Nat} (hrl : row.length ≤ 900) {s : WT} : ∀ (l : List Nat) (a a' : List Node × List (D × D)) (o5 o6 o7 : Option D), (∀ k ∈ l, k < n) → visL n row s l a = some a' → a.1.length + l.length ≤ 100000 →
    ∃ y5 y6 y7, forL (.one 5) q_Search_go_on_b1 (nD l) ⟨[some (.ref m.length), some (.lst (a.1.map (nodS n))), some (wD n s.1), some (wD n s.2), some (NDl row), o5, o6, o7], SM m lv a.2⟩ = .next ⟨[some (.ref m.length), some (.lst (a'.1.map (nodS n))), some (wD n s.1), some (wD n s.2), some (NDl row), y5, y6, y7], SM m lv a'.2⟩ ∧ a'.1.length ≤ a.1.length + l.length
  | [], a, a', o5, o6, o7, _, h, _ => by
    simp only [visL, Option.some.injEq] at h
    subst h
    exact ⟨o5, o6, o7, rfl, by simp⟩
  | k :: l, a, a', o5, o6, o7, hl, h, hz => by
    simp only [List.length_cons] at hz
    rw [visL] at h
    split at h
    case h_2 => cases h
    rename_i a1 hv
    obtain ⟨z6, z7, e1'⟩ := go_b1 (m := m) (lv := lv) hn hrl (hl k (by simp)) hv (by omega) (o6 := o6) (o7 := o7)
    have hlen := vis_len hv
    obtain ⟨y5, y6, y7, e, hlen2⟩ := go_in hn hrl l a1 a' (some (nI k)) z6 z7 (fun x hx => hl x (List.mem_cons_of_mem _ hx)) h (by omega)
    refine ⟨y5, y6, y7, ?_, by simp only [List.length_cons]; omega⟩
    rw [show nD (k :: l) = nI k :: nD l from rfl, forL]
    simp only [asgD, List.set_cons_succ, List.set_cons_zero, e1']
    exact e
theorem visL_rows {row : List Nat} {s : WT} {c : Nat} : ∀ (l : List Nat) (a a' : List Node × List (D × D)), visL n row s l a = some a' → row.length < c → (∀ x ∈ a.1, x.1.length ≤ c) → ∀ x ∈ a'.1, x.1.length ≤ c
  | [], a, a', h, _, ha => by
    simp only [visL, Option.some.injEq] at h
    subst h
    exact ha
  | k :: l, a, a', h, hr, ha => by
    rw [visL] at h
    split at h
    case h_2 => cases h
    rename_i a1 hv
    exact visL_rows l a1 a' h hr (vis_rows hv hr ha)
theorem go_out (hn : n ≤ 60) {c : Nat} (hc : c ≤ 900) : ∀ (l : List Node) (a a' : List Node × List (D × D)) (o2 o3 o4 o5 o6 o7 : Option D), (∀ x ∈ l, x.1.length < c) → lvl n l a = some a' → a.1.length + 60 * l.length ≤ 100000 → (∀ x ∈ a.1, x.1.length ≤ c) →
    ∃ y2 y3 y4 y5 y6 y7, forL (.many [2, 3, 4]) q_Search_go_on_b2 (l.map (nodS n)) ⟨[some (.ref m.length), some (.lst (a.1.map (nodS n))), o2, o3, o4, o5, o6, o7], SM m lv a.2⟩ = .next ⟨[some (.ref m.length), some (.lst (a'.1.map (nodS n))), y2, y3, y4, y5, y6, y7], SM m lv a'.2⟩ ∧ a'.1.length ≤ a.1.length + 60 * l.length ∧ ∀ x ∈ a'.1, x.1.length ≤ c
  | [], a, a', o2, o3, o4, o5, o6, o7, _, h, _, hr => by
    simp only [lvl, Option.some.injEq] at h
    subst h
    exact ⟨o2, o3, o4, o5, o6, o7, rfl, by simp, hr⟩
  | x :: l, a, a', o2, o3, o4, o5, o6, o7, hl, h, hz, hr => by
    simp only [List.length_cons] at hz
    rw [lvl] at h
    split at h
    case h_2 => cases h
    rename_i a1 hv
    have hxl := hl x (by simp)
    have hul : (upsM n x.2.2).length ≤ 60 := Nat.le_trans ups_len hn
    obtain ⟨z5, z6, z7, e1', hlen⟩ := go_in (m := m) (lv := lv) hn (row := x.1) (by omega) (s := x.2) (upsM n x.2.2) a a1 o5 o6 o7 ups_lt hv (by omega)
    obtain ⟨y2, y3, y4, y5, y6, y7, e, hlen2, hr2⟩ := go_out hn hc l a1 a' (some (wD n x.2.1)) (some (wD n x.2.2)) (some (NDl x.1)) z5 z6 z7 (fun y hy => hl y (List.mem_cons_of_mem _ hy)) h (by omega) (visL_rows _ a a1 hv hxl hr)
    refine ⟨y2, y3, y4, y5, y6, y7, ?_, by simp only [List.length_cons]; omega, hr2⟩
    have eg : ∀ M, m_green_in [wD n x.2.2] M = .ok (.tup (nD (upsM n x.2.2))) M := fun M => e_greenin hn _ M
    have hb2 : q_Search_go_on_b2 ⟨[some (.ref m.length), some (.lst (a.1.map (nodS n))), some (wD n x.2.1), some (wD n x.2.2), some (NDl x.1), o5, o6, o7], SM m lv a.2⟩ = .next ⟨[some (.ref m.length), some (.lst (a1.1.map (nodS n))), some (wD n x.2.1), some (wD n x.2.2), some (NDl x.1), z5, z6, z7], SM m lv a1.2⟩ := by
      rw [← e1']
      unfold q_Search_go_on_b2 sFor i1 eCallN aCons aNil eVar
      simp only [R.bind, R.then, List.getD_cons_succ, List.getD_cons_zero, List.length_cons, List.length_nil, if_true, callR, eg, seqI]
    rw [List.map_cons, forL]
    simp only [nodS, asgD, DL.setL, List.length_cons, List.length_nil, List.set_cons_succ, List.set_cons_zero, if_true, hb2]
    exact e
theorem e_goon (hn : n ≤ 60) {c : Nat} (hc : c ≤ 900) {l : List Node} {kvs : List (D × D)} {a' : List Node × List (D × D)} (hl : ∀ x ∈ l, x.1.length < c) (h : lvl n l ([], kvs) = some a') (hz : l.length ≤ 1600) (h2 : a'.2.length ≤ 2000) :
    m_Search_go_on [.ref m.length] (SM m (l.map (nodS n)) kvs) = .ok .non (SM m (a'.1.map (nodS n)) a'.2) ∧ ∀ x ∈ a'.1, x.1.length ≤ c := by
  obtain ⟨y2, y3, y4, y5, y6, y7, e, _, hr⟩ := go_out (m := m) (lv := l.map (nodS n)) hn hc l ([], kvs) a' none none none none none none hl h (by simp; omega) (fun x hx => (List.not_mem_nil hx).elim)
  refine ⟨?_, hr⟩
  have h2' : a'.2.length ≤ sizeLine := by rw [szl]; omega
  have hms : d_MOST_STANDS = .int 2000 := rfl
  simp only [m_Search_go_on, q_Search_go_on, mkF]
  rw [seq_nx (s' := ⟨[some (.ref m.length), some (.lst []), none, none, none, none, none, none], SM m (l.map (nodS n)) kvs⟩) (by rfl)]
  rw [seq_nx (s' := ⟨[some (.ref m.length), some (.lst (a'.1.map (nodS n))), y2, y3, y4, y5, y6, y7], SM m (l.map (nodS n)) a'.2⟩) (by
    rw [← e]
    unfold sFor i1 e1 eVar
    simp only [R.bind, R.then, List.getD_cons_succ, List.getD_cons_zero, f_level, seqI]
    rfl)]
  rw [seq_nx (s' := ⟨[some (.ref m.length), some (.lst (a'.1.map (nodS n))), y2, y3, y4, y5, y6, y7], SM m (l.map (nodS n)) a'.2⟩) (by
    have hlt : ltB (2000 : Int) (a'.2.length : Int) = false := by
      rw [ltB_eq]
      simp; omega
    simp only [sIf, t2, e1, eVar, eC, R.bind, R.then, List.getD_cons_succ, List.getD_cons_zero, f_met, lenT, m_dit, h2', if_true, hms, cmpB, iCmp, hlt, Bool.false_eq_true, if_false, sNil])]
  simp only [sFldS, eVar, R.then, List.getD_cons_succ, List.getD_cons_zero, mObj, sm_obj, sObj, if_true, List.length_cons, List.length_nil]
  rw [if_pos (by decide), sm_seto]
end
end A15
set_option linter.all false
set_option maxRecDepth 10000
namespace A15
open PySem PySem.Spec PyProof.Rows L2 DL
/-! the search, to its end; full_row -/
theorem lc_filt3 {α : Type} (i j k : Nat) (C : S → R Bool) (F : S → R D) (r : List (Option D)) (m : List Cell) (g1 g2 g3 h : α → D) (c : α → Bool) : ∀ l : List α, (∀ x ∈ l, C ⟨((((((r.set k none).set j none).set i none).set i (some (g1 x))).set j (some (g2 x))).set k (some (g3 x))), m⟩ = .ok (c x) ⟨((((((r.set k none).set j none).set i none).set i (some (g1 x))).set j (some (g2 x))).set k (some (g3 x))), m⟩ ∧ isOkM (F ⟨((((((r.set k none).set j none).set i none).set i (some (g1 x))).set j (some (g2 x))).set k (some (g3 x))), m⟩) (h x) m) → lcL (.many [i, j, k]) C F r (l.map fun x => D.tup [g1 x, g2 x, g3 x]) m = some ((l.filter c).map h, m)
  | [], _ => rfl
  | x :: l, hx => by
    obtain ⟨hc, hf⟩ := hx x (by simp)
    have ih := lc_filt3 i j k C F r m g1 g2 g3 h c l fun y hy => hx y (List.mem_cons_of_mem _ hy)
    rw [List.map_cons, lcL]
    simp only [asgD, DL.setL, Tg.vs, wipeD, List.length_cons, List.length_nil, if_true, hc]
    cases hcx : c x with
    | false => simp only [ih, List.filter_cons, hcx, Bool.false_eq_true, if_false]
    | true =>
      cases q : F ⟨((((((r.set k none).set j none).set i none).set i (some (g1 x))).set j (some (g2 x))).set k (some (g3 x))), m⟩ with
      | ok d s' =>
        rw [q] at hf
        obtain ⟨e, em⟩ := hf
        simp only [q, e, em, ih, List.filter_cons, hcx, if_true, List.map_cons]
      | raise e s => rw [q] at hf; exact hf.elim
      | stuck => rw [q] at hf; exact hf.elim
theorem ix_0 (d : D) (ds : List D) (st : S) : ixD (.lst (d :: ds)) (.int 0) st = .ok d st := by
  rw [show (0 : Int) = ((0 : Nat) : Int) from rfl, ixl, atN _ _ (by simp)]
  rfl
theorem mk_next {k : Nat} {q : S → RS} {ds : List D} {m : List Cell} {s : S} (h : q ⟨ds.map some ++ List.replicate (k - ds.length) none, m⟩ = .next s) : mkF k q ds m = .ok .non s.m := by
  unfold mkF
  rw [h]
def pNodS (n : Nat) (x : Node) : PyData := .tuple [pW n (bW x.2.1), pW n (bW x.2.2), .tuple (x.1.map fun q : Nat => PyData.int (q : Int))]
theorem toP_nodS (n : Nat) (x : Node) : toP (nodS n x) = some (pNodS n x) := by
  have a := toPs_n x.1
  have b := toP_web n (bW x.2.1)
  have c := toP_web n (bW x.2.2)
  simp only [nodS, NDl, toP, toPs, a, wD, b, c, Option.map_some, pNodS]
theorem lay_nodS (n : Nat) (x : Node) : (pNodS n x).canLay0 = true := by
  have a := lay_n x.1
  simp only [pNodS, PyData.canLay0, PyData.canLayAll0, a, lay_web, Bool.and_self]
theorem dep_nodS (n : Nat) (x : Node) : (pNodS n x).depth ≤ 6 := by
  have a := dep_n x.1
  have b := dep_web n (bW x.2.1)
  have c := dep_web n (bW x.2.2)
  simp only [pNodS, PyData.depth, PyData.depthAll]
  omega
theorem eq_nodsS (n : Nat) (l : List Node) : eqD (.lst (l.map (nodS n))) (.lst []) = some (decide (l = [])) :=
  eqNilL (nodS n) (pNodS n) l (fun x _ => toP_nodS n x) (fun x _ => lay_nodS n x) fun x _ => dep_nodS n x
theorem eq_rows (l : List (List Nat)) : eqD (.lst (l.map NDl)) (.lst []) = some (decide (l = [])) :=
  eqNilL NDl (fun x => .tuple (x.map fun q : Nat => PyData.int (q : Int))) l (fun x _ => by simp only [NDl, toP, toPs_n, Option.map_some]) (fun x _ => by simp only [PyData.canLay0, lay_n]) fun x _ => by
    have := dep_n x
    simp only [PyData.depth]
    omega
section
variable {n : Nat} {m : List Cell}
theorem fo_body (hn : n ≤ 60) (lv : List Node) (hz : lv.length ≤ 1600) (kvs : List (D × D)) {o1 : Option D} :
    eLc (i1 seqI (e1 (fldD 3 "level") (eVar 0))) (.many [2, 3, 4]) (t2 (cmpB eqD) (eCallN 1 m_green_in (aCons (eVar 3) aNil)) (eTup aNil)) (eVar 4) ⟨[some (.ref m.length), o1, none, none, none], SM m (lv.map (nodS n)) kvs⟩ = .ok (.lst ((lv.filter fun x => decide (upsM n x.2.2 = [])).map fun x => NDl x.1)) ⟨[some (.ref m.length), o1, none, none, none], SM m (lv.map (nodS n)) kvs⟩ := by
  have lc := lc_filt3 2 3 4 (t2 (cmpB eqD) (eCallN 1 m_green_in (aCons (eVar 3) aNil)) (eTup aNil)) (eVar 4) [some (.ref m.length), o1, none, none, none] (SM m (lv.map (nodS n)) kvs) (fun x : Node => wD n x.2.1) (fun x => wD n x.2.2) (fun x => NDl x.1) (fun x => NDl x.1) (fun x => decide (upsM n x.2.2 = [])) lv fun x hx => by
    have eg : ∀ M, m_green_in [wD n x.2.2] M = .ok (.tup (nD (upsM n x.2.2))) M := fun M => e_greenin hn _ M
    have hq := eqNil (upsM n x.2.2) (Nat.le_trans ups_len (by omega))
    obtain ⟨W1, hW1⟩ : ∃ W1, W1 = wD n x.2.1 := ⟨_, rfl⟩
    obtain ⟨W2, hW2⟩ : ∃ W2, W2 = wD n x.2.2 := ⟨_, rfl⟩
    obtain ⟨RD, hRD⟩ : ∃ RD, RD = NDl x.1 := ⟨_, rfl⟩
    obtain ⟨M, hM⟩ : ∃ M, M = SM m (lv.map (nodS n)) kvs := ⟨_, rfl⟩
    rw [← hW2] at eg
    simp only [← hW1, ← hW2, ← hRD, ← hM]
    simp only [List.set_cons_succ, List.set_cons_zero]
    have o0' : (0 : Nat) ≤ sizeLine := by rw [szl]; omega
    simp only [isOkM, t2, eCallN, aCons, aNil, eTup, eVar, R.bind, List.getD_cons_succ, List.getD_cons_zero, List.length_cons, List.length_nil, if_true, callR, eg, cmpB, o0', hq, and_self]
  have lc' : lcL (.many [2, 3, 4]) (t2 (cmpB eqD) (eCallN 1 m_green_in (aCons (eVar 3) aNil)) (eTup aNil)) (eVar 4) [some (.ref m.length), o1, none, none, none] (lv.map (nodS n)) (SM m (lv.map (nodS n)) kvs) = _ := lc
  obtain ⟨G, hG⟩ : ∃ G, G = t2 (cmpB eqD) (eCallN 1 m_green_in (aCons (eVar 3) aNil)) (eTup aNil) := ⟨_, rfl⟩
  rw [← hG] at lc' ⊢
  have hzz : (lv.map (nodS n)).length ≤ sizeLine := by rw [szl, List.length_map]; omega
  simp only [eLc, i1, e1, eVar, R.bind, R.then, List.getD_cons_succ, List.getD_cons_zero, f_level, seqI, lc', hzz, if_true]
theorem found_loop (hn : n ≤ 60) : ∀ (f : Nat) (lv : List Node) (kvs : List (D × D)) (c : Nat) (r : List Nat) (o1 : Option D), bfs n f lv kvs = some r → (∀ x ∈ lv, x.1.length < c) → c + f ≤ 900 →
    ∃ st', whileL (t2 (cmpB neD) (e1 (fldD 3 "level") (eVar 0)) (eLst aNil)) q_Search_found_b1 f ⟨[some (.ref m.length), o1, none, none, none], SM m (lv.map (nodS n)) kvs⟩ = .ret (NDl r) st' ∧ st'.m.take m.length = m
  | 0, lv, kvs, c, r, o1, h, _, _ => by simp [bfs] at h
  | f + 1, lv, kvs, c, r, o1, h, hl, hc => by
    rw [bfs] at h
    split at h
    · cases h
    rename_i hne
    split at h
    · cases h
    rename_i hz
    have hq := eq_nodsS n lv
    rw [decide_eq_false hne] at hq
    have hcond : t2 (cmpB neD) (e1 (fldD 3 "level") (eVar 0)) (eLst aNil) ⟨[some (.ref m.length), o1, none, none, none], SM m (lv.map (nodS n)) kvs⟩ = .ok true ⟨[some (.ref m.length), o1, none, none, none], SM m (lv.map (nodS n)) kvs⟩ := by
      have o0' : (0 : Nat) ≤ sizeLine := by rw [szl]; omega
      simp only [t2, e1, eVar, eLst, aNil, R.bind, R.then, List.getD_cons_succ, List.getD_cons_zero, f_level, List.length_nil, o0', if_true, cmpB, neD, hq, Option.map_some, Bool.not_false]
    have hb := fo_body (m := m) hn lv (by omega) kvs (o1 := o1)
    rw [whileL, hcond]
    simp only [R.then, if_true]
    obtain ⟨es, hes⟩ : ∃ es, es = lv.filter fun x => decide (upsM n x.2.2 = []) := ⟨_, rfl⟩
    rw [← hes] at h hb
    have hqe : eqD (.lst (es.map fun x => NDl x.1)) (.lst []) = some (decide (es = [])) := by
      have := eq_rows (es.map (·.1))
      rw [List.map_map] at this
      rw [show (es.map fun x => NDl x.1) = es.map (NDl ∘ fun x => x.1) from rfl, this]
      congr 1
      simp
    obtain ⟨EL, hEL⟩ : ∃ EL, EL = eLc (i1 seqI (e1 (fldD 3 "level") (eVar 0))) (.many [2, 3, 4]) (t2 (cmpB eqD) (eCallN 1 m_green_in (aCons (eVar 3) aNil)) (eTup aNil)) (eVar 4) := ⟨_, rfl⟩
    have step1 : sAsgF 1 EL ⟨[some (.ref m.length), o1, none, none, none], SM m (lv.map (nodS n)) kvs⟩ = .next ⟨[some (.ref m.length), some (.lst (es.map fun x => NDl x.1)), none, none, none], SM m (lv.map (nodS n)) kvs⟩ := by
      rw [← hEL] at hb
      unfold sAsgF
      rw [hb]
      rfl
    have hbd : q_Search_found_b1 ⟨[some (.ref m.length), o1, none, none, none], SM m (lv.map (nodS n)) kvs⟩ = sSeq (sIf (t2 (cmpB neD) (eVar 1) (eLst aNil)) (sRet (e2 ixD (eVar 1) (eC (.int 0)))) sNil) (sSeq (sDrop (eMeth 3 "go_on" 1 m_Search_go_on (eVar 0) aNil)) sNil) ⟨[some (.ref m.length), some (.lst (es.map fun x => NDl x.1)), none, none, none], SM m (lv.map (nodS n)) kvs⟩ := by
      unfold q_Search_found_b1
      rw [← hEL]
      exact seq_nx step1
    have o0' : (0 : Nat) ≤ sizeLine := by rw [szl]; omega
    cases hce : es with
    | cons x es' =>
      rw [hce] at h hqe hbd
      cases h
      refine ⟨⟨[some (.ref m.length), some (.lst ((x :: es').map fun x => NDl x.1)), none, none, none], SM m (lv.map (nodS n)) kvs⟩, ?_, by simp [SM]⟩
      have hix : ∀ st, ixD (.lst ((x :: es').map fun x => NDl x.1)) (.int 0) st = .ok (NDl x.1) st := fun st => ix_0 _ _ st
      obtain ⟨XL, hXL⟩ : ∃ XL, XL = D.lst ((x :: es').map fun x => NDl x.1) := ⟨_, rfl⟩
      rw [← hXL] at hqe hix hbd ⊢
      have hd : decide (x :: es' = []) = false := by simp
      rw [hd] at hqe
      have hret : q_Search_found_b1 ⟨[some (.ref m.length), o1, none, none, none], SM m (lv.map (nodS n)) kvs⟩ = .ret (NDl x.1) ⟨[some (.ref m.length), some XL, none, none, none], SM m (lv.map (nodS n)) kvs⟩ := by
        rw [hbd]
        simp only [sSeq, sIf, t2, eVar, eLst, aNil, R.bind, R.then, List.getD_cons_succ, List.getD_cons_zero, List.length_nil, o0', if_true, cmpB, neD, hqe, Option.map_some, Bool.not_false, sRet, e2, eC, hix]
      rw [hret]
    | nil =>
      rw [hce] at h hqe hbd
      simp only at h
      split at h
      case h_2 => cases h
      rename_i a ha
      split at h
      case isFalse => cases h
      rename_i h2
      obtain ⟨eg, hr⟩ := e_goon (m := m) hn (c := c) (by omega) hl ha (by omega) h2
      obtain ⟨st', e, ht⟩ := found_loop hn f a.1 a.2 (c + 1) r (some (.lst ([].map fun x : Node => NDl x.1))) h (fun x hx => by have := hr x hx; omega) (by omega)
      refine ⟨st', ?_, ht⟩
      have hio : DL.isObj 3 "go_on" (.ref m.length) ⟨[some (.ref m.length), some (.lst ([].map fun x : Node => NDl x.1)), none, none, none], SM m (lv.map (nodS n)) kvs⟩ = true := by
        simp only [DL.isObj, mObj, sm_obj, sObj, if_true]
        rfl
      have hd : decide (([] : List Node) = []) = true := by simp
      rw [hd] at hqe
      have hbody : q_Search_found_b1 ⟨[some (.ref m.length), o1, none, none, none], SM m (lv.map (nodS n)) kvs⟩ = .next ⟨[some (.ref m.length), some (.lst ([].map fun x : Node => NDl x.1)), none, none, none], SM m (a.1.map (nodS n)) a.2⟩ := by
        rw [hbd]
        simp only [sSeq, sIf, t2, eVar, eLst, aNil, R.bind, R.then, List.getD_cons_succ, List.getD_cons_zero, List.length_nil, List.length_cons, o0', if_true, cmpB, neD, hqe, Option.map_some, Bool.not_true, Bool.false_eq_true, if_false, sNil, sDrop, eMeth, hio, callR, eg]
      rw [hbody]
      exact e
theorem e_found (hn : n ≤ 60) {lv : List Node} {kvs : List (D × D)} {r : List Nat} (h : bfs n 64 lv kvs = some r) (hl : ∀ x ∈ lv, x.1.length < 1) :
    ∃ m', m_Search_found [.ref m.length] (SM m (lv.map (nodS n)) kvs) = .ok (NDl r) m' ∧ m'.take m.length = m := by
  obtain ⟨st', e, ht⟩ := found_loop (m := m) hn 64 lv kvs 1 r none h hl (by omega)
  refine ⟨st'.m, ?_, ht⟩
  simp only [m_Search_found, q_Search_found, mkF, sSeq, sWhile, fuel_Search_found, List.length_cons, List.length_nil, List.replicate, List.map_cons, List.map_nil, List.cons_append, List.nil_append, e]
theorem e_sinit (hn : n ≤ 60) (w : Web) (hk : (keyT (kD n (w, unM n))).isSome = true) : m_Search___init__ [.ref m.length, wD n w] (m ++ [.obj 3 []]) = .ok .non (SM m ([([], (w, unM n))].map (nodS n)) [(kD n (w, unM n), .bl true)]) := by
  have hlen : ∀ st, lenD (wD n w) st = .ok (.int n) st := fun st => lenF n _ st
  have ef : ∀ M, m_first_in [.int n] M = .ok (wD n (unM n)) M := fun M => by
    rw [wD_un]
    exact e_firstin hn M
  unfold kD at hk ⊢
  simp only [List.map_cons, List.map_nil, nodS]
  obtain ⟨W1, hW1⟩ : ∃ W1, W1 = wD n w := ⟨_, rfl⟩
  obtain ⟨W2, hW2⟩ : ∃ W2, W2 = wD n (unM n) := ⟨_, rfl⟩
  rw [← hW1, ← hW2] at hk
  rw [← hW1] at hlen
  rw [← hW2] at ef
  rw [← hW1, ← hW2]
  have o3' : (3 : Nat) ≤ sizeLine := by rw [szl]; decide
  have o2' : (2 : Nat) ≤ sizeLine := by rw [szl]; decide
  have o1' : (1 : Nat) ≤ sizeLine := by rw [szl]; decide
  have o0' : (0 : Nat) ≤ sizeLine := by rw [szl]; decide
  obtain ⟨kk, hkk⟩ := Option.isSome_iff_exists.1 hk
  have g1 : (m ++ [Cell.obj 3 []])[m.length]? = some (.obj 3 []) := by simp
  have s1 : (m ++ [Cell.obj 3 []]).set m.length (.obj 3 [("level", .lst [.tup [W1, W2, .tup []]])]) = m ++ [.obj 3 [("level", .lst [.tup [W1, W2, .tup []]])]] := by simp
  have g2 : (m ++ [Cell.obj 3 [("level", .lst [.tup [W1, W2, .tup []]])], .dit [(.tup [W1, W2], .bl true)]])[m.length]? = some (.obj 3 [("level", .lst [.tup [W1, W2, .tup []]])]) := by simp
  refine mk_next (s := ⟨[some (.ref m.length), some W1], _⟩) ?_
  show q_Search___init__ ⟨[some (.ref m.length), some W1], m ++ [Cell.obj 3 []]⟩ = _
  unfold q_Search___init__
  rw [seq_nx (s' := ⟨[some (.ref m.length), some W1], m ++ [.obj 3 [("level", .lst [.tup [W1, W2, .tup []]])]]⟩) (by
    simp only [sFldS, eLst, eTup, aCons, aNil, eVar, e1, eCallN, R.bind, R.then, List.length_cons, List.length_nil, List.getD_cons_succ, List.getD_cons_zero, hlen, callR, ef, if_true, o0', o1', o3', mObj, g1, putFD, s1]
    rfl)]
  have hm1 : (m ++ [Cell.obj 3 [("level", .lst [.tup [W1, W2, .tup []]])]]).length = m.length + 1 := by simp
  simp only [sFldS, eDit1, eTup, aCons, aNil, eVar, eC, e1, eCallN, R.bind, R.then, List.length_cons, List.length_nil, List.getD_cons_succ, List.getD_cons_zero, hlen, callR, ef, if_true, o2', hkk, hm1, List.append_assoc, List.cons_append, List.nil_append, mObj, g2]
  have hlm : ¬ (Str.ofString "level" = Str.ofString "met") := by decide
  simp [putFD, SM, sObj, NDl, nD, hlm]
theorem SkW {w : Web} {wt : Nat → Nat} (h0 : 0 < n) (hn : n ≤ 60) (sk : SkF n (bW w) wt) (hm : m.all nrC = true) : trimF m_sure_web [wD n w] m = .ok (wD n w) m := e_sureW h0 hn sk .tt m hm
theorem e_fullrow (h0 : 0 < n) (hn : n ≤ 60) {w : Web} {wt : Nat → Nat} (sk : SkF n (bW w) wt) (hk : (keyT (kD n (w, unM n))).isSome = true) {r : List Nat} (h : bfs n 64 [([], (w, unM n))] [(kD n (w, unM n), .bl true)] = some r) (hm : m.all nrC = true) : trimF m_full_row [wD n w] m = .ok (NDl r) m := by
  have e1' := SkW h0 hn sk hm
  have e2' := e_sinit (m := m) hn w hk
  obtain ⟨m', e3', ht⟩ := e_found (m := m) hn h (fun x hx => by rw [List.mem_singleton.1 hx]; simp)
  obtain ⟨W1, hW1⟩ : ∃ W1, W1 = wD n w := ⟨_, rfl⟩
  rw [← hW1] at e1' e2' ⊢
  have hio : DL.isObj 3 "found" (.ref m.length) ⟨[some W1, none], SM m ([([], (w, unM n))].map (nodS n)) [(kD n (w, unM n), .bl true)]⟩ = true := by
    simp only [DL.isObj, mObj, sm_obj, sObj, if_true]
    rfl
  obtain ⟨M1, hM1⟩ : ∃ M1, M1 = SM m ([([], (w, unM n))].map (nodS n)) [(kD n (w, unM n), .bl true)] := ⟨_, rfl⟩
  rw [← hM1] at e2' e3' hio
  have hn1 : nr (NDl r) = true := by
    simp only [NDl, nr]
    exact nrs_nI r
  have e0 : m_full_row [W1] m = .ok (NDl r) m' := by
    simp only [m_full_row, q_full_row, mkF]
    rw [seq_nx (s' := ⟨[some W1, some (NDl r)], m'⟩) (by
      simp only [sAsg, eMeth, eMake, eCallN, aCons, aNil, eVar, R.bind, R.then, List.map_cons, List.map_nil, List.length_cons, List.length_nil, List.replicate, List.cons_append, List.nil_append, List.getD_cons_succ, List.getD_cons_zero, if_true, callR, e1', e2', hio, e3', asgD, List.set_cons_succ, List.set_cons_zero])]
    rfl
  unfold trimF
  rw [e0]
  simp only [ht, hn1, hm, Bool.and_self, if_true]
end
end A15
set_option linter.all false
set_option maxRecDepth 10000
namespace A15
open PySem PySem.Spec PyProof.Rows L2 DL
/-! words, joins, webs of kinds -/
def wS : Nat → Str
  | 0 => "a1"
  | 1 => "a2"
  | 2 => "b2"
  | 3 => "g2"
  | 4 => "a3"
  | 5 => "b3"
  | _ => "c3"
def wn : Nat → Nat
  | 0 => 1
  | 1 => 2
  | 2 => 2
  | 3 => 2
  | _ => 3
def wj : Nat → List (Nat × Nat × Int × Int)
  | 0 => []
  | 1 => [(0, 1, 1, 1)]
  | 2 => [(0, 1, 1, 2)]
  | 3 => [(0, 1, 1, 3)]
  | 4 => [(0, 1, 1, 1), (1, 2, 1, 1)]
  | 5 => [(0, 1, 1, 1), (1, 2, 1, 2)]
  | _ => [(0, 1, 1, 1), (1, 2, 2, 1)]
def wg : Nat → Int × Int
  | 0 => (1, 2)
  | 1 => (3, 5)
  | 2 => (4, 6)
  | 3 => (6, 8)
  | 4 => (6, 14)
  | 5 => (9, 20)
  | _ => (9, 20)
def jD (x : Nat × Nat × Int × Int) : D := .lst [nI x.1, nI x.2.1, .int x.2.2.1, .int x.2.2.2]
theorem e_joins : ∀ i, i < 7 → ∀ m : List Cell, m__law_joins [.str (wS i)] m = .ok (.lst ((wj i).map jD)) m
  | 0, _, m => by kernel_rfl
  | 1, _, m => by kernel_rfl
  | 2, _, m => by kernel_rfl
  | 3, _, m => by kernel_rfl
  | 4, _, m => by kernel_rfl
  | 5, _, m => by kernel_rfl
  | 6, _, m => by kernel_rfl
  | _ + 7, h, _ => by omega
theorem e_word : ∀ i, i < 7 → ∀ st : S, (slSD (.str (wS i)) (some 1) none st).bind (fun d s => intSD d s) = .ok (.int (wn i)) st
  | 0, _, st => by kernel_rfl
  | 1, _, st => by kernel_rfl
  | 2, _, st => by kernel_rfl
  | 3, _, st => by kernel_rfl
  | 4, _, st => by kernel_rfl
  | 5, _, st => by kernel_rfl
  | 6, _, st => by kernel_rfl
  | _ + 7, h, _ => by omega
theorem e_wordV {i : Nat} (hi : i < 7) {v : Nat} {r : List (Option D)} (h : r.getD v none = some (.str (wS i))) (m : List Cell) : e1 intSD (eSlS (eVar v) (pSome (eC (.int 1))) pNone) ⟨r, m⟩ = .ok (.int (wn i)) ⟨r, m⟩ := by
  have e := e_word i hi ⟨r, m⟩
  simp only [e1, eSlS, eVar, h, R.bind, pSome, eC, pNone]
  exact e
def grT : S → RS :=
  (sSeq (sIf (t2 (cmpB eqD) (e2 ixD (eVar 0) (eC (.int 0))) (eC (.str "a")))
    (sSeq (sFor (iN rng1I (aCons (e2 addD (eVar 1) (eC (.int 1))) aNil)) (.one 4)
    q__law_greens_b1)
    (sRet (eLst (aCons (e2 fdivD (e2 mulD (eVar 1) (e2 addD (eVar 1) (eC (.int 1)))) (eC (.int 2))) (aCons (e2 fdivD (eVar 2) (e2 addD (eVar 1) (eC (.int 2)))) aNil)))))
    sNil)
    (sSeq (sIf (t2 (cmpB inD) (e2 ixD (eVar 0) (eC (.int 0))) (eTup (aCons (eC (.str "b")) (aCons (eC (.str "c")) aNil))))
    (sSeq (sFor (iN rng1I (aCons (eVar 1) aNil)) (.one 4)
    q__law_greens_b2)
    (sRet (eLst (aCons (e2 mulD (eVar 1) (eVar 1)) (aCons (eVar 2) aNil)))))
    sNil)
    (sSeq (sFor (iN rng1I (aCons (e2 subD (eVar 1) (eC (.int 1))) aNil)) (.one 4)
    q__law_greens_b3)
    (sRet (eLst (aCons (e2 mulD (eVar 1) (e2 subD (eVar 1) (eC (.int 1)))) (aCons (e2 fdivD (e2 mulD (e2 subD (e2 mulD (eC (.int 3)) (eVar 1)) (eC (.int 2))) (eVar 2)) (eVar 1)) aNil)))))))
theorem gr_tail : ∀ i, i < 7 → i ≠ 3 → ∀ (k : Nat) (M : List Cell), mkF 5 (fun s => grT ⟨[some (.str (wS i)), some (.int (wn i)), some (.int 1), some (.ref k), none], s.m⟩) [] M = .ok (.lst [.int (wg i).1, .int (wg i).2]) M
  | 0, _, _, k, M => by kernel_rfl
  | 1, _, _, k, M => by kernel_rfl
  | 2, _, _, k, M => by kernel_rfl
  | 3, _, h, k, M => absurd rfl h
  | 4, _, _, k, M => by kernel_rfl
  | 5, _, _, k, M => by kernel_rfl
  | 6, _, _, k, M => by kernel_rfl
  | _ + 7, h, _, _, _ => by omega
def grK : List (Key × D) := [(.inr "e6", .lst [.int 36, .int 833]), (.inr "f4", .lst [.int 24, .int 105]), (.inr "g2", .lst [.int 6, .int 8])]
def grC : Cell := .dic false grK
theorem gr_dic (M : List Cell) (r : List (Option D)) : mDic ⟨r, M ++ [grC]⟩ M.length = some grK := by
  have e : (M ++ [grC])[M.length]? = some grC := by simp
  unfold mDic
  rw [e]
  rfl
theorem gr_val : ∀ i, i < 7 → (valD grK (.inr (wS i))).isSome = (i == 3)
  | 0, _ => by kernel_rfl
  | 1, _ => by kernel_rfl
  | 2, _ => by kernel_rfl
  | 3, _ => by kernel_rfl
  | 4, _ => by kernel_rfl
  | 5, _ => by kernel_rfl
  | 6, _ => by kernel_rfl
  | _ + 7, h => by omega
theorem gr_in (M : List Cell) (r : List (Option D)) (i : Nat) (hi : i < 7) : dinD false (.str (wS i)) (.ref M.length) ⟨r, M ++ [grC]⟩ = .ok (.bl (i == 3)) ⟨r, M ++ [grC]⟩ := by
  unfold dinD
  simp only [keyD, gr_dic, gr_val i hi, Bool.false_eq_true, if_false]
theorem gr_get (M : List Cell) (r : List (Option D)) : dixD (.ref M.length) (.str (wS 3)) ⟨r, M ++ [grC]⟩ = .ok (.lst [.int 6, .int 8]) ⟨r, M ++ [grC]⟩ := by
  have hv : valD grK (.inr (wS 3)) = some (.lst [.int 6, .int 8]) := by kernel_rfl
  unfold dixD
  simp only [keyD, gr_dic, hv]
theorem gr_head {i : Nat} (hi : i < 7) (m : List Cell) : q__law_greens ⟨[some (.str (wS i)), none, none, none, none], m⟩ = if (i == 3) = true then .ret (.lst [.int 6, .int 8]) ⟨[some (.str (wS i)), some (.int (wn i)), some (.int 1), some (.ref m.length), none], m ++ [grC]⟩ else grT ⟨[some (.str (wS i)), some (.int (wn i)), some (.int 1), some (.ref m.length), none], m ++ [grC]⟩ := by
  have ew := e_wordV hi (v := 0) (r := [some (.str (wS i)), none, none, none, none]) rfl m
  obtain ⟨W, hW⟩ : ∃ W, W = e1 intSD (eSlS (eVar 0) (pSome (eC (.int 1))) pNone) := ⟨_, rfl⟩
  obtain ⟨T, hT⟩ : ∃ T, T = grT := ⟨_, rfl⟩
  rw [← hW] at ew
  have hq : q__law_greens = sSeq (sPar 1 2 (e1 intSD (eSlS (eVar 0) (pSome (eC (.int 1))) pNone)) (eC (.int 1))) (sSeq (sAsg (.one 3) (eDic3 (eC (.str "e6")) (eLst (aCons (eC (.int 36)) (aCons (eC (.int 833)) aNil))) (eC (.str "f4")) (eLst (aCons (eC (.int 24)) (aCons (eC (.int 105)) aNil))) (eC (.str "g2")) (eLst (aCons (eC (.int 6)) (aCons (eC (.int 8)) aNil))))) (sSeq (sIf (toB (e2 (dinD false) (eVar 0) (eVar 3))) (sRet (e2 dixD (eVar 3) (eVar 0))) sNil) grT)) := rfl
  rw [hq, ← hW, ← hT]
  have o2' : (2 : Nat) ≤ sizeLine := by rw [szl]; decide
  have n1 : ¬ ((.inr "e6" : Key) = .inr "f4") := by decide
  have n2 : ¬ ((.inr "e6" : Key) = .inr "g2") := by decide
  have n3 : ¬ ((.inr "f4" : Key) = .inr "g2") := by decide
  rw [seq_nx (s' := ⟨[some (.str (wS i)), some (.int (wn i)), some (.int 1), none, none], m⟩) (by
    simp only [sPar, ew, eC, R.then, List.set_cons_succ, List.set_cons_zero])]
  rw [seq_nx (s' := ⟨[some (.str (wS i)), some (.int (wn i)), some (.int 1), some (.ref m.length), none], m ++ [grC]⟩) (by
    simp [sAsg, asgD, eDic3, eLst, aCons, aNil, eC, R.bind, R.then, o2', keyD, n1, n2, n3, grC, grK])]
  have hin := gr_in m [some (.str (wS i)), some (.int (wn i)), some (.int 1), some (.ref m.length), none] i hi
  by_cases h : i = 3
  · subst h
    simp [sSeq, sIf, toB, e2, eVar, R.bind, R.then, hin, sRet, gr_get]
  · have hb : (i == 3) = false := by simpa using h
    rw [hb] at hin
    simp [sSeq, sIf, toB, e2, eVar, R.bind, R.then, hin, sNil, hb]
theorem e_greens0 {i : Nat} (hi : i < 7) (m : List Cell) : m__law_greens [.str (wS i)] m = .ok (.lst [.int (wg i).1, .int (wg i).2]) (m ++ [grC]) := by
  have h := gr_head hi m
  have e0 : m__law_greens [.str (wS i)] m = (match q__law_greens ⟨[some (.str (wS i)), none, none, none, none], m⟩ with
    | .next s => .ok .non s.m
    | .ret d s => .ok d s.m
    | .raise e s => .raise e s.m
    | _ => .stuck) := rfl
  rw [e0, h]
  by_cases h3 : i = 3
  · subst h3
    rfl
  · have hb : (i == 3) = false := by simpa using h3
    have ht := gr_tail i hi h3 m.length (m ++ [grC])
    rw [hb]
    exact ht
theorem e_greens {i : Nat} (hi : i < 7) (m : List Cell) (hm : m.all nrC = true) : trimF m__law_greens [.str (wS i)] m = .ok (.lst [.int (wg i).1, .int (wg i).2]) m := by
  have e := e_greens0 hi m
  unfold trimF
  rw [e]
  simp [nr, nrs, hm]
theorem TM.mono {k j : Nat} {m : List Cell} (h : TM k m) (hk : k ≤ j) : TM j m := by
  obtain ⟨q, t, g⟩ := h
  exact ⟨q, t.mono hk, g⟩
theorem e_ofW {k : Nat} (hk : k < 1000000) {m : List Cell} (h : TM k m) : ∃ i m', i < 7 ∧ m__law_of [.ref 0, .lst [.str "a1", .str "a2", .str "b2", .str "g2", .str "a3", .str "b3", .str "c3"]] m = .ok (.str (wS i)) m' ∧ TM (k + 1) m' := by
  obtain ⟨q, t, g⟩ := h
  obtain ⟨d, m', hd, e, t'⟩ := e_ofR hk t [.str "a1", .str "a2", .str "b2", .str "g2", .str "a3", .str "b3", .str "c3"] (by simp) (by simp)
  have : ∃ i, i < 7 ∧ d = .str (wS i) := by
    simp only [List.mem_cons, List.not_mem_nil, or_false] at hd
    rcases hd with h | h | h | h | h | h | h
    · exact ⟨0, by decide, h⟩
    · exact ⟨1, by decide, h⟩
    · exact ⟨2, by decide, h⟩
    · exact ⟨3, by decide, h⟩
    · exact ⟨4, by decide, h⟩
    · exact ⟨5, by decide, h⟩
    · exact ⟨6, by decide, h⟩
  obtain ⟨i, hi, rfl⟩ := this
  exact ⟨i, m', hi, e, ⟨q, t', g⟩⟩
/-! the web of a kind -/
theorem put_cell {fo fk : S → R D} {r : List (Option D)} {m : List Cell} {n : Nat} {B : Nat → Nat → Int} {i j : Nat} {v : Int} {k : S → RS} (hi : i < n) (hj : j < n) (ho : fo ⟨r, mem m n B⟩ = .ok (.ref (m.length + i)) ⟨r, mem m n B⟩) (hk : fk ⟨r, mem m n B⟩ = .ok (.int j) ⟨r, mem m n B⟩) :
    DL.putK fo fk (.int v) k ⟨r, mem m n B⟩ = k ⟨r, mem m n (updB B i j v)⟩ := by
  unfold DL.putK
  have hl : (rowC n (B i)).length = n := by simp [rowC]
  simp only [ho, hk, R.then, mLst_mem hi, hl, ixN_nat hj, mem_set hi hj]
def kwF (B : Nat → Nat → Int) : List (Nat × Nat × Int × Int) → List Int → Nat → Nat → Int
  | x :: l, s :: ss => kwF (updB (updB B x.1 x.2.1 (s * x.2.2.1)) x.2.1 x.1 (0 - s * x.2.2.2)) l ss
  | _, _ => B
theorem kw_b1 {q m : List Cell} {k n a b : Nat} {t u : Int} (ha : a < n) (hb : b < n) (ht : t.natAbs < 2 ^ 10) (hu : u.natAbs < 2 ^ 10) (tm : TinR q k m) (hk : k < 900000) {B : Nat → Nat → Int} {o1 o2 o4 o9 o10 : Option D} :
    ∃ s m', (s = 1 ∨ s = -1) ∧ TinR q (k + 1) m' ∧ q__law_kind_web_b1 ⟨[some (.ref 0), o1, o2, some (.lst (refs m.length n)), o4, some (nI a), some (nI b), some (.int t), some (.int u), o9, o10], mem m n B⟩ = .next ⟨[some (.ref 0), o1, o2, some (.lst (refs m'.length n)), o4, some (nI a), some (nI b), some (.int t), some (.int u), some (.int s), o10], mem m' n (updB (updB B a b (s * t)) b a (0 - s * u))⟩ := by
  obtain ⟨r, M, e, r0, r1, t'⟩ := e_takeR (by omega) (tm.memR (n := n) (B := B)) (w := 2) (by decide) (by decide)
  obtain ⟨m', rfl, t2⟩ := t'.unmem
  have hml : m'.length = m.length := by rw [t2.len, tm.len]
  refine ⟨1 - 2 * r, m', by omega, t2, ?_⟩
  have hs : (1 - 2 * r).natAbs < 2 ^ 10 := by
    have : r = 0 ∨ r = 1 := by omega
    rcases this with rfl | rfl <;> decide
  have hr : r.natAbs < 2 ^ 10 := by
    have : r = 0 ∨ r = 1 := by omega
    rcases this with rfl | rfl <;> decide
  have m0 : ∀ st, mulD (.int 2) (.int r) st = .ok (.int (2 * r)) st := fun st => mulK (j := 10) (k := 10) (by decide) hr (by omega) (by omega)
  have m1 : ∀ st, mulD (.int (1 - 2 * r)) (.int t) st = .ok (.int ((1 - 2 * r) * t)) st := fun st => mulK (j := 10) (k := 10) hs ht (by omega) (by omega)
  have m2 : ∀ st, mulD (.int (1 - 2 * r)) (.int u) st = .ok (.int ((1 - 2 * r) * u)) st := fun st => mulK (j := 10) (k := 10) hs hu (by omega) (by omega)
  have x1 : ∀ st, ixD (.lst (refs m'.length n)) (nI a) st = .ok (.ref (m'.length + a)) st := fun st => ix_refs ha st
  have x2 : ∀ st, ixD (.lst (refs m'.length n)) (nI b) st = .ok (.ref (m'.length + b)) st := fun st => ix_refs hb st
  have o2' : (2 : Nat) ≤ sizeLine := by rw [szl]; decide
  obtain ⟨RL, hRL⟩ : ∃ RL, RL = refs m'.length n := ⟨_, rfl⟩
  rw [← hml, ← hRL]
  rw [← hRL] at x1 x2
  unfold q__law_kind_web_b1
  rw [seq_nx (s' := ⟨[some (.ref 0), o1, o2, some (.lst RL), o4, some (nI a), some (nI b), some (.int t), some (.int u), some (.int (1 - 2 * r)), o10], mem m' n B⟩) (by
    simp only [sAsg, asgD, e2, eC, eVar, eCallN, aCons, aNil, R.bind, R.then, List.getD_cons_zero, List.getD_cons_succ, List.length_cons, List.length_nil, if_true, callR, e, m0, subD, List.set_cons_succ, List.set_cons_zero])]
  unfold sSetR2
  have htup : eTup (aCons (e2 mulD (eVar 9) (eVar 7)) (aCons (e2 subD (eC (.int 0)) (e2 mulD (eVar 9) (eVar 8))) aNil)) ⟨[some (.ref 0), o1, o2, some (.lst RL), o4, some (nI a), some (nI b), some (.int t), some (.int u), some (.int (1 - 2 * r)), o10], mem m' n B⟩ = .ok (.tup [.int ((1 - 2 * r) * t), .int (0 - (1 - 2 * r) * u)]) ⟨[some (.ref 0), o1, o2, some (.lst RL), o4, some (nI a), some (nI b), some (.int t), some (.int u), some (.int (1 - 2 * r)), o10], mem m' n B⟩ := by
    simp only [eTup, aCons, aNil, e2, eC, eVar, R.bind, R.then, List.getD_cons_zero, List.getD_cons_succ, List.length_cons, List.length_nil, if_true, m1, m2, subD, o2']
  rw [htup]
  simp only [R.then]
  rw [put_cell (fk := eVar 6) ha hb (by simp only [e2, eVar, R.bind, List.getD_cons_zero, List.getD_cons_succ, x1]) rfl]
  rw [put_cell (fk := eVar 5) hb ha (by simp only [e2, eVar, R.bind, List.getD_cons_zero, List.getD_cons_succ, x2]) rfl]
theorem kw_loop {q : List Cell} {n : Nat} {o1 o2 o4 o10 : Option D} : ∀ (l : List (Nat × Nat × Int × Int)) (B : Nat → Nat → Int) (k : Nat) (m : List Cell) (o5 o6 o7 o8 o9 : Option D), (∀ x ∈ l, x.1 < n ∧ x.2.1 < n ∧ x.2.2.1.natAbs < 2 ^ 10 ∧ x.2.2.2.natAbs < 2 ^ 10) → k + l.length < 900000 → TinR q k m →
    ∃ ss m' y5 y6 y7 y8 y9, ss.length = l.length ∧ (∀ s ∈ ss, s = 1 ∨ s = -1) ∧ TinR q (k + l.length) m' ∧ forL (.manyL [5, 6, 7, 8]) q__law_kind_web_b1 (l.map jD) ⟨[some (.ref 0), o1, o2, some (.lst (refs m.length n)), o4, o5, o6, o7, o8, o9, o10], mem m n B⟩ = .next ⟨[some (.ref 0), o1, o2, some (.lst (refs m'.length n)), o4, y5, y6, y7, y8, y9, o10], mem m' n (kwF B l ss)⟩
  | [], B, k, m, o5, o6, o7, o8, o9, _, _, t => ⟨[], m, o5, o6, o7, o8, o9, rfl, by simp, t, rfl⟩
  | x :: l, B, k, m, o5, o6, o7, o8, o9, hl, hk, t => by
    simp only [List.length_cons] at hk
    obtain ⟨ha, hb, ht, hu⟩ := hl x (by simp)
    obtain ⟨s, m1, hs, t1, e1'⟩ := kw_b1 ha hb ht hu t (by omega) (B := B) (o1 := o1) (o2 := o2) (o4 := o4) (o9 := o9) (o10 := o10)
    obtain ⟨ss, m', y5, y6, y7, y8, y9, hsl, hss, t2, e⟩ := kw_loop (q := q) (n := n) (o1 := o1) (o2 := o2) (o4 := o4) (o10 := o10) l (updB (updB B x.1 x.2.1 (s * x.2.2.1)) x.2.1 x.1 (0 - s * x.2.2.2)) (k + 1) m1 (some (nI x.1)) (some (nI x.2.1)) (some (.int x.2.2.1)) (some (.int x.2.2.2)) (some (.int s)) (fun y hy => hl y (List.mem_cons_of_mem _ hy)) (by omega) t1
    refine ⟨s :: ss, m', y5, y6, y7, y8, y9, by simp [hsl], ?_, by rw [show k + (x :: l).length = k + 1 + l.length by simp; omega]; exact t2, ?_⟩
    · intro z hz
      rcases List.mem_cons.1 hz with rfl | hz
      · exact hs
      · exact hss z hz
    · rw [List.map_cons, forL]
      simp only [jD, asgD, DL.setL, List.length_cons, List.length_nil, List.set_cons_succ, List.set_cons_zero, if_true, e1']
      exact e
theorem wj_ok : ∀ i, i < 7 → ∀ x ∈ wj i, x.1 < wn i ∧ x.2.1 < wn i ∧ x.2.2.1.natAbs < 2 ^ 10 ∧ x.2.2.2.natAbs < 2 ^ 10
  | 0, _ => by decide
  | 1, _ => by decide
  | 2, _ => by decide
  | 3, _ => by decide
  | 4, _ => by decide
  | 5, _ => by decide
  | 6, _ => by decide
  | _ + 7, h => by omega
theorem wj_len : ∀ i, i < 7 → (wj i).length = wn i - 1
  | 0, _ => by decide
  | 1, _ => by decide
  | 2, _ => by decide
  | 3, _ => by decide
  | 4, _ => by decide
  | 5, _ => by decide
  | 6, _ => by decide
  | _ + 7, h => by omega
theorem wn_le : ∀ i, 1 ≤ wn i ∧ wn i ≤ 3
  | 0 => by decide
  | 1 => by decide
  | 2 => by decide
  | 3 => by decide
  | _ + 4 => by constructor <;> simp [wn]
theorem e_kweb {i : Nat} (hi : i < 7) {k : Nat} (hk : k < 800000) {m : List Cell} (t : TM k m) : ∃ ss m', ss.length = wn i - 1 ∧ (∀ s ∈ ss, s = 1 ∨ s = -1) ∧ TM (k + 3) m' ∧ m__law_kind_web [.ref 0, .str (wS i)] m = .ok (webF (wn i) (kwF (fun _ _ => 0) (wj i) ss)) m' := by
  obtain ⟨n, hn⟩ : ∃ n, n = wn i := ⟨_, rfl⟩
  have hn3 : 1 ≤ n ∧ n ≤ 3 := by rw [hn]; exact wn_le i
  obtain ⟨q, t0, g⟩ := t
  have hlen := wj_len i hi
  rw [← hn] at hlen
  obtain ⟨ss, m', y5, y6, y7, y8, y9, hsl, hss, t2, e⟩ := kw_loop (q := q) (n := n) (o1 := some (.str (wS i))) (o2 := some (.int n)) (o4 := none) (o10 := none) (wj i) (fun _ _ => 0) k m none none none none none (by rw [hn]; exact wj_ok i hi) (by omega) t0
  have t3 : TM (k + 3) m' := ⟨q, t2.mono (by omega), g⟩
  refine ⟨ss, mem m' n (kwF (fun _ _ => 0) (wj i) ss), by omega, hss, t3.mem _ _, ?_⟩
  rw [← hn]
  have ew := e_wordV hi (v := 1) (r := [some (.ref 0), some (.str (wS i)), none, none, none, none, none, none, none, none, none]) rfl m
  rw [← hn] at ew
  have ej := e_joins i hi
  have hz' : n ≤ sizeLine := by rw [szl]; omega
  have o1' : (1 : Nat) ≤ sizeLine := by rw [szl]; decide
  have hrep : (List.replicate n [D.int 0]).flatten = rowC n fun _ => 0 := by
    unfold rowC
    apply List.ext_getElem
    · simp
    · intro k h1 h2
      simp
  have hmul : ∀ st, mulD (.lst [.int 0]) (.int n) st = .ok (.lst (rowC n fun _ => 0)) st := fun st => by
    simp only [mulD]
    rw [if_pos ⟨by omega, by simp; omega⟩, Int.toNat_natCast, hrep]
  have hr : ∀ st, rng1I [.int n] st = .ok (nD (List.range n)) st := fun st => by rw [rngS n st (by omega), rngL_nD]
  have lc := lc_cells 4 (e2 mulD (eLst (aCons (eC (.int 0)) aNil)) (eVar 2)) [some (.ref 0), some (.str (wS i)), some (.int n), none, none, none, none, none, none, none, none] nI (fun _ => rowC n fun _ => 0) (List.range n) m fun i _ m => by
    simp only [e2, eLst, aCons, aNil, eC, eVar, R.bind, List.set_cons_succ, List.set_cons_zero, List.getD_cons_succ, List.getD_cons_zero, List.length_cons, List.length_nil, o1', if_true, hmul]
  rw [List.length_range] at lc
  have lc' : lcL (.one 4) tYesS (eCell (e2 mulD (eLst (aCons (eC (.int 0)) aNil)) (eVar 2))) [some (.ref 0), some (.str (wS i)), some (.int n), none, none, none, none, none, none, none, none] (nD (List.range n)) m = some (refs m.length n, mem m n fun _ _ => 0) := lc
  have lt := lc_tups (i := 10) (r := [some (.ref 0), some (.str (wS i)), some (.int n), some (.lst (refs m'.length n)), none, y5, y6, y7, y8, y9, none]) (m := m') (n := n) (B := kwF (fun _ _ => 0) (wj i) ss) (by simp)
  have hrefs : (refs m'.length n).length ≤ sizeLine := by rw [szl]; simp [refs]; omega
  obtain ⟨F, hF⟩ : ∃ F, F = eCell (e2 mulD (eLst (aCons (eC (.int 0)) aNil)) (eVar 2)) := ⟨_, rfl⟩
  obtain ⟨G, hG⟩ : ∃ G, G = e1 tupleC (eVar 10) := ⟨_, rfl⟩
  obtain ⟨W, hW⟩ : ∃ W, W = e1 intSD (eSlS (eVar 1) (pSome (eC (.int 1))) pNone) := ⟨_, rfl⟩
  rw [← hF] at lc'
  rw [← hG] at lt
  rw [← hW] at ew
  simp only [m__law_kind_web, q__law_kind_web, mkF]
  rw [← hF, ← hG, ← hW]
  have hs0 : sAsg (.one 2) W ⟨List.map some [D.ref 0, .str (wS i)] ++ List.replicate (11 - [D.ref 0, .str (wS i)].length) none, m⟩ = .next ⟨[some (.ref 0), some (.str (wS i)), some (.int n), none, none, none, none, none, none, none, none], m⟩ := by
    simp only [List.map_cons, List.map_nil, List.length_cons, List.length_nil, List.replicate, List.cons_append, List.nil_append, sAsg, ew, R.then, asgD, List.set_cons_succ, List.set_cons_zero]
  rw [seq_nx hs0]
  rw [seq_nx (s' := ⟨[some (.ref 0), some (.str (wS i)), some (.int n), some (.lst (refs m.length n)), none, none, none, none, none, none, none], mem m n fun _ _ => 0⟩) (by
    have hzl : (nD (List.range n)).length ≤ sizeLine := by rw [szl, nD_len, List.length_range]; omega
    simp only [sAsgF, eLc, iN, aCons, aNil, eVar, R.bind, R.then, List.getD_cons_succ, List.getD_cons_zero, hr, hzl, if_true, lc', List.set_cons_succ, List.set_cons_zero])]
  rw [seq_nx (s' := ⟨[some (.ref 0), some (.str (wS i)), some (.int n), some (.lst (refs m'.length n)), none, y5, y6, y7, y8, y9, none], mem m' n (kwF (fun _ _ => 0) (wj i) ss)⟩) (by
    have ej' := ej (mem m n fun _ _ => 0)
    simp only [sFor, i1, eCallN, aCons, aNil, eVar, R.bind, R.then, List.getD_cons_succ, List.getD_cons_zero, List.length_cons, List.length_nil, if_true, callR, ej', seqI]
    exact e)]
  simp only [sRet, e1, eLc, i1, eVar, R.bind, R.then, List.getD_cons_zero, List.getD_cons_succ, seqI, hrefs, if_true, lt, tupleC, tupleD]
  rfl
end A15
set_option linter.all false
set_option maxRecDepth 10000
namespace A15
open PySem PySem.Spec PyProof.Rows L2 DL
/-! what is closed: all 71 webs gone through -/
def ww : Nat → List Nat
  | 0 => [1]
  | 1 => [1, 1]
  | 2 => [2, 1]
  | 3 => [3, 1]
  | 4 => [1, 1, 1]
  | 5 => [2, 2, 1]
  | _ => [1, 1, 2]
def webI (i : Nat) (ss : List Int) (I : List Nat) : Web := ofF (wn i) fun x y => kwF (fun _ _ => 0) (wj i) ss (I.getD x 0) (I.getD y 0)
def wtI (i : Nat) (I : List Nat) : List Nat := (List.range (wn i)).map fun x => (ww i).getD (I.getD x 0) 1
def skB (n : Nat) (w : Web) (ws : List Nat) : Bool := ws.all (fun x => Nat.ble 1 x && Nat.ble x 100) && (List.range n).all fun i => (List.range n).all fun j => (((ws.getD i 1 : Nat) : Int) * bW w i j == -(((ws.getD j 1 : Nat) : Int) * bW w j i)) && Nat.ble (bW w i j).natAbs 1000
def lensOf (fnd : List (List Nat)) : List Int := fnd.map fun r => (r.length : Int)
def lnB (n : Nat) (g : Int) : List Int → Bool
  | [] => false
  | x :: xs => (x == (n : Int)) && ((x :: xs).getLastD 0 == g)
def chk (n : Nat) (g : Int) (w : Web) (ws : List Nat) : Bool :=
  skB n w ws && (keyT (kD n (w, unM n))).isSome && (match wk n 4000 [([], (w, unM n))] [], bfs n 64 [([], (w, unM n))] [(kD n (w, unM n), .bl true)] with
  | some fnd, some r => fnd.contains r && Nat.ble fnd.length 60 && fnd.all (fun x => Nat.ble x.length 900) && lnB n g (srtU (lensOf fnd)) && (!(Nat.beq n 2) || Nat.beq fnd.length 2)
  | _, _ => false)
def pmL : Nat → List (List Nat)
  | 1 => [[0]]
  | 2 => [[0, 1], [1, 0]]
  | _ => [[0, 1, 2], [0, 2, 1], [1, 0, 2], [1, 2, 0], [2, 0, 1], [2, 1, 0]]
def sgL : Nat → List (List Int)
  | 1 => [[]]
  | 2 => [[1], [-1]]
  | _ => [[1, 1], [1, -1], [-1, 1], [-1, -1]]
theorem chk_0_0 : ((pmL (wn 0)).all fun I => chk (wn 0) (wg 0).1 (webI 0 ([] : List Int) I) (wtI 0 I)) = true := by kernel_rfl
theorem chk_1_0 : ((pmL (wn 1)).all fun I => chk (wn 1) (wg 1).1 (webI 1 ([1] : List Int) I) (wtI 1 I)) = true := by kernel_rfl
theorem chk_1_1 : ((pmL (wn 1)).all fun I => chk (wn 1) (wg 1).1 (webI 1 ([-1] : List Int) I) (wtI 1 I)) = true := by kernel_rfl
theorem chk_2_0 : ((pmL (wn 2)).all fun I => chk (wn 2) (wg 2).1 (webI 2 ([1] : List Int) I) (wtI 2 I)) = true := by kernel_rfl
theorem chk_2_1 : ((pmL (wn 2)).all fun I => chk (wn 2) (wg 2).1 (webI 2 ([-1] : List Int) I) (wtI 2 I)) = true := by kernel_rfl
theorem chk_3_0 : ((pmL (wn 3)).all fun I => chk (wn 3) (wg 3).1 (webI 3 ([1] : List Int) I) (wtI 3 I)) = true := by kernel_rfl
theorem chk_3_1 : ((pmL (wn 3)).all fun I => chk (wn 3) (wg 3).1 (webI 3 ([-1] : List Int) I) (wtI 3 I)) = true := by kernel_rfl
theorem chk_4_0 : ((pmL (wn 4)).all fun I => chk (wn 4) (wg 4).1 (webI 4 ([1, 1] : List Int) I) (wtI 4 I)) = true := by kernel_rfl
theorem chk_4_1 : ((pmL (wn 4)).all fun I => chk (wn 4) (wg 4).1 (webI 4 ([1, -1] : List Int) I) (wtI 4 I)) = true := by kernel_rfl
theorem chk_4_2 : ((pmL (wn 4)).all fun I => chk (wn 4) (wg 4).1 (webI 4 ([-1, 1] : List Int) I) (wtI 4 I)) = true := by kernel_rfl
theorem chk_4_3 : ((pmL (wn 4)).all fun I => chk (wn 4) (wg 4).1 (webI 4 ([-1, -1] : List Int) I) (wtI 4 I)) = true := by kernel_rfl
theorem chk_5_0 : ((pmL (wn 5)).all fun I => chk (wn 5) (wg 5).1 (webI 5 ([1, 1] : List Int) I) (wtI 5 I)) = true := by kernel_rfl
theorem chk_5_1 : ((pmL (wn 5)).all fun I => chk (wn 5) (wg 5).1 (webI 5 ([1, -1] : List Int) I) (wtI 5 I)) = true := by kernel_rfl
theorem chk_5_2 : ((pmL (wn 5)).all fun I => chk (wn 5) (wg 5).1 (webI 5 ([-1, 1] : List Int) I) (wtI 5 I)) = true := by kernel_rfl
theorem chk_5_3 : ((pmL (wn 5)).all fun I => chk (wn 5) (wg 5).1 (webI 5 ([-1, -1] : List Int) I) (wtI 5 I)) = true := by kernel_rfl
theorem chk_6_0 : ((pmL (wn 6)).all fun I => chk (wn 6) (wg 6).1 (webI 6 ([1, 1] : List Int) I) (wtI 6 I)) = true := by kernel_rfl
theorem chk_6_1 : ((pmL (wn 6)).all fun I => chk (wn 6) (wg 6).1 (webI 6 ([1, -1] : List Int) I) (wtI 6 I)) = true := by kernel_rfl
theorem chk_6_2 : ((pmL (wn 6)).all fun I => chk (wn 6) (wg 6).1 (webI 6 ([-1, 1] : List Int) I) (wtI 6 I)) = true := by kernel_rfl
theorem chk_6_3 : ((pmL (wn 6)).all fun I => chk (wn 6) (wg 6).1 (webI 6 ([-1, -1] : List Int) I) (wtI 6 I)) = true := by kernel_rfl
theorem chk_s : ∀ i, i < 7 → ∀ ss ∈ sgL (wn i), ((pmL (wn i)).all fun I => chk (wn i) (wg i).1 (webI i ss I) (wtI i I)) = true
  | 0, _ => List.forall_mem_cons.2 ⟨chk_0_0, List.forall_mem_nil _⟩
  | 1, _ => List.forall_mem_cons.2 ⟨chk_1_0, List.forall_mem_cons.2 ⟨chk_1_1, List.forall_mem_nil _⟩⟩
  | 2, _ => List.forall_mem_cons.2 ⟨chk_2_0, List.forall_mem_cons.2 ⟨chk_2_1, List.forall_mem_nil _⟩⟩
  | 3, _ => List.forall_mem_cons.2 ⟨chk_3_0, List.forall_mem_cons.2 ⟨chk_3_1, List.forall_mem_nil _⟩⟩
  | 4, _ => List.forall_mem_cons.2 ⟨chk_4_0, List.forall_mem_cons.2 ⟨chk_4_1, List.forall_mem_cons.2 ⟨chk_4_2, List.forall_mem_cons.2 ⟨chk_4_3, List.forall_mem_nil _⟩⟩⟩⟩
  | 5, _ => List.forall_mem_cons.2 ⟨chk_5_0, List.forall_mem_cons.2 ⟨chk_5_1, List.forall_mem_cons.2 ⟨chk_5_2, List.forall_mem_cons.2 ⟨chk_5_3, List.forall_mem_nil _⟩⟩⟩⟩
  | 6, _ => List.forall_mem_cons.2 ⟨chk_6_0, List.forall_mem_cons.2 ⟨chk_6_1, List.forall_mem_cons.2 ⟨chk_6_2, List.forall_mem_cons.2 ⟨chk_6_3, List.forall_mem_nil _⟩⟩⟩⟩
  | _ + 7, h => by omega
theorem pm_of {n : Nat} (h0 : 1 ≤ n) (h3 : n ≤ 3) {I : List Nat} (h : I.Perm (List.range n)) : I ∈ pmL n := by
  have hl : I.length = n := by rw [h.length_eq, List.length_range]
  have hnd : I.Nodup := h.nodup_iff.2 List.nodup_range
  have hm : ∀ x ∈ I, x < n := fun x hx => List.mem_range.1 (h.mem_iff.1 hx)
  have hn : n = 1 ∨ n = 2 ∨ n = 3 := by omega
  rcases hn with rfl | rfl | rfl
  · match I, hl with
    | [a], _ =>
      have := hm a (by simp)
      have : a = 0 := by omega
      subst this
      decide
  · match I, hl with
    | [a, b], _ =>
      have h1 := hm a (by simp)
      have h2 := hm b (by simp)
      have hne : a ≠ b := by
        intro e
        subst e
        simp at hnd
      have : (a = 0 ∧ b = 1) ∨ (a = 1 ∧ b = 0) := by omega
      rcases this with ⟨rfl, rfl⟩ | ⟨rfl, rfl⟩ <;> decide
  · match I, hl with
    | [a, b, c], _ =>
      have h1 := hm a (by simp)
      have h2 := hm b (by simp)
      have h4 := hm c (by simp)
      simp only [List.nodup_cons, List.mem_cons, List.not_mem_nil, or_false, not_or] at hnd
      have : (a = 0 ∧ b = 1 ∧ c = 2) ∨ (a = 0 ∧ b = 2 ∧ c = 1) ∨ (a = 1 ∧ b = 0 ∧ c = 2) ∨ (a = 1 ∧ b = 2 ∧ c = 0) ∨ (a = 2 ∧ b = 0 ∧ c = 1) ∨ (a = 2 ∧ b = 1 ∧ c = 0) := by omega
      rcases this with ⟨rfl, rfl, rfl⟩ | ⟨rfl, rfl, rfl⟩ | ⟨rfl, rfl, rfl⟩ | ⟨rfl, rfl, rfl⟩ | ⟨rfl, rfl, rfl⟩ | ⟨rfl, rfl, rfl⟩ <;> decide
theorem sg_of {n : Nat} (h0 : 1 ≤ n) (h3 : n ≤ 3) {ss : List Int} (hl : ss.length = n - 1) (h : ∀ s ∈ ss, s = 1 ∨ s = -1) : ss ∈ sgL n := by
  have hn : n = 1 ∨ n = 2 ∨ n = 3 := by omega
  rcases hn with rfl | rfl | rfl
  · match ss, hl with
    | [], _ => simp [sgL]
  · match ss, hl with
    | [a], _ =>
      rcases h a (by simp) with rfl | rfl <;> simp [sgL]
  · match ss, hl with
    | [a, b], _ =>
      rcases h a (by simp) with rfl | rfl <;> rcases h b (by simp) with rfl | rfl <;> simp [sgL]
theorem getD_all {ws : List Nat} {p : Nat → Bool} (h : ws.all p = true) (h1 : p 1 = true) (i : Nat) : p (ws.getD i 1) = true := by
  rw [List.getD_eq_getElem?_getD]
  cases e : ws[i]? with
  | none => exact h1
  | some x => exact List.all_eq_true.1 h x (List.mem_of_getElem? e)
theorem skB_of {n : Nat} {w : Web} {ws : List Nat} (h : skB n w ws = true) : SkF n (bW w) fun i => ws.getD i 1 := by
  unfold skB at h
  rw [Bool.and_eq_true] at h
  obtain ⟨h1, h2⟩ := h
  have hp : ∀ i, (Nat.ble 1 (ws.getD i 1) && Nat.ble (ws.getD i 1) 100) = true := getD_all (p := fun x => Nat.ble 1 x && Nat.ble x 100) h1 (by decide)
  have hij : ∀ i j, i < n → j < n → ((((ws.getD i 1 : Nat) : Int) * bW w i j == -(((ws.getD j 1 : Nat) : Int) * bW w j i)) && Nat.ble (bW w i j).natAbs 1000) = true := fun i j hi hj =>
    List.all_eq_true.1 (List.all_eq_true.1 h2 i (List.mem_range.2 hi)) j (List.mem_range.2 hj)
  refine ⟨fun i => ?_, fun i => ?_, fun i j hi hj => ?_, fun i j hi hj => ?_⟩
  · have := hp i
    rw [Bool.and_eq_true] at this
    exact Nat.le_of_ble_eq_true this.1
  · have := hp i
    rw [Bool.and_eq_true] at this
    have := Nat.le_of_ble_eq_true this.2
    exact Nat.lt_of_le_of_lt this (by decide)
  · have := hij i j hi hj
    rw [Bool.and_eq_true] at this
    exact eq_of_beq this.1
  · have := hij i j hi hj
    rw [Bool.and_eq_true] at this
    have := Nat.le_of_ble_eq_true this.2
    exact Nat.lt_of_le_of_lt this (by decide)
structure Chk (n : Nat) (g : Int) (w : Web) : Prop where
  ex : ∃ (wt : Nat → Nat) (fnd : List (List Nat)) (r : List Nat), SkF n (bW w) wt ∧ (keyT (kD n (w, unM n))).isSome = true ∧ wk n 4000 [([], (w, unM n))] [] = some fnd ∧ bfs n 64 [([], (w, unM n))] [(kD n (w, unM n), .bl true)] = some r ∧ r ∈ fnd ∧ fnd.length ≤ 60 ∧ (∀ x ∈ fnd, x.length ≤ 900) ∧ lnB n g (srtU (lensOf fnd)) = true ∧ (n = 2 → fnd.length = 2)
theorem chk_of {n : Nat} {g : Int} {w : Web} {ws : List Nat} (h : chk n g w ws = true) : Chk n g w := by
  unfold chk at h
  rw [Bool.and_eq_true, Bool.and_eq_true] at h
  obtain ⟨⟨h1, h2⟩, h3⟩ := h
  split at h3
  · rename_i fnd r e1' e2'
    simp only [Bool.and_eq_true] at h3
    obtain ⟨⟨⟨⟨a, b⟩, c⟩, d⟩, e⟩ := h3
    refine ⟨_, fnd, r, skB_of h1, h2, e1', e2', by simpa using a, Nat.le_of_ble_eq_true b, fun x hx => Nat.le_of_ble_eq_true (List.all_eq_true.1 c x hx), d, fun hn => ?_⟩
    subst hn
    simpa using e
  · cases h3
theorem chk_web {i : Nat} (hi : i < 7) {ss : List Int} (hl : ss.length = wn i - 1) (h : ∀ s ∈ ss, s = 1 ∨ s = -1) {I : List Nat} (hp : I.Perm (List.range (wn i))) : Chk (wn i) (wg i).1 (webI i ss I) := by
  obtain ⟨h0, h3⟩ := wn_le i
  have c2 := chk_s i hi ss (sg_of h0 h3 hl h)
  have c3 := List.all_eq_true.1 c2 I (pm_of h0 h3 hp)
  exact chk_of c3
end A15
set_option linter.all false
set_option maxRecDepth 10000
namespace A15
open PySem PySem.Spec PyProof.Rows L2 DL
/-! laps -/
theorem eqv_n : ∀ l : List Nat, PyData.eqvAll (l.map fun q : Nat => PyData.int (q : Int)) (l.map fun q : Nat => PyData.int (q : Int)) = true
  | [] => rfl
  | q :: l => by simp [PyData.eqvAll, PyData.eqv, eqv_n l]
theorem in_rows {r : List Nat} {fnd : List (List Nat)} (h : r ∈ fnd) : notinD (NDl r) (.lst (fnd.map NDl)) = some false := by
  have a1 := toPs_map NDl (fun x : List Nat => PyData.tuple (x.map fun q : Nat => PyData.int (q : Int))) fnd fun x _ => by simp only [NDl, toP, toPs_n, Option.map_some]
  have a2 := lay_map (fun x : List Nat => PyData.tuple (x.map fun q : Nat => PyData.int (q : Int))) fnd fun x _ => by simp only [PyData.canLay0, lay_n]
  have a3 := dep_map (fun x : List Nat => PyData.tuple (x.map fun q : Nat => PyData.int (q : Int))) 2 fnd fun x _ => by
    have := dep_n x
    simp only [PyData.depth]
    omega
  have b1 : toP (NDl r) = some (.tuple (r.map fun q : Nat => PyData.int (q : Int))) := by simp only [NDl, toP, toPs_n, Option.map_some]
  have d1 : SeqAt.shaped (PyData.tuple (r.map fun q : Nat => PyData.int (q : Int))) = true := by
    have := dep_n r
    simp only [SeqAt.shaped, PyData.canLay0, lay_n, PyData.depth, Bool.true_and, Bool.and_true]
    simp; omega
  have d2 : SeqAt.shaped (PyData.list (fnd.map fun x : List Nat => PyData.tuple (x.map fun q : Nat => PyData.int (q : Int)))) = true := by
    simp only [SeqAt.shaped, PyData.canLay0, a2, PyData.depth, Bool.true_and, Bool.and_true]
    simp; omega
  have hany : ((fnd.map fun x : List Nat => PyData.tuple (x.map fun q : Nat => PyData.int (q : Int))).any fun z => PyData.eqv z (.tuple (r.map fun q : Nat => PyData.int (q : Int)))) = true := by
    rw [List.any_eq_true]
    exact ⟨_, List.mem_map.2 ⟨r, h, rfl⟩, by simp only [PyData.eqv, eqv_n]⟩
  have b2 : toP (.lst (fnd.map NDl)) = some (.list (fnd.map fun x : List Nat => PyData.tuple (x.map fun q : Nat => PyData.int (q : Int)))) := by
    simp only [toP, a1, Option.map_some]
  unfold notinD inD
  rw [b1, b2]
  simp only [d1, d2, Bool.and_self, if_true, hany, Option.map_some, Bool.not_true]
theorem ix_last {x : Int} {xs : List Int} (st : S) : ixD (.lst ((x :: xs).map D.int)) (.int (-1)) st = .ok (.int ((x :: xs).getLastD 0)) st := by
  have h : (x :: xs) = (x :: xs).dropLast ++ [(x :: xs).getLast (by simp)] := (List.dropLast_concat_getLast (by simp)).symm
  have e : (x :: xs).getLastD 0 = (x :: xs).getLast (by simp) := by
    rw [List.getLastD_eq_getLast?, List.getLast?_eq_some_getLast (by simp)]
    rfl
  rw [e]
  have h2 : (x :: xs).map D.int = (x :: xs).dropLast.map D.int ++ [.int ((x :: xs).getLast (by simp))] := by
    conv => lhs; rw [h]
    rw [List.map_append]
    rfl
  rw [h2, ixl, at_l1]
section
variable {n : Nat} {g : Int} {w : Web}
/-- the tests of the lengths -/
theorem lens_ok {i : Nat} (hi : i < 7) (hn : n = wn i) {fnd : List (List Nat)} (hf : fnd.length ≤ 60) (hln : lnB n (wg i).1 (srtU (lensOf fnd)) = true) (h2 : n = 2 → fnd.length = 2) {m : List Cell} (hm : m.all nrC = true) {o0 o1 o2 o5 o7 o8 o9 o10 o11 o12 o13 o14 : Option D} :
    ∃ y13, sAsg (.one 13) (e1 sortSetI (eLc (i1 seqI (eVar 6)) (.one 12) tYesS (e1 lenC (eVar 12)))) ⟨[o0, o1, o2, some (.str (wS i)), some (wD n w), o5, some (.lst (fnd.map NDl)), o7, o8, o9, o10, o11, o12, o13, o14], m⟩ = .next ⟨[o0, o1, o2, some (.str (wS i)), some (wD n w), o5, some (.lst (fnd.map NDl)), o7, o8, o9, o10, o11, o12, y13, o14], m⟩ ∧
    tOrS (t2 (cmpB neD) (e2 ixD (eVar 13) (eC (.int 0))) (e1 lenC (eVar 4))) (tOrS (t2 (cmpB neD) (e2 ixD (eVar 13) (e1 negD (eC (.int 1)))) (e2 ixD (eCallN 1 (trimF m__law_greens) (aCons (eVar 3) aNil)) (eC (.int 0)))) (tAndS (t2 (cmpB eqD) (e1 lenC (eVar 4)) (eC (.int 2))) (t2 (cmpB neD) (e1 lenC (eVar 6)) (eC (.int 2))))) ⟨[o0, o1, o2, some (.str (wS i)), some (wD n w), o5, some (.lst (fnd.map NDl)), o7, o8, o9, o10, o11, o12, y13, o14], m⟩ = .ok false ⟨[o0, o1, o2, some (.str (wS i)), some (wD n w), o5, some (.lst (fnd.map NDl)), o7, o8, o9, o10, o11, o12, y13, o14], m⟩ := by
  have eg := e_greens hi m hm
  have hlen : ∀ st, lenC (wD n w) st = .ok (.int n) st := fun st => lenF n _ st
  have hlf : ∀ st, lenC (.lst (fnd.map NDl)) st = .ok (.int fnd.length) st := fun st => by simp [lenC, lenD]
  have hz : (fnd.map NDl).length ≤ sizeLine := by rw [szl, List.length_map]; omega
  have lc := lc_map 12 (e1 lenC (eVar 12)) [o0, o1, o2, some (.str (wS i)), some (wD n w), o5, some (.lst (fnd.map NDl)), o7, o8, o9, o10, o11, o12, o13, o14] m NDl (fun r : List Nat => D.int (r.length : Int)) fnd fun r hr => by
    have hl : ∀ st, lenC (NDl r) st = .ok (.int r.length) st := fun st => by simp [NDl, lenC, lenD, nD]
    simp only [isOkM, e1, eVar, R.bind, List.set_cons_succ, List.set_cons_zero, List.getD_cons_succ, List.getD_cons_zero, hl, and_self]
  have hlm : (fnd.map fun r : List Nat => D.int (r.length : Int)) = (lensOf fnd).map D.int := by
    unfold lensOf
    rw [List.map_map]
    rfl
  rw [hlm] at lc
  have lc' : lcL (.one 12) tYesS (e1 lenC (eVar 12)) [o0, o1, o2, some (.str (wS i)), some (wD n w), o5, some (.lst (fnd.map NDl)), o7, o8, o9, o10, o11, o12, o13, o14] (fnd.map NDl) m = _ := lc
  cases hs : srtU (lensOf fnd) with
  | nil =>
    rw [hs] at hln
    simp [lnB] at hln
  | cons x xs =>
    rw [hs] at hln
    simp only [lnB, Bool.and_eq_true] at hln
    have hx : x = n := eq_of_beq hln.1
    have hg : (x :: xs).getLastD 0 = (wg i).1 := eq_of_beq hln.2
    have il : ∀ st, ixD (.lst ((x :: xs).map D.int)) (.int (-1)) st = .ok (.int (wg i).1) st := fun st => by rw [ix_last, hg]
    have i0 : ∀ st, ixD (.lst ((x :: xs).map D.int)) (.int 0) st = .ok (.int n) st := fun st => by rw [← hx]; exact ix_0 _ _ st
    have ig : ∀ st, ixD (.lst [.int (wg i).1, .int (wg i).2]) (.int 0) st = .ok (.int (wg i).1) st := fun st => ix_0 _ _ st
    have hso : ∀ st, sortSetI (.lst ((lensOf fnd).map D.int)) st = .ok (.lst ((x :: xs).map D.int)) st := fun st => by
      have hl64 : (lensOf fnd).length < 64 := by simp [lensOf]; omega
      simp only [sortSetI, intsOf_map, hl64, if_true, hs]
    obtain ⟨XL, hXL⟩ : ∃ XL, XL = D.lst ((x :: xs).map D.int) := ⟨_, rfl⟩
    obtain ⟨LL, hLL⟩ : ∃ LL, LL = (lensOf fnd).map D.int := ⟨_, rfl⟩
    obtain ⟨FL, hFL⟩ : ∃ FL, FL = fnd.map NDl := ⟨_, rfl⟩
    obtain ⟨WD', hWD⟩ : ∃ WD', WD' = wD n w := ⟨_, rfl⟩
    rw [← hXL] at il i0 hso
    rw [← hLL] at hso lc'
    rw [← hFL] at lc' hz hlf
    rw [← hWD] at lc' hlen
    rw [← hWD, ← hFL]
    have hzl : FL.length ≤ sizeLine := hz
    refine ⟨some XL, ?_, ?_⟩
    · simp only [sAsg, asgD, e1, eLc, i1, eVar, R.bind, R.then, List.getD_cons_succ, List.getD_cons_zero, seqI, hzl, if_true, lc', hso, List.set_cons_succ, List.set_cons_zero]
    · have q1 : neD (.int (n : Int)) (.int (n : Int)) = some false := by rw [neI]; simp
      have q2 : neD (.int (wg i).1) (.int (wg i).1) = some false := by rw [neI]; simp
      have hr : ∀ st, negD (.int 1) st = .ok (.int (-1)) st := fun st => rfl
      by_cases h : n = 2
      · have hf2 := h2 h
        have q3 : eqD (.int (n : Int)) (.int 2) = some true := by rw [eqI, h]; rfl
        have q4 : neD (.int (fnd.length : Int)) (.int 2) = some false := by rw [neI, hf2]; rfl
        simp only [tOrS, tAndS, t2, e1, e2, eC, eVar, eCallN, aCons, aNil, R.bind, R.then, List.getD_cons_succ, List.getD_cons_zero, List.length_cons, List.length_nil, if_true, i0, hlen, cmpB, q1, hr, il, callR, eg, ig, q2, q3, hlf, q4, Bool.false_eq_true, if_false]
      · have q3 : eqD (.int (n : Int)) (.int 2) = some false := by
          rw [eqI]
          have : ¬ (n : Int) = 2 := by omega
          simpa using this
        simp only [tOrS, tAndS, t2, e1, e2, eC, eVar, eCallN, aCons, aNil, R.bind, R.then, List.getD_cons_succ, List.getD_cons_zero, List.length_cons, List.length_nil, if_true, i0, hlen, cmpB, q1, hr, il, callR, eg, ig, q2, q3, Bool.false_eq_true, if_false]
/-- behind the drawn web -/
theorem lap_web {i : Nat} (hi : i < 7) (hn : n = wn i) (hc : Chk n (wg i).1 w) {k : Nat} (hk : k < 700000) {m : List Cell} (t : TM k m) {o0 o2 o5 o6 o7 o8 o9 o10 o11 o12 o13 o14 : Option D} :
    ∃ y5 y6 y7 y8 y9 y10 y11 y12 y13 y14 m', (sSeq (sParM .f1 .f1 5 6 (eLst (aCons (eTup (aCons (eTup aNil) (aCons (eVar 4) (aCons (eCallN 1 m__law_units (aCons (e1 lenC (eVar 4)) aNil)) aNil)))) aNil)) (eLst aNil)) (sSeq (sWhile fuel_law (t2 (cmpB neD) (eVar 5) (eLst aNil)) q_law_b1) q_law_r2)) ⟨[o0, some (.ref 0), o2, some (.str (wS i)), some (wD n w), o5, o6, o7, o8, o9, o10, o11, o12, o13, o14], m⟩ = .next ⟨[o0, some (.ref 0), o2, some (.str (wS i)), some (wD n w), y5, y6, y7, y8, y9, y10, y11, y12, y13, y14], m'⟩ ∧ TM (k + 100) m' := by
  obtain ⟨wt, fnd, r, sk, hkey, hwk, hbf, hrm, hfl, hrl, hln, h22⟩ := hc.ex
  have hw3 := wn_le i
  have h0 : 0 < n := by omega
  have h60 : n ≤ 60 := by omega
  have hgm := TM.good t
  have hm := hgm.1
  have hfull : ∀ x ∈ fnd, Full n (w, unM n) x := wk_full (s0 := (w, unM n)) 4000 _ _ _ hwk (fun x hx => by
    rw [List.mem_singleton.1 hx]
    exact ⟨True.intro, rfl, rfl⟩) (fun x hx => (List.not_mem_nil hx).elim)
  obtain ⟨y7, y8, y9, y10, ew⟩ := lw_loop h0 h60 (o0 := o0) (o1 := some (.ref 0)) (o2 := o2) (o3 := some (.str (wS i))) (o4 := some (wD n w)) hm 4000 _ _ _ 0 o7 o8 o9 o10 o11 o12 o13 o14 hwk (by omega) (by simp) (by simp) (fun x hx => by rw [List.mem_singleton.1 hx]; simp)
  have hlen : ∀ st, lenC (wD n w) st = .ok (.int n) st := fun st => lenF n _ st
  have hun := e_lunits h60 m
  rw [← wD_un] at hun
  have hnode : ([([], (w, unM n))] : List Node).reverse.map (nodD n) = [.tup [.tup [], wD n w, wD n (unM n)]] := rfl
  rw [hnode] at ew
  obtain ⟨y13, el1, el2⟩ := lens_ok (w := w) hi hn hfl hln h22 hm (o0 := o0) (o1 := some (.ref 0)) (o2 := o2) (o5 := some (.lst [])) (o7 := y7) (o8 := y8) (o9 := y9) (o10 := y10) (o11 := o11) (o12 := o12) (o13 := o13) (o14 := o14)
  obtain ⟨perm, m1, em, hperm, t1⟩ := e_mixedG NDl (fun l => by
    induction l with
    | nil => rfl
    | cons x l ih => simp only [List.map_cons, nrs, ih, Bool.and_true, NDl, nr]; exact nrs_nI x) t fnd rfl hfl (by omega)
  have hsl : ∀ st, slD (.lst (perm.map NDl)) none (some 8) st = .ok (.lst ((perm.take 8).map NDl)) st := fun st => by
    have := cutT (perm.map NDl) 8
    simp only [slD]
    rw [show (8 : Int) = ((8 : Nat) : Int) from rfl, this, List.map_take]
  obtain ⟨z11, z12, z14, m2, el, tz⟩ := lq_loop h0 h60 sk (o0 := o0) (o2 := o2) (o3 := some (.str (wS i))) (o5 := some (.lst [])) (o6 := some (.lst (fnd.map NDl))) (o7 := y7) (o8 := y8) (o9 := y9) (o10 := y10) (o13 := y13) (perm.take 8) (k + fnd.length) m1 o11 o12 o14 (fun x hx => by
    have hx' : x ∈ fnd := hperm.mem_iff.1 (List.mem_of_mem_take hx)
    exact ⟨hfull x hx', hrl x hx'⟩) (by
    have : (perm.take 8).length ≤ 8 := by rw [List.length_take]; omega
    omega) t1
  have hm2 := (TM.good tz).1
  have efr := e_fullrow h0 h60 sk hkey hbf hm2
  have hin := in_rows hrm
  have ht2 : TM (k + 100) m2 := tz.mono (by
    have : (perm.take 8).length ≤ 8 := by rw [List.length_take]; omega
    omega)
  refine ⟨some (.lst []), some (.lst (fnd.map NDl)), y7, y8, y9, y10, z11, z12, y13, z14, m2, ?_, ht2⟩
  obtain ⟨WD', hWD⟩ : ∃ WD', WD' = wD n w := ⟨_, rfl⟩
  obtain ⟨UD, hUD⟩ : ∃ UD, UD = wD n (unM n) := ⟨_, rfl⟩
  obtain ⟨FL, hFL⟩ : ∃ FL, FL = D.lst (fnd.map NDl) := ⟨_, rfl⟩
  have o3' : (3 : Nat) ≤ sizeLine := by rw [szl]; decide
  have o1' : (1 : Nat) ≤ sizeLine := by rw [szl]; decide
  have o0' : (0 : Nat) ≤ sizeLine := by rw [szl]; decide
  rw [← hWD] at ew hlen el1 el2 el efr
  rw [← hUD] at hun ew
  rw [← hWD]
  have step1 : sParM .f1 .f1 5 6 (eLst (aCons (eTup (aCons (eTup aNil) (aCons (eVar 4) (aCons (eCallN 1 m__law_units (aCons (e1 lenC (eVar 4)) aNil)) aNil)))) aNil)) (eLst aNil) ⟨[o0, some (.ref 0), o2, some (.str (wS i)), some WD', o5, o6, o7, o8, o9, o10, o11, o12, o13, o14], m⟩ = .next ⟨[o0, some (.ref 0), o2, some (.str (wS i)), some WD', some (.lst [.tup [.tup [], WD', UD]]), some (.lst []), o7, o8, o9, o10, o11, o12, o13, o14], m⟩ := by
    simp only [sParM, eLst, eTup, aCons, aNil, eVar, e1, eCallN, R.bind, R.then, List.length_cons, List.length_nil, List.getD_cons_succ, List.getD_cons_zero, hlen, callR, hun, if_true, o0', o1', o3', isL, Bool.and_self, List.set_cons_succ, List.set_cons_zero]
  rw [seq_nx step1]
  have step2 : sWhile fuel_law (t2 (cmpB neD) (eVar 5) (eLst aNil)) q_law_b1 ⟨[o0, some (.ref 0), o2, some (.str (wS i)), some WD', some (.lst [.tup [.tup [], WD', UD]]), some (.lst []), o7, o8, o9, o10, o11, o12, o13, o14], m⟩ = .next ⟨[o0, some (.ref 0), o2, some (.str (wS i)), some WD', some (.lst []), some (.lst (fnd.map NDl)), y7, y8, y9, y10, o11, o12, o13, o14], m⟩ := ew
  rw [seq_nx step2]
  unfold q_law_r2
  rw [seq_nx el1]
  rw [seq_nx (s' := ⟨[o0, some (.ref 0), o2, some (.str (wS i)), some WD', some (.lst []), some (.lst (fnd.map NDl)), y7, y8, y9, y10, o11, o12, y13, o14], m⟩) (by
    unfold sIf
    rw [el2]
    rfl)]
  rw [← hFL] at em el hin
  rw [← hFL]
  rw [seq_nx (s' := ⟨[o0, some (.ref 0), o2, some (.str (wS i)), some WD', some (.lst []), some FL, y7, y8, y9, y10, z11, z12, y13, z14], m2⟩) (by
    simp only [sFor, i1, eSl, eCallN, aCons, aNil, eVar, pNone, pSome, eC, R.bind, R.then, List.length_cons, List.length_nil, List.getD_cons_succ, List.getD_cons_zero, if_true, callR, em, hsl, seqI]
    exact el)]
  unfold q_law_r1
  simp only [sSeq, sIf, t2, eCallN, aCons, aNil, eVar, R.bind, R.then, List.length_cons, List.length_nil, List.getD_cons_succ, List.getD_cons_zero, if_true, callR, efr, cmpB, hin, Bool.false_eq_true, if_false, sNil]
end
theorem e_lap {k : Nat} (hk : k < 600000) {m : List Cell} (t : TM k m) {o0 o2 o3 o4 o5 o6 o7 o8 o9 o10 o11 o12 o13 o14 : Option D} :
    ∃ y3 y4 y5 y6 y7 y8 y9 y10 y11 y12 y13 y14 m', q_law_b3 ⟨[o0, some (.ref 0), o2, o3, o4, o5, o6, o7, o8, o9, o10, o11, o12, o13, o14], m⟩ = .next ⟨[o0, some (.ref 0), o2, y3, y4, y5, y6, y7, y8, y9, y10, y11, y12, y13, y14], m'⟩ ∧ TM (k + 200) m' := by
  obtain ⟨i, m1, hi, ed, t1⟩ := e_ofW (by omega) t
  obtain ⟨ss, m2, hsl, hss, t2, ek⟩ := e_kweb hi (by omega) t1
  obtain ⟨n, hn⟩ : ∃ n, n = wn i := ⟨_, rfl⟩
  have hw3 := wn_le i
  rw [← hn] at hsl ek hw3
  obtain ⟨L, m3, en, hp, t3⟩ := e_names t2 n (by omega) (by omega)
  obtain ⟨σ, inv, nm⟩ := nm_of hp
  have hm3 := (TM.good t3).1
  have el := e_lnamed nm (by omega) (by omega) (kwF (fun _ _ => 0) (wj i) ss) m3 hm3
  have hI := nm.perm
  have hweb : webF n (fun x y => kwF (fun _ _ => 0) (wj i) ss (inv x) (inv y)) = wD n (webI i ss ((List.range n).map inv)) := by
    unfold webI
    rw [← hn, wD_of]
    refine webF_congr fun x y hx hy => ?_
    have g : ∀ z, z < n → ((List.range n).map inv).getD z 0 = inv z := fun z hz => by
      rw [List.getD_eq_getElem?_getD, List.getElem?_map, List.getElem?_range hz]
      rfl
    rw [g x hx, g y hy]
  rw [hweb] at el
  have hc : Chk n (wg i).1 (webI i ss ((List.range n).map inv)) := by
    have := chk_web hi (ss := ss) (by rw [← hn]; exact hsl) hss (I := (List.range n).map inv) (by rw [← hn]; exact hI)
    rw [← hn] at this
    exact this
  obtain ⟨w, hw⟩ : ∃ w, w = webI i ss ((List.range n).map inv) := ⟨_, rfl⟩
  rw [← hw] at el hc
  obtain ⟨y5, y6, y7, y8, y9, y10, y11, y12, y13, y14, m', e, t'⟩ := lap_web hi hn hc (by omega) t3 (o0 := o0) (o2 := o2) (o5 := o5) (o6 := o6) (o7 := o7) (o8 := o8) (o9 := o9) (o10 := o10) (o11 := o11) (o12 := o12) (o13 := o13) (o14 := o14)
  refine ⟨some (.str (wS i)), some (wD n w), y5, y6, y7, y8, y9, y10, y11, y12, y13, y14, m', ?_, t'.mono (by omega)⟩
  have o7' : (7 : Nat) ≤ sizeLine := by rw [szl]; decide
  have ewd := e_wordV hi (v := 3) (r := [o0, some (.ref 0), o2, some (.str (wS i)), o4, o5, o6, o7, o8, o9, o10, o11, o12, o13, o14]) rfl m2
  rw [← hn] at ewd
  obtain ⟨W, hW⟩ : ∃ W, W = e1 intSD (eSlS (eVar 3) (pSome (eC (.int 1))) pNone) := ⟨_, rfl⟩
  rw [← hW] at ewd
  unfold q_law_b3
  rw [← hW]
  rw [seq_nx (s' := ⟨[o0, some (.ref 0), o2, some (.str (wS i)), o4, o5, o6, o7, o8, o9, o10, o11, o12, o13, o14], m1⟩) (by
    simp only [sAsg, asgD, eCallN, eLst, aCons, aNil, eVar, eC, R.bind, R.then, List.length_cons, List.length_nil, List.getD_cons_succ, List.getD_cons_zero, o7', if_true, callR, ed, List.set_cons_succ, List.set_cons_zero])]
  obtain ⟨KW, hKW⟩ : ∃ KW, KW = webF n (kwF (fun _ _ => 0) (wj i) ss) := ⟨_, rfl⟩
  obtain ⟨WD', hWD⟩ : ∃ WD', WD' = wD n w := ⟨_, rfl⟩
  obtain ⟨LD, hLD⟩ : ∃ LD, LD = NDl L := ⟨_, rfl⟩
  rw [← hKW] at ek el
  rw [← hWD] at el e ⊢
  rw [← hLD] at en el
  rw [seq_nx (s' := ⟨[o0, some (.ref 0), o2, some (.str (wS i)), some WD', o5, o6, o7, o8, o9, o10, o11, o12, o13, o14], m3⟩) (by
    simp only [sAsg, asgD, eCallN, aCons, aNil, eVar, R.bind, R.then, List.length_cons, List.length_nil, List.getD_cons_succ, List.getD_cons_zero, if_true, callR, ek, ewd, en, el, List.set_cons_succ, List.set_cons_zero])]
  exact e
theorem e_laps (x0 : Option D) : ∀ (l : List D) (k : Nat) (m : List Cell) (x2 x3 x4 x5 x6 x7 x8 x9 x10 x11 x12 x13 x14 : Option D), TM k m → k + 200 * l.length < 600000 →
    ∃ y2 y3 y4 y5 y6 y7 y8 y9 y10 y11 y12 y13 y14 m', forL (.one 2) q_law_b3 l ⟨[x0, some (.ref 0), x2, x3, x4, x5, x6, x7, x8, x9, x10, x11, x12, x13, x14], m⟩ = .next ⟨[x0, some (.ref 0), y2, y3, y4, y5, y6, y7, y8, y9, y10, y11, y12, y13, y14], m'⟩ := by
  intro l
  induction l with
  | nil =>
    intro k m x2 x3 x4 x5 x6 x7 x8 x9 x10 x11 x12 x13 x14 t _
    exact ⟨x2, x3, x4, x5, x6, x7, x8, x9, x10, x11, x12, x13, x14, m, by simp [forL]⟩
  | cons d l ih =>
    intro k m x2 x3 x4 x5 x6 x7 x8 x9 x10 x11 x12 x13 x14 t hk
    simp only [List.length_cons] at hk
    obtain ⟨y3, y4, y5, y6, y7, y8, y9, y10, y11, y12, y13, y14, m', e, t'⟩ := e_lap (by omega) t (o0 := x0) (o2 := some d) (o3 := x3) (o4 := x4) (o5 := x5) (o6 := x6) (o7 := x7) (o8 := x8) (o9 := x9) (o10 := x10) (o11 := x11) (o12 := x12) (o13 := x13) (o14 := x14)
    obtain ⟨z2, z3, z4, z5, z6, z7, z8, z9, z10, z11, z12, z13, z14, m'', e'⟩ := ih (k + 200) m' (some d) y3 y4 y5 y6 y7 y8 y9 y10 y11 y12 y13 y14 t' (by omega)
    refine ⟨z2, z3, z4, z5, z6, z7, z8, z9, z10, z11, z12, z13, z14, m'', ?_⟩
    rw [forL]
    simp only [asgD, List.set_cons_succ, List.set_cons_zero, e]
    exact e'
theorem law_plain (ns : List Int) (B : Nat) (hL : ∀ y : Nat, y ≤ 8192 * B → y.log2 < 90000000) (hb : ∀ z ∈ ns, z.natAbs ≤ B) (hn : ns.length ≤ 63) : ∃ m', m_law [.scr ns] [] = .ok (.bl true) m' := by
  obtain ⟨c, ec, hc⟩ := e_cells ns B hL hb hn []
  obtain ⟨A, b, eb, hA, hb0, hb2⟩ := e_box c [] (hL _ hc)
  have tin : TM 0 [.lst [.int A, .int b, .int 0]] := ⟨[], ⟨A, b, 0, rfl, hA, hb0, hb2, by decide, by decide⟩, rfl, rfl⟩
  have rng_len : (rngL 0 3).length = 3 := by decide
  obtain ⟨y2, y3, y4, y5, y6, y7, y8, y9, y10, y11, y12, y13, y14, m', e⟩ := e_laps (some (.scr ns)) (rngL 0 3) 0 _ none none none none none none none none none none none none none tin (by rw [rng_len]; decide)
  refine ⟨m', ?_⟩
  simp only [m_law, mkF, q_law]
  rw [seq_nx (s' := ⟨[some (.scr ns), some (.ref 0), none, none, none, none, none, none, none, none, none, none, none, none, none], [.lst [.int A, .int b, .int 0]]⟩) (by
    simp [sAsgC, eCallN, aCons, aNil, eVar, eC, R.bind, R.then, callR, ec, eb])]
  rw [seq_nx (s' := ⟨[some (.scr ns), some (.ref 0), y2, y3, y4, y5, y6, y7, y8, y9, y10, y11, y12, y13, y14], m'⟩) (by
    have r8 := rngS 3 ⟨[some (.scr ns), some (.ref 0), none, none, none, none, none, none, none, none, none, none, none, none, none], [.lst [.int A, .int b, .int 0]]⟩ (by decide)
    unfold sFor iN aCons aNil eC
    simp only [R.bind, R.then]
    rw [show (D.int 3) = D.int ((3 : Nat) : Int) from rfl, r8]
    exact e)]
  rfl
theorem lawTrue : DL.LawTrue m_law := fun ns hn hb => let ⟨B, hL, h⟩ := DL.bits_B hb; law_plain ns B hL h hn
end A15
set_option Elab.async false
set_option linter.all false
set_option maxRecDepth 100000
open PySem PySem.W PyProof.Rows
set_option maxHeartbeats 0 in
theorem PySem.Challenge.cw_hingewebs_k15_whole_all_green_rows_holds : PySem.Challenge.rw_hingewebs_k15_whole_all_green_rows.Holds := by
  w_on; o_law; k_head; (case hw => w_witness2)
  k_fill
  refine DL.walk_ofS (l := PySem.Challenge.rw_hingewebs_k15_whole_all_green_rows) (n := 63) (k := 10) (x := "script") rfl (by decide) (by decide) rfl ⟨rfl, by decide, by decide⟩ (by first | rfl | decide +kernel) rfl (fun w h Y => PySem.W.kIn_of Y) ?F
  case F =>
    intro w mg fa h KX G hmg
    refine' A15.all_mk A15.lawTrue KX G hmg ?a_Search ?pg_Search ?hd_Search ?po_Search ?sa_Search ?mk_Search ?k_Search ?nf_Search_level ?nf_Search_met ?a_Search_go_on ?i_Search_go_on ?l_Search_go_on ?cc_Search_go_on ?k_Search_go_on ?a_Search_found ?i_Search_found ?l_Search_found ?cc_Search_found ?k_Search_found ?a_Search___init__ ?i_Search___init__ ?l_Search___init__ ?cc_Search___init__ ?k_Search___init__ ?a__law_box ?l__law_box ?cc__law_box ?k__law_box ?a__law_cells ?l__law_cells ?cc__law_cells ?k__law_cells ?a__law_take ?l__law_take ?cc__law_take ?k__law_take ?a__law_of ?l__law_of ?cc__law_of ?k__law_of ?a__law_named ?l__law_named ?cc__law_named ?k__law_named ?a__law_joins ?l__law_joins ?cc__law_joins ?k__law_joins ?a__law_kind_web ?l__law_kind_web ?cc__law_kind_web ?k__law_kind_web ?a__law_mixed ?l__law_mixed ?cc__law_mixed ?k__law_mixed ?a__law_names ?l__law_names ?cc__law_names ?k__law_names ?a_goes_up ?l_goes_up ?cc_goes_up ?k_goes_up ?a_green_in ?l_green_in ?cc_green_in ?k_green_in ?a_hinge ?l_hinge ?cc_hinge ?k_hinge ?a_shaded ?l_shaded ?cc_shaded ?k_shaded ?a_unit_row ?l_unit_row ?cc_unit_row ?k_unit_row ?a_first_in ?l_first_in ?cc_first_in ?k_first_in ?a_tupled ?l_tupled ?cc_tupled ?k_tupled ?a_is_long ?l_is_long ?cc_is_long ?k_is_long ?a_is_number ?l_is_number ?cc_is_number ?k_is_number ?a_is_table ?l_is_table ?cc_is_table ?k_is_table ?a_beside ?l_beside ?cc_beside ?k_beside ?a_part_from ?l_part_from ?cc_part_from ?k_part_from ?a_whole_weights ?l_whole_weights ?cc_whole_weights ?k_whole_weights ?a_lowest_ratio ?l_lowest_ratio ?cc_lowest_ratio ?k_lowest_ratio ?a_sign ?l_sign ?cc_sign ?k_sign ?a_part_weights ?l_part_weights ?cc_part_weights ?k_part_weights ?a_weights_in ?l_weights_in ?cc_weights_in ?k_weights_in ?a_is_web ?l_is_web ?cc_is_web ?k_is_web ?a_sure_web ?l_sure_web ?cc_sure_web ?k_sure_web ?a_full_row ?l_full_row ?cc_full_row ?k_full_row ?a_walked_shades ?l_walked_shades ?cc_walked_shades ?k_walked_shades ?a_green_path ?l_green_path ?cc_green_path ?k_green_path ?a_is_full_row ?l_is_full_row ?cc_is_full_row ?k_is_full_row ?a_sure_row ?l_sure_row ?cc_sure_row ?k_sure_row ?a_is_from ?l_is_from ?cc_is_from ?k_is_from ?a_is_below ?l_is_below ?cc_is_below ?k_is_below ?a_known_place ?l_known_place ?cc_known_place ?k_known_place ?a_known_row ?l_known_row ?cc_known_row ?k_known_row ?a_is_green_row ?l_is_green_row ?cc_is_green_row ?k_is_green_row ?a__law_same ?l__law_same ?cc__law_same ?k__law_same ?a__law_units ?l__law_units ?cc__law_units ?k__law_units ?a__law_greens ?l__law_greens ?cc__law_greens ?k__law_greens ?a__law_hinge ?l__law_hinge ?cc__law_hinge ?k__law_hinge ?a__law_shade ?l__law_shade ?cc__law_shade ?k__law_shade ?a_law ?l_law ?cc_law ?k_law ?n_abs ?n_all ?n_any ?n_bool ?n_dict ?n_enumerate ?n_int ?n_isinstance ?n_len ?n_list ?n_min ?n_range ?n_set ?n_sorted ?n_str ?n_tuple ?n_zip ?u_MOST_STANDS ?b_gcd ?a_CanNot ?s_CanNot ?y_CanNot ?a_TooMany ?s_TooMany ?y_TooMany ?a_Unfit ?s_Unfit ?y_Unfit ?q_Unfit ?k_Unfit ?q_CanNot ?k_CanNot ?q_TooMany ?k_TooMany
    (case a_Search => k_is); (case pg_Search => k_is); (case hd_Search => k_is); (case po_Search => k_is); (case sa_Search => k_is); (case mk_Search => k_is); (case k_Search => k_is); (case nf_Search_level => k_is); (case nf_Search_met => k_is); (case a_Search_go_on => k_is); (case i_Search_go_on => k_is); (case l_Search_go_on => k_is); (case cc_Search_go_on => k_is); (case k_Search_go_on => k_is); (case a_Search_found => k_is); (case i_Search_found => k_is); (case l_Search_found => k_is); (case cc_Search_found => k_is); (case k_Search_found => k_is); (case a_Search___init__ => k_is); (case i_Search___init__ => k_is); (case l_Search___init__ => k_is); (case cc_Search___init__ => k_is); (case k_Search___init__ => k_is); (case a__law_box => k_is); (case l__law_box => k_is); (case cc__law_box => k_is); (case k__law_box => k_is); (case a__law_cells => k_is); (case l__law_cells => k_is); (case cc__law_cells => k_is); (case k__law_cells => k_is); (case a__law_take => k_is); (case l__law_take => k_is); (case cc__law_take => k_is); (case k__law_take => k_is); (case a__law_of => k_is); (case l__law_of => k_is); (case cc__law_of => k_is); (case k__law_of => k_is); (case a__law_named => k_is); (case l__law_named => k_is); (case cc__law_named => k_is); (case k__law_named => k_is); (case a__law_joins => k_is); (case l__law_joins => k_is); (case cc__law_joins => k_is); (case k__law_joins => k_is); (case a__law_kind_web => k_is); (case l__law_kind_web => k_is); (case cc__law_kind_web => k_is); (case k__law_kind_web => k_is); (case a__law_mixed => k_is); (case l__law_mixed => k_is); (case cc__law_mixed => k_is); (case k__law_mixed => k_is); (case a__law_names => k_is); (case l__law_names => k_is); (case cc__law_names => k_is); (case k__law_names => k_is); (case a_goes_up => k_is); (case l_goes_up => k_is); (case cc_goes_up => k_is); (case k_goes_up => k_is); (case a_green_in => k_is); (case l_green_in => k_is); (case cc_green_in => k_is); (case k_green_in => k_is); (case a_hinge => k_is); (case l_hinge => k_is); (case cc_hinge => k_is); (case k_hinge => k_is); (case a_shaded => k_is); (case l_shaded => k_is); (case cc_shaded => k_is); (case k_shaded => k_is); (case a_unit_row => k_is); (case l_unit_row => k_is); (case cc_unit_row => k_is); (case k_unit_row => k_is); (case a_first_in => k_is); (case l_first_in => k_is); (case cc_first_in => k_is); (case k_first_in => k_is); (case a_tupled => k_is); (case l_tupled => k_is); (case cc_tupled => k_is); (case k_tupled => k_is); (case a_is_long => k_is); (case l_is_long => k_is); (case cc_is_long => k_is); (case k_is_long => k_is); (case a_is_number => k_is); (case l_is_number => k_is); (case cc_is_number => k_is); (case k_is_number => k_is); (case a_is_table => k_is); (case l_is_table => k_is); (case cc_is_table => k_is); (case k_is_table => k_is); (case a_beside => k_is); (case l_beside => k_is); (case cc_beside => k_is); (case k_beside => k_is); (case a_part_from => k_is); (case l_part_from => k_is); (case cc_part_from => k_is); (case k_part_from => k_is); (case a_whole_weights => k_is); (case l_whole_weights => k_is); (case cc_whole_weights => k_is); (case k_whole_weights => k_is); (case a_lowest_ratio => k_is); (case l_lowest_ratio => k_is); (case cc_lowest_ratio => k_is); (case k_lowest_ratio => k_is); (case a_sign => k_is); (case l_sign => k_is); (case cc_sign => k_is); (case k_sign => k_is); (case a_part_weights => k_is); (case l_part_weights => k_is); (case cc_part_weights => k_is); (case k_part_weights => k_is); (case a_weights_in => k_is); (case l_weights_in => k_is); (case cc_weights_in => k_is); (case k_weights_in => k_is); (case a_is_web => k_is); (case l_is_web => k_is); (case cc_is_web => k_is); (case k_is_web => k_is); (case a_sure_web => k_is); (case l_sure_web => k_is); (case cc_sure_web => k_is); (case k_sure_web => k_is); (case a_full_row => k_is); (case l_full_row => k_is); (case cc_full_row => k_is); (case k_full_row => k_is); (case a_walked_shades => k_is); (case l_walked_shades => k_is); (case cc_walked_shades => k_is); (case k_walked_shades => k_is); (case a_green_path => k_is); (case l_green_path => k_is); (case cc_green_path => k_is); (case k_green_path => k_is); (case a_is_full_row => k_is); (case l_is_full_row => k_is); (case cc_is_full_row => k_is); (case k_is_full_row => k_is); (case a_sure_row => k_is); (case l_sure_row => k_is); (case cc_sure_row => k_is); (case k_sure_row => k_is); (case a_is_from => k_is); (case l_is_from => k_is); (case cc_is_from => k_is); (case k_is_from => k_is); (case a_is_below => k_is); (case l_is_below => k_is); (case cc_is_below => k_is); (case k_is_below => k_is); (case a_known_place => k_is); (case l_known_place => k_is); (case cc_known_place => k_is); (case k_known_place => k_is); (case a_known_row => k_is); (case l_known_row => k_is); (case cc_known_row => k_is); (case k_known_row => k_is); (case a_is_green_row => k_is); (case l_is_green_row => k_is); (case cc_is_green_row => k_is); (case k_is_green_row => k_is); (case a__law_same => k_is); (case l__law_same => k_is); (case cc__law_same => k_is); (case k__law_same => k_is); (case a__law_units => k_is); (case l__law_units => k_is); (case cc__law_units => k_is); (case k__law_units => k_is); (case a__law_greens => k_is); (case l__law_greens => k_is); (case cc__law_greens => k_is); (case k__law_greens => k_is); (case a__law_hinge => k_is); (case l__law_hinge => k_is); (case cc__law_hinge => k_is); (case k__law_hinge => k_is); (case a__law_shade => k_is); (case l__law_shade => k_is); (case cc__law_shade => k_is); (case k__law_shade => k_is); (case a_law => k_is); (case l_law => k_is); (case cc_law => k_is); (case k_law => k_is); (case n_abs => k_is); (case n_all => k_is); (case n_any => k_is); (case n_bool => k_is); (case n_dict => k_is); (case n_enumerate => k_is); (case n_int => k_is); (case n_isinstance => k_is); (case n_len => k_is); (case n_list => k_is); (case n_min => k_is); (case n_range => k_is); (case n_set => k_is); (case n_sorted => k_is); (case n_str => k_is); (case n_tuple => k_is); (case n_zip => k_is); (case u_MOST_STANDS => k_is); (case b_gcd => k_is); (case a_CanNot => k_is); (case s_CanNot => k_is); (case y_CanNot => k_is); (case a_TooMany => k_is); (case s_TooMany => k_is); (case y_TooMany => k_is); (case a_Unfit => k_is); (case s_Unfit => k_is); (case y_Unfit => k_is); (case q_Unfit => k_exc); (case k_Unfit => k_is); (case q_CanNot => k_exc); (case k_CanNot => k_is); (case q_TooMany => k_exc); (case k_TooMany => k_is)
