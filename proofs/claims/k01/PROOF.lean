import PyProof.Rows.All
import Wide.All
import OpenK.AllK
import Wide.FinOn
import HandS.ForMost
import HandS.Property
import HandS.ExcInit
import HandS.ExcValue
import KE.KExcSuper
import KE.KSuper
import HandS.ExcSuper
import HandS.ExcField
import HandS.Deep
import HandS.DictComp
import HandS.IsInst
import HandS.SortInts
import HandS.TupAny
import HandS.Style
import HandS.RaiseMore
import HandS.SetFor
import HandS.Strs
import HandS.Small
import HandS.More
import PyProof.ReprRoads
import HandS.Text
import HandS.List
import KE.LtData
import HandS.ExcIs
import KE.KExcIs
import PyProof.StrBlock2
import HandS.Ends
import HandS.HeadEnd
import PyProof.ReprLen
import PySem.Challenge.RW_tipsandtwins_k01_errors_made
section
set_option Elab.async false
set_option linter.all false
set_option maxRecDepth 100000
namespace En
open PySem PySem.Spec PyProof.Rows L2

/-- plain data: what a value is worth, with no heap -/
inductive D where
  | un | non | bl (b : Bool) | int (i : Int) | str (s : Str)
  | lst (xs : List D) | tup (xs : List D) | dct (kvs : List (Key × D)) | ins (fs : List (Str × D)) | scr (ns : List Int) | ord (ss : List Str)

/-- a list of the written part -/
def KL (K : PySem.W.Frag) (a : Addr) (xs : List V) : Prop :=
  ∃ (o : Obj) (its : Array Value) (n : Nat), K.lookup a = some o ∧ o.cls = .type "list" ∧ o.dict = none ∧ o.data = .seq its n ∧ its.size ≤ sizeLine ∧ Vals xs its.toList
/-- at p, outside X, stands the list xs that is only read -/
def LN (K : PySem.W.Frag) (X : Addr → Prop) (H : Hp) (p : Addr) (xs : List V) : Prop := (¬ X p ∧ Rd H p (.lst xs)) ∨ KL K p xs
theorem LN.seq {K : PySem.W.Frag} {X : Addr → Prop} {H : Hp} {p : Addr} {xs : List V} (h : LN K X H p xs) : SqL K H p xs := h.elim (fun h => .inl h.2) .inr

section
variable (K : PySem.W.Frag) (C : Addr) (X : Addr → Prop) (H : Hp)
mutual
/-- the value v is worth the data d: no object of it lies in X -/
def FRep : D → V → Prop
  | .un => fun _ => False
  | .non => fun v => v = .non
  | .bl b => fun v => v = .bl b
  | .int i => fun v => v = .int i
  | .str s => fun v => v = .str s
  | .lst ds => fun v => ∃ p xs, v = .ref p ∧ ¬ X p ∧ H p = some (.lst xs) ∧ FReps ds xs
  | .tup ds => fun v => ∃ p xs, v = .ref p ∧ ¬ X p ∧ H p = some (.tup xs) ∧ FReps ds xs
  | .scr ns => fun v => ∃ p, v = .ref p ∧ LN K X H p (ns.map V.int)
  | .ord ss => fun v => ∃ p o, v = .ref p ∧ ¬ X p ∧ H p = some (.frz o (.tup (ss.map V.str))) ∧ o.dict = none
  | .dct kds => fun v => ∃ p kvs, v = .ref p ∧ ¬ X p ∧ Rd H p (.dK kvs) ∧ FRepK kds kvs
  | .ins fds => fun v => ∃ p dx fvs, v = .ref p ∧ ¬ X p ∧ H p = some (.ins C dx fvs) ∧ FRepF fds fvs
def FReps : List D → List V → Prop
  | [] => fun vs => vs = []
  | d :: ds => fun vs => ∃ v r, vs = v :: r ∧ FRep d v ∧ FReps ds r
def FRepK : List (Key × D) → List (Key × V) → Prop
  | [] => fun vs => vs = []
  | (k, d) :: ds => fun vs => ∃ v r, vs = (k, v) :: r ∧ FRep d v ∧ FRepK ds r
def FRepF : List (Str × D) → List (Str × V) → Prop
  | [] => fun vs => vs = []
  | (k, d) :: ds => fun vs => ∃ v r, vs = (k, v) :: r ∧ FRep d v ∧ FRepF ds r
end
end

/-- what stood outside X stands outside X' -/
structure Mv (X : Addr → Prop) (H : Hp) (X' : Addr → Prop) (H' : Hp) : Prop where
  rd : ∀ a u, Rd H a u → ¬ X a → Rd H' a u ∧ ¬ X' a
  ex : ∀ a o, H a = some o → (∀ kvs, o ≠ .dK kvs) → ¬ X a → H' a = some o ∧ ¬ X' a

section
variable {K : PySem.W.Frag} {C : Addr} {X X' : Addr → Prop} {H H' : Hp}
mutual
theorem FRep.mv (m : Mv X H X' H') : ∀ {d : D} {v : V}, FRep K C X H d v → FRep K C X' H' d v
  | .un, _, h => h
  | .non, _, h => h
  | .bl _, _, h => h
  | .int _, _, h => h
  | .str _, _, h => h
  | .lst ds, v, h => by
    simp only [FRep] at h ⊢
    obtain ⟨p, xs, e, n, q, r⟩ := h
    have z := m.ex _ _ q (fun _ => nofun) n
    exact ⟨p, xs, e, z.2, z.1, FReps.mv m r⟩
  | .tup ds, v, h => by
    simp only [FRep] at h ⊢
    obtain ⟨p, xs, e, n, q, r⟩ := h
    have z := m.ex _ _ q (fun _ => nofun) n
    exact ⟨p, xs, e, z.2, z.1, FReps.mv m r⟩
  | .scr ns, v, h => by
    simp only [FRep] at h ⊢
    obtain ⟨p, e, n⟩ := h
    refine ⟨p, e, ?_⟩
    rcases n with ⟨n, q⟩ | n
    · exact .inl ⟨(m.rd _ _ q n).2, (m.rd _ _ q n).1⟩
    · exact .inr n
  | .ord ss, v, h => by
    simp only [FRep] at h ⊢
    obtain ⟨p, o, e, n, q, r⟩ := h
    have z := m.ex _ _ q (fun _ => nofun) n
    exact ⟨p, o, e, z.2, z.1, r⟩
  | .dct kds, v, h => by
    simp only [FRep] at h ⊢
    obtain ⟨p, kvs, e, n, q, r⟩ := h
    exact ⟨p, kvs, e, (m.rd _ _ q n).2, (m.rd _ _ q n).1, FRepK.mv m r⟩
  | .ins fds, v, h => by
    simp only [FRep] at h ⊢
    obtain ⟨p, dx, fvs, e, n, q, r⟩ := h
    have z := m.ex _ _ q (fun _ => nofun) n
    exact ⟨p, dx, fvs, e, z.2, z.1, FRepF.mv m r⟩
theorem FReps.mv (m : Mv X H X' H') : ∀ {ds : List D} {vs : List V}, FReps K C X H ds vs → FReps K C X' H' ds vs
  | [], _, h => h
  | d :: ds, vs, h => by
    simp only [FReps] at h ⊢
    obtain ⟨v, r, e, a, b⟩ := h
    exact ⟨v, r, e, FRep.mv m a, FReps.mv m b⟩
theorem FRepK.mv (m : Mv X H X' H') : ∀ {ds : List (Key × D)} {vs : List (Key × V)}, FRepK K C X H ds vs → FRepK K C X' H' ds vs
  | [], _, h => h
  | (k, d) :: ds, vs, h => by
    simp only [FRepK] at h ⊢
    obtain ⟨v, r, e, a, b⟩ := h
    exact ⟨v, r, e, FRep.mv m a, FRepK.mv m b⟩
theorem FRepF.mv (m : Mv X H X' H') : ∀ {ds : List (Str × D)} {vs : List (Str × V)}, FRepF K C X H ds vs → FRepF K C X' H' ds vs
  | [], _, h => h
  | (k, d) :: ds, vs, h => by
    simp only [FRepF] at h ⊢
    obtain ⟨v, r, e, a, b⟩ := h
    exact ⟨v, r, e, FRep.mv m a, FRepF.mv m b⟩
end
theorem Mv.anti (h : ∀ a, X' a → X a) : Mv X H X' H := ⟨fun _ _ q n => ⟨q, fun z => n (h _ z)⟩, fun _ _ q _ n => ⟨q, fun z => n (h _ z)⟩⟩
def no : Addr → Prop := fun _ => False
/-- what was tracked and not in W is as it was; a dict outside X may have been locked -/
structure Fr (X W : Addr → Prop) (H H' : Hp) : Prop where
  keep : ∀ a o, H a = some o → ¬ W a → H' a = some o ∨ (¬ X a ∧ ∃ kvs od, o = .dK kvs ∧ H' a = some (.frz od (.dK kvs)))
  trk : ∀ a, H a ≠ none → H' a ≠ none
theorem Fr.refl (X W : Addr → Prop) (H : Hp) : Fr X W H H := ⟨fun _ _ h _ => .inl h, fun _ h => h⟩
theorem Fr.same {W : Addr → Prop} (a : Same H H') : Fr X W H H' := ⟨fun c o e _ => .inl (a c o e), fun c h => by
  cases q : H c with
  | none => exact absurd q h
  | some o => rw [a _ _ q]; simp⟩
theorem Fr.trans {W : Addr → Prop} {H1 : Hp} (a : Fr X W H H1) (b : Fr X W H1 H') : Fr X W H H' := by
  refine ⟨fun c o e n => ?_, fun c h => b.trk c (a.trk c h)⟩
  rcases a.keep c o e n with q | ⟨nx, kvs, od, rfl, q⟩
  · exact b.keep c o q n
  · rcases b.keep c _ q n with r | ⟨_, _, _, r, _⟩
    · exact .inr ⟨nx, kvs, od, rfl, r⟩
    · cases r
theorem Fr.mono {W W' : Addr → Prop} (a : Fr X W H H') (h : ∀ a, W a → W' a) : Fr X W' H H' := ⟨fun c o e n => a.keep c o e fun z => n (h c z), a.trk⟩
theorem Fr.at {W : Addr → Prop} (f : Fr X W H H') {a : Addr} (hx : X a) (hw : ¬ W a) (ht : H a ≠ none) : H' a = H a := by
  cases q : H a with
  | none => exact absurd q ht
  | some o =>
    rcases f.keep a o q hw with r | ⟨n, _⟩
    · exact r
    · exact absurd hx n
/-- the general way of moving -/
theorem Mv.fr {W : Addr → Prop} (f : Fr X W H H') (hw : ∀ a, W a → X a) (hx : ∀ a, X' a → X a ∨ H a = none) : Mv X H X' H' := by
  refine ⟨fun a u q n => ?_, fun a o q ne n => ?_⟩
  · rcases q with q | ⟨o, q⟩
    · refine ⟨?_, fun z => (hx a z).elim n fun e => by rw [q] at e; cases e⟩
      rcases f.keep _ _ q (fun z => n (hw _ z)) with r | ⟨_, kvs, od, e, r⟩
      · exact .inl r
      · subst e; exact .inr ⟨od, r⟩
    · refine ⟨?_, fun z => (hx a z).elim n fun e => by rw [q] at e; cases e⟩
      rcases f.keep _ _ q (fun z => n (hw _ z)) with r | ⟨_, kvs, od, e, r⟩
      · exact .inr ⟨o, r⟩
      · cases e
  · refine ⟨?_, fun z => (hx a z).elim n fun e => by rw [q] at e; cases e⟩
    rcases f.keep _ _ q (fun z => n (hw _ z)) with r | ⟨_, kvs, od, e, r⟩
    · exact r
    · exact absurd e (ne kvs)
theorem same_new {H : Hp} {p : Addr} {o : HO} (h : H p = none) : Same H (upd H p o) := fun b x e => by
  rw [upd_ne (ne_of_none e h)]; exact e
theorem FReps.length : ∀ {ds : List D} {vs : List V}, FReps K C X H ds vs → ds.length = vs.length
  | [], _, h => by simp only [FReps] at h; rw [h]; rfl
  | d :: ds, vs, h => by
    simp only [FReps] at h
    obtain ⟨v, r, e, a, b⟩ := h
    rw [e, List.length_cons, List.length_cons, FReps.length b]
theorem FReps.get : ∀ {ds : List D} {vs : List V} {i : Nat} {d : D}, FReps K C X H ds vs → ds[i]? = some d → ∃ v, vs[i]? = some v ∧ FRep K C X H d v
  | [], _, _, _, _, h => by simp at h
  | d :: ds, vs, 0, e, h, q => by
    simp only [FReps] at h
    obtain ⟨v, r, rfl, a, b⟩ := h
    simp at q; subst q
    exact ⟨v, rfl, a⟩
  | d :: ds, vs, i + 1, e, h, q => by
    simp only [FReps] at h
    obtain ⟨v, r, rfl, a, b⟩ := h
    obtain ⟨w, h1, h2⟩ := FReps.get (i := i) b (by simpa using q)
    exact ⟨w, by simpa using h1, h2⟩
theorem FReps.append : ∀ {ds es : List D} {vs ws : List V}, FReps K C X H ds vs → FReps K C X H es ws → FReps K C X H (ds ++ es) (vs ++ ws)
  | [], _, _, _, h, q => by simp only [FReps] at h; subst h; exact q
  | d :: ds, es, vs, ws, h, q => by
    simp only [FReps] at h
    obtain ⟨v, r, rfl, a, b⟩ := h
    simp only [List.cons_append, FReps]
    exact ⟨v, r ++ ws, rfl, a, FReps.append b q⟩
theorem FReps.take : ∀ {ds : List D} {vs : List V} (n : Nat), FReps K C X H ds vs → FReps K C X H (ds.take n) (vs.take n)
  | [], _, n, h => by simp only [FReps] at h; subst h; simp [FReps]
  | d :: ds, vs, 0, h => by simp [FReps]
  | d :: ds, vs, n + 1, h => by
    simp only [FReps] at h
    obtain ⟨v, r, rfl, a, b⟩ := h
    simp only [List.take_succ_cons, FReps]
    exact ⟨v, _, rfl, a, FReps.take n b⟩
theorem FReps.set : ∀ {ds : List D} {vs : List V} {d : D} {v : V} (i : Nat), FReps K C X H ds vs → FRep K C X H d v → FReps K C X H (ds.set i d) (vs.set i v)
  | [], _, _, _, _, h, _ => by simp only [FReps] at h; subst h; simp [FReps]
  | d :: ds, vs, e, w, 0, h, q => by
    simp only [FReps] at h
    obtain ⟨v, r, rfl, a, b⟩ := h
    simp only [List.set_cons_zero, FReps]
    exact ⟨w, r, rfl, q, b⟩
  | d :: ds, vs, e, w, n + 1, h, q => by
    simp only [FReps] at h
    obtain ⟨v, r, rfl, a, b⟩ := h
    simp only [List.set_cons_succ, FReps]
    exact ⟨v, _, rfl, a, FReps.set n b q⟩
end

def valD (kvs : List (Key × D)) (k : Key) : Option D := (kvs.find? fun kv => decide (kv.1 = k)).map (·.2)
def putD (kvs : List (Key × D)) (k : Key) (v : D) : List (Key × D) :=
  if (kvs.any fun kv => decide (kv.1 = k)) = true then kvs.map (fun kv => if kv.1 = k then (kv.1, v) else kv) else kvs ++ [(k, v)]
section
variable {K : PySem.W.Frag} {C : Addr} {X X' : Addr → Prop} {H H' : Hp}
theorem FRepK.length : ∀ {ds : List (Key × D)} {vs : List (Key × V)}, FRepK K C X H ds vs → ds.length = vs.length
  | [], _, h => by simp only [FRepK] at h; rw [h]; rfl
  | (k, d) :: ds, vs, h => by
    simp only [FRepK] at h
    obtain ⟨v, r, e, a, b⟩ := h
    rw [e, List.length_cons, List.length_cons, FRepK.length b]
theorem FRepK.val : ∀ {ds : List (Key × D)} {vs : List (Key × V)} (k : Key), FRepK K C X H ds vs → (valD ds k = none ∧ valV vs k = none) ∨ ∃ d v, valD ds k = some d ∧ valV vs k = some v ∧ FRep K C X H d v
  | [], _, k, h => by simp only [FRepK] at h; subst h; exact .inl ⟨rfl, rfl⟩
  | (j, d) :: ds, vs, k, h => by
    simp only [FRepK] at h
    obtain ⟨v, r, rfl, a, b⟩ := h
    by_cases e : j = k
    · exact .inr ⟨d, v, by simp [valD, List.find?_cons, e], by simp [valV, List.find?_cons, e], a⟩
    · have e1 : valD ((j, d) :: ds) k = valD ds k := by simp [valD, List.find?_cons, e]
      have e2 : valV ((j, v) :: r) k = valV r k := by simp [valV, List.find?_cons, e]
      rw [e1, e2]
      exact FRepK.val k b
theorem FRepK.any : ∀ {ds : List (Key × D)} {vs : List (Key × V)} (k : Key), FRepK K C X H ds vs → (ds.any fun kv => decide (kv.1 = k)) = (vs.any fun kv => decide (kv.1 = k))
  | [], _, k, h => by simp only [FRepK] at h; subst h; rfl
  | (j, d) :: ds, vs, k, h => by
    simp only [FRepK] at h
    obtain ⟨v, r, rfl, a, b⟩ := h
    rw [List.any_cons, List.any_cons, FRepK.any k b]
theorem FRepK.append : ∀ {ds es : List (Key × D)} {vs ws : List (Key × V)}, FRepK K C X H ds vs → FRepK K C X H es ws → FRepK K C X H (ds ++ es) (vs ++ ws)
  | [], _, _, _, h, q => by simp only [FRepK] at h; subst h; exact q
  | (k, d) :: ds, es, vs, ws, h, q => by
    simp only [FRepK] at h
    obtain ⟨v, r, rfl, a, b⟩ := h
    simp only [List.cons_append, FRepK]
    exact ⟨v, r ++ ws, rfl, a, FRepK.append b q⟩
theorem FRepK.repl {e : D} {w : V} (k : Key) (q : FRep K C X H e w) : ∀ {ds : List (Key × D)} {vs : List (Key × V)}, FRepK K C X H ds vs →
    FRepK K C X H (ds.map fun kv => if kv.1 = k then (kv.1, e) else kv) (vs.map fun kv => if kv.1 = k then (kv.1, w) else kv)
  | [], _, h => by simp only [FRepK] at h; subst h; simp [FRepK]
  | (j, d) :: ds, vs, h => by
    simp only [FRepK] at h
    obtain ⟨v, r, rfl, a, b⟩ := h
    rw [List.map_cons, List.map_cons]
    by_cases z : j = k
    · simp only [z, if_true, FRepK]; exact ⟨w, _, rfl, q, FRepK.repl k q b⟩
    · simp only [z, if_false, FRepK]; exact ⟨v, _, rfl, a, FRepK.repl k q b⟩
theorem FRepK.put {ds : List (Key × D)} {vs : List (Key × V)} {e : D} {w : V} (k : Key) (h : FRepK K C X H ds vs) (q : FRep K C X H e w) : FRepK K C X H (putD ds k e) (putK vs k w) := by
  unfold putD putK
  rw [h.any k]
  split
  · exact h.repl k q
  · refine h.append ?_
    simp only [FRepK]
    exact ⟨w, [], rfl, q, rfl⟩
theorem FRepF.val : ∀ {ds : List (Str × D)} {vs : List (Str × V)} {k : Str} {d : D}, FRepF K C X H ds vs → ds.lookup k = some d → ∃ v, vs.lookup k = some v ∧ FRep K C X H d v
  | [], _, k, _, h, q => by simp at q
  | (j, e) :: ds, vs, k, d, h, q => by
    simp only [FRepF] at h
    obtain ⟨v, r, rfl, a, b⟩ := h
    rw [List.lookup_cons] at q ⊢
    by_cases z : k == j
    · rw [z] at q ⊢
      cases q
      exact ⟨v, rfl, a⟩
    · have z' : (k == j) = false := by simpa using z
      rw [z'] at q ⊢
      exact FRepF.val b q
theorem FRepF.none : ∀ {ds : List (Str × D)} {vs : List (Str × V)} {k : Str}, FRepF K C X H ds vs → ds.lookup k = none → vs.lookup k = none
  | [], _, k, h, q => by simp only [FRepF] at h; subst h; rfl
  | (j, e) :: ds, vs, k, h, q => by
    simp only [FRepF] at h
    obtain ⟨v, r, rfl, a, b⟩ := h
    rw [List.lookup_cons] at q ⊢
    by_cases z : k == j
    · rw [z] at q; cases q
    · have z' : (k == j) = false := by simpa using z
      rw [z'] at q ⊢
      exact FRepF.none b q
end

/-- the list or dict at p, that one slot alone holds -/
def SlotU (K : PySem.W.Frag) (C : Addr) (X : Addr → Prop) (H : Hp) (p : Addr) (d : D) : Prop :=
  match d with
  | .lst ds => ∃ xs, H p = some (.lst xs) ∧ FReps K C X H ds xs
  | .dct kds => ∃ kvs, H p = some (.dK kvs) ∧ FRepK K C X H kds kvs
  | _ => False
abbrev Own := List (Option Addr)
def ow (own : List (Option Addr)) : Addr → Prop := fun a => some a ∈ own
def Xof (O : Addr → Prop) (own : Own) : Addr → Prop := fun a => O a ∨ ow own a
theorem SlotU.mv {K : PySem.W.Frag} {C : Addr} {X X' : Addr → Prop} {H H' : Hp} {p : Addr} {d : D} (h : SlotU K C X H p d) (m : Mv X H X' H') (e : H' p = H p) : SlotU K C X' H' p d := by
  cases d <;> try exact h
  · obtain ⟨xs, a, b⟩ := h; exact ⟨xs, e.trans a, b.mv m⟩
  · obtain ⟨xs, a, b⟩ := h; exact ⟨xs, e.trans a, b.mv m⟩
theorem SlotU.trk {K : PySem.W.Frag} {C : Addr} {X : Addr → Prop} {H : Hp} {p : Addr} {d : D} (h : SlotU K C X H p d) : H p ≠ none := by
  cases d <;> try exact h.elim
  · obtain ⟨xs, a, b⟩ := h; rw [a]; simp
  · obtain ⟨xs, a, b⟩ := h; rw [a]; simp
/-- a list or dict that is held alone is data, once p is let go -/
theorem SlotU.rep {K : PySem.W.Frag} {C : Addr} {X X' : Addr → Prop} {H : Hp} {p : Addr} {d : D} (h : SlotU K C X H p d) (hx : ∀ a, X' a → X a) (hp : ¬ X' p) : FRep K C X' H d (.ref p) := by
  cases d <;> try exact h.elim
  · obtain ⟨xs, a, b⟩ := h
    simp only [FRep]
    exact ⟨p, xs, rfl, hp, a, b.mv (Mv.anti hx)⟩
  · obtain ⟨xs, a, b⟩ := h
    simp only [FRep]
    exact ⟨p, xs, rfl, hp, .inl a, b.mv (Mv.anti hx)⟩

/-- the slots: modes μ (true: held alone), data ρ, whose object is whose (own); O: what others hold alone -/
structure EOk (K : PySem.W.Frag) (C : Addr) (O : Addr → Prop) (μ : List Bool) (ρ : List D) (own : Own) (σ : L2.St) (H : Hp) : Prop where
  lr : ρ.length = σ.length
  lo : own.length = σ.length
  lm : μ.length = σ.length
  uniq : ∀ (i j : Nat) p, own[i]? = some (some p) → own[j]? = some (some p) → i = j
  out : ∀ (i : Nat) p, own[i]? = some (some p) → ¬ O p
  otr : ∀ (i : Nat) p, own[i]? = some (some p) → H p ≠ none
  trk : ∀ a, O a → H a ≠ none
  md : ∀ i : Nat, μ[i]? = some false → own[i]? = some none
  atF : ∀ (i : Nat) d, ρ[i]? = some d → d ≠ .un → μ[i]? = some false → ∃ v, σ[i]? = some (some v) ∧ FRep K C (Xof O own) H d v
  atU : ∀ (i : Nat) d, ρ[i]? = some d → d ≠ .un → μ[i]? = some true → ∃ p, own[i]? = some (some p) ∧ σ[i]? = some (some (.ref p)) ∧ SlotU K C (Xof O own) H p d

section
variable {K : PySem.W.Frag} {C : Addr} {O O' : Addr → Prop} {μ : List Bool} {ρ : List D} {own : Own} {σ : L2.St} {H H' : Hp}
theorem ow_iff {own : Own} {a : Addr} : ow own a ↔ ∃ i : Nat, own[i]? = some (some a) := by
  unfold ow
  rw [List.mem_iff_getElem?]
theorem EOk.trkX (E : EOk K C O μ ρ own σ H) : ∀ a, Xof O own a → H a ≠ none := fun a h => by
  rcases h with h | h
  · exact E.trk a h
  · obtain ⟨i, e⟩ := ow_iff.mp h; exact E.otr i a e
/-- others hold more, new objects stand -/
theorem EOk.move (E : EOk K C O μ ρ own σ H) (s : Fr (Xof O own) no H H') (hO : ∀ a, O' a → (O a ∨ H a = none) ∧ H' a ≠ none) : EOk K C O' μ ρ own σ H' := by
  have hx : ∀ a, Xof O' own a → Xof O own a ∨ H a = none := fun a z => by
    rcases z with z | z
    · exact (hO a z).1.elim (fun q => .inl (.inl q)) .inr
    · exact .inl (.inr z)
  have m : Mv (Xof O own) H (Xof O' own) H' := Mv.fr (W := no) s (fun _ z => z.elim) hx
  have tr : ∀ a, H a ≠ none → H' a ≠ none := s.trk
  refine ⟨E.lr, E.lo, E.lm, E.uniq, fun i p e z => ?_, fun i p e => tr p (E.otr i p e), fun a z => (hO a z).2, E.md, fun i d h1 h2 h3 => ?_, fun i d h1 h2 h3 => ?_⟩
  · rcases (hO p z).1 with q | q
    · exact E.out i p e q
    · exact E.otr i p e q
  · obtain ⟨v, a, b⟩ := E.atF i d h1 h2 h3; exact ⟨v, a, b.mv m⟩
  · obtain ⟨p, a, b, c⟩ := E.atU i d h1 h2 h3
    exact ⟨p, a, b, c.mv m (s.at (.inr (ow_iff.mpr ⟨i, a⟩)) (fun z => z) (E.otr i p a))⟩
theorem EOk.anti (E : EOk K C O μ ρ own σ H) (hO : ∀ a, O' a → O a) : EOk K C O' μ ρ own σ H := E.move (Fr.refl _ _ _) fun a z => ⟨.inl (hO a z), E.trk a (hO a z)⟩
theorem ow_set {own : Own} {i : Nat} {o : Option Addr} {a : Addr} (h : ow (own.set i o) a) : ow own a ∨ o = some a := by
  obtain ⟨j, e⟩ := ow_iff.mp h
  rw [List.getElem?_set] at e
  split at e
  · split at e
    · cases e; exact .inr rfl
    · cases e
  · exact .inl (ow_iff.mpr ⟨j, e⟩)
/-- a slot gets data -/
theorem EOk.setF (E : EOk K C O μ ρ own σ H) {i : Nat} {d : D} {v : V} (hv : FRep K C (Xof O own) H d v) : EOk K C O (μ.set i false) (ρ.set i d) (own.set i none) (σ.set i (some v)) H := by
  have hx : ∀ a, Xof O (own.set i none) a → Xof O own a := fun a z => z.elim .inl fun z => (ow_set z).elim .inr fun q => by cases q
  have m : Mv (Xof O own) H (Xof O (own.set i none)) H := Mv.anti hx
  have up : ∀ (j : Nat) p, (own.set i none)[j]? = some (some p) → own[j]? = some (some p) := fun j p e => by
    rw [List.getElem?_set] at e
    split at e
    · split at e <;> cases e
    · exact e
  refine ⟨by simp [E.lr], by simp [E.lo], by simp [E.lm], fun a b p h1 h2 => E.uniq a b p (up a p h1) (up b p h2), fun j p e => E.out j p (up j p e), fun j p e => E.otr j p (up j p e), E.trk, fun j e => ?_, fun j e h1 h2 h3 => ?_, fun j e h1 h2 h3 => ?_⟩
  · rw [List.getElem?_set] at e ⊢
    by_cases hj : i = j
    · subst hj
      rw [if_pos rfl] at e ⊢
      have hi : i < μ.length := by
        apply Classical.byContradiction
        intro hi
        rw [if_neg hi] at e; cases e
      rw [if_pos (by rw [E.lo, ← E.lm]; exact hi)]
    · rw [if_neg hj] at e ⊢; exact E.md j e
  · by_cases hj : i = j
    · subst hj
      have hi : i < ρ.length := by
        apply Classical.byContradiction
        intro hi
        rw [List.getElem?_set, if_pos rfl, if_neg hi] at h1; cases h1
      rw [List.getElem?_set_self hi] at h1; cases h1
      exact ⟨v, List.getElem?_set_self (by rw [← E.lr]; exact hi), hv.mv m⟩
    · rw [List.getElem?_set_ne hj] at h1 h3
      obtain ⟨w, a, b⟩ := E.atF j e h1 h2 h3
      exact ⟨w, by rw [List.getElem?_set_ne hj]; exact a, b.mv m⟩
  · by_cases hj : i = j
    · subst hj
      rw [List.getElem?_set, if_pos rfl] at h3
      split at h3 <;> cases h3
    · rw [List.getElem?_set_ne hj] at h1 h3
      obtain ⟨p, a, b, c⟩ := E.atU j e h1 h2 h3
      exact ⟨p, by rw [List.getElem?_set_ne hj]; exact a, by rw [List.getElem?_set_ne hj]; exact b, c.mv m rfl⟩
/-- a slot gets a new object that it holds alone -/
theorem EOk.setU {p : Addr} (E : EOk K C (fun a => O a ∨ a = p) μ ρ own σ H) {i : Nat} {d : D} (hO : ¬ O p) (hv : SlotU K C (Xof (fun a => O a ∨ a = p) own) H p d) : EOk K C O (μ.set i true) (ρ.set i d) (own.set i (some p)) (σ.set i (some (.ref p))) H := by
  have hx : ∀ a, Xof O (own.set i (some p)) a → Xof (fun a => O a ∨ a = p) own a := fun a z => z.elim (fun z => .inl (.inl z)) fun z => (ow_set z).elim .inr fun q => by cases q; exact .inl (.inr rfl)
  have m : Mv (Xof (fun a => O a ∨ a = p) own) H (Xof O (own.set i (some p))) H := Mv.anti hx
  have up : ∀ (j : Nat) q, (own.set i (some p))[j]? = some (some q) → (i = j ∧ p = q) ∨ (i ≠ j ∧ own[j]? = some (some q)) := fun j q e => by
    rw [List.getElem?_set] at e
    split at e
    · rename_i z
      split at e
      · cases e; exact .inl ⟨z, rfl⟩
      · cases e
    · rename_i z; exact .inr ⟨z, e⟩
  have np : ∀ j : Nat, own[j]? ≠ some (some p) := fun j e => E.out j p e (.inr rfl)
  refine ⟨by simp [E.lr], by simp [E.lo], by simp [E.lm], fun a b q h1 h2 => ?_, fun j q e z => ?_, fun j q e => ?_, fun a z => E.trk a (.inl z), fun j e => ?_, fun j e h1 h2 h3 => ?_, fun j e h1 h2 h3 => ?_⟩
  · rcases up a q h1 with ⟨e1, e2⟩ | ⟨e1, e2⟩
    · rcases up b q h2 with ⟨e3, e4⟩ | ⟨e3, e4⟩
      · exact e1.symm.trans e3
      · subst e2; exact absurd e4 (np b)
    · rcases up b q h2 with ⟨e3, e4⟩ | ⟨e3, e4⟩
      · subst e4; exact absurd e2 (np a)
      · exact E.uniq a b q e2 e4
  · rcases up j q e with ⟨_, e2⟩ | ⟨_, e2⟩
    · subst e2; exact hO z
    · exact E.out j q e2 (.inl z)
  · rcases up j q e with ⟨_, e2⟩ | ⟨_, e2⟩
    · subst e2; exact E.trk _ (.inr rfl)
    · exact E.otr j q e2
  · by_cases hj : i = j
    · subst hj
      rw [List.getElem?_set, if_pos rfl] at e
      split at e <;> cases e
    · rw [List.getElem?_set_ne hj] at e ⊢; exact E.md j e
  · by_cases hj : i = j
    · subst hj
      rw [List.getElem?_set, if_pos rfl] at h3
      split at h3 <;> cases h3
    · rw [List.getElem?_set_ne hj] at h1 h3
      obtain ⟨w, a, b⟩ := E.atF j e h1 h2 h3
      exact ⟨w, by rw [List.getElem?_set_ne hj]; exact a, b.mv m⟩
  · by_cases hj : i = j
    · subst hj
      have hi : i < ρ.length := by
        apply Classical.byContradiction
        intro hi
        rw [List.getElem?_set, if_pos rfl, if_neg hi] at h1; cases h1
      rw [List.getElem?_set_self hi] at h1; cases h1
      exact ⟨p, List.getElem?_set_self (by rw [E.lo, ← E.lr]; exact hi), List.getElem?_set_self (by rw [← E.lr]; exact hi), hv.mv m rfl⟩
    · rw [List.getElem?_set_ne hj] at h1 h3
      obtain ⟨q, a, b, c⟩ := E.atU j e h1 h2 h3
      exact ⟨q, by rw [List.getElem?_set_ne hj]; exact a, by rw [List.getElem?_set_ne hj]; exact b, c.mv m rfl⟩
/-- a slot that was held alone is data from now on -/
theorem EOk.frz (E : EOk K C O μ ρ own σ H) (i : Nat) : EOk K C O (μ.set i false) ρ (own.set i none) σ H := by
  have hx : ∀ a, Xof O (own.set i none) a → Xof O own a := fun a z => z.elim .inl fun z => (ow_set z).elim .inr fun q => by cases q
  have m : Mv (Xof O own) H (Xof O (own.set i none)) H := Mv.anti hx
  have up : ∀ (j : Nat) p, (own.set i none)[j]? = some (some p) → i ≠ j ∧ own[j]? = some (some p) := fun j p e => by
    rw [List.getElem?_set] at e
    split at e
    · split at e <;> cases e
    · rename_i z; exact ⟨z, e⟩
  refine ⟨E.lr, by simp [E.lo], by simp [E.lm], fun a b p h1 h2 => E.uniq a b p (up a p h1).2 (up b p h2).2, fun j p e => E.out j p (up j p e).2, fun j p e => E.otr j p (up j p e).2, E.trk, fun j e => ?_, fun j e h1 h2 h3 => ?_, fun j e h1 h2 h3 => ?_⟩
  · rw [List.getElem?_set] at e ⊢
    by_cases hj : i = j
    · subst hj
      rw [if_pos rfl] at e ⊢
      have hi : i < μ.length := by
        apply Classical.byContradiction
        intro hi
        rw [if_neg hi] at e; cases e
      rw [if_pos (by rw [E.lo, ← E.lm]; exact hi)]
    · rw [if_neg hj] at e ⊢; exact E.md j e
  · by_cases hj : i = j
    · subst hj
      have hiL : i < μ.length := by
        have : i < ρ.length := (List.getElem?_eq_some_iff.mp h1).1
        rw [E.lm, ← E.lr]; exact this
      cases hb : μ[i]? with
      | none => rw [List.getElem?_eq_getElem hiL] at hb; cases hb
      | some b =>
        cases b with
        | false =>
          obtain ⟨w, a, b⟩ := E.atF i e h1 h2 hb
          exact ⟨w, a, b.mv m⟩
        | true =>
          obtain ⟨p, a, b, c⟩ := E.atU i e h1 h2 hb
          refine ⟨_, b, c.rep hx fun z => ?_⟩
          rcases z with z | z
          · exact E.out i p a z
          · obtain ⟨j, e⟩ := ow_iff.mp z
            obtain ⟨e1, e2⟩ := up j p e
            exact e1 (E.uniq i j p a e2)
    · rw [List.getElem?_set_ne hj] at h3
      obtain ⟨w, a, b⟩ := E.atF j e h1 h2 h3
      exact ⟨w, a, b.mv m⟩
  · by_cases hj : i = j
    · subst hj
      rw [List.getElem?_set, if_pos rfl] at h3
      split at h3 <;> cases h3
    · rw [List.getElem?_set_ne hj] at h3
      obtain ⟨p, a, b, c⟩ := E.atU j e h1 h2 h3
      exact ⟨p, by rw [List.getElem?_set_ne hj]; exact a, b, c.mv m rfl⟩
end
section
variable {K : PySem.W.Frag} {C : Addr} {X : Addr → Prop} {H : Hp}
end
end En
end

section
set_option Elab.async false
set_option linter.all false
set_option maxRecDepth 100000
namespace En
open PySem PySem.Spec PyProof.Rows L2

mutual
def toPy : D → PyData
  | .non => .none
  | .bl b => .bool b
  | .int i => .int i
  | .str s => .str s
  | .lst ds => .list (toPys ds)
  | .tup ds => .tuple (toPys ds)
  | .dct kds => .dict (toPyk kds)
  | .un => .dict []
  | .ins _ => .dict []
  | .scr _ => .dict []
  | .ord _ => .dict []
def toPys : List D → List PyData
  | [] => []
  | d :: ds => toPy d :: toPys ds
def toPyk : List (Key × D) → List (PyData × PyData)
  | [] => []
  | (k, d) :: ds => ((match k with | .inl i => PyData.int i | .inr s => PyData.str s), toPy d) :: toPyk ds
end
mutual
/-- no instance, no script, no unset slot within -/
def isPy : D → Bool
  | .un => false
  | .ins _ => false
  | .scr _ => false
  | .ord _ => false
  | .lst ds => isPys ds
  | .tup ds => isPys ds
  | .dct kds => isPyk kds
  | _ => true
def isPys : List D → Bool
  | [] => true
  | d :: ds => isPy d && isPys ds
def isPyk : List (Key × D) → Bool
  | [] => true
  | (_, d) :: ds => isPy d && isPyk ds
end
/-- data that == looks into -/
def eqOk (d : D) : Bool := isPy d && SeqAt.shaped (toPy d)
def isNone : D → Bool
  | .non => true
  | _ => false
inductive B1 where
  | len | list | sorted | str | int | tuple | repr | sum | max | min | abs | dict | rev
  deriving DecidableEq
def B1.name : B1 → Str
  | .len => "len" | .list => "list" | .sorted => "sorted" | .str => "str" | .int => "int" | .tuple => "tuple" | .repr => "repr" | .sum => "sum" | .max => "max" | .min => "min" | .abs => "abs" | .dict => "dict" | .rev => "reversed"
inductive B2 where
  | max | min | sum
  deriving DecidableEq
def B2.name : B2 → Str
  | .max => "max" | .min => "min" | .sum => "sum"
inductive Ty where
  | list | str | tuple | dict | bool
  deriving DecidableEq
def Ty.name : Ty → Str
  | .list => "list" | .str => "str" | .tuple => "tuple" | .dict => "dict" | .bool => "bool"
/-- built-in methods that only read -/
inductive BM where
  | get | index | count
  deriving DecidableEq
def BM.name : BM → Str
  | .get => "get" | .index => "index" | .count => "count"
/-- built-in methods that change the list or dict of a slot: what comes, the list or dict behind it -/
inductive MM where
  | append | extend | pop | update | reverse | clear
  deriving DecidableEq
def MM.name : MM → Str
  | .append => "append" | .extend => "extend" | .pop => "pop" | .update => "update" | .reverse => "reverse" | .clear => "clear"
def isOrd : CmpOp → Bool
  | .Lt => true
  | .LtE => true
  | .Gt => true
  | .GtE => true
  | _ => false
/-- an instance with the fields order and near alone -/
def insD : D → Option Unit
  | .ins fs => if (fs.all fun kv => kv.1 == "order" || kv.1 == "near") = true then some () else none
  | _ => none

inductive Cst where
  | non | bl (b : Bool) | int (i : Int) | str (s : Str)
def Cst.d : Cst → D
  | .non => .non | .bl b => .bl b | .int i => .int i | .str s => .str s
inductive Tg where
  | nm (i : Nat) | tup (is : List Nat)
/-- a call whose arguments are all given by name (the names as written; at which written place each parameter stands): of a def, a method, Web; an own exception's value -/
inductive KT where
  | fn (f : Str) (ks : List Str) (pm : List Nat) | meth (m : Str) (ks : List Str) (pm : List Nat) | mk (ks : List Str) (pm : List Nat) | exv (x : Str)
inductive IE where
  | callW (i : Nat) (f : Str) (es : IE) | kwc (t : KT) (a es : IE) | var (i : Nat) | bvar (i : Nat) | cst (c : Cst)
  | bin (op : Operator) (a b : IE) | neg (a : IE) | not (a : IE) | and (a r : IE) | or (a r : IE) | one (a : IE)
  | cmp (op : CmpOp) (a b : IE) | cmp2 (op op' : CmpOp) (a b c : IE) | cmp3 (op op' op'' : CmpOp) (a b c d : IE) | isN (ng : Bool) (a : IE) | isB (ng : Bool) (a : IE) (b : Bool)
  | call (f : Str) (es : IE) | meth (m : Str) (a : IE) (es : IE) | prop (p : Str) (a : IE) | mk (a b : IE) | fld (f : Str) (a : IE) | weq (ng : Bool) (a b : IE) | weqN (a b : IE)
  | b1 (f : B1) (a : IE) | b2 (f : B2) (a b : IE) | isi (t : Ty) (a : IE) | isW (a : IE) | bm (m : BM) (a es : IE) | mm (m : MM) (i : Nat) (es : IE)
  | ix (a b : IE) | sl (a lo hi : IE) | lst (es : IE) | tup (es : IE) | dct (es : IE)
  | lcs (us : List Nat) (own : List (Str × Nat)) (tg : Tg) (it cond e : IE) | lc (own : List (Str × Nat)) (tg : Tg) (it cond e : IE) | lc2 (own : List (Str × Nat)) (own1 : List Nat) (tg : Tg) (it cond : IE) (tg1 : Tg) (it1 cond1 : IE) (e : IE)
  | dc (own : List (Str × Nat)) (tg : Tg) (it cond k v : IE)
  | dc2 (own : List (Str × Nat)) (own1 : List Nat) (tg : Tg) (it cond : IE) (tg1 : Tg) (it1 cond1 : IE) (k v : IE)
  | nil | cons (e es : IE)
  | rng1 (a : IE) | rng2 (a b : IE) | enm (a : IE) | over (a : IE) | tst (a : IE) | lrng (it : IE)
/-- statements at a dict of dicts that is held alone (slot hidden): new row, new cell, a cell told the other way about -/
inductive DS where
  | put1 (k : Nat) (v : IE) | put2 (a b : Nat) (e : IE) | cp2 (a b : Nat)
inductive BB where
  | one (s : DS) | cond (c : IE) (s1 s2 : DS)
/-- a def's rest that builds a dict of dicts and hands it back -/
inductive DD where
  | bb (b : BB) (r : DD) | set (j : Nat) (e : IE) (r : DD) | ifr (c : IE) (r : DD) | for_ (y : Nat) (it : IE) (b : BB) (r : DD) | ret
inductive IS where
  | skip | seq (s r : IS) | frz (i : Nat) | setF (i : Nat) (e : IE) | setU (i : Nat) (e : IE) | setT (is : List Nat) (e : IE) | par (is : List (Nat × Bool)) (es : IE)
  | put (i : Nat) (k v : IE) | swap (i : Nat) (a b a' b' : IE) | aug (i : Nat) (op : Operator) (e : IE) | expr (e : IE) | ite (c : IE) (a b : IS) | whl (c : IE) (b : IS)
  | for_ (tg : Tg) (it : IE) (b : IS) | ret (e : IE) | retU (e : IE) | retMv (i : Nat) | retN | brk | raise
  | wit (i : Nat) (fm : List (Nat × Bool)) (s : IS)
  | deep (i : Nat) (as0 us : List Nat) (fm : List (Nat × Bool)) (st s : IS) (n : Nat) (kE : IE) (x : Str) (r : IS)
  | optU (isU : List (Nat × Bool)) (es : IE) (s1 s2 : IS)
  | deepL (f pl y : Nat) (as0 us : List Nat) (fm : List (Nat × Bool)) (st : IS) (eI e : IE) (r : IS)
  | dd (i : Nat) (b : DD)
  | tmpA (e a : IE)
  | tmpC (e : IE)
  | deepA (i : Nat) (as0 us : List Nat) (fm : List (Nat × Bool)) (st s : IS) (n : Nat) (x : Str) (r : IS)
  | deepR (i j : Nat) (us : List Nat) (fm : List (Nat × Bool)) (e1 e2 : IE) (s : IS) (n y : Nat) (x : Str) (r : IS)
  | deepF (i j : Nat) (us : List Nat) (fm : List (Nat × Bool)) (e1 e2 : IE) (s : IS) (n y : Nat) (x : Str) (r : IS)

/-- y[0] != x -/
def cmpR (y : Nat) (x : Str) : IE := .cmp .NotEq (.ix (.var y) (.cst (.int 0))) (.cst (.str x))
def isCN : IE → Bool
  | .cst .non => true
  | _ => false

abbrev Env := List D
abbrev Fns := Str → List D → Option (D × List D)
def bvOf : IE → Option Nat
  | .bvar i => some i
  | _ => none
/-- the slots that are lent, argument by argument -/
def slots : IE → List (Option Nat)
  | .cons e es => bvOf e :: slots es
  | _ => []
def bvs (es : IE) : List Nat := (slots es).filterMap id
variable (cl : Fns) (mkW : D → D → Option D)
end En
end

section
set_option Elab.async false
set_option linter.all false
set_option maxRecDepth 100000
namespace En
open PySem PySem.Spec PyProof.Rows L2

def isSp : D → Bool
  | .lst _ => true
  | .dct _ => true
  | _ => false
section
variable (cl : Fns) (mkW : D → D → Option D) (wf : Nat)
end

/-- a def: its name, its names by slot (the parameters first), which parameters are lent, does it hand back a new list or dict of its own, its body -/
structure Fn where
  ps : List Str
  N : List Str
  pm : List Bool
  rU : Bool
  body : IS
  hand : Option (Fns → (D → D → Option D) → List D → Option (D × List D)) := none
  kws : List (List Str × List Nat) := []
  kwW : List (List Str × List Nat) := []
  exs : List Str := []
def visB (sc : Scope) (x : Str) : Bool := match sc.names.lookup x with
  | some .local => true
  | some .cell => true
  | some .free => true
  | _ => false
def mV (N : List Str) (sc : Scope) (i : Nat) (e : Expr) : Bool := match e with
  | .Name x _ => decide (N[i]? = some x) && visB sc x && !(x == ("__debug__" : Str)) && !(x == ("__classdict__" : Str))
  | _ => false
def isM (f : Str) : Bool := decide (f.cps.toList.take 4 = ("Web." : Str).cps.toList)
/-- not within braces alone: nothing that eval treats apart -/
def notSlice : Expr → Bool
  | .Slice .. => false
  | .Starred .. => false
  | _ => true

def isBv : IE → Bool
  | .bvar _ => true
  | _ => false
/-- may the slots change? -/
def lends : IE → Bool
  | .bin _ a b => lends a || lends b
  | .neg a => lends a
  | .not a => lends a
  | .and a r => lends a || lends r
  | .or a r => lends a || lends r
  | .one a => lends a
  | .cmp _ a b => lends a || lends b
  | .cmp2 _ _ a b c => lends a || lends b || lends c
  | .cmp3 _ _ _ a b c d => lends a || lends b || lends c || lends d
  | .isN _ a => lends a
  | .isB _ a _ => lends a
  | .call _ es => !(bvs es).isEmpty || lends es
  | .callW _ _ es => lends es
  | .kwc _ a es => lends a || lends es
  | .meth _ a es => lends a || lends es
  | .prop _ a => lends a
  | .mk a b => lends a || lends b
  | .fld _ a => lends a
  | .weq _ a b => lends a || lends b
  | .weqN a b => lends a || lends b
  | .b1 _ a => lends a
  | .b2 _ a b => lends a || lends b
  | .isi _ a => lends a
  | .isW a => lends a
  | .bm _ a es => lends a || lends es
  | .mm _ _ _ => true
  | .ix a b => lends a || lends b
  | .sl a b c => lends a || lends b || lends c
  | .lst es => lends es
  | .tup es => lends es
  | .dct es => lends es
  | .lcs _ _ _ _ _ _ => true
  | .lc _ _ it c e => lends it || lends c || lends e
  | .lc2 _ _ _ it c _ it1 c1 e => lends it || lends c || lends it1 || lends c1 || lends e
  | .dc _ _ it c k v => lends it || lends c || lends k || lends v
  | .dc2 _ _ _ it c _ it1 c1 k v => lends it || lends c || lends it1 || lends c1 || lends k || lends v
  | .cons e es => lends e || lends es
  | .rng1 a => lends a
  | .rng2 a b => lends a || lends b
  | .enm a => lends a
  | .over a => lends a
  | .tst a => lends a
  | .lrng a => lends a
  | _ => false
/-- the arguments' modes are those of the parameters -/
def sigArgs : IE → List Bool → Bool
  | .nil, [] => true
  | .cons e es, b :: pm => (b == (bvOf e).isSome) && sigArgs es pm
  | _, _ => false
structure Sig where
  fn : Str → Option (List Bool × Bool)
  kw : Str → List (List Str × List Nat) := fun _ => []
  kwW : List (List Str × List Nat) := []
  ex : List Str := []
instance : CoeFun Sig (fun _ => Str → Option (List Bool × Bool)) := ⟨Sig.fn⟩
def kwOk (sg : Sig) (n : Nat) : KT → Bool
  | .fn f ks pm => !isM f && (match sg f with | some (pmm, _) => decide (pmm = List.replicate pm.length false) | none => false) && decide ((ks, pm) ∈ sg.kw f)
  | .meth m ks pm => (match sg m with | some (pmm, _) => decide (pmm = List.replicate (pm.length + 1) false) | none => false) && decide ((ks, pm) ∈ sg.kw m)
  | .mk ks pm => decide ((ks, pm) ∈ sg.kwW)
  | .exv x => decide (x ∈ sg.ex)
def tgSlots : Tg → List Nat
  | .nm i => [i]
  | .tup is => is
def ownOk (μ : List Bool) (own : List Nat) : Bool := own.all fun i => decide (μ[i]? = some false)
def okB (μ : List Bool) : IE → Bool
  | .bvar i => decide (μ[i]? = some true)
  | _ => true
def lenE : IE → Nat
  | .cons _ es => lenE es + 1
  | _ => 0
def bvIter : IE → Bool
  | .over (.bvar _) => true
  | .enm (.bvar _) => true
  | _ => false
section
variable (sg : Sig)
mutual
def okE (μ : List Bool) (r : IE) : Bool := match r with
  | .var i => decide (μ[i]? = some false)
  | .cst _ => true
  | .bin _ a b => okB μ a && okB μ b && (!isBv a || !lends b) && (okE μ a || isBv a) && (okE μ b || isBv b)
  | .neg a => okE μ a
  | .not a => okE μ a
  | .and a r => okE μ a && okE μ r
  | .or a r => okE μ a && okE μ r
  | .one a => okE μ a
  | .cmp _ a b => okB μ a && okB μ b && (!isBv a || !lends b) && (okE μ a || isBv a) && (okE μ b || isBv b)
  | .cmp2 op op' a b c => isOrd op && isOrd op' && okE μ a && okE μ b && okE μ c
  | .cmp3 op op' op'' a b c d => isOrd op && isOrd op' && isOrd op'' && okE μ a && okE μ b && okE μ c && okE μ d
  | .isN _ a => okB μ a && (okE μ a || isBv a)
  | .isB _ a _ => okE μ a
  | .call f es => !isM f && (match sg f with | some (pm, _) => sigArgs es pm | none => false) && decide (bvs es).Nodup && okA μ es
  | .callW i f es => !isM f && (match sg f with | some (pm, u) => u && decide (pm = List.replicate (lenE es) false) | none => false) && decide (μ[i]? = some true) && okE (μ.set i false) es && !lends es
  | .kwc t a es => kwOk sg (lenE es) t && okE μ a && okE μ es
  | .meth m a es => (match sg m with | some (pm, _) => decide (pm = List.replicate (lenE es + 1) false) | none => false) && okE μ a && okE μ es
  | .prop m a => (match sg m with | some (pm, _) => decide (pm = [false]) | none => false) && okE μ a
  | .mk a b => okE μ a && okE μ b
  | .fld _ a => okE μ a
  | .weq _ a b => (match sg "Web.__eq__" with | some (pm, uf) => decide (pm = [false, false]) && !uf | none => false) && okE μ a && okE μ b
  | .weqN a b => (match sg "Web.__eq__" with | some (pm, uf) => decide (pm = [false, false]) && !uf | none => false) && okE μ a && okE μ b
  | .b1 _ a => okB μ a && (okE μ a || isBv a)
  | .b2 _ a b => okE μ a && okE μ b
  | .isi _ a => okB μ a && (okE μ a || isBv a)
  | .isW a => okE μ a
  | .bm _ a es => okB μ a && (okE μ a || isBv a) && okE μ es && !lends es
  | .mm _ i es => decide (μ[i]? = some true) && okE μ es
  | .ix a b => okB μ a && (okE μ a || isBv a) && okE μ b && (!isBv a || !lends b)
  | .sl a b c => okB μ a && (okE μ a || isBv a) && okE μ b && okE μ c && (!isBv a || (!lends b && !lends c))
  | .lst es => decide (lenE es ≤ 1000) && okE μ es
  | .tup es => decide (lenE es ≤ 1000) && okE μ es
  | .dct es => decide (lenE es ≤ 30) && okE μ es
  | .lcs us own tg it c e => ownOk μ (own.map (·.2)) && ((tgSlots tg).all fun i => (own.map (·.2)).contains i) && okE μ it && okE μ c && okE μ e && !lends it && !lends e && !bvIter it && (us.all fun t => decide (μ[t]? = some true)) && ((List.range μ.length).all fun t => us.contains t || decide (μ[t]? = some false))
  | .lc own tg it c e => ownOk μ (own.map (·.2)) && ((tgSlots tg).all fun i => (own.map (·.2)).contains i) && okE μ it && okE μ c && okE μ e && !lends c && !lends e
  | .lc2 own own1 tg it c tg1 it1 c1 e => ownOk μ (own.map (·.2)) && ((tgSlots tg).all fun i => (own.map (·.2)).contains i) && ((tgSlots tg1).all fun i => own1.contains i) && okE μ it && okE μ c && okE μ it1 && okE μ c1 && okE μ e && !lends c && !lends it1 && !lends c1 && !lends e && !bvIter it1
  | .dc own tg it c k v => ownOk μ (own.map (·.2)) && ((tgSlots tg).all fun i => (own.map (·.2)).contains i) && okE μ it && okE μ c && okE μ k && okE μ v && !lends c && !lends k && !lends v
  | .dc2 own own1 tg it c tg1 it1 c1 k v => ownOk μ (own.map (·.2)) && ((tgSlots tg).all fun i => (own.map (·.2)).contains i) && ((tgSlots tg1).all fun i => own1.contains i) && okE μ it && okE μ c && okE μ it1 && okE μ c1 && okE μ k && okE μ v && !lends c && !lends it1 && !lends c1 && !lends k && !lends v && !bvIter it1
  | .nil => true
  | .cons e es => okE μ e && okE μ es
  | .rng1 a => okE μ a
  | .rng2 a b => okE μ a && okE μ b
  | .enm a => okB μ a && (okE μ a || isBv a)
  | .over a => okB μ a && (okE μ a || isBv a)
  | .tst a => okE μ a
  | .lrng a => okE μ a
  | _ => false
termination_by structural r
/-- the arguments of a call: data, or slots that are lent -/
def okA (μ : List Bool) (r : IE) : Bool := match r with
  | .nil => true
  | .cons e es => okB μ e && (okE μ e || isBv e) && okA μ es
  | _ => false
termination_by structural r
end
/-- what comes is a new list or dict of its own -/
def okU (μ : List Bool) (r : IE) : Bool := match r with
  | .bin .Add _ _ => okE sg μ r
  | .call f _ => okE sg μ r && (match sg f with | some (_, u) => u | none => false)
  | .prop f _ => okE sg μ r && (match sg f with | some (_, u) => u | none => false)
  | .meth f _ _ => okE sg μ r && (match sg f with | some (_, u) => u | none => false)
  | .b1 .list _ => okE sg μ r
  | .b1 .sorted _ => okE sg μ r
  | .b1 .dict _ => okE sg μ r
  | .b1 .rev _ => okE sg μ r
  | .sl _ _ _ => okE sg μ r
  | .lst _ => okE sg μ r
  | .dct _ => okE sg μ r
  | .lcs .. => okE sg μ r
  | .lc .. => okE sg μ r
  | .lc2 .. => okE sg μ r
  | .dc .. => okE sg μ r
  | .dc2 .. => okE sg μ r
  | .lrng _ => okE sg μ r
  | _ => false
/-- slots that stay as they are, with their modes -/
structure Lk where
  l : List Nat
  md : Nat → Bool
instance : Membership Nat Lk := ⟨fun L i => i ∈ L.l⟩
def Lk.contains (L : Lk) (i : Nat) : Bool := L.l.contains i
def witL (L : Lk) (μ : List Bool) (i : Nat) (fm : List (Nat × Bool)) : Lk := ⟨L.l ++ (List.range μ.length).filter (fun j => !(fm.map (·.1)).contains j), fun j => if L.contains j then L.md j else false⟩
/-- statements in a row, none that runs on into the next -/
def plainSt : IS → Bool
  | .frz _ => false
  | .skip => false
  | .deep .. => false
  | .deepF .. => false
  | .deepR .. => false
  | .deepA .. => false
  | .dd .. => false
  | .optU .. => false
  | .deepL .. => false
  | .seq .. => false
  | _ => true
def plainCh : IS → Bool
  | .skip => true
  | .seq a r => plainSt a && plainCh r
  | _ => false
def keepL (L : Lk) (μ : List Bool) (as0 : List Nat) : Lk := ⟨L.l ++ (List.range μ.length).filter (fun j => !as0.contains j), fun j => μ.getD j false⟩
def setModes (μ : List Bool) (is : List Nat) : List Bool := is.foldl (fun m i => m.set i false) μ
def okPar (μ : List Bool) : List (Nat × Bool) → IE → Bool
  | [], .nil => true
  | (_, true) :: is, .cons e es => okU sg μ e && okPar μ is es
  | (_, false) :: is, .cons e es => okE sg μ e && okPar μ is es
  | _, _ => false
def chkDS (μ : List Bool) : DS → Bool
  | .put1 _ v => okU sg μ v && okE sg μ v && !lends v
  | .put2 _ _ e => okE sg μ e && !lends e
  | .cp2 _ _ => true
def chkBB (μ : List Bool) : BB → Bool
  | .one s => chkDS sg μ s
  | .cond c s1 s2 => okE sg μ c && !lends c && chkDS sg μ s1 && chkDS sg μ s2
def chkDD (L : Lk) (i : Nat) (μ : List Bool) : DD → Bool
  | .bb b r => chkBB sg μ b && chkDD L i μ r
  | .set j e r => okE sg μ e && !lends e && decide (j ≠ i) && decide (μ[j]? = some false) && !L.contains j && chkDD L i μ r
  | .ifr c r => okE sg μ c && !lends c && chkDD L i μ r
  | .for_ y it b r => okE sg μ it && !lends it && !bvIter it && decide (y ≠ i) && decide (μ[y]? = some false) && !L.contains y && chkBB sg μ b && chkDD L i μ r
  | .ret => true
def chkS (L : Lk) (rU : Bool) (bm : Option (List Bool)) (s : IS) (μ : List Bool) : Option (Option (List Bool)) := match s, μ with
  | .skip, μ => some (some μ)
  | .seq s r, μ => match chkS L rU bm s μ with
    | some (some μ1) => chkS L rU bm r μ1
    | o => o
  | .frz i, μ => if L.contains i then none else some (some (μ.set i false))
  | .setF i e, μ => if okE sg μ e && !L.contains i then some (some (μ.set i false)) else none
  | .setU i e, μ => if okU sg μ e && !L.contains i then some (some (μ.set i true)) else none
  | .setT is e, μ => if okE sg μ e && is.all (fun i => !L.contains i) then some (some (setModes μ is)) else none
  | .par is es, μ => if okPar sg μ is es && is.all (fun i => !L.contains i.1) && decide (is.map (·.1)).Nodup && decide (is.length ≤ 1000) then some (some (is.foldl (fun m p => m.set p.1 p.2) μ)) else none
  | .put i k v, μ => if decide (μ[i]? = some true) && okE sg μ k && okE sg μ v then some (some μ) else none
  | .swap i a b a' b', μ => if decide (μ[i]? = some true) && okE sg μ a && okE sg μ b && okE sg μ a' && okE sg μ b' && !lends a && !lends b && !lends a' && !lends b' then some (some μ) else none
  | .aug i _ e, μ => if decide (μ[i]? = some false) && okE sg μ e && !L.contains i && !lends e then some (some μ) else none
  | .expr e, μ => if okE sg μ e then some (some μ) else none
  | .ite c a b, μ => if okE sg μ c then match chkS L rU bm a μ, chkS L rU bm b μ with
      | some none, some m => some m
      | some m, some none => some m
      | some (some m1), some (some m2) => if m1 = m2 then some (some m1) else none
      | _, _ => none
    else none
  | .whl c b, μ => if okE sg μ c then match chkS L rU (some μ) b μ with
      | some none => some (some μ)
      | some (some m) => if m = μ then some (some μ) else none
      | none => none
    else none
  | .for_ tg it b, μ => if okE sg μ it && !bvIter it && (tgSlots tg).all (fun i => decide (μ[i]? = some false) && !L.contains i) then match chkS L rU (some μ) b μ with
      | some none => some (some μ)
      | some (some m) => if m = μ then some (some μ) else none
      | none => none
    else none
  | .ret e, μ => if okE sg μ e && (!rU || isCN e) then some none else none
  | .retU e, μ => if okU sg μ e && rU then some none else none
  | .retMv i, μ => if decide (μ[i]? = some true) && rU && !L.contains i then some none else none
  | .retN, _ => some none
  | .brk, μ => if bm = some μ then some none else none
  | .raise, _ => some none
  | .wit i fm s, μ => if decide (μ[i]? = some true) && !L.contains i && (fm.all fun p => decide (p.1 ≠ i)) && ((List.range μ.length).all fun j => decide (j = i) || (fm.map (·.1)).contains j || (decide (μ[j]? = some false) && (!L.contains j || !L.md j))) then
      match chkS (witL L μ i fm) rU none s (μ.set i false) with
      | some none => some none
      | some (some m) => if decide (m.length = μ.length) && fm.all (fun p => decide (m[p.1]? = some p.2)) then some (some (m.set i true)) else none
      | none => none
    else none
  | .deep i as0 us fm st s _ kE _ r, μ =>
    if as0.contains i && (as0.all fun j => decide (μ[j]? = some false) && !L.contains j && (decide (j = i) || (fm.map (·.1)).contains j))
        && (us.all fun j => decide (μ[j]? = some true) && (fm.map (·.1)).contains j) && !(fm.map (·.1)).contains i && !lends kE
        && ((List.range μ.length).all fun j => us.contains j || decide (μ[j]? = some false)) then
      match chkS (keepL L μ as0) rU none st μ with
      | some (some μ1) => if decide (μ1.length = μ.length) && decide (μ1[i]? = some false) then
        match chkS (keepL L μ1 (fm.map (·.1))) rU none s μ1 with
        | some (some μ2) => if decide (μ2.length = μ.length) && okE sg μ2 kE && plainCh s && fm.all (fun p => decide (μ2[p.1]? = some p.2)) then chkS L rU bm r μ2 else none
        | _ => none
        else none
      | _ => none
    else none
  | .deepL f pl y as0 us fm st eI e r, μ =>
    if as0.contains f && as0.contains pl && decide (f ≠ pl) && decide (f ≠ y) && decide (pl ≠ y) && (as0.all fun j => decide (μ[j]? = some false) && !L.contains j && (decide (j = f) || (fm.map (·.1)).contains j))
        && (us.all fun j => decide (μ[j]? = some true) && (fm.map (·.1)).contains j) && !(fm.map (·.1)).contains f && !L.contains y && decide (μ[y]? = some false)
        && fm.all (fun p => decide (μ[p.1]? = some p.2)) && ((List.range μ.length).all fun j => us.contains j || decide (μ[j]? = some false))
        && okU sg μ eI && !lends eI && okE sg μ e then
      match chkS (keepL L μ as0) rU none st μ with
      | some (some μ1) => if μ1 = μ then chkS L rU bm r μ else none
      | _ => none
    else none
  | .tmpA e a, μ => if okU sg μ e && okE sg μ e && !lends e && okE sg μ a && !lends a then some (some μ) else none
  | .tmpC e, μ => if okU sg μ e && okE sg μ e && !lends e then some (some μ) else none
  | .dd i b, μ => if decide (μ[i]? = some true) && !L.contains i && !rU && chkDD sg L i (μ.set i false) b then some none else none
  | .optU isU es s1 s2, μ =>
    if okPar sg μ isU es && okPar sg μ (isU.map fun p => (p.1, false)) es && isU.all (fun i => !L.contains i.1) && decide (isU.map (·.1)).Nodup && decide (isU.length ≤ 1000) then
      match chkS L rU bm s1 ((isU.map fun p => (p.1, false)).foldl (fun m p => m.set p.1 p.2) μ), chkS L rU bm s2 (isU.foldl (fun m p => m.set p.1 p.2) μ) with
      | some none, some m => some m
      | some m, some none => some m
      | some (some m1), some (some m2) => if m1 = m2 then some (some m1) else none
      | _, _ => none
    else none
  | .deepA i as0 us fm st s _ _ r, μ =>
    if as0.contains i && (as0.all fun j => decide (μ[j]? = some false) && !L.contains j && (decide (j = i) || (fm.map (·.1)).contains j))
        && (us.all fun j => decide (μ[j]? = some true) && (fm.map (·.1)).contains j) && !(fm.map (·.1)).contains i
        && ((List.range μ.length).all fun j => us.contains j || decide (μ[j]? = some false)) then
      match chkS (keepL L μ as0) rU none st μ with
      | some (some μ1) => if decide (μ1.length = μ.length) && decide (μ1[i]? = some false) then
        match chkS (keepL L μ1 (fm.map (·.1))) rU none s μ1 with
        | some (some μ2) => if decide (μ2.length = μ.length) && plainCh s && fm.all (fun p => decide (μ2[p.1]? = some p.2)) then chkS L rU bm r μ2 else none
        | _ => none
        else none
      | _ => none
    else none
  | .deepR i j us fm e1 e2 s _ y x r, μ =>
    if okE sg μ e1 && okE sg μ e2 && decide (i ≠ j) && decide (i ≠ y) && decide (μ[i]? = some false) && decide (μ[j]? = some false) && !L.contains i && !L.contains j && !L.contains y
        && !(fm.map (·.1)).contains i && !(fm.map (·.1)).contains y && (us.all fun t => decide (μ[t]? = some true) && (fm.map (·.1)).contains t)
        && ((List.range μ.length).all fun t => us.contains t || decide (μ[t]? = some false)) then
      match chkS (keepL L μ (fm.map (·.1))) rU none s μ with
      | some (some μ2) => if decide (μ2.length = μ.length) && decide (μ2[i]? = some false) && decide (μ2[y]? = some false) && okE sg μ2 (cmpR y x) && plainCh s && fm.all (fun p => decide (μ2[p.1]? = some p.2)) then chkS L rU bm r μ2 else none
      | _ => none
    else none
  | .deepF i j us fm e1 e2 s _ y _ r, μ =>
    if okE sg μ e1 && okE sg μ e2 && !lends e1 && !lends e2 && decide (i ≠ j) && decide (i ≠ y) && decide (μ[i]? = some false) && decide (μ[j]? = some false) && !L.contains i && !L.contains j && !L.contains y
        && !(fm.map (·.1)).contains i && !(fm.map (·.1)).contains y && (us.all fun t => decide (μ[t]? = some true) && (fm.map (·.1)).contains t)
        && ((List.range μ.length).all fun t => us.contains t || decide (μ[t]? = some false)) then
      match chkS (keepL L μ (fm.map (·.1))) rU none s μ with
      | some (some μ2) => if decide (μ2.length = μ.length) && decide (μ2[i]? = some false) && decide (μ2[y]? = some false) && plainCh s && fm.all (fun p => decide (μ2[p.1]? = some p.2)) then chkS L rU bm r μ2 else none
      | _ => none
    else none
termination_by structural s
/-- a def is well kept -/
def chkFn (g : Fn) : Bool :=
  decide (g.pm.length = g.ps.length) && decide (g.N.take g.ps.length = g.ps) && decide g.N.Nodup &&
  (match chkS sg ⟨(List.range g.pm.length).filter fun i => g.pm[i]? == some true, fun _ => true⟩ g.rU none g.body (g.pm ++ List.replicate (g.N.length - g.pm.length) false) with
    | some none => true
    | some (some _) => !g.rU
    | none => false)
end
end En
end

section
set_option Elab.async false
set_option linter.all false
set_option maxRecDepth 100000
namespace En
open PySem PySem.Spec PyProof.Rows L2

abbrev SpG := List V → Hp → VK → Prop
structure FnG (P : Program) (w : World) (K : PySem.W.Frag) (mg : Str → Option Value) (base : Heap) (k : Nat) (f : Addr) (fd : FuncData) (ps : List Str) (sp : SpG) : Prop where
  len : ∀ vs H Q, sp vs H Q → vs.length = ps.length
  run : ∀ (A : Around) (outer : List PySem.Env) (s : Shared) (H : Hp) (args : Args) (us : List Value) (vs : List V) (Q : VK),
    Room k A → A.guards = some [] → Env0 P w K mg base A outer s H → BindsTo s fd args (ps.zip us) → Vals vs us → sp vs H Q →
    codeAny (model P w) A (.call (.ref f) args) (CR CX0 outer P w H s Q E0) s
section
variable {P : Program} {w : World} {K : PySem.W.Frag} {mg : Str → Option Value} {base : Heap} {k : Nat} {f : Addr} {fd : FuncData} {ps : List Str} {sp : SpG}
theorem FnG.up {j : Nat} (F : FnG P w K mg base j f fd ps sp) (h : j ≤ k) : FnG P w K mg base k f fd ps sp :=
  ⟨F.len, fun A o s H ar us vs Q hr => F.run A o s H ar us vs Q (hr.mono h)⟩
/-- by the body -/
theorem FnG.of {x qual : Str} {st : Stmt} {N : List Str} (F : Fun K x qual st f fd) (S : FnScope N ps (defScope st)) (len : ∀ vs H Q, sp vs H Q → vs.length = ps.length)
    (body : ∀ (cdv : Value) (A : Around) (outer : List PySem.Env) (s : Shared) (H : Hp) (vs : List V) (Q : VK),
      Room k (A.deeper (envOfC qual (defScope st) s.heap.objs.size f cdv)) → A.guards = some [] → sp vs H Q →
      ∃ t, PSs (cxOf CX0 P w K mg base N qual (defScope st) f cdv A outer s H E0).nox (defBody st) t ∧ t { nx := fun _ H' => Q .non H', rt := Q } (start N vs) H) :
    FnG P w K mg base (k + 1) f fd ps sp := by
  refine ⟨len, fun A outer s H args us vs Q hr hg e0 hb rv hq => ?_⟩
  obtain ⟨oc, od, kV, doc, pm, an, cdv, ct, osl, rfl, lk, hcd⟩ := F.ex
  have inH : ∀ b o, base.get? b = some o → s.heap.get? b = some o := fun b o e => (e0.bs b o e).1
  have KX := e0.mod.kin.keeps inH
  refine codeAny_call_function hr.depth (KX _ _ lk) rfl S.co S.gen rfl (PySem.W.codeRec_of KX hcd) (hb _ _ _ _ ?_)
  refine wpAny_newFunctionEnv_cells S.kind (fun y hy => ?_) fun env he s1 ic => ?_
  · rcases S.par y.1 (List.of_mem_zip (a := y.1) (b := y.2) hy).1 with q | q
    · exact Or.inl q
    · exact Or.inr ⟨q, PySem.W.cellsFrom_some _ _ _ (Or.inl q)⟩
  · subst he
    obtain ⟨t, ht, hw⟩ := body cdv A outer s H vs Q (hr.deeper _) hg hq
    have I := inv_start (CX := CX0) (E := E0) S hr.hd e0 (len _ _ _ hq) rv ic
    refine ⟨(e0.mod.nolimit.keeps inH).keeps ic.toInCall.keep, codeAny_func (wpAny_mono (ht.nox.run [] s1 (start N vs) H _ I hw) (fun fl s2 hs => ?_) fun _ _ z => z)⟩
    cases fl with
    | ret u => obtain ⟨v, σ', H', J, r, q⟩ := hs; exact ⟨v, H', J.os, J.bare, J.base, J.hok, r, q⟩
    | next => obtain ⟨σ', H', J, q⟩ := hs; exact ⟨V.non, H', J.os, J.bare, J.base, J.hok, rfl, q⟩
    | brk => obtain ⟨_, _, _, q⟩ := hs; exact q.elim
    | cont => obtain ⟨_, _, _, q⟩ := hs; exact q.elim
end

section
variable {X : Cx} {k : Nat} {f C : Addr} {fd : FuncData} {ps : List Str} {sp : SpG} {x m : Str} {p pos apos : Pos} {e o : Expr} {es : List Expr} {ta : TE} {t : TA}
/-- the callee is run, at any A that is at least as wide -/
theorem runG {pins : List (Addr × Obj)} {σ : L2.St} {H : Hp} {s : Shared} {Q : VK} {us : List Value} {vs : List V} (F : FnG X.prog X.w X.K X.mg X.base k f fd ps sp) (hr : Room k X.A) (hg : X.A.guards = some [])
    (hb : Binds X.K fd ps []) (I : Inv X pins σ H s) (r : Vals vs us) (h : sp vs H Q) : wpAny (model X.prog X.w) X.A (call (.ref f) us) (EP X pins σ Q) X.xe s := by
  have hl : (us ++ []).length = ps.length := by rw [List.append_nil, ← r.length]; exact F.len _ _ _ h
  have bb := hb s us I.kIn hl
  rw [List.append_nil] at bb
  refine wpAny_call (codeAny_mono (F.run X.A X.stack s H ⟨us, []⟩ us vs Q hr hg I.env0 bb r h) fun res s' hq => ?_)
  match res, hq with
  | .ok (.ret u), hq => exact I.after hq
  | .ok .next, hq => exact hq.elim
  | .ok .brk, hq => exact hq.elim
  | .ok .cont, hq => exact hq.elim
  | .error _, hq => exact hq.elim
def tCallG (sp : SpG) (t : TA) : TE := fun σ H Q => t σ H fun vs H1 => sp vs H1 Q
theorem pe_callG (F : FnG X.prog X.w X.K X.mg X.base k f fd ps sp) (hr : Room k X.A) (hgd : X.A.guards = some []) (hg : Gl X x) (hm : X.mg x = some (.ref f)) (hk : PySem.W.keepIn X.K (.ref f) = true) (hb : Binds X.K fd ps [])
    (ha : PA X (e :: es) t) (hdb : (x == ("__debug__" : Str)) = false) (he : starEach (e :: es) X.env = (false, eval e X.env) :: starEach es X.env) (hpl : (backTo pos (starEach es X.env)).any (·.1) = false) :
    PE X (.Call (.Name x p) (e :: es) [] pos) (tCallG sp t) :=
  ⟨fun pins s σ H Q I h => wpAny_Call_Name_kw (ld_glob I hg hm (PySem.W.callWith_K (h₀ := X.base) I.ok.mod.kin hk
    (thn (ha.run pos pins s σ H _ I h) fun us s1 ⟨vs, H1, I1, r, q⟩ => ⟨I1.kIn, runG F hr hgd hb I1 r q⟩) he hpl) hdb)⟩
end
end En
end

section
set_option Elab.async false
set_option linter.all false
set_option maxRecDepth 100000
set_option maxHeartbeats 4000000
namespace EnQ
open PySem PySem.Spec PyProof.Rows
section
variable {M : Model} {A : Around} {E : Value → Shared → Prop} {h : Heap} {g : Array GenState} {d : Drawn} {t : Nat} {os : OsState}
variable {nm q : Str} {C N : Addr} {bs bm bmB : List Value} {hdct : Bool} {sn : List Str} {sub : List Value} {ab : Bool} {col : Option Bool} {dd : Option Addr} {k0 k1 k2 k3 k5 : Option Value} {B newId initId : String}
theorem check_new_kw (F : ExcBaseFacts B newId initId bmB) (hT : ∀ X : String, bm.contains (.type X) = bmB.contains (.type X)) {rest : List Value} {kw : List (Str × Value)} {Q : Unit → Shared → Prop}
    (hC : h.get? C = some (excClassObj nm q C N bs bm hdct sn sub ab col dd k0 k1 k2 k3 k5 newId)) (hq : Q () ⟨h, g, d, t, os⟩) : wpAny M A (checkBuiltinCall newId ⟨.ref C :: rest, kw⟩) Q E ⟨h, g, d, t, os⟩ := by
  have hcont : (Value.ref C :: bm).contains (.type B) = true := by rw [List.contains_cons, hT, F.hasB, Bool.or_true]
  have hstar := F.noStar
  simp only [checkBuiltinCall, F.newKind, F.newSplit, F.newRow]
  repeat (first | refine wpAny_loadPart_at hC ?_ | (refine wpAny_isSubtype_exc hC ?_; rw [hcont]) | refine wpAny_staticBase_exc hC ?_ | refine wpAny_madeBy_exc hC ?_ | simp only [bne_self_eq_false, Bool.false_eq_true, if_false] | wp_step)
  exact hq
end
section
variable {prog : Program} {w : World} {A : Around} {E : Value → Shared → Prop} {R : Result → Shared → Prop} {h : Heap} {g : Array GenState} {d : Drawn} {t : Nat} {os : OsState}
variable {nm q : Str} {C N : Addr} {bs bm bmB : List Value} {hdct : Bool} {sn : List Str} {sub : List Value} {ab : Bool} {col : Option Bool} {dd : Option Addr} {k0 k1 k2 k3 k5 : Option Value} {B newId initId : String}
theorem new_kw (F : ExcBaseFacts B newId initId bmB) (hT : ∀ X : String, bm.contains (.type X) = bmB.contains (.type X)) {rest : List Value} {kw : List (Str × Value)}
    (hC : h.get? C = some (excClassObj nm q C N bs bm hdct sn sub ab col dd k0 k1 k2 k3 k5 newId))
    (hq : R (.ok (.ret (.ref (h.objs.size + 1)))) ⟨(h.push { cls := .type "tuple", data := .seq rest.toArray }).push
      { cls := .ref C, data := .fields #[.ref h.objs.size, .none, .none, .none, .bool false, .none] }, g, d, t, os⟩) (hrest : rest.length ≤ sizeLine) :
    codeAny (model prog w) A (.builtin newId ⟨.ref C :: rest, kw⟩) R ⟨h, g, d, t, os⟩ := by
  have hends := F.ends
  have hcB : (Value.ref C :: bm).contains (.type B) = true := by rw [List.contains_cons, hT, F.hasB, Bool.or_true]
  have hcA : (Value.ref C :: bm).contains (.type "AttributeError") = false := by rw [List.contains_cons, hT, F.noAttr]; rfl
  have hcN : (Value.ref C :: bm).contains (.type "NameError") = false := by rw [List.contains_cons, hT, F.noName]; rfl
  refine codeAny_builtinAt F.entry ?_
  unfold Builtin.«BaseException.__new__»
  refine PySem.wpAt_bind ?_
  show PySem.wpAt _ _ _ (stack >>= _) _ _ _
  refine PySem.wpAt_bind (PySem.wpAt_stack fun p below => PySem.wpAt_of_wpAny ?_)
  wp_walk
  refine PySem.wpAt_of_wpAny ?_
  rw [F.owner]
  repeat (first | with_reducible refine wpAny_madeHere_exc F.canon hC ?_ | with_reducible refine wpAny_loadPart_at hC ?_ | (with_reducible refine wpAny_isSubtype_exc hC ?_; first | rw [hcB] | rw [hcA] | rw [hcN]) | wp_step)
  show R _ _
  rw [Heap.size_push]
  exact hq
theorem type_call_kw (F : ExcBaseFacts B newId initId bmB) (hT : ∀ X : String, bm.contains (.type X) = bmB.contains (.type X)) {rest : List Value} {kw : List (Str × Value)} {fI : Addr} {Q : Fin → Shared → Prop}
    (hC : h.get? C = some (excClassObj nm q C N bs bm hdct sn sub ab col dd k0 k1 k2 k3 k5 newId))
    (hi : W.Looks (model prog w) h (typeLookup (.ref C) "__init__") (some (.ref fI))) (hb : ∀ self, W.Looks (model prog w) h (bindSpecial (.ref fI) self) (.ref fI, [self])) (hrest : rest.length ≤ sizeLine)
    (hq : codeAny (model prog w) A (.call (.ref fI) ⟨.ref (h.objs.size + 1) :: rest, kw⟩)
      (fun r s' => match r with | .ok (.ret v) => v = .none ∧ Q (.done (.ret (.ref (h.objs.size + 1)))) s' | .ok _ => False | .error e => E e s')
      ⟨(h.push (W.kdv_tup rest)).push (HandSPX.excO C h.objs.size), g, d, t, os⟩) :
    wpAny (model prog w) A (Builtin.«type.__call__» ⟨.ref C :: rest, kw⟩) Q E ⟨h, g, d, t, os⟩ := by
  repeat (first | with_reducible refine wpAny_loadPart_at hC ?_ | with_reducible refine wpAny_madeBy_exc hC ?_ | wp_step)
  refine codeAny_call_builtin_code (Code.quiet_builtin _ F.quiet) (check_new_kw F hT hC ?_)
  refine new_kw F hT hC ?_ hrest
  show wpAny _ _ _ _ _ _
  have k : ∀ b o, h.get? b = some o → ((h.push (W.kdv_tup rest)).push (HandSPX.excO C h.objs.size)).get? b = some o := fun b o e => Heap.get?_push_of_some _ (Heap.get?_push_of_some _ e)
  have hC₁ := k _ _ hC
  have hget : ((h.push (W.kdv_tup rest)).push (HandSPX.excO C h.objs.size)).get? (h.objs.size + 1) = some (HandSPX.excO C h.objs.size) := by heap_get
  have hcC : (Value.ref C :: bm).contains (.ref C) = true := by simp
  have i1 := hi.keeps k
  have b1 := (hb (.ref (h.objs.size + 1))).keeps k
  unfold isInstance
  repeat (first | with_reducible refine wpAny_loadPart_at hget ?_ | (with_reducible refine wpAny_isSubtype_exc hC₁ ?_; rw [hcC]) | wp_step)
  show wpAny _ _ (typeLookup (.ref C) _) _ _ _
  refine i1.at ?_
  refine wpAny_holding (wpAny_bind (b1.at ?_))
  refine wpAny_bind (wpAny_call (codeAny_mono hq fun r s' z => ?_))
  rcases r with e | (v | _ | _ | _) <;> first | exact z | exact z.elim | skip
  obtain ⟨rfl, z⟩ := z
  first
    | exact wpAny_pure (wpAny_pure z)
    | (wp_walk; exact z)
theorem call_kw (F : ExcBaseFacts B newId initId bmB) (hT : ∀ X : String, bm.contains (.type X) = bmB.contains (.type X)) {rest : List Value} {kw : List (Str × Value)} {fI : Addr}
    (hC : h.get? C = some (excClassObj nm q C N bs bm hdct sn sub ab col dd k0 k1 k2 k3 k5 newId))
    (hi : W.Looks (model prog w) h (typeLookup (.ref C) "__init__") (some (.ref fI))) (hb : ∀ self, W.Looks (model prog w) h (bindSpecial (.ref fI) self) (.ref fI, [self])) (hrest : rest.length ≤ sizeLine)
    (hq : codeAny (model prog w) (A.under (.builtin "type.__call__" ⟨.ref C :: rest, kw⟩)) (.call (.ref fI) ⟨.ref (h.objs.size + 1) :: rest, kw⟩) (W.InitBack (h.objs.size + 1) R)
      ⟨(h.push (W.kdv_tup rest)).push (HandSPX.excO C h.objs.size), g, d, t, os⟩) :
    codeAny (model prog w) A (.call (.ref C) ⟨rest, kw⟩) R ⟨h, g, d, t, os⟩ := by
  have f1 := tc_lookup
  have f2 := tc_bind (.ref C)
  have hTy : (⟨h, g, d, t, os⟩ : Shared).TypeIs (.ref C) "type" := ⟨_, hC, rfl⟩
  refine codeAny_of_tree ?_
  show wpAny _ _ (callAny (.ref C) _) _ _ _
  repeat (any_goals (first | assumption | with_reducible refine wpAny_loadPart_at hC ?_ | wp_step))
  refine ⟨rfl, ?_⟩
  refine codeAny_call_builtin_at (Code.quiet_builtin _ (by decide +kernel)) entry_typeCall (wpAny_check_type_call_sub hC (type_call_kw F hT hC hi hb hrest ?_))
  refine codeAny_mono hq fun r s' z => ?_
  rcases r with e | (v | _ | _ | _) <;> exact z
end
end EnQ
end

section
set_option Elab.async false
set_option linter.all false
set_option maxRecDepth 100000
set_option maxHeartbeats 4000000
namespace EnQ
open PySem PySem.Spec PyProof.Rows
section
variable {prog : Program} {w : World} {A : Around} {E : Value → Shared → Prop} {h : Heap} {g : Array GenState} {d : Drawn} {t : Nat} {os : OsState}
variable {nm q : Str} {C N : Addr} {bs bm : List Value} {hdct : Bool} {sn : List Str} {sub : List Value} {ab : Bool} {col : Option Bool} {dd : Option Addr} {k0 k1 k2 k3 k5 : Option Value}
/-- ValueError.__init__ bound to the exception, called -/
theorem call_mw {u e t0 : Addr} {rest : List Value} {Q : Value → Shared → Prop}
    (hC : h.get? C = some (excClassObj nm q C N bs bm hdct sn sub ab col dd k0 k1 k2 k3 k5 "ValueError.__new__")) (he : h.get? e = some (HandSPX.excO C t0)) (hu : h.get? u = some (W.kxs_mw "ValueError.__init__" e)) (hrest : rest.length ≤ sizeLine)
    (hq : ∀ h' t1, (∀ b o, b ≠ e → h.get? b = some o → h'.get? b = some o) → h'.get? e = some (HandSPX.excO C t1) → Q .none ⟨h', g, d, t, os⟩) :
    wpAny (model prog w) A (call (.ref u) rest) Q E ⟨h, g, d, t, os⟩ := by
  refine wpAny_call (codeAny_of_tree ?_)
  show wpAny _ A.in1 (callAny (.ref u) ⟨rest, []⟩) _ _ _
  simp only [callAny]
  refine wpAny_bind (wpAny_load hu ?_)
  simp only [W.kxs_mw, show (Value.type "method-wrapper" == Value.type "method" || Value.type "method-wrapper" == Value.type "builtin_function_or_method" || Value.type "method-wrapper" == Value.type "method-wrapper") = true by decide, if_true]
  refine W.KFB.if_so (by decide) ?_
  refine wpAny_bind (ESX.check_bound F.excBase_ValueError hC he rfl ?_)
  refine wpAny_bind (wpAny_pure (wpAny_pure ?_))
  refine ⟨Code.quiet_builtin _ (by decide +kernel), codeAny_builtin F.excBase_ValueError.initEntry ?_⟩
  rw [Around.under_plainId F.excBase_ValueError.init.plain _]
  wp_walk
  refine hq _ h.objs.size (fun b o hb ho => ?_) ?_
  · rw [Heap.get?_update_other _ _ (Ne.symm hb)]
    exact Heap.get?_push_of_some _ ho
  · rw [Heap.get?_update_self _ (Heap.get?_push_of_some _ he) rfl]
    rfl
end
abbrev initBody (p0 p1 p2 p3 p4 p5 p6 p7 p8 p9 : Pos) : List Stmt := [.Expr (.Call (.Attribute (.Call (.Name "super" p0) [] [] p1) "__init__" p2) [.Name "value" p3] [] p4) p5, .Assign [.Attribute (.Name "self" p6) "value" p7] (.Name "value" p8) p9]
section
variable {prog : Program} {w : World} {A : Around} {R : Result → Shared → Prop} {s : Shared} {K : W.Frag} {mg : Str → Option Value} {base : Heap}
  {qual : Str} {params : Arguments} {scope : Scope} {dV kV doc pm ct oc v : Value} {an od : Option Addr} {osl : Array (Option Value)} {fI C cc cda e t0 : Addr} {args : Args} {p0 p1 p2 p3 p4 p5 p6 p7 p8 p9 : Pos}
  {ccl cl : Value} {cdd cld : Option Addr} {ccs csl : Array (Option Value)} {vs : Array Value} {file : Str} {tf : Tok} {ar : Arg}
  {nm q : Str} {N : Addr} {bs bm : List Value} {sn : List Str} {sub : List Value} {ab : Bool} {col : Option Bool} {dd : Option Addr} {k0 k1 k2 k3 k5 : Option Value}
theorem init_run (M : L2.Mod K mg base) (hbk : ∀ b o, base.get? b = some o → s.heap.get? b = some o)
    (lk : K.lookup fI = some ⟨oc, od, .func (W.ksFn "__init__" qual params (initBody p0 p1 p2 p3 p4 p5 p6 p7 p8 p9) scope dV kV doc pm an (.ref cda) ct cc), osl⟩)
    (hcd : W.codeIn K (.ref cda) qual = true) (room : A.depth < recursionLimit)
    (hbind : BindsTo s (W.ksFn "__init__" qual params (initBody p0 p1 p2 p3 p4 p5 p6 p7 p8 p9) scope dV kV doc pm an (.ref cda) ct cc) args [("self", .ref e), ("value", v)])
    (hK : K.lookup C = some (excClassObj nm q C N bs bm true sn sub ab col dd k0 k1 k2 k3 k5 "ValueError.__new__")) (hbm : HandSPX.refsVE bm = true)
    (hsa : W.findIn K (.ref C) "__setattr__" = some (some (.builtin "object.__setattr__"))) (hno : W.findIn K (.ref C) "value" = some none)
    (hcode : K.lookup cda = some ⟨ccl, cdd, .fields vs, ccs⟩) (hvs : vs[2]? = some (.str file tf)) (hfile : ((prog.main.file : Str) == file) = true)
    (hcell : K.lookup cc = some ⟨cl, cld, .cell (some (.ref C)), csl⟩) (hsuper : W.nsIn K mainGlobals "super" = some none)
    (hop : W.nsIn K cStatics "thirdparty.any" = some none) (hm : W.ks_superIn K C C "__init__" = some (some (.builtin "ValueError.__init__"))) (hB : W.subIn K (.ref C) (.type "ValueError") = some true) (hsub : W.mroIn K C (.ref C) = some true)
    (hp : (params.posonlyargs ++ params.args).head? = some ar) (har : ar.arg = "self")
    (hks : scope.names.lookup ("super" : Str) = some .globalImplicit) (hkc : scope.names.lookup ("__class__" : Str) = some .free) (hka : scope.names.lookup ("self" : Str) = some .local) (hkv : scope.names.lookup ("value" : Str) = some .local)
    (hk : scope.kind = .function) (hco : scope.isCoroutine = false) (hgen : scope.isGenerator = false) (hcells : ∀ x ∈ scope.names, x.2 ≠ .cell)
    (hev : ∀ env : PySem.Env, eval (.Call (.Attribute (.Call (.Name "super" p0) [] [] p1) "__init__" p2) [.Name "value" p3] [] p4) env = (do
      let ov ← attributeBase (.Call (.Name "super" p0) [] [] p1) "__init__" env (eval (.Call (.Name "super" p0) [] [] p1) env)
      standAt p2.atName
      let (f, first) ← holding [ov] (getMethod ov "__init__" (pure false))
      callWith p4 f first (backTo p4 (starEach [.Name "value" p3] env)) []))
    (hs1 : ∀ env : PySem.Env, swapsWith (.Call (.Attribute (.Call (.Name "super" p0) [] [] p1) "__init__" p2) [.Name "value" p3] [] p4) none p5.line env = pure false)
    (hs2 : ∀ env : PySem.Env, swapsWith (.Name "value" p8) (some (.Attribute (.Name "self" p6) "value" p7)) p9.line env = pure false)
    (htop : (prog.main.scope.names.lookup ("super" : Str)).isSome = false)
    (he : s.heap.get? e = some (HandSPX.excO C t0)) (hbe : base.get? e = none)
    (hq : ∀ h' tk' dx t1, (∀ b o, b ≠ e → s.heap.get? b = some o → h'.get? b = some o) → s.heap.objs.size ≤ dx → h'.get? e = some { cls := .ref C, dict := some dx, data := .fields #[.ref t1, .none, .none, .none, .bool false, .none] } →
      h'.Ns1 dx (fun y => if y = "value" then some v else none) → R (.ok (.ret .none)) { s with heap := h', toks := tk' }) :
    codeAny (model prog w) A (.call (.ref fI) args) R s := by
  have KX : K.In s.heap := M.kin.keeps hbk
  obtain ⟨mb, hbl, hbb⟩ := M.blt
  refine ks_codeAny_call_defAt room (KX _ _ lk) rfl (M.nolimit.keeps hbk) (W.codeRec_of KX hcd) rfl hbind hcells (fun y hy => ?_) (fun h₁ hns hk₁ => ?_) hco hgen hk
  · rcases List.mem_cons.mp hy with rfl | hy
    · exact hka
    · rw [List.mem_singleton.mp hy]; exact hkv
  have X1 : K.In h₁ := KX.keeps hk₁
  have he1 := hk₁ _ _ he
  show _root_.PySem.wpAt (model prog w) (A.deeper (W.ksEnv qual scope s.heap.objs.size fI (.ref cda) cc)) (.func _ (W.ksEnv qual scope s.heap.objs.size fI (.ref cda) cc)) (execs (initBody p0 p1 p2 p3 p4 p5 p6 p7 p8 p9) (W.ksEnv qual scope s.heap.objs.size fI (.ref cda) cc)) _ _ _
  have hint : interactive (W.ksEnv qual scope s.heap.objs.size fI (.ref cda) cc) = false := by
    unfold interactive
    simp [hk]
  refine ks_wpAt_execs_cons (ks_wpAt_Expr_any (ks_wpAt_MethodCall (pl := pure false) ?_ (hev _)) hint (hs1 _))
  have hg : (W.ksEnv qual scope s.heap.objs.size fI (.ref cda) cc).kindOf "super" = some .globalImplicit := hks
  have hcl : (W.ksEnv qual scope s.heap.objs.size fI (.ref cda) cc).kindOf "__class__" = some .free := hkc
  refine ks_wpAt_super_base (env := W.ksEnv qual scope s.heap.objs.size fI (.ref cda) cc) hg hcl (by decide) rfl (X1 _ _ lk) rfl hp rfl (X1 _ _ hcode) rfl hvs hfile htop ?_
  rw [har]
  obtain ⟨cdD, hD⟩ : ∃ cdD, W.clsIn K C = some cdD := ⟨_, by unfold W.clsIn; rw [hK]⟩
  refine W.ks_loadName_global hk hg (Calls.loadGlobal_builtin (env := W.ksEnv qual scope s.heap.objs.size fI (.ref cda) cc) ((M.glob.keeps hbk).keeps hk₁) (W.mg_none_of M.kin M.glob hsuper) ((hbl.keeps hbk).keeps hk₁) ((hbb _ (by decide)).trans (by first | rfl | decide +kernel)) ⟨rfl, ?_⟩)
  refine wpAny_loadName_free hk hcl rfl ⟨_, X1 _ _ hcell, rfl⟩ ?_
  refine wpAny_loadName_local hk hka hns rfl ?_
  have hC1 := X1 _ _ hK
  refine ks_wpAny_isType_cls hC1 rfl ⟨rfl, ?_⟩
  refine ks_wpAny_call_super hC1 rfl he1 rfl (fun c z => by cases z) (W.looks_mroIn X1 hsub) (fun h2 e2 k2 => ?_)
  have X2 : K.In h2 := X1.keeps k2
  have he2 := k2 _ _ he1
  have hC2 := k2 _ _ hC1
  have hclsK : W.clsIn K C = some { name := nm, bases := bs, mro := .ref C :: bm, ns := N, qualname := q, hasDict := true, slotNames := sn, subclasses := sub, abstract := ab, collection := col, hasDel := false } := by unfold W.clsIn; rw [hK]
  have I2 : W.InstAt h2 e (HandSPX.excO C t0) C none := ⟨he2, rfl, rfl, trivial⟩
  have hne : e ≠ C := W.ks_ne X2 I2 hclsK
  unfold W.ks_superIn at hm
  rw [hclsK] at hm
  refine W.kxs_getMethod W.kxs_ValueError e2 (W.looks_opaque X2 hop) (l₀ := .ref C :: bm) ?_ rfl X2 hm (I2.type.andThen (W.looks_subIn X2 hB)) hne (by decide) ?_
  · exact fun A Q E s k q => wpAny_bind ((W.looks_clsIn X2 hclsK) A _ E s k (wpAny_pure q))
  have hu : (h2.push (W.kxs_mw "ValueError.__init__" e)).get? h2.objs.size = some (W.kxs_mw "ValueError.__init__" e) := Heap.get?_push_at rfl rfl
  have k3 : ∀ b o, h2.get? b = some o → (h2.push (W.kxs_mw "ValueError.__init__" e)).get? b = some o := fun b o z => Heap.get?_push_of_some _ z
  have hns3 : (h2.push (W.kxs_mw "ValueError.__init__" e)).Ns s.heap.objs.size (fun x => ([("self", Value.ref e), ("value", v)] : List (Str × Value)).reverse.lookup x) := (hns.keeps k2).keeps k3
  refine W.kxs_callWith (i := "ValueError.__init__") (x := e) rfl (Calls.evalArgs_plain ?_)
  refine Calls.spliced_cons (wpAny_Name (wpAny_loadName_local hk hkv hns3 rfl ?_) (by decide))
  refine Calls.spliced_nil ⟨hu, ?_⟩
  refine call_mw (k3 _ _ hC2) (k3 _ _ he2) hu (by show 1 ≤ sizeLine; rw [sizeLine_eq]; omega) fun h4 t1 k4 e4 => ?_
  have hLe : s.heap.objs.size ≠ e := Nat.ne_of_gt (Heap.lt_size he)
  have hns4 : h4.Ns s.heap.objs.size (fun x => ([("self", Value.ref e), ("value", v)] : List (Str × Value)).reverse.lookup x) := by
    obtain ⟨o, es, ep, z1, z2, z3⟩ := hns3
    exact ⟨o, es, ep, k4 _ _ hLe z1, z2, z3⟩
  have X4 : K.In h4 := fun a o z => by
    have za := M.kin a o z
    have ne : a ≠ e := fun y => by rw [y, hbe] at za; cases za
    exact k4 a o ne (k3 _ _ (X2 a o z))
  show _root_.PySem.wpAt (model prog w) (A.deeper (W.ksEnv qual scope s.heap.objs.size fI (.ref cda) cc)) _ (execs [.Assign [.Attribute (.Name "self" p6) "value" p7] (.Name "value" p8) p9] (W.ksEnv qual scope s.heap.objs.size fI (.ref cda) cc)) _ _ _
  refine ks_wpAt_execs_cons (ks_wpAt_Assign_Attr ?_ (hs2 _))
  refine _root_.PySem.wpAt_of_wpAny ?_
  refine wpAny_Name (wpAny_loadName_local hk hkv hns4 rfl ?_) (by decide)
  refine wpAny_Name (wpAny_loadName_local hk hka hns4 rfl ?_) (by decide)
  refine W.set_plain X4 (ox := { cls := .ref C, dict := none, data := .fields #[.ref t1, .none, .none, .none, .bool false, .none] }) (od := none) ⟨e4, rfl, rfl, trivial⟩ hsa ?_
  refine HandSPX.exc_osa X4 e4 hclsK (show HandSPX.refsVE (.ref C :: bm) = true from hbm) rfl hno fun h5 tk5 dx k5 dn dne hx hn => ?_
  have big : s.heap.objs.size ≤ dx := by
    obtain ⟨o, es, ep, z1, z2, z3⟩ := hns4
    exact Nat.le_of_lt (Nat.lt_of_lt_of_le (Heap.lt_size z1) dn)
  have fin : R (.ok (.ret .none)) { s with heap := h5, toks := tk5 } := hq h5 tk5 dx t1 (fun b o hb z => k5 b o hb (k4 b o hb (k3 _ _ (k2 _ _ (hk₁ _ _ z))))) big hx hn
  show _root_.PySem.wpAt (model prog w) _ _ (execs [] _) _ _ _
  refine _root_.PySem.wpAt_of_wpAny ?_
  rw [execs_nil]
  exact wpAny_pure fin
end
end EnQ
end

section
set_option Elab.async false
set_option linter.all false
set_option maxRecDepth 100000
set_option maxHeartbeats 4000000
namespace EnQ
open PySem PySem.Spec PyProof.Rows L2
/-- what the written part says of an own exception class with such an __init__ -/
structure OexQ (prog : Program) (K : W.Frag) (C : Addr) : Prop where
  cls : ∃ nm q N bs bm sn sub ab col dd k0 k1 k2 k3 k5, K.lookup C = some (excClassObj nm q C N bs bm true sn sub ab col dd k0 k1 k2 k3 k5 "ValueError.__new__") ∧ HandSPX.refsVE bm = true
  sa : W.findIn K (.ref C) "__setattr__" = some (some (.builtin "object.__setattr__"))
  no : W.findIn K (.ref C) "value" = some none
  kC : W.keepIn K (.ref C) = true
  sup : W.ks_superIn K C C "__init__" = some (some (.builtin "ValueError.__init__")) ∧ W.subIn K (.ref C) (.type "ValueError") = some true ∧ W.mroIn K C (.ref C) = some true
  glo : W.nsIn K mainGlobals "super" = some none ∧ W.nsIn K cStatics "thirdparty.any" = some none
  init : ∃ (fI cc cda : Addr) (qual : Str) (params : Arguments) (scope : Scope) (dV kV doc pm ct oc : Value) (an od : Option Addr) (osl : Array (Option Value)) (p0 p1 p2 p3 p4 p5 p6 p7 p8 p9 : Pos)
    (ccl cl : Value) (cdd cld : Option Addr) (ccs csl : Array (Option Value)) (vs : Array Value) (file : Str) (tf : Tok),
    (W.findIn K (.ref C) "__init__" = some (some (.ref fI)) ∧ W.typeIn K (.ref fI) = some (.type "function") ∧
    K.lookup fI = some ⟨oc, od, .func (W.ksFn "__init__" qual params (initBody p0 p1 p2 p3 p4 p5 p6 p7 p8 p9) scope dV kV doc pm an (.ref cda) ct cc), osl⟩ ∧ W.codeIn K (.ref cda) qual = true ∧
    K.lookup cda = some ⟨ccl, cdd, .fields vs, ccs⟩ ∧ vs[2]? = some (.str file tf) ∧ ((prog.main.file : Str) == file) = true ∧ K.lookup cc = some ⟨cl, cld, .cell (some (.ref C)), csl⟩) ∧
    ((∃ ar, (params.posonlyargs ++ params.args).head? = some ar ∧ ar.arg = "self") ∧ scope.names.lookup ("super" : Str) = some .globalImplicit ∧ scope.names.lookup ("__class__" : Str) = some .free ∧ scope.names.lookup ("self" : Str) = some .local ∧ scope.names.lookup ("value" : Str) = some .local ∧
    scope.kind = .function ∧ scope.isCoroutine = false ∧ scope.isGenerator = false ∧ (∀ x ∈ scope.names, x.2 ≠ .cell) ∧ (prog.main.scope.names.lookup ("super" : Str)).isSome = false) ∧
    ((∀ env : PySem.Env, eval (.Call (.Attribute (.Call (.Name "super" p0) [] [] p1) "__init__" p2) [.Name "value" p3] [] p4) env = (do
      let ov ← attributeBase (.Call (.Name "super" p0) [] [] p1) "__init__" env (eval (.Call (.Name "super" p0) [] [] p1) env)
      standAt p2.atName
      let (f, first) ← holding [ov] (getMethod ov "__init__" (pure false))
      callWith p4 f first (backTo p4 (starEach [.Name "value" p3] env)) [])) ∧
    (∀ env : PySem.Env, swapsWith (.Call (.Attribute (.Call (.Name "super" p0) [] [] p1) "__init__" p2) [.Name "value" p3] [] p4) none p5.line env = pure false) ∧
    (∀ env : PySem.Env, swapsWith (.Name "value" p8) (some (.Attribute (.Name "self" p6) "value" p7)) p9.line env = pure false)) ∧
    (∀ (s : Shared) (e : Addr) (v : Value), K.In s.heap →
      BindsTo s (W.ksFn "__init__" qual params (initBody p0 p1 p2 p3 p4 p5 p6 p7 p8 p9) scope dV kV doc pm an (.ref cda) ct cc) ⟨[.ref e], [("value", v)]⟩ [("self", .ref e), ("value", v)] ∧
      BindsTo s (W.ksFn "__init__" qual params (initBody p0 p1 p2 p3 p4 p5 p6 p7 p8 p9) scope dV kV doc pm an (.ref cda) ct cc) ⟨[.ref e, v], []⟩ [("self", .ref e), ("value", v)] ∧
      BindsTo s (W.ksFn "__init__" qual params (initBody p0 p1 p2 p3 p4 p5 p6 p7 p8 p9) scope dV kV doc pm an (.ref cda) ct cc) ⟨[.ref e], []⟩ [("self", .ref e), ("value", .none)])
section
variable {X : Cx} {pins : List (Addr × Obj)} {σ : L2.St} {H : Hp} {s : Shared} {C : Addr}
theorem laid2 {h' : Heap} {a dx t1 : Addr} {t' : Nat} {fs : List (Str × V)} {mA : Str → Option Value} (I : Inv X pins σ H s) (k : ∀ b u, s.heap.get? b = some u → h'.get? b = some u) (ha : s.heap.objs.size ≤ a) (hd : s.heap.objs.size ≤ dx) (ne : dx ≠ a)
    (he : h'.get? a = some { cls := .ref C, dict := some dx, data := .fields #[.ref t1, .none, .none, .none, .bool false, .none] }) (hn : h'.Ns1 dx mA) (r : ∀ f, RelO (fs.lookup f) (mA f)) :
    Inv X pins σ (upd (upd H dx (.xd fs)) a (exo a C (some dx))) { s with heap := h', toks := t' } := by
  have na : H a = none := I.hok.fresh ha
  have nd : H dx = none := I.hok.fresh hd
  have ba : ∀ {b : Addr} {o : Obj}, s.heap.get? b = some o → b ≠ a := fun {b o} q => Nat.ne_of_lt (Nat.lt_of_lt_of_le (Heap.lt_size q) ha)
  have bd : ∀ {b : Addr} {o : Obj}, s.heap.get? b = some o → b ≠ dx := fun {b o} q => Nat.ne_of_lt (Nat.lt_of_lt_of_le (Heap.lt_size q) hd)
  have Un1 : Un X.fs [] H (upd (upd H dx (.xd fs)) a (exo a C (some dx))) s.heap h' := {
    keep := fun b o q n _ _ => k b o q
    slot := fun b o q n _ _ => ⟨o.slots, k b o q⟩
    free := fun b o q n _ => by rw [upd_ne (ba q), upd_ne (bd q)]; exact n
    there := fun b o q _ => ⟨o, k b o q⟩
    tups := fun b xs q => by rw [upd_ne (ne_of_none q na), upd_ne (ne_of_none q nd)]; exact q
    frzs := fun b o v q => by rw [upd_ne (ne_of_none q na), upd_ne (ne_of_none q nd)]; exact q
    tbls := fun b ps q => ⟨#[], by rw [upd_ne (ne_of_none q na), upd_ne (ne_of_none q nd), q]; simp⟩ }
  refine I.un (t' := t') Un1 fun b o q => ?_
  by_cases hb : b = a
  · subst hb
    rw [upd_same] at q
    cases q
    exact exo_ok he
  · rw [upd_ne hb] at q
    by_cases hbd : b = dx
    · subst hbd
      rw [upd_same] at q
      cases q
      exact ⟨mA, hn, r⟩
    · rw [upd_ne hbd] at q
      exact (I.hok b o q).stay (fun c v hc z => k c v z) (fun c hc => by rw [upd_ne (ne_of_none hc na), upd_ne (ne_of_none hc nd)]; exact hc) (fun c xs hc => by rw [upd_ne (ne_of_none hc na), upd_ne (ne_of_none hc nd)]; exact hc)
/-- the call itself -/
theorem made_q {k : Nat} {us : List Value} {kw : List (Str × Value)} {u : Value} {v : V} {Q : VK} (T : OexQ X.prog X.K C) (hr : Room (k + 1) X.A) (I : Inv X pins σ H s) (rv : RelV v u) (hz : us.length ≤ sizeLine)
    (hargs : ∀ e : Addr, (us = [] ∧ kw = [(("value" : Str), u)]) ∨ (us = [u] ∧ kw = []) ∨ (us = [] ∧ kw = [] ∧ u = .none))
    (h : ∀ a dx, H a = none → H dx = none → dx ≠ a → Q (.ref a) (upd (upd H dx (.xd [("value", v)])) a (exo a C (some dx)))) :
    wpAny (model X.prog X.w) X.A (call (.ref C) us kw) (EP X pins σ Q) X.xe s := by
  obtain ⟨nm, q, N, bs, bm, sn, sub, ab, col, dd, k0, k1, k2, k3, k5, hC, hbm⟩ := T.cls
  obtain ⟨fI, cc, cda, qual, params, scope, dV, kV, doc, pm, ct, oc, an, od, osl, p0, p1, p2, p3, p4, p5, p6, p7, p8, p9, ccl, cl, cdd, cld, ccs, csl, vs, file, tf, ⟨iC, tI, lk, hcd, hcode, hvs, hfile, hcell⟩, ⟨⟨ar, hp, har⟩, hks, hkc, hka, hkv, hk, hco, hgen, hcells, htop⟩, ⟨hev, hs1, hs2⟩, hbind⟩ := T.init
  obtain ⟨hp0, g, d, tk, os⟩ := s
  have kk : ∀ b o, hp0.get? b = some o → ((hp0.push (W.kdv_tup us)).push (HandSPX.excO C hp0.objs.size)).get? b = some o := fun b o e => Heap.get?_push_of_some _ (Heap.get?_push_of_some _ e)
  have hget : ((hp0.push (W.kdv_tup us)).push (HandSPX.excO C hp0.objs.size)).get? (hp0.objs.size + 1) = some (HandSPX.excO C hp0.objs.size) := by heap_get
  have bk : ∀ b o, X.base.get? b = some o → ((hp0.push (W.kdv_tup us)).push (HandSPX.excO C hp0.objs.size)).get? b = some o := fun b o z => kk b o (I.bk b o z)
  have bn : X.base.get? (hp0.objs.size + 1) = none := by
    cases z : X.base.get? (hp0.objs.size + 1) with
    | none => rfl
    | some o => exact absurd (Heap.lt_size (I.bk _ _ z)) (Nat.not_lt.mpr (Nat.le_succ _))
  obtain ⟨b1, b2, b3⟩ := hbind ⟨(hp0.push (W.kdv_tup us)).push (HandSPX.excO C hp0.objs.size), g, d, tk, os⟩ (hp0.objs.size + 1) u (I.mod.kin.keeps bk)
  have bb : BindsTo ⟨(hp0.push (W.kdv_tup us)).push (HandSPX.excO C hp0.objs.size), g, d, tk, os⟩ (W.ksFn "__init__" qual params (initBody p0 p1 p2 p3 p4 p5 p6 p7 p8 p9) scope dV kV doc pm an (.ref cda) ct cc) ⟨.ref (hp0.objs.size + 1) :: us, kw⟩ [("self", .ref (hp0.objs.size + 1)), ("value", u)] := by
    rcases hargs 0 with ⟨rfl, rfl⟩ | ⟨rfl, rfl⟩ | ⟨rfl, rfl, rfl⟩
    · exact b1
    · exact b2
    · exact b3
  refine wpAny_call (call_kw F.excBase_ValueError (fun Y => HandSPX.refsVE_contains Y bm hbm) (I.kIn _ _ hC) (W.looks_findIn I.kIn iC) (fun self => W.bind_fn I.kIn self tI) hz
    (init_run (t0 := hp0.objs.size) I.mod bk lk hcd (hr.make C us kw).depth bb hC hbm T.sa T.no hcode hvs hfile hcell T.glo.1 T.glo.2 T.sup.1 T.sup.2.1 T.sup.2.2 hp har hks hkc hka hkv hk hco hgen hcells hev hs1 hs2 htop hget bn fun h' tk' dx t1 kp big hx hn => ?_))
  have ne : dx ≠ hp0.objs.size + 1 := fun z => by
    obtain ⟨o, es, ep, e1, e2, _⟩ := hn
    rw [z, hx] at e1
    have := Option.some.inj e1
    subst this
    cases e2
  have bigs : hp0.objs.size ≤ dx := Nat.le_trans (Nat.le_trans (Nat.le_add_right _ 2) (by show _ ≤ ((hp0.push (W.kdv_tup us)).push (HandSPX.excO C hp0.objs.size)).objs.size; rw [Heap.size_push, Heap.size_push]; exact Nat.le_refl _)) big
  have J := laid2 (s := ⟨hp0, g, d, tk, os⟩) (a := hp0.objs.size + 1) (t' := tk') (fs := [("value", v)]) I (fun b o z => kp b o (Nat.ne_of_lt (Nat.lt_succ_of_lt (Heap.lt_size z))) (kk b o z)) (Nat.le_succ _) bigs ne hx hn (fun f => by
    rw [lookup_put]
    by_cases hf : f = "value"
    · rw [if_pos hf, if_pos hf]; exact rv
    · rw [if_neg hf, if_neg hf]; trivial)
  exact ⟨rfl, .ref (hp0.objs.size + 1), _, J, rfl, h (hp0.objs.size + 1) dx (I.hok.fresh (Nat.le_succ _)) (I.hok.fresh bigs) ne⟩
end
abbrev qOeq (C : Addr) (Q : VK) : List V → Hp → Prop := fun vs H1 => match vs with
  | [v] => ∀ a dx, H1 a = none → H1 dx = none → dx ≠ a → Q (.ref a) (upd (upd H1 dx (.xd [("value", v)])) a (exo a C (some dx)))
  | _ => False
def tOeq (C : Addr) (te : TE) : TE := fun σ H Q => te σ H fun v H1 => ∀ a dx, H1 a = none → H1 dx = none → dx ≠ a → Q (.ref a) (upd (upd H1 dx (.xd [("value", v)])) a (exo a C (some dx)))
def tOeq0 (C : Addr) : TE := fun σ H Q => ∀ a dx, H a = none → H dx = none → dx ≠ a → Q (.ref a) (upd (upd H dx (.xd [("value", .non)])) a (exo a C (some dx)))
section
variable {X : Cx} {C : Addr} {k : Nat} {x : Str} {p pos kp : Pos} {e : Expr} {te : TE}
/-- InvalidX(value=e) -/
theorem pe_oeqK (T : OexQ X.prog X.K C) (hr : Room (k + 1) X.A) (hg : Gl X x) (hm : X.mg x = some (.ref C)) (he : PE X e te) (hdb : (x == ("__debug__" : Str)) = false) :
    PE X (.Call (.Name x p) [] [⟨some "value", e, kp⟩] pos) (tOeq C te) := by
  refine ⟨fun pins s σ H Q I h => ?_⟩
  refine wpAny_Call_Name_kw (ld_glob I hg hm ?_ hdb)
  refine PySem.W.callWith_KW0 (h₀ := X.base) I.ok.mod.kin T.kC rfl ?_ rfl
  refine thn ((pk_cons (nm := some "value") (kpos := kp) he pk_nil).run pos pins s σ H (qOeq C Q) I h) fun ws s2 ⟨zs, H2, I2, rz, q2⟩ => ⟨I2.kIn, ?_⟩
  cases rz with
  | nil => exact q2.elim
  | cons r1 rz =>
    cases rz with
    | cons _ _ => exact q2.elim
    | nil => exact made_q T hr I2 r1 (us := []) (by show 0 ≤ sizeLine; exact Nat.zero_le _) (fun _ => .inl ⟨rfl, rfl⟩) q2
/-- InvalidX(e) -/
theorem pe_oeq1 (T : OexQ X.prog X.K C) (hr : Room (k + 1) X.A) (hg : Gl X x) (hm : X.mg x = some (.ref C)) (he : PE X e te) (hs : starEach [e] X.env = [(false, eval e X.env)]) (hdb : (x == ("__debug__" : Str)) = false) :
    PE X (.Call (.Name x p) [e] [] pos) (tOeq C te) := by
  refine ⟨fun pins s σ H Q I h => ?_⟩
  refine wpAny_Call_Name_kw (ld_glob I hg hm ?_ hdb)
  refine PySem.W.callWith_K (h₀ := X.base) I.ok.mod.kin T.kC (thn ((pa_cons he pa_nil hs).run pos pins s σ H (qOeq C Q) I h) fun ws s2 ⟨zs, H2, I2, rz, q2⟩ => ⟨I2.kIn, ?_⟩) hs rfl
  cases rz with
  | nil => exact q2.elim
  | cons r1 rz =>
    cases rz with
    | cons _ _ => exact q2.elim
    | nil => exact made_q T hr I2 r1 (by show 1 ≤ sizeLine; rw [sizeLine_eq]; omega) (fun _ => .inr (.inl ⟨rfl, rfl⟩)) q2
/-- InvalidX() -/
theorem pe_oeq0 (T : OexQ X.prog X.K C) (hr : Room (k + 1) X.A) (hg : Gl X x) (hm : X.mg x = some (.ref C)) (hdb : (x == ("__debug__" : Str)) = false) :
    PE X (.Call (.Name x p) [] [] pos) (tOeq0 C) := by
  refine ⟨fun pins s σ H Q I h => ?_⟩
  refine wpAny_Call_Name_kw (ld_glob I hg hm ?_ hdb)
  refine PySem.W.callWith_K0 I.kIn T.kC ?_
  exact made_q (us := []) (kw := []) (u := .none) (v := .non) T hr I rfl (Nat.zero_le _) (fun _ => .inr (.inr ⟨rfl, rfl, rfl⟩)) h
/-- x.value of such an exception -/
def tOef (K : W.Frag) (n : Str) (te : TE) : TE := fun σ H Q => te σ H fun x H1 => ∃ (a C dd : Addr) (fs : List (Str × V)) (v : V), x = .ref a ∧ H1 a = some (exo a C (some dd)) ∧ XfC K C ∧ PySem.W.findIn K (.ref C) n = some none ∧ H1 dd = some (.xd fs) ∧ fs.lookup n = some v ∧ Q v H1
theorem pe_oef {n : Str} (he : PE X e te) (hb : attributeBase e n X.env (eval e X.env) = eval e X.env) : PE X (.Attribute e n pos) (tOef X.K n te) := by
  refine ⟨fun pins s σ H Q I h => ?_⟩
  refine attr_of hb (thn (he.run pins s σ H _ I h) fun u s1 hh => ?_)
  obtain ⟨x, H1, I1, rx, a, C, dd, fs, v, ex, ea, T, hno, ed, l, q⟩ := hh
  subst ex
  obtain rfl : u = Value.ref a := rx
  obtain ⟨t1, ha⟩ := exo_at I1.hok ea
  have hx : ObjOk X.prog X.w H1 s1.heap dd (.xd fs) := I1.hok dd _ ed
  obtain ⟨mA, hns, hr⟩ := hx
  obtain ⟨od, ho, hl⟩ := lookIn_ns hns
  obtain ⟨u, hu, ru⟩ := RelO.some_of (v := v) (o := mA n) (by rw [← l]; exact hr n)
  have J : PySem.W.InstAt s1.heap a { cls := .ref C, dict := some dd, data := .fields #[.ref t1, .none, .none, .none, .bool false, .none] } C (some od) := ⟨ha, rfl, rfl, ho⟩
  exact HandSPX.exc_get I1.kIn J T.ga T.gg T.exC (PySem.W.findObj_own T.hdC hno rfl (by rw [hl, hu])) (handed_of ru) ⟨v, H1, I1.tok _, ru, q⟩
end
end EnQ
end

section
set_option Elab.async false
set_option linter.all false
set_option maxRecDepth 100000
set_option maxHeartbeats 4000000
namespace EnQ
open PySem PySem.Spec PyProof.Rows L2
abbrev iArgs (q1 q2 q3 : Pos) (j : Nat) : Arguments := { posonlyargs := [], args := [{ arg := "self", annotation := none, pos := q1 }, { arg := "value", annotation := none, pos := q2 }], vararg := none, kwonlyargs := [], kw_defaults := [], kwarg := none, defaults := [Expr.Constant Const.none j q3] }
abbrev iScope : Scope := { kind := ScopeKind.function, names := [("self", NameKind.local), ("value", NameKind.local), ("__class__", NameKind.free), ("super", NameKind.globalImplicit)], isGenerator := false, isCoroutine := false, more := [] }
theorem hev_ok {p0 p1 p2 p3 p4 : Pos} (hl : (p2.endLine == p4.line) = true) (env : PySem.Env) : eval (.Call (.Attribute (.Call (.Name "super" p0) [] [] p1) "__init__" p2) [.Name "value" p3] [] p4) env = (do
      let ov ← attributeBase (.Call (.Name "super" p0) [] [] p1) "__init__" env (eval (.Call (.Name "super" p0) [] [] p1) env)
      standAt p2.atName
      let (f, first) ← holding [ov] (getMethod ov "__init__" (pure false))
      callWith p4 f first (backTo p4 (starEach [.Name "value" p3] env)) []) := by
  rw [arm_eval_Call]
  have hpos : methodCallPos true (.Call (.Name "super" p0) [] [] p1) env p2 p4 = pure p4 := by unfold methodCallPos; simp [hl]
  have form : methodCallForm (([.Name "value" p3] : List Expr).length + ([] : List Keyword).length) (backTo p4 (starEach [.Name "value" p3] env)) (backToKw p4 (keywordEach [] env)) = true := rfl
  unfold methodCall
  rw [form]
  unfold calleeOf
  rw [hpos]
  have hib : (do
      let b ← importBound (.Call (.Name "super" p0) [] [] p1) env
      pure (b.getD true)) = (pure false : Sem Bool) := by
    first
      | rfl
      | (unfold importBound; rfl)
      | simp [importBound]
  rw [hib]
  rfl
theorem oexq_mk {prog : Program} {K : W.Frag} {C : Addr} {nm q : Str} {N : Addr} {bs bm : List Value} {sn : List Str} {sub : List Value} {ab : Bool} {col : Option Bool} {dd : Option Addr} {k0 k1 k2 k3 k5 : Option Value}
    {fI cc cda T : Addr} {qual : Str} {kV doc pm ct oc : Value} {an od : Option Addr} {osl : Array (Option Value)} {p0 p1 p2 p3 p4 p5 p6 p7 p8 p9 q1 q2 q3 : Pos} {j : Nat}
    {ccl cl tc : Value} {cdd cld td : Option Addr} {ccs csl tsl : Array (Option Value)} {vs : Array Value} {file : Str} {tf : Tok} {nT : Nat}
    (xL : K.lookup C = some (excClassObj nm q C N bs bm true sn sub ab col dd k0 k1 k2 k3 k5 "ValueError.__new__"))
    (sa : W.findIn K (.ref C) "__setattr__" = some (some (.builtin "object.__setattr__"))) (no : W.findIn K (.ref C) "value" = some none) (kC : W.keepIn K (.ref C) = true)
    (s1 : W.ks_superIn K C C "__init__" = some (some (.builtin "ValueError.__init__"))) (s2 : W.subIn K (.ref C) (.type "ValueError") = some true) (s3 : W.mroIn K C (.ref C) = some true)
    (g1 : W.nsIn K mainGlobals "super" = some none) (g2 : W.nsIn K cStatics "thirdparty.any" = some none)
    (i1 : W.findIn K (.ref C) "__init__" = some (some (.ref fI))) (i2 : W.typeIn K (.ref fI) = some (.type "function"))
    (i3 : K.lookup fI = some ⟨oc, od, .func (W.ksFn "__init__" qual (iArgs q1 q2 q3 j) (initBody p0 p1 p2 p3 p4 p5 p6 p7 p8 p9) iScope (.ref T) kV doc pm an (.ref cda) ct cc), osl⟩)
    (i4 : W.codeIn K (.ref cda) qual = true) (i5 : K.lookup cda = some ⟨ccl, cdd, .fields vs, ccs⟩) (i8 : K.lookup cc = some ⟨cl, cld, .cell (some (.ref C)), csl⟩) (i9 : K.lookup T = some ⟨tc, td, .seq #[.none] nT, tsl⟩)
    (hbm : HandSPX.refsVE bm = true) (i6 : vs[2]? = some (.str file tf)) (i7 : ((prog.main.file : Str) == file) = true) (htop : (prog.main.scope.names.lookup ("super" : Str)).isSome = false)
    (hev : ∀ env : PySem.Env, eval (.Call (.Attribute (.Call (.Name "super" p0) [] [] p1) "__init__" p2) [.Name "value" p3] [] p4) env = (do
      let ov ← attributeBase (.Call (.Name "super" p0) [] [] p1) "__init__" env (eval (.Call (.Name "super" p0) [] [] p1) env)
      standAt p2.atName
      let (f, first) ← holding [ov] (getMethod ov "__init__" (pure false))
      callWith p4 f first (backTo p4 (starEach [.Name "value" p3] env)) []))
    (h1 : ∀ env : PySem.Env, swapsWith (.Call (.Attribute (.Call (.Name "super" p0) [] [] p1) "__init__" p2) [.Name "value" p3] [] p4) none p5.line env = pure false)
    (h2 : ∀ env : PySem.Env, swapsWith (.Name "value" p8) (some (.Attribute (.Name "self" p6) "value" p7)) p9.line env = pure false) : OexQ prog K C where
  cls := ⟨nm, q, N, bs, bm, sn, sub, ab, col, dd, k0, k1, k2, k3, k5, xL, hbm⟩
  sa := sa
  no := no
  kC := kC
  sup := ⟨s1, s2, s3⟩
  glo := ⟨g1, g2⟩
  init := ⟨fI, cc, cda, qual, iArgs q1 q2 q3 j, iScope, .ref T, kV, doc, pm, ct, oc, an, od, osl, p0, p1, p2, p3, p4, p5, p6, p7, p8, p9, ccl, cl, cdd, cld, ccs, csl, vs, file, tf, ⟨i1, i2, i3, i4, i5, i6, i7, i8⟩,
    ⟨⟨_, rfl, rfl⟩, rfl, rfl, rfl, rfl, rfl, rfl, rfl, by decide, htop⟩, ⟨hev, h1, h2⟩,
    fun s e v X => ⟨W.binds_K X rfl i9 rfl rfl rfl, W.binds_K X rfl i9 rfl rfl rfl, W.binds_K X rfl i9 rfl rfl rfl⟩⟩
end EnQ
end

section
set_option Elab.async false
set_option linter.all false
set_option maxRecDepth 100000
namespace En
open PySem PySem.Spec PyProof.Rows L2

structure Cf where
  K : PySem.W.Frag
  C : Addr
  cl : Fns
  mkW : D → D → Option D

def Wl (r : IE) (own : Own) : Addr → Prop := fun a => lends r = true ∧ ow own a
theorem Wl.le {r : IE} {own : Own} {O : Addr → Prop} : ∀ a, Wl r own a → Xof O own a := fun _ h => .inr h.2

/-- a value that may be held by a slot: data, or the slot's own list or dict -/
def BRep (c : Cf) (X : Addr → Prop) (H : Hp) (d : D) (v : V) : Prop := FRep c.K c.C X H d v ∨ ∃ p, v = .ref p ∧ X p ∧ SlotU c.K c.C X H p d

def OutF (c : Cf) (O : Addr → Prop) (μ : List Bool) (ρ : Env) (own : Own) (σ : L2.St) (W : Addr → Prop) (H : Hp) (d : D) (Q : VK) : Prop :=
  ∀ v H', Fr (Xof O own) W H H' → EOk c.K c.C O μ ρ own σ H' → FRep c.K c.C (Xof O own) H' d v → Q v H'
def OutU (c : Cf) (O : Addr → Prop) (μ : List Bool) (ρ : Env) (own : Own) (σ : L2.St) (W : Addr → Prop) (H : Hp) (d : D) (Q : VK) : Prop :=
  ∀ p H', Fr (Xof O own) W H H' → H p = none → EOk c.K c.C (fun a => O a ∨ a = p) μ ρ own σ H' → SlotU c.K c.C (Xof (fun a => O a ∨ a = p) own) H' p d → Q (.ref p) H'
theorem PE.or {X : Cx} {e : Expr} {t t' : TE} (h : PE X e t) (h' : PE X e t') : PE X e (fun σ H Q => t σ H Q ∨ t' σ H Q) := ⟨fun pins s σ H Q I q => q.elim (h.run pins s σ H Q I) (h'.run pins s σ H Q I)⟩
theorem PI.or {X : Cx} {tg e : Expr} {t t' : TI} (h : PI X tg e t) (h' : PI X tg e t') : PI X tg e (fun σ H Q => t σ H Q ∨ t' σ H Q) := ⟨fun pins s σ H Q I q => q.elim (h.run pins s σ H Q I) (h'.run pins s σ H Q I)⟩

section
variable {c : Cf} {X X' : Addr → Prop} {H H' : Hp} {d : D} {v : V}
theorem BRep.same (h : BRep c X H d v) (f : Fr X no H H') : BRep c X H' d v := by
  have m : Mv X H X H' := Mv.fr (W := no) f (fun _ z => z.elim) fun a z => .inl z
  rcases h with h | ⟨p, e, hp, h⟩
  · exact .inl (h.mv m)
  · exact .inr ⟨p, e, hp, h.mv m (f.at hp (fun z => z) h.trk)⟩
end

/-- what comes of a step at H: a value at once, or a new object -/
structure Kont (c : Cf) (X : Addr → Prop) (H : Hp) (z : D) (Q : VK) : Prop where
  imm : isSp z = false → ∀ u H', Fr X no H H' → FRep c.K c.C X H' z u → Q u H'
  lst : ∀ p ds xs, z = .lst ds → H p = none → FReps c.K c.C X H ds xs → Q (.ref p) (upd H p (.lst xs))
  dct : ∀ p ds xs, z = .dct ds → H p = none → FRepK c.K c.C X H ds xs → Q (.ref p) (upd H p (.dK xs))
section
variable {c : Cf} {O : Addr → Prop} {μ : List Bool} {ρ : Env} {own : Own} {σ : L2.St} {W : Addr → Prop} {H0 H : Hp} {z : D} {Q : VK}
theorem EOk.new (E : EOk c.K c.C O μ ρ own σ H) {p : Addr} {o : HO} (hp : H p = none) : EOk c.K c.C (fun a => O a ∨ a = p) μ ρ own σ (upd H p o) :=
  E.move (Fr.same (same_new hp)) fun a q => by
    rcases q with q | q
    · exact ⟨.inl q, (Fr.same (X := no) (W := no) (same_new hp)).trk a (E.trk a q)⟩
    · subst q; exact ⟨.inr hp, by rw [upd_same]; simp⟩
theorem EOk.nx (E : EOk c.K c.C O μ ρ own σ H) {p : Addr} (hp : H p = none) : ¬ Xof O own p := fun q => E.trkX p q hp
/-- what another holds alone is written -/
theorem EOk.other (E : EOk c.K c.C O μ ρ own σ H) {p : Addr} {o : HO} (hp : O p) : EOk c.K c.C O μ ρ own σ (upd H p o) := by
  have tr : ∀ a, H a ≠ none → upd H p o a ≠ none := fun a h => by
    by_cases e : a = p
    · subst e; rw [upd_same]; simp
    · rw [upd_ne e]; exact h
  have m : Mv (Xof O own) H (Xof O own) (upd H p o) := Mv.fr (W := fun a => a = p) ⟨fun a u e n => .inl (by rw [upd_ne n]; exact e), tr⟩ (fun a z => by subst z; exact .inl hp) fun a z => .inl z
  refine ⟨E.lr, E.lo, E.lm, E.uniq, E.out, fun i q e => tr q (E.otr i q e), fun a z => tr a (E.trk a z), E.md, fun i d h1 h2 h3 => ?_, fun i d h1 h2 h3 => ?_⟩
  · obtain ⟨v, a, b⟩ := E.atF i d h1 h2 h3; exact ⟨v, a, b.mv m⟩
  · obtain ⟨q, a, b, r⟩ := E.atU i d h1 h2 h3
    exact ⟨q, a, b, r.mv m (upd_ne fun z => by subst z; exact E.out i _ a hp)⟩
theorem Kont.fin (k : Kont c (Xof O own) H z Q) (hz : isSp z = false) {u : V} (r : FRep c.K c.C (Xof O own) H z u) : Q u H := k.imm hz u H (Fr.refl _ _ _) r
end

/-- a def that hands back its own list or dict may hand back None -/
def uu (u : Bool) (d : D) : Bool := u && !isNone d
/-- what a def of the small language promises -/
def spDen (c : Cf) (f : Str) (pm : List Bool) (u : Bool) : SpG := fun vs H Q => ∃ O ρ own d ds', EOk c.K c.C O pm ρ own (vs.map some) H ∧ c.cl f ρ = some (d, ds') ∧
  (if uu u d then OutU c O pm ds' own (vs.map some) (ow own) H d Q else OutF c O pm ds' own (vs.map some) (ow own) H d Q)
end En
end

section
set_option Elab.async false
set_option linter.all false
set_option maxRecDepth 100000
namespace En
open PySem PySem.Spec PyProof.Rows L2

section
variable {c : Cf} {k : Nat} {sg : Sig} {N : List Str} {sc : Scope} {X : Cx} {μ : List Bool}
end
end En
end

section
set_option Elab.async false
set_option linter.all false
set_option maxRecDepth 100000
namespace En
open PySem PySem.Spec PyProof.Rows L2

section
variable {c : Cf} {k : Nat} {sg : Sig} {N : List Str} {sc : Scope} {X : Cx} {μ : List Bool} {a b : IE} {e x y : Expr} {pos : Pos}

theorem Wl.mono {r r' : IE} {own : Own} (h : lends r = true → lends r' = true) : ∀ z, Wl r own z → Wl r' own z := fun _ q => ⟨h q.1, q.2⟩
variable {rest : List Expr}
end
end En
end

section
set_option Elab.async false
set_option linter.all false
set_option maxRecDepth 100000
namespace En
open PySem PySem.Spec PyProof.Rows L2

section
variable {c : Cf} {Z : Addr → Prop} {H : Hp} {v : V}
theorem BRep.int {i : Int} (h : BRep c Z H (.int i) v) : v = .int i := by
  rcases h with h | ⟨p, e, _, h⟩
  · simpa [FRep] using h
  · exact h.elim
theorem BRep.bl {i : Bool} (h : BRep c Z H (.bl i) v) : v = .bl i := by
  rcases h with h | ⟨p, e, _, h⟩
  · simpa [FRep] using h
  · exact h.elim
theorem BRep.str {i : Str} (h : BRep c Z H (.str i) v) : v = .str i := by
  rcases h with h | ⟨p, e, _, h⟩
  · simpa [FRep] using h
  · exact h.elim
theorem BRep.non (h : BRep c Z H .non v) : v = .non := by
  rcases h with h | ⟨p, e, _, h⟩
  · simpa [FRep] using h
  · exact h.elim
theorem BRep.lst {ds : List D} (h : BRep c Z H (.lst ds) v) : ∃ p xs, v = .ref p ∧ H p = some (.lst xs) ∧ FReps c.K c.C Z H ds xs := by
  rcases h with h | ⟨p, e, _, h⟩
  · simp only [FRep] at h
    obtain ⟨p, xs, e, _, q, r⟩ := h
    exact ⟨p, xs, e, q, r⟩
  · obtain ⟨xs, q, r⟩ := h
    exact ⟨p, xs, e, q, r⟩
theorem BRep.tup {ds : List D} (h : BRep c Z H (.tup ds) v) : ∃ p xs, v = .ref p ∧ ¬ Z p ∧ H p = some (.tup xs) ∧ FReps c.K c.C Z H ds xs := by
  rcases h with h | ⟨p, e, _, h⟩
  · simpa only [FRep] using h
  · exact h.elim
theorem BRep.dct {ds : List (Key × D)} (h : BRep c Z H (.dct ds) v) : ∃ p kvs, v = .ref p ∧ Rd H p (.dK kvs) ∧ FRepK c.K c.C Z H ds kvs := by
  rcases h with h | ⟨p, e, _, h⟩
  · simp only [FRep] at h
    obtain ⟨p, xs, e, _, q, r⟩ := h
    exact ⟨p, xs, e, q, r⟩
  · obtain ⟨xs, q, r⟩ := h
    exact ⟨p, xs, e, .inl q, r⟩
theorem BRep.ins {fs : List (Str × D)} (h : BRep c Z H (.ins fs) v) : ∃ p dx fvs, v = .ref p ∧ ¬ Z p ∧ H p = some (.ins c.C dx fvs) ∧ FRepF c.K c.C Z H fs fvs := by
  rcases h with h | ⟨p, e, _, h⟩
  · simpa only [FRep] using h
  · exact h.elim
theorem BRep.ord {ss : List Str} (h : BRep c Z H (.ord ss) v) : ∃ p o, v = .ref p ∧ H p = some (.frz o (.tup (ss.map V.str))) ∧ o.dict = none := by
  rcases h with h | ⟨p, e, _, h⟩
  · simp only [FRep] at h
    obtain ⟨p, o, e, _, q, r⟩ := h
    exact ⟨p, o, e, q, r⟩
  · exact h.elim
theorem BRep.scr {ns : List Int} (h : BRep c Z H (.scr ns) v) : ∃ p, v = .ref p ∧ SqL c.K H p (ns.map V.int) := by
  rcases h with h | ⟨p, e, _, h⟩
  · simp only [FRep] at h
    obtain ⟨p, e, q⟩ := h
    exact ⟨p, e, q.seq⟩
  · exact h.elim
theorem BRep.un (h : BRep c Z H .un v) : False := by
  rcases h with h | ⟨p, e, _, h⟩
  · simp only [FRep] at h
  · exact h.elim
theorem FReps.at {ds : List D} {xs : List V} {i : Int} {d : D} (h : FReps c.K c.C Z H ds xs) (e : atI ds i = some d) : ∃ v, atI xs i = some v ∧ FRep c.K c.C Z H d v := by
  unfold atI at e ⊢
  rw [← h.length]
  cases q : ixN ds.length i with
  | none => rw [q] at e; cases e
  | some j =>
    rw [q] at e
    exact h.get (show ds[j]? = some d from e)
mutual
/-- data as the hand layer's comparisons take it; no dict in it -/
theorem toDp : ∀ {d : D} {v : V}, FRep c.K c.C Z H d v → isPy d = true → (toPy d).hasDict = false → Dp c.K H v (toPy d)
  | .un, _, h, _, _ => by simp only [FRep] at h
  | .non, _, h, _, _ => by simp only [FRep] at h; subst h; simp only [toPy]; exact .non
  | .bl _, _, h, _, _ => by simp only [FRep] at h; subst h; simp only [toPy]; exact .bl _
  | .int _, _, h, _, _ => by simp only [FRep] at h; subst h; simp only [toPy]; exact .int _
  | .str _, _, h, _, _ => by simp only [FRep] at h; subst h; simp only [toPy]; exact .str _
  | .lst ds, _, h, h2, h3 => by
    simp only [FRep] at h
    obtain ⟨p, xs, rfl, _, q, r⟩ := h
    simp only [toPy, PyData.hasDict] at h3 ⊢
    exact .lst (SqL.of q) (toDps r (by simpa [isPy] using h2) h3)
  | .tup ds, _, h, h2, h3 => by
    simp only [FRep] at h
    obtain ⟨p, xs, rfl, _, q, r⟩ := h
    simp only [toPy, PyData.hasDict] at h3 ⊢
    exact .tup (SqT.of q) (toDps r (by simpa [isPy] using h2) h3)
  | .dct _, _, _, _, h3 => by simp [toPy, PyData.hasDict] at h3
  | .ins _, _, _, h2, _ => by simp [isPy] at h2
  | .scr _, _, _, h2, _ => by simp [isPy] at h2
  | .ord _, _, _, h2, _ => by simp [isPy] at h2
theorem toDps : ∀ {ds : List D} {vs : List V}, FReps c.K c.C Z H ds vs → isPys ds = true → PyData.hasDictAll (toPys ds) = false → DpAll c.K H vs (toPys ds)
  | [], _, h, _, _ => by simp only [FReps] at h; subst h; simp only [toPys]; exact .nil
  | d :: ds, _, h, h2, h3 => by
    simp only [FReps] at h
    obtain ⟨v, r, rfl, a, b⟩ := h
    simp only [isPys, Bool.and_eq_true] at h2
    simp only [toPys, PyData.hasDictAll, Bool.or_eq_false_iff] at h3 ⊢
    exact .cons (toDp a h2.1 h3.1) (toDps b h2.2 h3.2)
end
mutual
theorem noDict : ∀ {d : PyData}, d.canLay0 = true → d.hasDict = false
  | .none, _ => by simp [PyData.hasDict]
  | .bool _, _ => by simp [PyData.hasDict]
  | .int _, _ => by simp [PyData.hasDict]
  | .str _, _ => by simp [PyData.hasDict]
  | .list xs, h => by simp only [PyData.hasDict]; exact noDicts (by simpa [PyData.canLay0] using h)
  | .tuple xs, h => by simp only [PyData.hasDict]; exact noDicts (by simpa [PyData.canLay0] using h)
  | .dict _, h => by simp [PyData.canLay0] at h
theorem noDicts : ∀ {ds : List PyData}, PyData.canLayAll0 ds = true → PyData.hasDictAll ds = false
  | [], _ => by simp [PyData.hasDictAll]
  | d :: ds, h => by
    simp only [PyData.canLayAll0, Bool.and_eq_true] at h
    simp only [PyData.hasDictAll, noDict h.1, noDicts h.2, Bool.or_self]
end
theorem BRep.dp' {d : D} (h : BRep c Z H d v) (h2 : isPy d = true) (h3 : (toPy d).hasDict = false) : Dp c.K H v (toPy d) := by
  rcases h with h | ⟨p, e, _, h⟩
  · exact toDp h h2 h3
  · subst e
    cases d with
    | lst ds =>
      obtain ⟨xs, q, r⟩ := h
      simp only [toPy, PyData.hasDict] at h3 ⊢
      exact .lst (SqL.of q) (toDps r (by simpa [isPy] using h2) h3)
    | dct ds => simp [toPy, PyData.hasDict] at h3
    | _ => exact h.elim
theorem BRep.dp {d : D} (h : BRep c Z H d v) (h2 : eqOk d = true) : Dp c.K H v (toPy d) := by
  simp only [eqOk, Bool.and_eq_true] at h2
  exact h.dp' h2.1 (noDict (SeqAt.canLay_of_shaped h2.2))
end

theorem PE.absurd {X : Cx} {e : Expr} {t : TE} (h : ∀ σ H Q, ¬ t σ H Q) : PE X e t := ⟨fun _ _ σ H Q _ q => (h σ H Q q).elim⟩
theorem PT.absurd {X : Cx} {e : Expr} {t : TT} (h : ∀ σ H Q, ¬ t σ H Q) : PT X e t := ⟨fun _ _ σ H Q _ q => (h σ H Q q).elim⟩

section
variable {X : Cx}
theorem op_powA : OpR X (binaryOp .Pow) (fun x y H Q => ∃ i j, x = .int i ∧ y = .int j ∧ 0 ≤ j ∧ (Builtin.Int.intBits i : Int) * j ≤ 2 ^ 27 ∧ Q (.int (i ^ j.toNat)) H) := by
  intro pins s σ H x y v u Q I rx ry h
  obtain ⟨i, j, rfl, rfl, h0, h1, q⟩ := h
  obtain ⟨t, rfl⟩ := rx
  obtain ⟨t', rfl⟩ := ry
  exact pow_int h0 h1 ⟨.int _, H, I.tok _, ⟨_, rfl⟩, q⟩
theorem op_addA : OpR X (binaryOp .Add) (fun x y H Q => rI0 (fun i j => .int (i + j)) x y H Q ∨ (∃ i j, x = .str i ∧ y = .str j ∧ i.length + j.length ≤ sizeLine ∧ Q (.str (i ++ j)) H) ∨ rCat x y H Q ∨ rCatA X.K x y H Q) :=
  op_add.or (op_add_str.or (op_cat.or op_catA))
end
section
variable {c : Cf} {k : Nat} {sg : Sig} {N : List Str} {sc : Scope} {X : Cx} {μ : List Bool} {a b : IE} {e x y : Expr} {pos : Pos} {u : Bool}
end
end En
end

section
set_option Elab.async false
set_option linter.all false
set_option maxRecDepth 100000
namespace En
open PySem PySem.Spec PyProof.Rows L2

section
variable {X : Cx}
end
end En
end

section
set_option Elab.async false
set_option linter.all false
set_option maxRecDepth 100000
namespace En
open PySem PySem.Spec PyProof.Rows L2

section
variable {X : Cx}
end

section
variable {c : Cf} {k : Nat} {sg : Sig} {N : List Str} {sc : Scope} {X : Cx} {μ : List Bool} {a b : IE} {e x y : Expr} {pos : Pos} {u : Bool}
section
variable {Y : Cx}
end
end
end En
end

section
set_option Elab.async false
set_option linter.all false
set_option maxRecDepth 100000
namespace En
open PySem PySem.Spec PyProof.Rows L2

section
variable {c : Cf} {k : Nat} {sg : Sig} {N : List Str} {sc : Scope} {X : Cx} {μ : List Bool} {a b d3 : IE} {e x y z : Expr} {pos : Pos} {u : Bool}

section
variable {X : Cx} {e1 e2 e3 e4 : Expr} {p0 : Pos} {s1 s2 s3 s4 : TE} {q1 q2 q3 : R2}
end
section
variable {d4 : IE} {zz : Expr}
end

end
end En
end

section
set_option Elab.async false
set_option linter.all false
set_option maxRecDepth 100000
namespace En
open PySem PySem.Spec PyProof.Rows HT

section
variable {prog : Program} {w : World} {A : Around} {E : Value → Shared → Prop} {s : Shared}
end
end En
namespace En
open PySem PySem.Spec PyProof.Rows L2
section
variable {X : Cx}
end
end En
end

section
set_option Elab.async false
set_option linter.all false
set_option maxRecDepth 100000
namespace En
open PySem PySem.Spec PyProof.Rows L2

section
variable {X : Cx} {c : Cf}
end

section
variable {c : Cf} {k : Nat} {sg : Sig} {N : List Str} {sc : Scope} {X : Cx} {μ : List Bool} {a b : IE} {e x y : Expr} {p pos : Pos} {u : Bool}
end
end En
end

section
set_option Elab.async false
set_option linter.all false
set_option maxRecDepth 100000
namespace EnX
open PySem PySem.Spec PyProof.Rows L2
section
variable {prog : Program} {w : World} {h : Heap}
/-- what is told of v: it reads as d, and repr tells d's text -/
def RK (prog : Program) (w : World) (h : Heap) (v : Value) (d : PyData) : Prop := (∃ as, Reads h v d as) ∧ ∃ bs, ReadAtMost h d.depth bs ∧ ReprK prog w bs h d.depth v d.shown
def RKs (prog : Program) (w : World) (h : Heap) (vs : List Value) (ds : List PyData) : Prop := (∃ as, ReadsAll h vs ds as) ∧ ∃ bs, ReadAtMost h (PyData.depthAll ds) bs ∧ ReprAllK prog w bs h (PyData.depthAll ds) vs (PyData.shownAll ds)
theorem RK.flat {v : Value} {d : PyData} {as : List Addr} (r : Reads h v d as) (hs : d.showable = true) (hd : d.hasDict = false) (hz : d.shown.length ≤ sizeLine) : RK prog w h v d :=
  ⟨⟨as, r⟩, ReprK.of_reads r hs (fun e => by rw [hd] at e; cases e) hz⟩
theorem RKs.nil : RKs prog w h [] [] := ⟨⟨_, .nil⟩, [], (fun _ h => nomatch h), by simp only [PyData.shownAll]; exact .nil⟩
theorem RKs.cons {v : Value} {d : PyData} {vs : List Value} {ds : List PyData} (h1 : RK prog w h v d) (h2 : RKs prog w h vs ds) : RKs prog w h (v :: vs) (d :: ds) := by
  obtain ⟨⟨as, r⟩, bs, b1, k1⟩ := h1
  obtain ⟨⟨cs, rs⟩, es, b2, k2⟩ := h2
  refine ⟨⟨_, .cons r rs⟩, bs ++ es, ?_, ?_⟩
  · refine ReadAtMost.append (b1.mono ?_) (b2.mono ?_)
    · simp only [PyData.depthAll]; exact Nat.le_max_left _ _
    · simp only [PyData.depthAll]; exact Nat.le_max_right _ _
  · simp only [PyData.depthAll, PyData.shownAll]
    exact .cons ((k1.more fun _ hb => List.mem_append_left _ hb).level_le (Nat.le_max_left _ _)) (k2.more_le (fun _ hb => List.mem_append_right _ hb) (Nat.le_max_right _ _))
theorem RK.list {a : Addr} {o : Obj} {vs : Array Value} {n : Nat} {ds : List PyData} (h1 : h.get? a = some o) (h2 : o.cls = .type "list") (h3 : o.data = .seq vs n) (hi : RKs prog w h vs.toList ds) : RK prog w h (.ref a) (.list ds) := by
  obtain ⟨⟨as, rs⟩, bs, hb, hk⟩ := hi
  have r : Reads h (.ref a) (.list ds) _ := .list h1 h2 h3 rs
  have hna : a ∉ bs := not_mem_of_deeper r (by simp only [PyData.depth]; omega) hb
  refine ⟨⟨_, r⟩, a :: bs, ReadAtMost.cons r (by simp only [PyData.depth]; omega) hb, ?_⟩
  simp only [PyData.depth, PyData.shown]
  obtain ⟨l⟩ := vs
  cases l with
  | nil =>
    have rs : ReadsAll h [] ds as := rs
    cases rs
    simp only [PyData.shownAll, listText_nil]
    exact ReprK.listEmpty h1 h2 h3
  | cons x l => exact ReprK.list h1 h2 h3 hna (by simpa using hk.length_eq) (fun i y e => hk.item i y (by simpa using e))
theorem RK.tuple {a : Addr} {o : Obj} {vs : Array Value} {n : Nat} {ds : List PyData} (h1 : h.get? a = some o) (h2 : o.cls = .type "tuple") (h3 : o.data = .seq vs n) (hi : RKs prog w h vs.toList ds) : RK prog w h (.ref a) (.tuple ds) := by
  obtain ⟨⟨as, rs⟩, bs, hb, hk⟩ := hi
  have r : Reads h (.ref a) (.tuple ds) _ := .tuple h1 h2 h3 rs
  have hna : a ∉ bs := not_mem_of_deeper r (by simp only [PyData.depth]; omega) hb
  refine ⟨⟨_, r⟩, a :: bs, ReadAtMost.cons r (by simp only [PyData.depth]; omega) hb, ?_⟩
  simp only [PyData.depth, PyData.shown]
  exact ReprK.tuple h1 h2 h3 hna hk
theorem RK.dict {a : Addr} {o : Obj} {es : Array DictEntry} {n : Nat} {kvs : List (PyData × PyData)} (h1 : h.get? a = some o) (h2 : o.cls = .type "dict") (h3 : o.data = .dict es n) (hsys : (a == sysModules) = false)
    (hk : RKs prog w h (es.toList.map (·.key)) (kvs.map (·.1))) (hv : RKs prog w h (es.toList.map (·.val)) (kvs.map (·.2))) : RK prog w h (.ref a) (.dict kvs) := by
  obtain ⟨⟨as, r4⟩, b1, hb1, k1⟩ := hk
  obtain ⟨⟨cs, r5⟩, b2, hb2, k2⟩ := hv
  have r : Reads h (.ref a) (.dict kvs) _ := .dict h1 h2 h3 r4 r5
  have hb : ReadAtMost h (PyData.depthKv kvs) (b1 ++ b2) := (hb1.mono (PyData.depthAll_keys_le kvs)).append (hb2.mono (PyData.depthAll_vals_le kvs))
  have hna : a ∉ b1 ++ b2 := not_mem_of_deeper r (by simp only [PyData.depth]; omega) hb
  refine ⟨⟨_, r⟩, a :: (b1 ++ b2), ReadAtMost.cons r (by simp only [PyData.depth]; omega) hb, ?_⟩
  simp only [PyData.depth, PyData.shown, PyData.shownKv_eq]
  exact ReprK.dict h1 h2 h3 hsys hna (ReprEntriesK.of_two es.toList _ _
    (k1.more_le (fun b hb => List.mem_append_left _ hb) (PyData.depthAll_keys_le kvs)) (k2.more_le (fun b hb => List.mem_append_right _ hb) (PyData.depthAll_vals_le kvs)))
end
def keyP : Key → PyData
  | .inl i => .int i
  | .inr s => .str s
mutual
inductive Dq (K : PySem.W.Frag) (H : Hp) : V → PyData → Prop
  | non : Dq K H .non .none
  | bl (b : Bool) : Dq K H (.bl b) (.bool b)
  | int (i : Int) : Dq K H (.int i) (.int i)
  | str (x : Str) : Dq K H (.str x) (.str x)
  | lst {a : Addr} {xs : List V} {ds : List PyData} : SqL K H a xs → Dqs K H xs ds → Dq K H (.ref a) (.list ds)
  | tup {a : Addr} {xs : List V} {ds : List PyData} : SqT K H a xs → Dqs K H xs ds → Dq K H (.ref a) (.tuple ds)
  | dct {a : Addr} {kvs : List (Key × V)} {ds : List (PyData × PyData)} : Rd H a (.dK kvs) → Dqk K H kvs ds → Dq K H (.ref a) (.dict ds)
inductive Dqs (K : PySem.W.Frag) (H : Hp) : List V → List PyData → Prop
  | nil : Dqs K H [] []
  | cons {v : V} {vs : List V} {d : PyData} {ds : List PyData} : Dq K H v d → Dqs K H vs ds → Dqs K H (v :: vs) (d :: ds)
inductive Dqk (K : PySem.W.Frag) (H : Hp) : List (Key × V) → List (PyData × PyData) → Prop
  | nil : Dqk K H [] []
  | cons {k : Key} {v : V} {kvs : List (Key × V)} {d : PyData} {ds : List (PyData × PyData)} : Dq K H v d → Dqk K H kvs ds → Dqk K H ((k, v) :: kvs) ((keyP k, d) :: ds)
end
section
variable {X : Cx} {pins : List (Addr × Obj)} {σ : L2.St} {H : Hp} {s : Shared}
theorem key_rk {k : Key} {u : Value} (h : (mixKind X.prog X.w).is k u = true) (hs : (keyP k).showable = true) (hz : (keyP k).shown.length ≤ sizeLine) : RK X.prog X.w s.heap u (keyP k) := by
  have h : keyIs k u = true := h
  rcases keyIs_shape h with ⟨i, t, rfl, rfl⟩ | ⟨x, t, rfl, rfl⟩
  · exact .flat (.int i t) hs (by simp [keyP, PyData.hasDict]) hz
  · exact .flat (.str x t) hs (by simp [keyP, PyData.hasDict]) hz
theorem pair_le {a b : PyData} {kvs : List (PyData × PyData)} (h : ∀ t ∈ PyData.shownKv ((a, b) :: kvs), t.length ≤ sizeLine) : a.shown.length ≤ sizeLine ∧ b.shown.length ≤ sizeLine ∧ ∀ t ∈ PyData.shownKv kvs, t.length ≤ sizeLine := by
  simp only [PyData.shownKv, List.mem_cons] at h
  have h1 := h _ (.inl rfl)
  rw [strLen_append, strLen_append] at h1
  exact ⟨by omega, by omega, fun t ht => h t (.inr ht)⟩
mutual
theorem Dq.rk (I : Inv X pins σ H s) : ∀ (d : PyData) (v : V) (u : Value), Dq X.K H v d → RelV v u → d.showable = true → d.shown.length ≤ sizeLine → RK X.prog X.w s.heap u d
  | .none, _, _, h, r, hs, hz => by
    cases h
    cases r
    exact .flat .none hs (by simp [PyData.hasDict]) hz
  | .bool b, _, _, h, r, hs, hz => by
    cases h
    cases r
    exact .flat (.bool b) hs (by simp [PyData.hasDict]) hz
  | .int i, _, _, h, r, hs, hz => by
    cases h
    obtain ⟨t, rfl⟩ := r
    exact .flat (.int i t) hs (by simp [PyData.hasDict]) hz
  | .str x, _, _, h, r, hs, hz => by
    cases h
    obtain ⟨t, rfl⟩ := r
    exact .flat (.str x t) hs (by simp [PyData.hasDict]) hz
  | .list ds, _, _, h, r, hs, hz => by
    cases h with
    | lst hl ha =>
      cases r
      obtain ⟨its, rv, ⟨o, n, ho, hc, _, hd⟩, _⟩ := I.list hl
      have hz' : (listText (PyData.shownAll ds)).length ≤ sizeLine := by simpa only [PyData.shown] using hz
      exact .list ho hc hd (Dqs.rk I ds _ its ha rv (by simpa [PyData.showable] using hs) fun t ht => Nat.le_trans (listText_mem_le ht) hz')
  | .tuple ds, _, _, h, r, hs, hz => by
    cases h with
    | tup hl ha =>
      cases r
      obtain ⟨its, rv, ⟨o, ho, hc, n, hd⟩, _⟩ := I.tuple hl
      have hz' : (tupleText (PyData.shownAll ds)).length ≤ sizeLine := by simpa only [PyData.shown] using hz
      exact .tuple ho hc hd (Dqs.rk I ds _ its ha rv (by simpa [PyData.showable] using hs) fun t ht => Nat.le_trans (tupleText_mem_le ht) hz')
  | .dict ds, _, _, h, r, hs, hz => by
    cases h with
    | dct hl ha =>
      cases r
      obtain ⟨_, hsys, vs, rkv, o, es, ep, ho, hx, hd, _, hp, _⟩ := dk_rd I.hok hl
      have hz' : (dictText (PyData.shownKv ds)).length ≤ sizeLine := by simpa only [PyData.shown, PyData.shownKv_eq] using hz
      obtain ⟨k1, k2⟩ := Dqk.rk I ds _ vs es.toList ha rkv hp (by simpa [PyData.showable] using hs) fun t ht => Nat.le_trans (dictText_mem_le ht) hz'
      exact .dict ho hx.1 hd hsys k1 k2
theorem Dqs.rk (I : Inv X pins σ H s) : ∀ (ds : List PyData) (vs : List V) (us : List Value), Dqs X.K H vs ds → Vals vs us → PyData.showableAll ds = true → (∀ t ∈ PyData.shownAll ds, t.length ≤ sizeLine) → RKs X.prog X.w s.heap us ds
  | [], _, _, h, r, _, _ => by
    cases h
    cases r
    exact .nil
  | d :: ds, _, _, h, r, hs, hz => by
    cases h with
    | cons h1 h2 =>
      cases r with
      | cons r1 r2 =>
        have hs' : d.showable = true ∧ PyData.showableAll ds = true := by simpa [PyData.showableAll] using hs
        simp only [PyData.shownAll, List.mem_cons] at hz
        exact .cons (Dq.rk I d _ _ h1 r1 hs'.1 (hz _ (.inl rfl))) (Dqs.rk I ds _ _ h2 r2 hs'.2 fun t ht => hz t (.inr ht))
theorem Dqk.rk (I : Inv X pins σ H s) : ∀ (ds : List (PyData × PyData)) (kvs : List (Key × V)) (us : List (Key × Value)) (es : List DictEntry), Dqk X.K H kvs ds → KV kvs us → Pairs (mixKind X.prog X.w) es us → PyData.showableKv ds = true →
    (∀ t ∈ PyData.shownKv ds, t.length ≤ sizeLine) → RKs X.prog X.w s.heap (es.map (·.key)) (ds.map (·.1)) ∧ RKs X.prog X.w s.heap (es.map (·.val)) (ds.map (·.2))
  | [], _, _, _, h, r, p, _, _ => by
    cases h
    cases r
    cases p
    exact ⟨.nil, .nil⟩
  | (a, d) :: ds, _, _, _, h, r, p, hs, hz => by
    cases h with
    | cons h1 h2 =>
      cases r with
      | cons r1 r2 =>
        cases p with
        | cons p1 p2 p3 =>
          rename_i k v kvs kv' us e es
          have hs' : ((keyP k).showable = true ∧ d.showable = true) ∧ PyData.showableKv ds = true := by simpa [PyData.showableKv] using hs
          obtain ⟨z1, z2, z3⟩ := pair_le hz
          obtain ⟨e1, e2⟩ := r1
          obtain ⟨q1, q2⟩ := Dqk.rk I ds _ _ es h2 r2 p3 hs'.2 z3
          have p1' : (mixKind X.prog X.w).is k e.key = true := by rw [show k = kv'.1 from e1]; exact p1
          refine ⟨.cons (key_rk p1' hs'.1.1 z1) q1, .cons ?_ q2⟩
          show RK _ _ _ e.val d
          rw [p2]
          exact Dq.rk I d _ _ h1 e2 hs'.1.2 z2
end
/-- repr of a list of any such data -/
theorem call_reprQ {X : Cx} (hg : X.A.guards = some []) (hu : X.A.units + 62 < cLine) : CallR X (.builtin "repr") (fun xs H Q => ∃ a ys ds, xs = [.ref a] ∧ SqL X.K H a ys ∧ Dqs X.K H ys ds ∧ PyData.showableAll ds = true ∧ PyData.depthAll ds ≤ 59 ∧ (PyData.list ds).shown.length ≤ sizeLine ∧ Q (.str (PyData.list ds).shown) H) := by
  intro pins s σ H vs us Q I r h
  obtain ⟨a, ys, ds, rfl, hl, hd, h2, h3, h4, q⟩ := h
  obtain ⟨u, rfl, ru⟩ := vals1 r
  cases ru
  obtain ⟨its, rv, ⟨o, n, ho, hc, _, hda⟩, _⟩ := I.list hl
  have hz' : (listText (PyData.shownAll ds)).length ≤ sizeLine := by simpa only [PyData.shown] using h4
  obtain ⟨⟨as, rs⟩, bs, hb, hk⟩ := Dqs.rk I ds _ its hd rv h2 fun t ht => Nat.le_trans (listText_mem_le ht) hz'
  have r0 : Reads s.heap (.ref a) (.list ds) _ := .list ho hc hda rs
  have hna : a ∉ bs := not_mem_of_deeper r0 (by simp only [PyData.depth]; omega) hb
  have hq : ∀ h' u tk, (∀ b o, s.heap.get? b = some o → h'.get? b = some o) → EP X pins σ Q (.str (listText (PyData.shownAll ds)) u) { s with heap := h', toks := tk } := fun h' u tk hk' => by
    simp only [PyData.shown] at q
    exact ⟨.str (listText (PyData.shownAll ds)), H, I.kept hk', ⟨u, rfl⟩, q⟩
  refine call_repr_slot (by omega) ⟨o, ho, hc⟩ F.slot_list_repr.toG ?_
  cases its with
  | nil =>
    cases rs
    refine call_list_repr_empty ⟨o, ho, hc⟩ ho hda ⟨_, _, rfl, ?_⟩
    have := hq s.heap s.toks (s.toks + 1) fun _ _ e => e
    simpa only [PyData.shownAll, listText_nil] using this
  | cons x l => exact call_list_reprK ho hc hda hna (by simpa using hk.length_eq) (fun i y e => hk.item i y (by simpa using e)) hg (fun b _ => Clear.nil b) (by show X.A.units + 1 + _ < cLine; omega) (fun _ _ e => e) (fun h' u tk hk' => ⟨_, _, rfl, hq h' u tk hk'⟩) hz'
end
end EnX
end

section
set_option Elab.async false
set_option linter.all false
set_option maxRecDepth 100000
namespace EnX
open PySem PySem.Spec PyProof.Rows L2
/-- isinstance(e, c), e an own exception made as a value -/
def rIsX (K : PySem.W.Frag) : List V → Hp → VK → Prop := fun xs H Q => ∃ (a C dd : Addr) (fs : List (Str × V)) (c : V) (cv : Value) (b : Bool), xs = [.ref a, c] ∧ H a = some (exo a C (some dd)) ∧ H dd = some (.xd fs) ∧ ClsV c cv ∧ ExcC K C ∧ PySem.W.kitOne K (.ref C) cv = some b ∧ Q (.bl b) H
theorem call_isX {X : Cx} : CallR X (.builtin "isinstance") (rIsX X.K) := by
  intro pins s σ H xs us Q I r h
  obtain ⟨a, C, dd, fs, c, cv, b, rfl, ha, hd, hc, T, e, q⟩ := h
  obtain ⟨u, w', rfl, ru, rw'⟩ := vals2 r
  cases ru
  have ew := hc.eq rw'
  subst ew
  obtain ⟨t1, hx⟩ := exo_at I.hok ha
  have hx' : ObjOk X.prog X.w H s.heap dd (.xd fs) := I.hok dd _ hd
  obtain ⟨mA, hns, hr⟩ := hx'
  obtain ⟨od, ho, hl⟩ := lookIn_ns hns
  have J : PySem.W.InstAt s.heap a { cls := .ref C, dict := some dd, data := .fields #[.ref t1, .none, .none, .none, .bool false, .none] } C (some od) := ⟨hx, rfl, rfl, ho⟩
  have hcl : (PySem.W.clsIn X.K C).isSome = true := by
    have := T.hd
    unfold PySem.W.hasDictIn at this
    cases z : PySem.W.clsIn X.K C with
    | none => rw [z] at this; cases this
    | some _ => rfl
  exact PySem.W.kia_one (PySem.W.kitx_exc hcl T.hg T.hk T.hs T.ha T.hn T.ht T.hm) I.kIn J e (fun z => nomatch z) fun tk => ⟨.bl b, H, I.kept (t' := tk) fun _ _ z => z, rfl, q⟩
/-- .. e of a class without an __init__ of its own -/
def rIsX0 (K : PySem.W.Frag) : List V → Hp → VK → Prop := fun xs H Q => ∃ (a C : Addr) (c : V) (cv : Value) (b : Bool), xs = [.ref a, c] ∧ H a = some (ExO (.ref C) a) ∧ ClsV c cv ∧ ExcC K C ∧ PySem.W.kitOne K (.ref C) cv = some b ∧ Q (.bl b) H
theorem call_isX0 {X : Cx} : CallR X (.builtin "isinstance") (rIsX0 X.K) := by
  intro pins s σ H xs us Q I r h
  obtain ⟨a, C, c, cv, b, rfl, ha, hc, T, e, q⟩ := h
  obtain ⟨u, w', rfl, ru, rw'⟩ := vals2 r
  cases ru
  have ew := hc.eq rw'
  subst ew
  have hx : ObjOk X.prog X.w H s.heap a (ExO (.ref C) a) := I.hok a _ ha
  obtain ⟨oe, vs, h1, z, hv, _⟩ := hx.1
  have J : PySem.W.InstAt s.heap a oe C none := by
    obtain ⟨oc, od, oda, osl⟩ := oe
    obtain ⟨h1', h2⟩ := z
    dsimp only at h1' h2 hv
    subst h1' h2 hv
    exact ⟨h1, rfl, rfl, trivial⟩
  exact PySem.W.kia_one (PySem.W.handS_kitx_exc T.hg T.hk T.hs T.hd T.ha T.hn T.ht T.hm) I.kIn J e (fun z => nomatch z) fun tk => ⟨.bl b, H, I.kept (t' := tk) fun _ _ z => z, rfl, q⟩
theorem _root_.L2.Same.seqT {K : PySem.W.Frag} {H H' : Hp} {a : Addr} {xs : List V} (e : Same H H') (h : SqT K H a xs) : SqT K H' a xs := by
  rcases h with (h | ⟨o, h⟩) | h
  · exact .inl (.inl (e _ _ h))
  · exact .inl (.inr ⟨o, e _ _ h⟩)
  · exact .inr h
mutual
theorem Dq.same {K : PySem.W.Frag} {H H' : Hp} (S : Same H H') : ∀ {v : V} {d : PyData}, Dq K H v d → Dq K H' v d
  | _, _, .non => .non
  | _, _, .bl b => .bl b
  | _, _, .int i => .int i
  | _, _, .str s => .str s
  | _, _, .lst h1 h2 => .lst (S.seq h1) (Dqs.same S h2)
  | _, _, .tup h1 h2 => .tup (S.seqT h1) (Dqs.same S h2)
  | _, _, .dct h1 h2 => .dct (h1.elim (fun h => .inl (S _ _ h)) fun ⟨o, h⟩ => .inr ⟨o, S _ _ h⟩) (Dqk.same S h2)
theorem Dqs.same {K : PySem.W.Frag} {H H' : Hp} (S : Same H H') : ∀ {v : List V} {d : List PyData}, Dqs K H v d → Dqs K H' v d
  | _, _, .nil => .nil
  | _, _, .cons h1 h2 => .cons (Dq.same S h1) (Dqs.same S h2)
theorem Dqk.same {K : PySem.W.Frag} {H H' : Hp} (S : Same H H') : ∀ {v : List (Key × V)} {d : List (PyData × PyData)}, Dqk K H v d → Dqk K H' v d
  | _, _, .nil => .nil
  | _, _, .cons h1 h2 => .cons (Dq.same S h1) (Dqk.same S h2)
end
mutual
theorem Dp_same {K : PySem.W.Frag} {H H' : Hp} (S : Same H H') : ∀ {v : V} {d : PyData}, Dp K H v d → Dp K H' v d
  | _, _, .non => .non
  | _, _, .bl b => .bl b
  | _, _, .int i => .int i
  | _, _, .str s => .str s
  | _, _, .lst h1 h2 => .lst (S.seq h1) (Dps_same S h2)
  | _, _, .tup h1 h2 => .tup (S.seqT h1) (Dps_same S h2)
theorem Dps_same {K : PySem.W.Frag} {H H' : Hp} (S : Same H H') : ∀ {v : List V} {d : List PyData}, DpAll K H v d → DpAll K H' v d
  | _, _, .nil => .nil
  | _, _, .cons h1 h2 => .cons (Dp_same S h1) (Dps_same S h2)
end
theorem Dps_app {K : PySem.W.Frag} {H : Hp} {v : V} {d : PyData} (h2 : Dp K H v d) : ∀ {vs : List V} {ds : List PyData}, DpAll K H vs ds → DpAll K H (vs ++ [v]) (ds ++ [d])
  | _, _, .nil => .cons h2 .nil
  | _, _, .cons h1 h => .cons h1 (Dps_app h2 h)
theorem Dps_len {K : PySem.W.Frag} {H : Hp} : ∀ {vs : List V} {ds : List PyData}, DpAll K H vs ds → vs.length = ds.length
  | _, _, .nil => rfl
  | _, _, .cons h1 h => by rw [List.length_cons, List.length_cons, Dps_len h]
theorem same_upd' {H : Hp} {l : Addr} {u : HO} (h : H l = none) : Same H (upd H l u) := fun a o e => by
  rw [upd_ne (fun q => by rw [q, h] at e; cases e)]; exact e
/-- a list of lists that grows at D, over the heap H0 -/
def LcG (K : PySem.W.Frag) (H0 : Hp) (D : Addr) (ds : List PyData) (H : Hp) : Prop := ∃ (G : Hp) (ys : List V), Same H0 G ∧ G D = none ∧ Same G H ∧ H D = some (.lst ys) ∧ DpAll K G ys ds
theorem LcG.zero {K : PySem.W.Frag} {H0 : Hp} {D : Addr} (h : H0 D = none) : LcG K H0 D [] (upd H0 D (.lst [])) := ⟨H0, [], Same.refl _, h, same_upd' h, upd_same, .nil⟩
theorem LcG.step {K : PySem.W.Frag} {H0 H H' : Hp} {D l : Addr} {ds : List PyData} {i : Int} (h : LcG K H0 D ds H) (S : Same H H') (n : H l = none) (e : H' l = some (.lst [.int i])) :
    ∃ acc, H' D = some (.lst acc) ∧ acc.length = ds.length ∧ LcG K H0 D (ds ++ [.list [.int i]]) (upd H' D (.lst (acc ++ [.ref l]))) := by
  obtain ⟨G, ys, s1, s2, s3, s4, s5⟩ := h
  have ne : l ≠ D := fun q => by rw [q, s4] at n; cases n
  refine ⟨ys, S _ _ s4, Dps_len s5, fun b => if b = D then none else H' b, ys ++ [.ref l], ?_, if_pos rfl, ?_, upd_same, Dps_app ?_ (Dps_same ?_ s5)⟩
  · intro b o q
    have q2 := s1 _ _ q
    have : b ≠ D := fun z => by rw [z, s2] at q2; cases q2
    show (if b = D then none else H' b) = _
    rw [if_neg this]; exact S _ _ (s3 _ _ q2)
  · intro b o q
    by_cases z : b = D
    · have q : (if b = D then none else H' b) = some o := q
      rw [if_pos z] at q; cases q
    · have q : (if b = D then none else H' b) = some o := q
      rw [if_neg z] at q
      rw [upd_ne z]; exact q
  · refine .lst (SqL.of ?_) (.cons (.int i) .nil)
    show (if l = D then none else H' l) = _
    rw [if_neg ne]; exact e
  · intro b o q
    have : b ≠ D := fun z => by rw [z, s2] at q; cases q
    show (if b = D then none else H' b) = _
    rw [if_neg this]; exact S _ _ (s3 _ _ q)
theorem LcG.fin {K : PySem.W.Frag} {H0 H : Hp} {D : Addr} {ds : List PyData} (h : LcG K H0 D ds H) : Same H0 H ∧ ∃ ys, H D = some (.lst ys) ∧ DpAll K H ys ds := by
  obtain ⟨G, ys, s1, s2, s3, s4, s5⟩ := h
  exact ⟨s1.trans s3, ys, s4, Dps_same s3 s5⟩
/-- a text, repeated -/
def rMulS : R2 := fun x y H Q => ∃ z k, x = .str z ∧ y = .int k ∧ PySem.MulOk z k ∧ Q (.str (Txt.mul z k)) H
theorem op_mulS {X : Cx} : OpR X (binaryOp .Mult) rMulS := by
  intro pins s σ H x y v u Q I rx ry h
  obtain ⟨z, k, rfl, rfl, ok, q⟩ := h
  obtain ⟨t, rfl⟩ := rx
  obtain ⟨t', rfl⟩ := ry
  exact PySem.SB.mul ok fun t'' tk => ⟨.str (Txt.mul z k), H, I.tok _, ⟨_, rfl⟩, q⟩
end EnX
end

section
set_option Elab.async false
set_option linter.all false
set_option maxRecDepth 100000
namespace En
open PySem PySem.Spec PyProof.Rows L2
theorem sub_assign {o i : Expr} (h : notSlice i = true) (env : PySem.Env) : ∀ v, assign (.Subscript o i pos) env v = (do
      let ov ← holding [v] (eval o env)
      let iv ← holding [v, ov] (eval i env)
      standAt pos
      holding [v, ov, iv] (setItem ov iv v)
      release [v, ov, iv] []) := by
  intro v
  cases i <;> first | rfl | (simp [notSlice] at h)
section
variable {P : Program} {w : World} {K : PySem.W.Frag} {mg mb : Str → Option Value} {k : Nat} {fa a : Addr} {fd : FuncData} {x : Str} {sp : SpG} {s : Shared} {vs : List Value} {ns : List Int}
/-- the script's own heap: the list alone, unless it is an object of the text -/
def scrH (K : PySem.W.Frag) (a : Addr) (vs : List Value) (ns : List Int) : Hp := fun b => if b = a ∧ K.lookup a = none then some (.frz { cls := .type "list", data := .seq vs.toArray } (.lst (ns.map V.int))) else none
theorem scrH_some {b : Addr} {u : HO} (h : scrH K a vs ns b = some u) : b = a ∧ K.lookup a = none ∧ u = .frz { cls := .type "list", data := .seq vs.toArray } (.lst (ns.map V.int)) := by
  unfold scrH at h
  split at h
  · rename_i z; cases h; exact ⟨z.1, z.2, rfl⟩
  · cases h
theorem run_law (KX : K.In s.heap) (gl : s.heap.Ns mainGlobals mg) (bl : s.heap.Ns builtinsNs mb) (bb : ∀ x : Str, x ≠ "__name__" → mb x = bootBuiltins x) (nl : s.heap.NoLimit) (gn : s.gens = #[])
    (oa : s.heap.get? a = some { cls := .type "list", data := .seq vs.toArray }) (ia : IntsAre vs ns) (le : ns.length ≤ sizeLine) (hr : Room k callerA)
    (F : ∀ base : Heap, K.In base → base.Ns mainGlobals mg → FnG P w K mg base k fa fd [x] sp) (bi : ∀ (s : Shared) (u : Value), BindsTo s fd ⟨[u], []⟩ [(x, u)])
    (hsp : ∀ H : Hp, LN K no H a (ns.map V.int) → sp [.ref a] H (fun v _ => v = .bl true)) :
    codeAny (model P w) callerA (.call (.ref fa) ⟨[.ref a], []⟩) (fun r s' => r = .ok (.ret (.bool true)) ∧ OldK s.heap s'.heap ∧ s'.os = s.os ∧ AllBare s'.gens) s := by
  have rv := vals_ints ia
  have hln : LN K no (scrH K a vs ns) a (ns.map V.int) := by
    cases q : K.lookup a with
    | some o =>
      have e := KX a o q
      rw [oa] at e
      cases e
      exact .inr ⟨_, vs.toArray, _, q, rfl, rfl, rfl, by rw [List.size_toArray, ia.length]; exact le, by simpa using rv⟩
    | none => exact .inl ⟨fun z => z, .inr ⟨_, if_pos ⟨rfl, q⟩⟩⟩
  have hok : HOk P w (scrH K a vs ns) s.heap := fun b u z => by
    obtain ⟨rfl, _, rfl⟩ := scrH_some z
    exact ⟨oa, by rw [List.length_map]; exact le, vs, _, rv, oa⟩
  have dictFree : ∀ {b : Addr} {o : Obj} {es : Array DictEntry} {ep : Nat}, s.heap.get? b = some o → o.data = .dict es ep → scrH K a vs ns b = none := fun {b o es ep} e d => by
    cases q : scrH K a vs ns b with
    | none => rfl
    | some u =>
      obtain ⟨rfl, _, _⟩ := scrH_some q
      rw [oa] at e
      cases e
      cases (show Data.seq vs.toArray _ = Data.dict es ep from d)
  have nsB : ∀ {b : Addr} {m : Str → Option Value}, s.heap.Ns b m → (hidT s.heap (scrH K a vs ns)).Ns b m := fun {b m} ⟨o, es, ep, e, d, r⟩ => ⟨o, es, ep, hidT_get e (dictFree e d), d, r⟩
  have kB : K.In (hidT s.heap (scrH K a vs ns)) := fun b o e => hidT_get (KX b o e) <| by
    cases q : scrH K a vs ns b with
    | none => rfl
    | some u =>
      obtain ⟨rfl, z, _⟩ := scrH_some q
      rw [z] at e
      cases e
  obtain ⟨mc, n1, n2⟩ := nl
  have noFr : ∀ b : Addr, b ∉ frs ([] : List PySem.Env) := fun b hb => absurd (show b ∈ ([] : List Addr) from hb) List.not_mem_nil
  have env0 : Env0 P w K mg (hidT s.heap (scrH K a vs ns)) callerA [] s (scrH K a vs ns) :=
    { frames := rfl, mod := ⟨kB, nsB gl, ⟨mb, nsB bl, bb⟩, ⟨mc, nsB n1, n2⟩⟩, bs := fun b o e => of_hidT e, bsz := Nat.le_of_eq (hidT_size _ _), funs := trivial, frf := fun b hb => absurd hb (noFr b), hok := hok, bare := .of_eq gn }
  have run := (F _ kB (nsB gl)).run callerA [] s (scrH K a vs ns) ⟨[.ref a], []⟩ [.ref a] [.ref a] (fun v _ => v = .bl true) hr rfl env0 (bi s (.ref a)) (.cons rfl .nil) (hsp _ hln)
  refine codeAny_mono run fun r s' h => ?_
  match r, h with
  | .ok (.ret u), ⟨v, H', os, bare, un, hok', r', q⟩ =>
    have q : v = .bl true := q
    subst q
    have r' : u = Value.bool true := r'
    subst r'
    refine ⟨rfl, OldK.of_keep fun b o e => ?_, os, bare⟩
    cases q : scrH K a vs ns b with
    | none => exact un.keep b o e q (noFr b) (by simp)
    | some u =>
      obtain ⟨rfl, _, rfl⟩ := scrH_some q
      have e2 := (hok' b _ (un.frzs b _ _ q)).1
      rw [oa] at e
      cases e
      exact e2
  | .ok .next, h => exact h.elim
  | .ok .brk, h => exact h.elim
  | .ok .cont, h => exact h.elim
  | .error e, h => exact h.elim
end
theorem walkG {l : PySem.W.OpenLaw} {n k : Nat} {q : Program} {loose : List Str} {XP : (Str → Option Value) → Heap → Prop} {YP : World → Heap → Prop} {d : DefRec} {x : Str}
    (hn : l.most = some n) (hn2 : n ≤ sizeLine) (hdf : d.params.defaults = []) (hr : Room k callerA)
    (F : ∀ (w : World) (mg : Str → Option Value) (fa : Addr) (h : Heap), YP w h → h.Ns mainGlobals mg → mg d.name = some (.ref fa) →
      ∃ (K : PySem.W.Frag) (fd : FuncData) (sp : SpG), K.In h ∧ (∀ (s : Shared) (u : Value), BindsTo s fd ⟨[u], []⟩ [(x, u)]) ∧
        (∀ (H : Hp) (a : Addr) (ns : List Int), ns.length ≤ n → LN K no H a (ns.map V.int) → sp [.ref a] H (fun v _ => v = .bl true)) ∧
        ∀ base : Heap, K.In base → base.Ns mainGlobals mg → FnG l.prog w K mg base k fa fd [x] sp) :
    PySem.W.WalkO q loose XP YP l.row.toRowW d [] (fun f vs => PySem.call f vs) :=
  Att.attach_call hn hdf fun w s₀ s₁ mg mb fa o pm cd doc a vs ns G Y ho hd hcd hmg hobj hints hlen hg => by
    obtain ⟨K, fd, sp, KX, hb, hsp, hF⟩ := F w mg fa _ Y G.T.g hmg
    exact run_law KX G.T.g G.T.b G.T.builtins G.T.nolimit hg hobj hints (Nat.le_trans hlen hn2) hr hF hb fun H hl => hsp H a ns hlen hl
end En
end

section
set_option Elab.async false
set_option linter.all false
set_option maxRecDepth 100000
namespace Lw
open PySem PySem.Spec PyProof.Rows L2 En EnX EnQ
abbrev topS (i : Nat) : Stmt := PySem.Challenge.pw_tipsandtwins_k01_errors_made.main.body.getD i (.Pass ⟨0, 0, 0, 0⟩)
/-- what a purse is: three numbers -/
abbrev purV (a b t : Int) : HO := .lst [.int a, .int b, .int t]
def spDraw : SpG := fun vs H Q => ∃ p a b t m, vs = [.ref p, .int m] ∧ H p = some (purV a b t) ∧ 0 < m ∧ m < 1073741824 ∧ 0 ≤ t ∧ t < 1000 ∧ 0 ≤ b ∧ b < 2147483629 ∧
  ∀ v a' t', 0 ≤ v → v < m → 0 ≤ t' → t' ≤ t + 1 → Q (.int v) (upd H p (purV a' b t'))
theorem run_body {X : Cx} {b : List Stmt} {t : TS} {D : Ends} {σ : L2.St} {H : Hp} (h : PSs X b t) (q : t D σ H) : ∃ t, PSs X b t ∧ t D σ H := ⟨t, h, q⟩
theorem ixl {X : Cx} {K : PySem.W.Frag} (h : X.K = K) : IxR X (rIxL K) := by subst h; exact ix_list
theorem same_upd {H : Hp} {l : Addr} {u : HO} (h : H l = none) : Same H (upd H l u) := fun a o e => by
  rw [upd_ne (fun q => by rw [q, h] at e; cases e)]; exact e
theorem same_ow {H H' : Hp} {l : Addr} {u : HO} (h : H l = none) (S : Same H H') : Same H (upd H' l u) := fun a o e => by
  rw [upd_ne (fun q => by rw [q, h] at e; cases e)]; exact S a o e
theorem oefl {X : Cx} {K : PySem.W.Frag} {n : Str} {e : Expr} {te : TE} {pos : Pos} (h : X.K = K) (he : PE X e te) (hb : attributeBase e n X.env (eval e X.env) = eval e X.env) : PE X (.Attribute e n pos) (tOef K n te) := by subst h; exact pe_oef he hb
theorem atI0 {a : V} {xs : List V} : atI (a :: xs) 0 = some a := by simp [atI, ixN]
theorem atIv {xs : List V} {v : Int} (h0 : 0 ≤ v) (h : v.toNat < xs.length) : atI xs v = some xs[v.toNat] := by
  have h1 : v < xs.length := by omega
  simp [atI, ixN, h0, h1, h]
section
variable {w : World} {K : PySem.W.Frag} {mg : Str → Option Value} {base : Heap} {k : Nat} {x qual : Str} {f : Addr} {fd : FuncData}
abbrev PK : Program := PySem.Challenge.pw_tipsandtwins_k01_errors_made
set_option maxHeartbeats 4000000 in
theorem draw_ok (hI : mg "int" = none) (F : Fun K x qual (topS 7) f fd) : FnG PK w K mg base (k + 1) f fd ["_law_purse_here", "_law_many"] spDraw := by
  refine FnG.of F (show FnScope ["_law_purse_here", "_law_many", "_law_drawn", "_law_turn", "_law_number"] _ (defScope (topS 7)) from ⟨rfl, rfl, rfl, by decide +kernel, rfl, by decide +kernel, by decide +kernel⟩) (fun vs H Q h => ?_) fun cdv A outer s0 H vs Q hr hg h => ?_
  · obtain ⟨_, _, _, _, _, rfl, _⟩ := h; rfl
  have nd : (["_law_purse_here", "_law_many", "_law_drawn", "_law_turn", "_law_number"] : List Str).Nodup := by decide +kernel
  apply run_body
  repeat' (first | (with_reducible show PE _ _ _); (first | (first | exact pv 0 | exact pv 1 | exact pv 2 | exact pv 3 | exact pv 4 | exact pv 5 | exact pv 6 | exact pe_int | exact pe_str | exact pe_bl | exact pe_non | (with_reducible show PE _ (.BinOp _ .Add _ _) _); refine' pe_op op_addA _ _ | (with_reducible show PE _ (.BinOp _ .Sub _ _) _); refine' pe_op op_sub _ _ | (with_reducible show PE _ (.BinOp _ .Mult _ _) _); refine' pe_op (op_mul.or (op_rep.or op_mulS)) _ _ | (with_reducible show PE _ (.BinOp _ .FloorDiv _ _) _); refine' pe_op op_fdivN _ _ | (with_reducible show PE _ (.BinOp _ .Mod _ _) _); refine' pe_op op_modN _ _ | (with_reducible show PE _ (.BinOp _ .Pow _ _) _); refine' pe_op (op_pow.or op_powA) _ _ | refine' pe_ix ix_list _ _ (fun _ _ => rfl) | refine' pe_callTy call_int1 rfl (by assumption) (by decide +kernel) _ | refine' pe_callB call_len_seq rfl (by assumption) (by decide +kernel) _ | refine' pe_callB (call_max2 rfl) rfl (by assumption) (by decide +kernel) _ | refine' pe_lst _) | fail) | (with_reducible show PA _ _ _); (first | refine' pa_cons _ _ | exact pa_nil) | (with_reducible show PSs _ _ _); (first | refine' pss_cons _ _ | exact pss_nil) | (with_reducible show PS _ _ _); (first | fail | (first | (with_reducible show PS _ (.If _ _ _ _) _); refine' ps_if _ _ _ | (with_reducible show PS _ (.Return _ _) _); refine' ps_ret _ | (with_reducible show PS _ (.Assign [.Subscript _ _ _] _ _) _); refine' ps_asg _ (pg_sub _ _ set_list (sub_assign rfl _)) | refine' ps_set (i := 0) (by assumption) rfl (.inl rfl) _ | refine' ps_set (i := 1) (by assumption) rfl (.inl rfl) _ | refine' ps_set (i := 2) (by assumption) rfl (.inl rfl) _ | refine' ps_set (i := 3) (by assumption) rfl (.inl rfl) _ | refine' ps_set (i := 4) (by assumption) rfl (.inl rfl) _ | refine' ps_set (i := 5) (by assumption) rfl (.inl rfl) _ | refine' ps_set (i := 6) (by assumption) rfl (.inl rfl) _ | refine' ps_set (i := 1) (by assumption) rfl (.inr rfl) _)) | (with_reducible show PT _ _ _); (first | (with_reducible show PT _ (.Compare _ [.Gt] _ _) _); refine' pt_cmpR op_gt _ _ rfl | (with_reducible show PT _ (.Compare _ [.Lt] _ _) _); refine' pt_cmpR op_lt _ _ rfl | refine' (pw_or _ (pw_or _ (pw_or1 _))).pt | refine' (pw_or _ (pw_or1 _)).pt | refine' pt_not _ | refine' pt_val _))
  obtain ⟨p, a, b, t, m, rfl, hp, hm0, hm1, ht0, ht1, hb0, hb1, go⟩ := h
  show tSeq _ _ _ [some (.ref p), some (.int m), none, none, none] H
  have hne : m ≠ 0 := by omega
  refine ⟨_, rfl, p, _, 0, _, rfl, rfl, SqL.of hp, rfl, _, _, rfl, rfl, _, rfl, ?_⟩
  refine ite2 (fun ha => ?_) fun ha => ?_
  · refine ⟨_, rfl, p, _, 0, _, rfl, rfl, SqL.of hp, rfl, .inl ⟨_, rfl, _, rfl, _, _, rfl, rfl, hne, ?_⟩⟩
    refine ⟨_, rfl, p, _, 0, _, rfl, rfl, SqL.of hp, rfl, _, rfl, _, _, rfl, rfl, ⟨hne, by omega⟩, _, rfl, p, _, 0, 0, rfl, rfl, hp, rfl, ?_⟩
    exact ⟨_, rfl, go (a.fmod m) (a.fdiv m) t (Int.fmod_nonneg_of_pos _ hm0) (Int.fmod_lt_of_pos _ hm0) ht0 (by omega)⟩
  · refine ⟨_, rfl, p, _, 2, _, rfl, rfl, SqL.of hp, rfl, .inl ⟨_, _, rfl, rfl, ?_⟩⟩
    refine ⟨_, rfl, _, rfl, p, _, 2, 2, rfl, rfl, hp, rfl, ?_⟩
    have hp' : (upd H p (purV a b (t + 1))) p = some (purV a b (t + 1)) := upd_same
    refine ⟨_, rfl, p, _, 1, _, rfl, rfl, SqL.of hp', rfl, _, rfl, .inl ⟨_, _, rfl, rfl, .inl (by omega), .inl ⟨_, _, rfl, rfl, _, rfl, _, rfl, .inl ⟨_, _, rfl, rfl, .inl (by omega), .inl ⟨_, _, rfl, rfl, .inl ⟨_, _, rfl, rfl, .inl (by omega), .inl ⟨_, rfl, _, _, rfl, rfl, (by show (_ : Int) ≠ 0; decide), ?_⟩⟩⟩⟩⟩⟩⟩
    have gm : ∀ z c : Int, 0 < c → c < 4294967296 → (-(2 ^ 64) < z.fmod c ∧ z.fmod c < 2 ^ 64) := fun z c h1 h2 => by
      have := Int.fmod_nonneg_of_pos z h1
      have := Int.fmod_lt_of_pos z h1
      omega
    refine ⟨_, rfl, _, rfl, .inl ⟨_, _, rfl, rfl, .inl (gm _ _ (by decide) (by decide)), _, rfl, .inl ⟨_, _, rfl, rfl, .inl ⟨_, rfl, _, _, rfl, rfl, (by show (_ : Int) ≠ 0; decide), ?_⟩⟩⟩⟩
    refine ⟨_, rfl, .inl ⟨_, _, rfl, rfl, .inl (gm _ _ (by decide) (by decide)), .inl ⟨_, rfl, _, _, rfl, rfl, (by show (_ : Int) ≠ 0; decide), _, _, rfl, rfl, ⟨by decide, by decide⟩, _, rfl, _, _, rfl, rfl, hne, ?_⟩⟩⟩
    exact go _ a (t + 1) (Int.fmod_nonneg_of_pos _ hm0) (Int.fmod_lt_of_pos _ hm0) (by omega) (by omega)
/-- the first number's purse -/
def spPurse (K : PySem.W.Frag) : SpG := fun vs H Q => ∃ (p : Addr) (ns : List Int), vs = [.ref p, .int 0] ∧ SqL K H p (ns.map V.int) ∧ ∀ l a b, H l = none → 0 ≤ b → b < 2147483629 → Q (.ref l) (upd H l (purV a b 0))
set_option maxHeartbeats 4000000 in
theorem purse_ok (hI : mg "int" = none) (hL : mg "len" = none) (hM : mg "max" = none) (F : Fun K x qual (topS 6) f fd) : FnG PK w K mg base (k + 1) f fd ["_law_script", "_law_at"] (spPurse K) := by
  refine FnG.of F (show FnScope ["_law_script", "_law_at", "_law_cell"] _ (defScope (topS 6)) from ⟨rfl, rfl, rfl, by decide +kernel, rfl, by decide +kernel, by decide +kernel⟩) (fun vs H Q h => ?_) fun cdv A outer s0 H vs Q hr hg h => ?_
  · obtain ⟨_, _, rfl, _⟩ := h; rfl
  have nd : (["_law_script", "_law_at", "_law_cell"] : List Str).Nodup := by decide +kernel
  apply run_body
  repeat' (first | (with_reducible show PE _ _ _); (first | (first | exact pv 0 | exact pv 1 | exact pv 2 | exact pv 3 | exact pv 4 | exact pv 5 | exact pv 6 | exact pe_int | exact pe_str | exact pe_bl | exact pe_non | (with_reducible show PE _ (.BinOp _ .Add _ _) _); refine' pe_op op_addA _ _ | (with_reducible show PE _ (.BinOp _ .Sub _ _) _); refine' pe_op op_sub _ _ | (with_reducible show PE _ (.BinOp _ .Mult _ _) _); refine' pe_op (op_mul.or (op_rep.or op_mulS)) _ _ | (with_reducible show PE _ (.BinOp _ .FloorDiv _ _) _); refine' pe_op op_fdivN _ _ | (with_reducible show PE _ (.BinOp _ .Mod _ _) _); refine' pe_op op_modN _ _ | (with_reducible show PE _ (.BinOp _ .Pow _ _) _); refine' pe_op (op_pow.or op_powA) _ _ | refine' pe_ix ix_list _ _ (fun _ _ => rfl) | refine' pe_callTy call_int1 rfl (by assumption) (by decide +kernel) _ | refine' pe_callB call_len_seq rfl (by assumption) (by decide +kernel) _ | refine' pe_callB (call_max2 rfl) rfl (by assumption) (by decide +kernel) _ | refine' pe_lst _) | fail) | (with_reducible show PA _ _ _); (first | refine' pa_cons _ _ | exact pa_nil) | (with_reducible show PSs _ _ _); (first | refine' pss_cons _ _ | exact pss_nil) | (with_reducible show PS _ _ _); (first | fail | (first | (with_reducible show PS _ (.If _ _ _ _) _); refine' ps_if _ _ _ | (with_reducible show PS _ (.Return _ _) _); refine' ps_ret _ | (with_reducible show PS _ (.Assign [.Subscript _ _ _] _ _) _); refine' ps_asg _ (pg_sub _ _ set_list (sub_assign rfl _)) | refine' ps_set (i := 0) (by assumption) rfl (.inl rfl) _ | refine' ps_set (i := 1) (by assumption) rfl (.inl rfl) _ | refine' ps_set (i := 2) (by assumption) rfl (.inl rfl) _ | refine' ps_set (i := 3) (by assumption) rfl (.inl rfl) _ | refine' ps_set (i := 4) (by assumption) rfl (.inl rfl) _ | refine' ps_set (i := 5) (by assumption) rfl (.inl rfl) _ | refine' ps_set (i := 6) (by assumption) rfl (.inl rfl) _ | refine' ps_set (i := 1) (by assumption) rfl (.inr rfl) _)) | (with_reducible show PT _ _ _); (first | (with_reducible show PT _ (.Compare _ [.Gt] _ _) _); refine' pt_cmpR op_gt _ _ rfl | (with_reducible show PT _ (.Compare _ [.Lt] _ _) _); refine' pt_cmpR op_lt _ _ rfl | refine' (pw_or _ (pw_or _ (pw_or1 _))).pt | refine' (pw_or _ (pw_or1 _)).pt | refine' pt_not _ | refine' pt_val _))
  obtain ⟨p, ns, rfl, hp, go⟩ := h
  show tSeq _ _ _ [some (.ref p), some (.int 0), none] H
  refine ⟨_, rfl, _, rfl, p, _, rfl, .inl hp, _, _, rfl, rfl, _, rfl, ?_⟩
  have h3 : (3 : Nat) ≤ sizeLine := by rw [sizeLine_eq]; omega
  refine ite2 (fun hz => ?_) fun hz => ?_
  · have hz : (0 : Int) < ((ns.map V.int).length : Int) := of_decide_eq_true hz
    obtain ⟨n0, nt, rfl⟩ : ∃ n0 nt, ns = n0 :: nt := by
      cases ns with
      | nil => simp at hz
      | cons a b => exact ⟨a, b, rfl⟩
    refine ⟨_, rfl, _, rfl, p, _, 0, _, rfl, rfl, hp, atI0, ?_⟩
    refine ⟨_, rfl, .inl ⟨_, _, rfl, rfl, ⟨by decide, by decide, by decide⟩, _, _, rfl, rfl, _, _, rfl, .inl ⟨_, rfl, .inl ⟨_, _, rfl, rfl, ⟨by decide, by decide, by decide⟩, .inr ⟨_, _, rfl, rfl, by decide, by decide +kernel, _, _, rfl, rfl, (by show ((10 : Int) ^ (Int.toNat 40)) ^ (Int.toNat 10) ≠ 0; decide +kernel), _, rfl, _, rfl, .inl ⟨_, _, rfl, rfl, .inl (by decide), .inl ⟨_, _, rfl, rfl, .inl ⟨_, rfl, _, _, rfl, rfl, (by show (_ : Int) ≠ 0; decide), ?_⟩⟩⟩⟩⟩⟩⟩⟩
    exact ⟨h3, fun l hl => go l _ _ hl (Int.fmod_nonneg_of_pos _ (by decide)) (Int.fmod_lt_of_pos _ (by decide))⟩
  · refine ⟨_, rfl, .inl ⟨_, _, rfl, rfl, ⟨by decide, by decide, by decide⟩, _, _, rfl, rfl, _, _, rfl, .inl ⟨_, rfl, .inl ⟨_, _, rfl, rfl, ⟨by decide, by decide, by decide⟩, .inr ⟨_, _, rfl, rfl, by decide, by decide +kernel, _, _, rfl, rfl, (by show ((10 : Int) ^ (Int.toNat 40)) ^ (Int.toNat 10) ≠ 0; decide +kernel), _, rfl, _, rfl, .inl ⟨_, _, rfl, rfl, .inl (by decide), .inl ⟨_, _, rfl, rfl, .inl ⟨_, rfl, _, _, rfl, rfl, (by show (_ : Int) ≠ 0; decide), ?_⟩⟩⟩⟩⟩⟩⟩⟩
    exact ⟨h3, fun l hl => go l _ _ hl (Int.fmod_nonneg_of_pos _ (by decide)) (Int.fmod_lt_of_pos _ (by decide))⟩
/-- one of a list's items -/
def spPick : SpG := fun vs H Q => ∃ p q a b t xs, vs = [.ref p, .ref q] ∧ H p = some (purV a b t) ∧ H q = some (.lst xs) ∧ p ≠ q ∧ 0 < xs.length ∧ xs.length < 1000 ∧ 0 ≤ t ∧ t < 1000 ∧ 0 ≤ b ∧ b < 2147483629 ∧
  ∀ v a' t', v ∈ xs → 0 ≤ t' → t' ≤ t + 1 → Q v (upd H p (purV a' b t'))
set_option maxHeartbeats 4000000 in
theorem pick_ok (hL : mg "len" = none) (D : ∃ a fd, mg "_law_draw" = some (.ref a) ∧ PySem.W.keepIn K (.ref a) = true ∧ Binds K fd ["_law_purse_here", "_law_many"] [] ∧ FnG PK w K mg base k a fd ["_law_purse_here", "_law_many"] spDraw)
    (F : Fun K x qual (topS 8) f fd) : FnG PK w K mg base (k + 1) f fd ["_law_purse_here", "_law_items"] spPick := by
  obtain ⟨da, dfd, d1, d2, d3, d4⟩ := D
  refine FnG.of F (show FnScope ["_law_purse_here", "_law_items"] _ (defScope (topS 8)) from ⟨rfl, rfl, rfl, by decide +kernel, rfl, by decide +kernel, by decide +kernel⟩) (fun vs H Q h => ?_) fun cdv A outer s0 H vs Q hr hg h => ?_
  · obtain ⟨_, _, _, _, _, _, rfl, _⟩ := h; rfl
  apply run_body
  repeat' (first | (with_reducible show PE _ _ _); (first | (first | exact pv 0 | exact pv 1 | exact pv 2 | exact pv 3 | exact pv 4 | exact pv 5 | exact pv 6 | exact pe_int | exact pe_str | exact pe_bl | exact pe_non | (with_reducible show PE _ (.BinOp _ .Add _ _) _); refine' pe_op op_addA _ _ | (with_reducible show PE _ (.BinOp _ .Sub _ _) _); refine' pe_op op_sub _ _ | (with_reducible show PE _ (.BinOp _ .Mult _ _) _); refine' pe_op (op_mul.or (op_rep.or op_mulS)) _ _ | (with_reducible show PE _ (.BinOp _ .FloorDiv _ _) _); refine' pe_op op_fdivN _ _ | (with_reducible show PE _ (.BinOp _ .Mod _ _) _); refine' pe_op op_modN _ _ | (with_reducible show PE _ (.BinOp _ .Pow _ _) _); refine' pe_op (op_pow.or op_powA) _ _ | refine' pe_ix ix_list _ _ (fun _ _ => rfl) | refine' pe_callTy call_int1 rfl (by assumption) (by decide +kernel) _ | refine' pe_callB call_len_seq rfl (by assumption) (by decide +kernel) _ | refine' pe_callB (call_max2 rfl) rfl (by assumption) (by decide +kernel) _ | refine' pe_lst _) | (refine' pe_callG d4 hr hg (by rfl) d1 d2 d3 _ (by decide) (by rfl) (by rfl))) | (with_reducible show PA _ _ _); (first | refine' pa_cons _ _ | exact pa_nil) | (with_reducible show PSs _ _ _); (first | refine' pss_cons _ _ | exact pss_nil) | (with_reducible show PS _ _ _); (first | (refine' pe_callG d4 hr hg (by rfl) d1 d2 d3 _ (by decide) (by rfl) (by rfl)) | (first | (with_reducible show PS _ (.If _ _ _ _) _); refine' ps_if _ _ _ | (with_reducible show PS _ (.Return _ _) _); refine' ps_ret _ | (with_reducible show PS _ (.Assign [.Subscript _ _ _] _ _) _); refine' ps_asg _ (pg_sub _ _ set_list (sub_assign rfl _)) | refine' ps_set (i := 0) (by assumption) rfl (.inl rfl) _ | refine' ps_set (i := 1) (by assumption) rfl (.inl rfl) _ | refine' ps_set (i := 2) (by assumption) rfl (.inl rfl) _ | refine' ps_set (i := 3) (by assumption) rfl (.inl rfl) _ | refine' ps_set (i := 4) (by assumption) rfl (.inl rfl) _ | refine' ps_set (i := 5) (by assumption) rfl (.inl rfl) _ | refine' ps_set (i := 6) (by assumption) rfl (.inl rfl) _ | refine' ps_set (i := 1) (by assumption) rfl (.inr rfl) _)) | (with_reducible show PT _ _ _); (first | (with_reducible show PT _ (.Compare _ [.Gt] _ _) _); refine' pt_cmpR op_gt _ _ rfl | (with_reducible show PT _ (.Compare _ [.Lt] _ _) _); refine' pt_cmpR op_lt _ _ rfl | refine' (pw_or _ (pw_or _ (pw_or1 _))).pt | refine' (pw_or _ (pw_or1 _)).pt | refine' pt_not _ | refine' pt_val _))
  obtain ⟨p, q, a, b, t, xs, rfl, hp, hq, ne, x0, x1, t0, t1, b0, b1, go⟩ := h
  show tSeq _ _ _ [some (.ref p), some (.ref q)] H
  refine ⟨_, rfl, _, rfl, _, rfl, q, _, rfl, .inl (SqL.of hq), p, a, b, t, _, rfl, hp, by omega, by omega, t0, t1, b0, b1, fun v a' t' v0 v1 t0' t1' => ?_⟩
  have hv : v.toNat < xs.length := by omega
  refine ⟨q, xs, v, xs[v.toNat], rfl, rfl, SqL.of (by rw [upd_ne ne.symm]; exact hq), ?_, go _ a' t' (List.getElem_mem hv) t0' t1'⟩
  exact atIv v0 hv
/-- a comprehension's turns, n of them -/
theorem lc_walk {J : It} {n : Nat} {g : TG} {tt : TT} {te : TE} {vs : List Nat} {σ : L2.St} {H1 : Hp} {D : Addr} {Fin : Hp → Prop} (inv : Nat → Hp → Prop) (h0 : inv 0 (upd H1 D (.lst [])))
    (hgo : ∀ i H, i < n → inv i H → J.go i H ∧ ∀ x H', J.yld i H x H' → g x (wipe σ vs) H' fun σ2 H2 => wipe σ2 vs = wipe σ vs ∧ tt σ2 H2 fun b H3 => if b = true then te σ2 H3 fun y H4 => ∃ acc, H4 D = some (.lst acc) ∧ acc.length < sizeLine ∧ inv (i + 1) (upd H4 D (.lst (acc ++ [y]))) else inv (i + 1) H3)
    (hstop : ∀ H, inv n H → J.stop n H ∧ Fin H) : ∃ W : Nat → Nat → Hp → Prop, (∃ m, W 0 m (upd H1 D (.lst []))) ∧ ∀ i m H, W i m H →
      (J.stop i H ∧ Fin H) ∨ (J.go i H ∧ ∃ Nx : Hp → Prop, (∀ H', Nx H' → ∃ m', m' < m ∧ W (i + 1) m' H') ∧ ∀ x H', J.yld i H x H' → g x (wipe σ vs) H' fun σ2 H2 => wipe σ2 vs = wipe σ vs ∧ tt σ2 H2 fun b H3 =>
        if b = true then te σ2 H3 fun y H4 => ∃ acc, H4 D = some (.lst acc) ∧ acc.length < sizeLine ∧ Nx (upd H4 D (.lst (acc ++ [y]))) else Nx H3) := by
  refine ⟨fun i m H => m = n - i ∧ i ≤ n ∧ inv i H, ⟨n, rfl, Nat.zero_le _, h0⟩, ?_⟩
  rintro i m H ⟨rfl, hi, h⟩
  by_cases lt : i < n
  · obtain ⟨h1, h2⟩ := hgo i H lt h
    exact .inr ⟨h1, inv (i + 1), fun H' h' => ⟨n - (i + 1), by omega, rfl, by omega, h'⟩, h2⟩
  · obtain rfl : i = n := by omega
    exact .inl (hstop H h)
/-- the four classes, by the text -/
structure ErrF (K : PySem.W.Frag) (mg : Str → Option Value) (C : Nat → Addr) (T : Addr) : Prop where
  m0 : mg "InvalidWeb" = some (.ref (C 0))
  m1 : mg "InvalidName" = some (.ref (C 1))
  m2 : mg "InvalidNames" = some (.ref (C 2))
  mT : mg "TipsAndTwinsError" = some (.ref T)
  mV : mg "ValueError" = none
  ox : ∀ i, i < 3 → OexQ PK K (C i) ∧ XfC K (C i) ∧ ExcC K (C i)
  k1 : ∀ i j, i < 3 → j < 3 → PySem.W.kitOne K (.ref (C i)) (.ref (C j)) = some (decide (i = j))
  kT : ∀ i, i < 3 → PySem.W.kitOne K (.ref (C i)) (.ref T) = some true
  kV : ∀ i, i < 3 → PySem.W.kitOne K (.ref (C i)) (.type "ValueError") = some true
/-- an exception of the class i, v its value -/
def ErrV (C : Nat → Addr) (H : Hp) (i : Nat) (v : V) (e : V) : Prop := ∃ a dd, e = .ref a ∧ H a = some (exo a (C i) (some dd)) ∧ H dd = some (.xd [("value", v)])
def spClasses (C : Nat → Addr) : SpG := fun vs H Q => ∃ e i v, vs = [e] ∧ i < 3 ∧ ErrV C H i v e ∧ ∀ l H', Same H H' → H l = none → H' l = some (.lst [.int i]) → Q (.ref l) H'
set_option maxHeartbeats 4000000 in
theorem classes_ok {C : Nat → Addr} {T : Addr} (hI : mg "isinstance" = none) (hL : mg "len" = none) (hR : mg "range" = none) (E : ErrF K mg C T) (F : Fun K x qual (topS 9) f fd) : FnG PK w K mg base (k + 1) f fd ["_law_error"] (spClasses C) := by
  refine FnG.of F (show FnScope ["_law_error", "_law_some", "_law_at"] _ (defScope (topS 9)) from ⟨rfl, rfl, rfl, by decide +kernel, rfl, by decide +kernel, by decide +kernel⟩) (fun vs H Q h => ?_) fun cdv A outer s0 H vs Q hr hg h => ?_
  · obtain ⟨_, _, _, rfl, _⟩ := h; rfl
  have nd : (["_law_error", "_law_some", "_law_at"] : List Str).Nodup := by decide +kernel
  have m0 := E.m0
  have m1 := E.m1
  have m2 := E.m2
  have mT := E.mT
  have mV := E.mV
  apply run_body
  repeat' (first | (with_reducible show PE _ _ _); (first | (first | exact pv 0 | exact pv 1 | exact pv 2 | exact pv 3 | exact pv 4 | exact pv 5 | exact pv 6 | exact pe_int | exact pe_str | exact pe_bl | exact pe_non | (with_reducible show PE _ (.BinOp _ .Add _ _) _); refine' pe_op op_addA _ _ | (with_reducible show PE _ (.BinOp _ .Sub _ _) _); refine' pe_op op_sub _ _ | (with_reducible show PE _ (.BinOp _ .Mult _ _) _); refine' pe_op (op_mul.or (op_rep.or op_mulS)) _ _ | (with_reducible show PE _ (.BinOp _ .FloorDiv _ _) _); refine' pe_op op_fdivN _ _ | (with_reducible show PE _ (.BinOp _ .Mod _ _) _); refine' pe_op op_modN _ _ | (with_reducible show PE _ (.BinOp _ .Pow _ _) _); refine' pe_op (op_pow.or op_powA) _ _ | refine' pe_ix ix_list _ _ (fun _ _ => rfl) | refine' pe_callTy call_int1 rfl (by assumption) (by decide +kernel) _ | refine' pe_callB call_len_seq rfl (by assumption) (by decide +kernel) _ | refine' pe_callB (call_max2 rfl) rfl (by assumption) (by decide +kernel) _ | refine' pe_lst _) | (first | exact pe_glob (v := .ref _) (by rfl) m0 rfl | exact pe_glob (v := .ref _) (by rfl) m1 rfl | exact pe_glob (v := .ref _) (by rfl) m2 rfl | exact pe_glob (v := .ref _) (by rfl) mT rfl | exact pe_bltn (v := .ty "ValueError") (by rfl) mV (by decide +kernel) rfl | refine' pe_callB call_isX rfl hI (by decide +kernel) _)) | (with_reducible show PA _ _ _); (first | refine' pa_cons _ _ | exact pa_nil) | (with_reducible show PSs _ _ _); (first | refine' pss_cons _ _ | exact pss_nil) | (with_reducible show PS _ _ _); (first | (first | exact pe_glob (v := .ref _) (by rfl) m0 rfl | exact pe_glob (v := .ref _) (by rfl) m1 rfl | exact pe_glob (v := .ref _) (by rfl) m2 rfl | exact pe_glob (v := .ref _) (by rfl) mT rfl | exact pe_bltn (v := .ty "ValueError") (by rfl) mV (by decide +kernel) rfl | refine' pe_callB call_isX rfl hI (by decide +kernel) _) | (first | (with_reducible show PS _ (.If _ _ _ _) _); refine' ps_if _ _ _ | (with_reducible show PS _ (.Return _ _) _); refine' ps_ret _ | (with_reducible show PS _ (.Assign [.Subscript _ _ _] _ _) _); refine' ps_asg _ (pg_sub _ _ set_list (sub_assign rfl _)) | refine' ps_set (i := 0) (by assumption) rfl (.inl rfl) _ | refine' ps_set (i := 1) (by assumption) rfl (.inl rfl) _ | refine' ps_set (i := 2) (by assumption) rfl (.inl rfl) _ | refine' ps_set (i := 3) (by assumption) rfl (.inl rfl) _ | refine' ps_set (i := 4) (by assumption) rfl (.inl rfl) _ | refine' ps_set (i := 5) (by assumption) rfl (.inl rfl) _ | refine' ps_set (i := 6) (by assumption) rfl (.inl rfl) _ | refine' ps_set (i := 1) (by assumption) rfl (.inr rfl) _)) | (with_reducible show PT _ _ _); (first | (with_reducible show PT _ (.Compare _ [.Gt] _ _) _); refine' pt_cmpR op_gt _ _ rfl | (with_reducible show PT _ (.Compare _ [.Lt] _ _) _); refine' pt_cmpR op_lt _ _ rfl | refine' (pw_or _ (pw_or _ (pw_or1 _))).pt | refine' (pw_or _ (pw_or1 _)).pt | refine' pt_not _ | refine' pt_val _))
  rotate_left
  · exact pe_lc (own := [("_law_at", 2)]) rfl nd (pi_range1 (by rfl) hR (pa_cons (pe_callB call_len_seq (by rfl) hL (by decide +kernel) (pa_cons (pv 1) pa_nil)) pa_nil)) (blkOk_by (N := ["_law_error", "_law_some", "_law_at"]) (sc := defScope (topS 9)) (by decide +kernel)) (fun _ _ _ _ _ => pg_name (i := 2) nd rfl (.inl rfl)) (fun _ _ _ _ _ => pts_one (pt_val (pe_ix (ixl (K := K) rfl) (pv 1) (pv 2) (fun _ _ => rfl)))) (fun _ _ _ _ _ => pv 2)
  obtain ⟨e, i, v, rfl, hi, ⟨a, dd, rfl, ha, hd⟩, go⟩ := h
  show tSeq _ _ _ [some (.ref a), none, none] H
  obtain ⟨q1, q2, q3⟩ := E.ox i hi
  refine ⟨_, rfl, a, C i, dd, _, _, _, _, rfl, ha, hd, .own _, q3, E.k1 i 0 hi (by decide), _, rfl, a, C i, dd, _, _, _, _, rfl, ha, hd, .own _, q3, E.k1 i 1 hi (by decide), _, rfl, a, C i, dd, _, _, _, _, rfl, ha, hd, .own _, q3, E.k1 i 2 hi (by decide), (show 3 ≤ sizeLine by rw [sizeLine_eq]; omega), fun q hq => ?_⟩
  generalize hH1 : upd H q _ = H1
  have S1 : Same H H1 := hH1 ▸ same_upd hq
  have h1 : H1 q = some (.lst [.bl (decide (i = 0)), .bl (decide (i = 1)), .bl (decide (i = 2))]) := by rw [← hH1]; exact upd_same
  refine ⟨_, rfl, a, C i, dd, _, _, _, _, rfl, S1 _ _ ha, S1 _ _ hd, .own _, q3, E.kT i hi, _, rfl, ?_⟩
  refine iteF ⟨_, rfl, a, C i, dd, _, _, _, _, rfl, S1 _ _ ha, S1 _ _ hd, .ty _, q3, E.kV i hi, _, rfl, ?_⟩
  refine iteF ⟨_, rfl, q, _, rfl, .inl (SqL.of h1), 3, rfl, by decide, by decide, fun D hD => ?_⟩
  refine lc_walk (n := 3) (fun j H' => Same H1 H' ∧ H' D = some (.lst (if i < j then [.int i] else []))) ⟨same_upd hD, upd_same⟩ (fun j H' hj ⟨S2, hd'⟩ => ⟨hj, fun x H'' ⟨e1, e2⟩ => ?_⟩) fun H' ⟨S2, hd'⟩ => ⟨Nat.le_refl _, ?_⟩
  · subst e1 e2
    have at_ : atI [V.bl (decide (i = 0)), V.bl (decide (i = 1)), V.bl (decide (i = 2))] (0 + (j : Int)) = some (.bl (decide (i = j))) := by
      match j, hj with
      | 0, _ => rfl
      | 1, _ => rfl
      | 2, _ => rfl
    refine ⟨rfl, _, rfl, _, rfl, q, _, _, _, rfl, rfl, SqL.of (S2 _ _ h1), at_, _, rfl, ite2 (fun hc => ?_) fun hc => ?_⟩
    · have hc : i = j := of_decide_eq_true hc
      subst hc
      rw [if_neg (Nat.lt_irrefl i)] at hd'
      refine ⟨_, rfl, [], hd', (show 0 < sizeLine by rw [sizeLine_eq]; omega), same_ow hD S2, ?_⟩
      rw [upd_same, if_pos (Nat.lt_succ_self i), Int.zero_add]; rfl
    · have hc : i ≠ j := fun e => hc (decide_eq_true e)
      refine ⟨S2, hd'.trans ?_⟩
      by_cases lt : i < j
      · rw [if_pos lt, if_pos (by omega)]
      · rw [if_neg lt, if_neg (by omega)]
  · rw [if_pos hi] at hd'
    exact go D H' (S1.trans S2) (by
      cases z : H D with
      | none => rfl
      | some u => rw [S1 _ _ z] at hD; cases hD) hd'
/-- three errors of the three classes, v their value -/
@[irreducible] def spRight (K : PySem.W.Frag) (C : Nat → Addr) : SpG := fun vs H Q => ∃ l e0 e1 e2 v d, vs = [.ref l, v] ∧ H l = some (.lst [e0, e1, e2]) ∧ ErrV C H 0 v e0 ∧ ErrV C H 1 v e1 ∧ ErrV C H 2 v e2 ∧ Dq K H v d ∧ d.showable = true ∧ d.depth ≤ 50 ∧ (PyData.list [d, d, d]).shown.length ≤ sizeLine ∧ ∀ H', Same H H' → Q (.bl true) H'
set_option maxHeartbeats 4000000 in
theorem right_ok {C : Nat → Addr} {T : Addr} (hL : mg "len" = none) (hR : mg "range" = none) (hP : mg "repr" = none) (E : ErrF K mg C T)
    (D : ∃ a fd, mg "_law_classes" = some (.ref a) ∧ PySem.W.keepIn K (.ref a) = true ∧ Binds K fd ["_law_error"] [] ∧ FnG PK w K mg base k a fd ["_law_error"] (spClasses C))
    (F : Fun K x qual (topS 10) f fd) : FnG PK w K mg base (k + 1) f fd ["_law_errors", "_law_given"] (spRight K C) := by
  obtain ⟨da, dfd, d1, d2, d3, d4⟩ := D
  refine FnG.of F (show FnScope ["_law_errors", "_law_given", "_law_told", "_law_error", "_law_at"] _ (defScope (topS 10)) from ⟨rfl, rfl, rfl, by decide +kernel, rfl, by decide +kernel, by decide +kernel⟩) (fun vs H Q h => ?_) fun cdv A outer s0 H vs Q hr hg h => ?_
  · unfold spRight at h; obtain ⟨_, _, _, _, _, _, rfl, _⟩ := h; rfl
  have nd : (["_law_errors", "_law_given", "_law_told", "_law_error", "_law_at"] : List Str).Nodup := by decide +kernel
  have hu := hr.units
  have bk1 : BlkOk ["_law_errors", "_law_given", "_law_told", "_law_error", "_law_at"] (defScope (topS 10)) { kind := .function, names := [(".0", .local), ("_law_error", .local)], isGenerator := false, isCoroutine := false, more := [] } [("_law_error", 3)] := blkOk_by (by decide +kernel)
  have bk2 : BlkOk ["_law_errors", "_law_given", "_law_told", "_law_error", "_law_at"] (defScope (topS 10)) { kind := .function, names := [(".0", .local), ("_law_error", .local), ("_law_classes", .globalImplicit)], isGenerator := false, isCoroutine := false, more := [] } [("_law_error", 3)] := blkOk_by (by decide +kernel)
  have bk3 : BlkOk ["_law_errors", "_law_given", "_law_told", "_law_error", "_law_at"] (defScope (topS 10)) { kind := .function, names := [(".0", .local), ("_law_at", .local)], isGenerator := false, isCoroutine := false, more := [] } [("_law_at", 4)] := blkOk_by (by decide +kernel)
  apply run_body
  have hu64 := hr.units
  have hu62 : (A.deeper (envOfC qual (defScope (topS 10)) s0.heap.objs.size f cdv)).units + 62 < cLine := by omega
  refine' pss_cons (ps_setLc (i := 2) (own := [("_law_error", 3)]) (te := tOef K "value" (tVar 3)) rfl nd rfl rfl (by rfl) (pi_list (pv 0)) bk1 (fun _ _ _ _ _ => pg_name (i := 3) nd rfl (.inl rfl)) (fun _ _ _ _ _ => pts_nil) (fun _ _ _ _ _ => by exact oefl (K := K) rfl (pv 3) rfl))
    (pss_cons (ps_if (pt_cmpR op_ne (pe_callB (call_reprQ hg hu62) (by rfl) hP (by decide +kernel) (pa_cons (pv 2) pa_nil)) (pe_callB (call_reprQ hg hu62) (by rfl) hP (by decide +kernel) (pa_cons (pe_op op_rep (pe_lst (pa_cons (pv 1) pa_nil)) (pe_callB call_len_seq (by rfl) hL (by decide +kernel) (pa_cons (pv 0) pa_nil))) pa_nil)) rfl)
      (pss_one (ps_ret pe_bl)) pss_nil)
    (pss_one (ps_ret (pe_cmpR (op_eqD hu64)
      (pe_lc (own := [("_law_error", 3)]) (te := tCallG (spClasses C) (tCons (tVar 3) tNil)) rfl nd (pi_list (pv 0)) bk2 (fun _ _ _ _ _ => pg_name (i := 3) nd rfl (.inl rfl)) (fun _ _ _ _ _ => pts_nil) (fun s1 H1 C1 cl fp => by exact pe_callG d4 hr hg (by rfl) d1 d2 d3 (pa_cons (pv 3) pa_nil) (by decide) (by rfl) (by rfl)))
      (pe_lc (own := [("_law_at", 4)]) rfl nd (pi_range1 (by rfl) hR (pa_cons (pe_callB call_len_seq (by rfl) hL (by decide +kernel) (pa_cons (pv 0) pa_nil)) pa_nil)) bk3 (fun _ _ _ _ _ => pg_name (i := 4) nd rfl (.inl rfl)) (fun _ _ _ _ _ => pts_nil) (fun _ _ _ _ _ => pe_lst (pa_cons (pv 4) pa_nil))) rfl))))
  unfold spRight at h
  obtain ⟨l, e0, e1, e2, v, d, rfl, hl, E0, E1, E2, hd, s1, s2, s3, go⟩ := h
  show tSeq _ _ _ [some (.ref l), some v, none, none, none] H
  have ee : ∀ i x, i < 3 → [e0, e1, e2][i]? = some x → ErrV C H i v x := fun i x hi e => by
    match i, hi, e with
    | 0, _, e => cases e; exact E0
    | 1, _, e => cases e; exact E1
    | 2, _, e => cases e; exact E2
  have sl : ∀ n : Nat, n < 4 → n < sizeLine := fun n hn => by rw [sizeLine_eq]; omega
  refine ⟨_, rfl, l, rfl, ⟨_, SqL.of hl⟩, fun D hD => ?_⟩
  refine lc_walk (n := 3) (fun j H' => Same H H' ∧ H' D = some (.lst (List.replicate j v))) ⟨same_upd hD, upd_same⟩ (fun j H' hj ⟨S2, hd'⟩ => ⟨⟨_, _, SqL.of (S2 _ _ hl), List.getElem?_eq_getElem hj⟩, fun x H'' ⟨y1, y2⟩ => ?_⟩) fun H' ⟨S2, hd'⟩ => ⟨⟨_, SqL.of (S2 _ _ hl), Nat.le_refl _⟩, ?_⟩
  · subst y1
    obtain ⟨a, dd, rfl, x1, x2⟩ := ee j x hj (y2 _ (SqL.of (S2 _ _ hl)))
    obtain ⟨q1, q2, q3⟩ := E.ox j hj
    refine ⟨rfl, ?_⟩
    refine ⟨_, rfl, a, C j, dd, _, v, rfl, S2 _ _ x1, q2, q1.no, S2 _ _ x2, by simp, _, hd', sl _ (by rw [List.length_replicate]; omega), same_ow hD S2, ?_⟩
    rw [upd_same, List.replicate_succ']
  · -- repr(told) != repr([given] * len(errors))
    have S0 : Same H H' := S2
    have dq : ∀ {H2 : Hp}, Same H H2 → Dq K H2 v d := fun S => hd.same S
    have dqs : ∀ {H2 : Hp}, Same H H2 → Dqs K H2 [v, v, v] [d, d, d] := fun S => .cons (dq S) (.cons (dq S) (.cons (dq S) .nil))
    have sh : PyData.showableAll [d, d, d] = true := by simp [PyData.showableAll, s1]
    have dp : PyData.depthAll [d, d, d] ≤ 59 := by simp [PyData.depthAll]; omega
    refine ⟨_, rfl, D, _, _, rfl, SqL.of hd', dqs S0, sh, dp, s3, _, rfl, (show 1 ≤ sizeLine from by have := sl 1 (by decide); omega), fun m hm => ?_⟩
    have S3 : Same H' (upd H' m (.lst [v])) := same_upd hm
    refine ⟨_, rfl, l, _, rfl, .inl (SqL.of (S3 _ _ (S0 _ _ hl))), m, 3, [v], rfl, rfl, upd_same, by decide, by decide, (show 1 * 3 ≤ sizeLine from by have := sl 3 (by decide); omega), fun n hn => ?_⟩
    generalize hH4 : upd (upd H' m (.lst [v])) n _ = H4
    have S4 : Same H H4 := (S0.trans S3).trans (hH4 ▸ same_upd hn)
    have h4 : H4 n = some (.lst [v, v, v]) := by rw [← hH4]; exact upd_same
    refine ⟨n, _, _, rfl, SqL.of h4, dqs S4, sh, dp, s3, rfl, _, rfl, ?_⟩
    refine iteNS rfl ?_
    -- classes
    have l4 := S4 _ _ hl
    refine ⟨_, rfl, l, rfl, ⟨_, SqL.of l4⟩, fun D2 hD2 => ?_⟩
    refine lc_walk (n := 3) (fun j H5 => LcG K H4 D2 ((List.range j).map fun t : Nat => PyData.list [.int (t : Int)]) H5) (.zero hD2) (fun j H5 hj g5 => ⟨⟨_, _, SqL.of (g5.fin.1 _ _ l4), List.getElem?_eq_getElem hj⟩, fun x H6 ⟨y1, y2⟩ => ?_⟩) fun H5 g5 => ⟨⟨_, SqL.of (g5.fin.1 _ _ l4), Nat.le_refl _⟩, ?_⟩
    · subst y1
      have S6 := S4.trans g5.fin.1
      obtain ⟨a, dd, rfl, x1, x2⟩ := ee j x hj (y2 _ (SqL.of (S6 _ _ hl)))
      refine ⟨rfl, _, rfl, _, j, v, rfl, hj, ⟨a, dd, rfl, S6 _ _ x1, S6 _ _ x2⟩, fun p H7 S7 p0 p1 => ?_⟩
      obtain ⟨acc, z1, z2, z3⟩ := g5.step S7 p0 p1
      refine ⟨acc, z1, sl _ (by rw [z2, List.length_map, List.length_range]; omega), ?_⟩
      rw [List.range_succ, List.map_append]; exact z3
    · obtain ⟨S5, ys, w1, w2⟩ := g5.fin
      have l5 := S5 _ _ l4
      refine ⟨_, rfl, l, _, rfl, .inl (SqL.of l5), 3, rfl, by decide, by decide, fun D3 hD3 => ?_⟩
      refine lc_walk (n := 3) (fun j H6 => LcG K H5 D3 ((List.range j).map fun t : Nat => PyData.list [.int (t : Int)]) H6) (.zero hD3) (fun j H6 hj g6 => ⟨hj, fun x H7 ⟨y1, y2⟩ => ?_⟩) fun H6 g6 => ⟨Nat.le_refl _, ?_⟩
      · subst y1 y2
        refine ⟨rfl, _, rfl, (show 1 ≤ sizeLine from by have := sl 1 (by decide); omega), fun p hp => ?_⟩
        obtain ⟨acc, z1, z2, z3⟩ := g6.step (i := (j : Int)) (same_upd (u := .lst [.int (0 + (j : Int))]) hp) hp (by rw [Int.zero_add]; exact upd_same)
        refine ⟨acc, z1, sl _ (by rw [z2, List.length_map, List.length_range]; omega), ?_⟩
        rw [List.range_succ, List.map_append]; exact z3
      · obtain ⟨S6, zs, v1, v2⟩ := g6.fin
        refine ⟨_, _, .lst (SqL.of (S6 _ _ w1)) (Dps_same S6 w2), .lst (SqL.of v1) v2, by decide +kernel, by decide +kernel, ?_⟩
        rw [show PyData.eqv (.list ((List.range 3).map fun t : Nat => PyData.list [.int (t : Int)])) (.list ((List.range 3).map fun t : Nat => PyData.list [.int (t : Int)])) = true from by decide +kernel]
        exact go _ ((S4.trans S5).trans S6)
end
end Lw
end

section
set_option Elab.async false
set_option linter.all false
set_option maxRecDepth 100000
namespace Lw
open PySem PySem.Spec PyProof.Rows L2 En EnX EnQ
theorem nat_len {n k : Nat} (hk : 0 < k) (h : n < 10 ^ k) : (toString n : String).toList.length ≤ k := by
  show (Nat.repr n).toList.length ≤ k
  rw [Nat.repr_eq_ofList_toDigits, String.toList_ofList]
  exact (Nat.length_toDigits_le_iff (by decide) hk).mpr h
theorem int_len {i : Int} {k : Nat} (hk : 0 < k) (h : i.natAbs < 10 ^ k) : (toString i : String).toList.length ≤ k + 1 := by
  show (Int.repr i).toList.length ≤ k + 1
  rw [Int.repr_eq_if]
  split
  · have := nat_len (n := i.toNat) hk (by omega)
    exact Nat.le_succ_of_le this
  · have := nat_len (n := (-i).toNat) hk (by omega)
    rw [String.toList_append, List.length_append]
    show 1 + _ ≤ _
    have e : (toString (-i).toNat : String).toList.length = ((-i).toNat.repr).toList.length := rfl
    omega
theorem int_shown {i : Int} {k : Nat} (hk : 0 < k) (h : i.natAbs < 10 ^ k) : (PyData.shown (.int i)).length ≤ k + 1 := by
  have := int_len hk h
  show (cpsOfBytes 0 0 (toString i : String).toByteArray.data.toList).toArray.size ≤ _
  rw [cpsOfBytes_string, List.size_toArray, List.length_map]
  exact this
/-- what is told of a value that repr may show -/
def GdQ (d : PyData) : Prop := d.showable = true ∧ d.depth ≤ 50 ∧ (PyData.list [d, d, d]).shown.length ≤ sizeLine
theorem GdQ.of {d : PyData} (h1 : d.showable = true) (h2 : d.depth ≤ 50) (h3 : d.shown.length ≤ 1000) : GdQ d := ⟨h1, h2, by
  show (listText [d.shown, d.shown, d.shown]).length ≤ _
  have := listText_len_le [d.shown, d.shown, d.shown]
  simp only [List.map_cons, List.map_nil, List.sum_cons, List.sum_nil, List.length_cons, List.length_nil] at this
  rw [sizeLine_eq]; omega⟩
/-- three errors made at new places over H0 -/
def Er3 (C : Nat → Addr) (H0 H : Hp) (l : Addr) (v : V) : Prop := ∃ a0 a1 a2 d0 d1 d2 : Addr, (∀ b, b = l ∨ b = a0 ∨ b = a1 ∨ b = a2 ∨ b = d0 ∨ b = d1 ∨ b = d2 → H0 b = none) ∧ H l = some (.lst [.ref a0, .ref a1, .ref a2]) ∧
  (H a0 = some (exo a0 (C 0) (some d0)) ∧ H d0 = some (.xd [("value", v)])) ∧ (H a1 = some (exo a1 (C 1) (some d1)) ∧ H d1 = some (.xd [("value", v)])) ∧ (H a2 = some (exo a2 (C 2) (some d2)) ∧ H d2 = some (.xd [("value", v)]))
section
variable {C : Nat → Addr} {H0 H H' : Hp} {l : Addr} {v : V}
theorem Er3.same (h : Er3 C H0 H l v) (S : Same H H') : Er3 C H0 H' l v := by
  obtain ⟨a0, a1, a2, d0, d1, d2, n, hl, e0, e1, e2⟩ := h
  exact ⟨a0, a1, a2, d0, d1, d2, n, S _ _ hl, ⟨S _ _ e0.1, S _ _ e0.2⟩, ⟨S _ _ e1.1, S _ _ e1.2⟩, ⟨S _ _ e2.1, S _ _ e2.2⟩⟩
theorem Er3.put {g : Addr} {u : HO} (h : Er3 C H0 H l v) (hg : H0 g ≠ none) : Er3 C H0 (upd H g u) l v := by
  obtain ⟨a0, a1, a2, d0, d1, d2, n, hl, e0, e1, e2⟩ := h
  have q : ∀ b o, (b = l ∨ b = a0 ∨ b = a1 ∨ b = a2 ∨ b = d0 ∨ b = d1 ∨ b = d2) → H b = some o → upd H g u b = some o := fun b o hb e => by
    rw [upd_ne fun z => hg (by rw [← z]; exact n b hb)]; exact e
  exact ⟨a0, a1, a2, d0, d1, d2, n, q _ _ (.inl rfl) hl, ⟨q _ _ (by simp) e0.1, q _ _ (by simp) e0.2⟩, ⟨q _ _ (by simp) e1.1, q _ _ (by simp) e1.2⟩, ⟨q _ _ (by simp) e2.1, q _ _ (by simp) e2.2⟩⟩
/-- one error more -/
abbrev erH (C : Nat → Addr) (i : Nat) (v : V) (H : Hp) (a dx : Addr) : Hp := upd (upd H dx (.xd [("value", v)])) a (exo a (C i) (some dx))
theorem er_same {i : Nat} {a dx : Addr} (ha : H a = none) (hd : H dx = none) (ne : dx ≠ a) : Same H (erH C i v H a dx) := (same_upd hd).trans (same_upd (by rw [upd_ne ne.symm]; exact ha))
theorem er_at {i : Nat} {a dx : Addr} (ne : dx ≠ a) : erH C i v H a dx a = some (exo a (C i) (some dx)) ∧ erH C i v H a dx dx = some (.xd [("value", v)]) := ⟨upd_same, by
  show upd _ a _ dx = _
  rw [upd_ne ne]; exact upd_same⟩
theorem none_of_same {b : Addr} (S : Same H0 H) (h : H b = none) : H0 b = none := by
  cases z : H0 b with
  | none => rfl
  | some o => rw [S _ _ z] at h; cases h
theorem Er3.mk {a0 d0 a1 d1 a2 d2 l : Addr} (S : Same H0 H) (ha0 : H a0 = none) (hd0 : H d0 = none) (n0 : d0 ≠ a0)
    (ha1 : erH C 0 v H a0 d0 a1 = none) (hd1 : erH C 0 v H a0 d0 d1 = none) (n1 : d1 ≠ a1)
    (ha2 : erH C 1 v (erH C 0 v H a0 d0) a1 d1 a2 = none) (hd2 : erH C 1 v (erH C 0 v H a0 d0) a1 d1 d2 = none) (n2 : d2 ≠ a2)
    (hl : erH C 2 v (erH C 1 v (erH C 0 v H a0 d0) a1 d1) a2 d2 l = none) :
    Er3 C H0 (upd (erH C 2 v (erH C 1 v (erH C 0 v H a0 d0) a1 d1) a2 d2) l (.lst [.ref a0, .ref a1, .ref a2])) l v ∧ Same H (upd (erH C 2 v (erH C 1 v (erH C 0 v H a0 d0) a1 d1) a2 d2) l (.lst [.ref a0, .ref a1, .ref a2])) := by
  have s0 : Same H (erH C 0 v H a0 d0) := er_same ha0 hd0 n0
  have s1 : Same (erH C 0 v H a0 d0) (erH C 1 v (erH C 0 v H a0 d0) a1 d1) := er_same ha1 hd1 n1
  have s2 : Same (erH C 1 v (erH C 0 v H a0 d0) a1 d1) (erH C 2 v (erH C 1 v (erH C 0 v H a0 d0) a1 d1) a2 d2) := er_same ha2 hd2 n2
  have s3 := same_upd (u := HO.lst [.ref a0, .ref a1, .ref a2]) hl
  refine ⟨⟨a0, a1, a2, d0, d1, d2, fun b hb => ?_, upd_same, ⟨s3 _ _ (s2 _ _ (s1 _ _ (er_at n0).1)), s3 _ _ (s2 _ _ (s1 _ _ (er_at n0).2))⟩, ⟨s3 _ _ (s2 _ _ (er_at n1).1), s3 _ _ (s2 _ _ (er_at n1).2)⟩, ⟨s3 _ _ (er_at n2).1, s3 _ _ (er_at n2).2⟩⟩, ((s0.trans s1).trans s2).trans s3⟩
  rcases hb with rfl | rfl | rfl | rfl | rfl | rfl | rfl
  · exact none_of_same (((S.trans s0).trans s1).trans s2) hl
  · exact none_of_same S ha0
  · exact none_of_same (S.trans s0) ha1
  · exact none_of_same ((S.trans s0).trans s1) ha2
  · exact none_of_same S hd0
  · exact none_of_same (S.trans s0) hd1
  · exact none_of_same ((S.trans s0).trans s1) hd2
theorem Er3.right {K : PySem.W.Frag} {Q : VK} {d : PyData} (h : Er3 C H0 H l v) (hd : Dq K H v d) (g : GdQ d) (q : ∀ H', Same H H' → Q (.bl true) H') : spRight K C [.ref l, v] H Q := by
  obtain ⟨a0, a1, a2, d0, d1, d2, n, hl, e0, e1, e2⟩ := h
  unfold spRight
  exact ⟨l, .ref a0, .ref a1, .ref a2, v, d, rfl, hl, ⟨a0, d0, rfl, e0.1, e0.2⟩, ⟨a1, d1, rfl, e1.1, e1.2⟩, ⟨a2, d2, rfl, e2.1, e2.2⟩, hd, g.1, g.2.1, g.2.2, q⟩
end
/-- the kinds of values given -/
inductive Knd (K : PySem.W.Frag) (H : Hp) : V → Prop where
  | flat {v : V} {t : String} {d : PyData} (ht : t ∈ ["NoneType", "bool", "int", "str", "tuple"]) (h1 : ∀ H', Same H H' → TyX K H' v (.type t)) (h2 : ∀ H', Same H H' → Dq K H' v d) (h3 : GdQ d) : Knd K H v
  | lst {g : Addr} {xs : List V} {d d2 : PyData} (h0 : H g = some (.lst xs)) (hz : xs.length < 1000) (h1 : GdQ d) (h2 : GdQ d2) (h3 : ∀ H', Same H H' → Dq K H' (.ref g) d) (h4 : ∀ H', Same H H' → Dq K (upd H' g (.lst (xs ++ [.str "more"]))) (.ref g) d2) : Knd K H (.ref g)
  | dct {g : Addr} {d d2 : PyData} (h0 : H g = some (.dK [])) (h1 : GdQ d) (h2 : GdQ d2) (h3 : ∀ H', Same H H' → Dq K H' (.ref g) d) (h4 : ∀ H', Same H H' → Dq K (upd H' g (.dK [(.inr "more", .int 1)])) (.ref g) d2) : Knd K H (.ref g)
end Lw
end

section
set_option Elab.async false
set_option linter.all false
set_option maxRecDepth 100000
namespace Lw
open PySem PySem.Spec PyProof.Rows L2 En EnX EnQ
structure Giv (H6 : Hp) (l q0 q1 q2 q3 q4 q5 q6 : Addr) (n : Int) (xs : List V) (o : HO) : Prop where
  l : H6 l = some o
  e0 : H6 q0 = some (.tup [])
  e1 : H6 q1 = some (.lst [.int n])
  e2 : H6 q2 = some (.lst [])
  e3 : H6 q3 = some (.lst [.str "a"])
  e4 : H6 q4 = some (.lst [.ref q2, .ref q3])
  e5 : H6 q5 = some (.dK [])
  e6 : H6 q6 = some (.lst xs)
theorem Giv.mk' {G : Hp} {l q0 q1 q2 q3 q4 q5 q6 : Addr} {n : Int} {xs : List V} {o : HO} (hl : G l = some o) (h0 : G q0 = none) (h1 : upd G q0 (.tup []) q1 = none) (h2 : upd (upd G q0 (.tup [])) q1 (.lst [.int n]) q2 = none)
    (h3 : upd (upd (upd G q0 (.tup [])) q1 (.lst [.int n])) q2 (.lst []) q3 = none) (h4 : upd (upd (upd (upd G q0 (.tup [])) q1 (.lst [.int n])) q2 (.lst [])) q3 (.lst [.str "a"]) q4 = none)
    (h5 : upd (upd (upd (upd (upd G q0 (.tup [])) q1 (.lst [.int n])) q2 (.lst [])) q3 (.lst [.str "a"])) q4 (.lst [.ref q2, .ref q3]) q5 = none)
    (h6 : upd (upd (upd (upd (upd (upd G q0 (.tup [])) q1 (.lst [.int n])) q2 (.lst [])) q3 (.lst [.str "a"])) q4 (.lst [.ref q2, .ref q3])) q5 (.dK []) q6 = none) :
    Giv (upd (upd (upd (upd (upd (upd (upd G q0 (.tup [])) q1 (.lst [.int n])) q2 (.lst [])) q3 (.lst [.str "a"])) q4 (.lst [.ref q2, .ref q3])) q5 (.dK [])) q6 (.lst xs)) l q0 q1 q2 q3 q4 q5 q6 n xs o := by
  have s6 := same_upd (u := HO.lst xs) h6
  have s5 := (same_upd (u := HO.dK []) h5).trans s6
  have s4 := (same_upd (u := HO.lst [.ref q2, .ref q3]) h4).trans s5
  have s3 := (same_upd (u := HO.lst [.str "a"]) h3).trans s4
  have s2 := (same_upd (u := HO.lst []) h2).trans s3
  have s1 := (same_upd (u := HO.lst [.int n]) h1).trans s2
  have s0 := (same_upd (u := HO.tup []) h0).trans s1
  exact ⟨s0 _ _ hl, s1 _ _ upd_same, s2 _ _ upd_same, s3 _ _ upd_same, s4 _ _ upd_same, s5 _ _ upd_same, s6 _ _ upd_same, upd_same⟩
theorem int_gd {n : Int} (h : n.natAbs < 10 ^ 40) : (PyData.int n).showable = true ∧ (PyData.int n).depth = 0 ∧ (PyData.int n).shown.length ≤ 41 := by
  refine ⟨?_, rfl, int_shown (by decide) h⟩
  show decide (n.natAbs.log2 < 1920) = true
  rw [decide_eq_true_eq]
  by_cases z : n.natAbs = 0
  · rw [z]; decide
  · rw [Nat.log2_lt z]
    exact Nat.lt_trans h (by decide +kernel)
theorem listSh (ds : List PyData) : (PyData.list ds).shown.length ≤ ((PyData.shownAll ds).map (·.length)).sum + 2 * (PyData.shownAll ds).length + 3 := by
  simp only [PyData.shown]
  exact listText_len_le _
theorem strs_gd : ∀ k : Fin 9, GdQ (.str (Txt.mul "x" (k.val : Int))) := by
  intro k
  refine .of rfl (by show 0 ≤ 50; decide) ?_
  revert k
  decide +kernel
theorem giv_knd {K : PySem.W.Frag} {H6 Hc : Hp} {l q0 q1 q2 q3 q4 q5 q6 : Addr} {n v3 : Int} {a b t : Int} {v : V} {xs : List V} (G : Giv H6 l q0 q1 q2 q3 q4 q5 q6 n xs (purV a b t)) (hn : n.natAbs < 10 ^ 39) (h30 : 0 ≤ v3) (h31 : v3 < 9)
    (hc : ∀ x u, x ≠ l → H6 x = some u → Hc x = some u)
    (hv : v ∈ [V.non, V.bl true, V.int n, V.int (0 - n), V.str (Txt.mul (Str.ofString "x") v3), V.ref q0, V.ref q1, V.ref q4, V.ref q5]) : Knd K Hc v := by
  have c0 : Hc q0 = some (.tup []) := hc _ _ (ne_of G.e0 G.l nofun) G.e0
  have c1 : Hc q1 = some (.lst [.int n]) := hc _ _ (ne_of G.e1 G.l nofun) G.e1
  have c2 : Hc q2 = some (.lst []) := hc _ _ (ne_of G.e2 G.l nofun) G.e2
  have c3 : Hc q3 = some (.lst [.str "a"]) := hc _ _ (ne_of G.e3 G.l nofun) G.e3
  have c4 : Hc q4 = some (.lst [.ref q2, .ref q3]) := hc _ _ (ne_of G.e4 G.l nofun) G.e4
  have c5 : Hc q5 = some (.dK []) := hc _ _ (ne_of G.e5 G.l nofun) G.e5
  have n40 : n.natAbs < 10 ^ 40 := Nat.lt_trans hn (by decide)
  have m40 : (0 - n).natAbs < 10 ^ 40 := by rw [Int.zero_sub, Int.natAbs_neg]; exact n40
  have gi : ∀ {m : Int}, m.natAbs < 10 ^ 40 → GdQ (.int m) := fun {m} h => by
    obtain ⟨z1, z2, z3⟩ := int_gd h
    exact .of z1 (by rw [z2]; decide) (by omega)
  simp only [List.mem_cons, List.not_mem_nil, or_false] at hv
  rcases hv with rfl | rfl | rfl | rfl | rfl | rfl | rfl | rfl | rfl
  · exact .flat (t := "NoneType") (by decide) (fun _ _ => .base .non) (fun _ _ => .non) (.of rfl (by decide +kernel) (by decide +kernel))
  · exact .flat (t := "bool") (by decide) (fun _ _ => .base (.bl _)) (fun _ _ => .bl _) (.of rfl (by decide +kernel) (by decide +kernel))
  · exact .flat (t := "int") (by decide) (fun _ _ => .base (.int _)) (fun _ _ => .int _) (gi n40)
  · exact .flat (t := "int") (by decide) (fun _ _ => .base (.int _)) (fun _ _ => .int _) (gi m40)
  · refine .flat (t := "str") (by decide) (fun _ _ => .base (.str _)) (fun _ _ => .str _) ?_
    have := strs_gd ⟨v3.toNat, by omega⟩
    rw [show (((⟨v3.toNat, by omega⟩ : Fin 9).val : Nat) : Int) = v3 from Int.toNat_of_nonneg h30] at this
    exact this
  · exact .flat (t := "tuple") (by decide) (fun H' S => .base (.tup (S _ _ c0))) (fun H' S => .tup (.inl (.inl (S _ _ c0))) .nil) (.of rfl (by decide +kernel) (by decide +kernel))
  · obtain ⟨z1, z2, z3⟩ := int_gd n40
    refine .lst (d := .list [.int n]) (d2 := .list [.int n, .str "more"]) c1 (show 1 < 1000 by decide) (.of ?_ ?_ ?_) (.of ?_ ?_ ?_) (fun H' S => .lst (SqL.of (S _ _ c1)) (.cons (.int _) .nil)) (fun H' S => .lst (SqL.of upd_same) (.cons (.int _) (.cons (.str _) .nil)))
    · show (PyData.showable (.int n) && true) = true
      rw [z1]; rfl
    · show max (PyData.depth (.int n)) 0 + 1 ≤ 50
      rw [z2]; decide
    · have := listSh [.int n]
      simp only [PyData.shownAll, List.map_cons, List.map_nil, List.sum_cons, List.sum_nil, List.length_cons, List.length_nil] at this
      omega
    · show (PyData.showable (.int n) && true) = true
      rw [z1]; rfl
    · show max (PyData.depth (.int n)) (max 0 0) + 1 ≤ 50
      rw [z2]; decide
    · have := listSh [.int n, .str "more"]
      have hm : (PyData.str "more").shown.length = 6 := by decide +kernel
      simp only [PyData.shownAll, List.map_cons, List.map_nil, List.sum_cons, List.sum_nil, List.length_cons, List.length_nil, hm] at this
      omega
  · refine .lst (d := .list [.list [], .list [.str "a"]]) (d2 := .list [.list [], .list [.str "a"], .str "more"]) c4 (show 2 < 1000 by decide) (.of rfl (by decide +kernel) (by decide +kernel)) (.of rfl (by decide +kernel) (by decide +kernel))
      (fun H' S => .lst (SqL.of (S _ _ c4)) (.cons (.lst (SqL.of (S _ _ c2)) .nil) (.cons (.lst (SqL.of (S _ _ c3)) (.cons (.str _) .nil)) .nil)))
      (fun H' S => .lst (SqL.of upd_same) (.cons (.lst (SqL.of ?_) .nil) (.cons (.lst (SqL.of ?_) (.cons (.str _) .nil)) (.cons (.str _) .nil))))
    · rw [upd_ne (ne_of c2 c4 nofun)]; exact S _ _ c2
    · rw [upd_ne (ne_of c3 c4 nofun)]; exact S _ _ c3
  · refine .dct (d := .dict []) (d2 := .dict [(.str "more", .int 1)]) c5 (.of rfl (by decide +kernel) (by decide +kernel)) (.of rfl (by decide +kernel) (by decide +kernel)) (fun H' S => .dct (.inl (S _ _ c5)) .nil) (fun H' S => .dct (.inl upd_same) (.cons (k := .inr "more") (.int 1) .nil))
end Lw
end

section
set_option Elab.async false
set_option linter.all false
set_option maxRecDepth 100000
namespace Lw
open PySem PySem.Spec PyProof.Rows L2 En EnX EnQ
section
variable {w : World} {K : PySem.W.Frag} {mg : Str → Option Value} {base : Heap} {k : Nat} {x qual : Str} {f : Addr} {fd : FuncData}
/-- what the text says of the class over ValueError -/
structure TipF (K : PySem.W.Frag) (T : Addr) (bmB : List Value) : Prop where
  ex : PySem.W.excIn K T bmB "ValueError.__new__" = true
  kp : PySem.W.keepIn K (.ref T) = true
  is : ExcC K T
  kV : PySem.W.kitOne K (.ref T) (.type "ValueError") = some true
def spLaw (K : PySem.W.Frag) : SpG := fun vs H Q => ∃ (p : Addr) (ns : List Int), vs = [.ref p] ∧ SqL K H p (ns.map V.int) ∧ ∀ H', Q (.bl true) H'
abbrev FnAt (w : World) (K : PySem.W.Frag) (mg : Str → Option Value) (base : Heap) (k : Nat) (x : Str) (ps : List Str) (sp : SpG) : Prop := ∃ a fd, mg x = some (.ref a) ∧ PySem.W.keepIn K (.ref a) = true ∧ Binds K fd ps [] ∧ FnG PK w K mg base k a fd ps sp
set_option maxHeartbeats 8000000 in
theorem lawF_ok {C : Nat → Addr} {T : Addr} {bmB : List Value} {newId initId : String} (hI : mg "isinstance" = none) (hk : (∀ t ∈ ["NoneType", "bool", "int", "str", "tuple"], PySem.W.kitOne K (.type t) (.type "list") = some false ∧ PySem.W.kitOne K (.type t) (.type "dict") = some false) ∧ PySem.W.kitOne K (.type "list") (.type "list") = some true ∧ PySem.W.kitOne K (.type "list") (.type "dict") = some false ∧ PySem.W.kitOne K (.type "dict") (.type "list") = some false ∧ PySem.W.kitOne K (.type "dict") (.type "dict") = some true)
    (hLi : mg "list" = none) (hDi : mg "dict" = none) (E : ErrF K mg C T) (TF : TipF K T bmB) (FB : ExcBaseFacts "ValueError" "ValueError.__new__" initId bmB)
    (DP : FnAt w K mg base (k + 1) "_law_purse" ["_law_script", "_law_at"] (spPurse K)) (DD : FnAt w K mg base (k + 1) "_law_draw" ["_law_purse_here", "_law_many"] spDraw)
    (DK : FnAt w K mg base (k + 1) "_law_pick" ["_law_purse_here", "_law_items"] spPick) (DR : FnAt w K mg base (k + 1) "_law_right" ["_law_errors", "_law_given"] (spRight K C))
    (F : Fun K x qual (topS 11) f fd) : FnG PK w K mg base (k + 1 + 1) f fd ["_law_script"] (spLaw K) := by
  obtain ⟨pa, pfd, p1, p2, p3, p4⟩ := DP
  obtain ⟨da, dfd, d1, d2, d3, d4⟩ := DD
  obtain ⟨ka, kfd, k1, k2, k3, k4⟩ := DK
  obtain ⟨ra, rfd, r1, r2, r3, r4⟩ := DR
  refine FnG.of F (show FnScope ["_law_script", "_law_purse_here", "_law_number", "_law_given", "_law_placed", "_law_named", "_law_bare"] _ (defScope (topS 11)) from ⟨rfl, rfl, rfl, by decide +kernel, rfl, by decide +kernel, by decide +kernel⟩) (fun vs H Q h => ?_) fun cdv A outer s0 H vs Q hr hg h => ?_
  · obtain ⟨_, _, rfl, _⟩ := h; rfl
  have nd : (["_law_script", "_law_purse_here", "_law_number", "_law_given", "_law_placed", "_law_named", "_law_bare"] : List Str).Nodup := by decide +kernel
  have m0 := E.m0
  have m1 := E.m1
  have m2 := E.m2
  have mT := E.mT
  have mV := E.mV
  have o0 := (E.ox 0 (by decide)).1
  have o1 := (E.ox 1 (by decide)).1
  have o2 := (E.ox 2 (by decide)).1
  have hu1 := hu_of hr
  apply run_body
  repeat' (first | (with_reducible show PE _ _ _); (first | (first | exact pv 0 | exact pv 1 | exact pv 2 | exact pv 3 | exact pv 4 | exact pv 5 | exact pv 6 | exact pe_int | exact pe_str | exact pe_bl | exact pe_non | (with_reducible show PE _ (.BinOp _ .Add _ _) _); refine' pe_op op_addA _ _ | (with_reducible show PE _ (.BinOp _ .Sub _ _) _); refine' pe_op op_sub _ _ | (with_reducible show PE _ (.BinOp _ .Mult _ _) _); refine' pe_op (op_mul.or (op_rep.or op_mulS)) _ _ | (with_reducible show PE _ (.BinOp _ .FloorDiv _ _) _); refine' pe_op op_fdivN _ _ | (with_reducible show PE _ (.BinOp _ .Mod _ _) _); refine' pe_op op_modN _ _ | (with_reducible show PE _ (.BinOp _ .Pow _ _) _); refine' pe_op (op_pow.or op_powA) _ _ | refine' pe_ix ix_list _ _ (fun _ _ => rfl) | refine' pe_callTy call_int1 rfl (by assumption) (by decide +kernel) _ | refine' pe_callB call_len_seq rfl (by assumption) (by decide +kernel) _ | refine' pe_callB (call_max2 rfl) rfl (by assumption) (by decide +kernel) _ | refine' pe_lst _) | (first | exact pe_bltn (v := .ty "ValueError") (by rfl) mV (by decide +kernel) rfl | exact pe_bltn (v := .ty "list") (by rfl) hLi (by decide +kernel) rfl | exact pe_bltn (v := .ty "dict") (by rfl) hDi (by decide +kernel) rfl | exact pe_dnewK | refine' pe_tup _ | refine' pe_callG p4 hr hg (by rfl) p1 p2 p3 _ (by decide) (by rfl) (by rfl) | refine' pe_callG d4 hr hg (by rfl) d1 d2 d3 _ (by decide) (by rfl) (by rfl) | refine' pe_callG k4 hr hg (by rfl) k1 k2 k3 _ (by decide) (by rfl) (by rfl) | refine' pe_callG r4 hr hg (by rfl) r1 r2 r3 _ (by decide) (by rfl) (by rfl) | exact pe_oeq1 o0 hr (by rfl) m0 (pv 3) (by rfl) (by decide) | exact pe_oeq1 o1 hr (by rfl) m1 (pv 3) (by rfl) (by decide) | exact pe_oeq1 o2 hr (by rfl) m2 (pv 3) (by rfl) (by decide) | exact pe_oeqK o0 hr (by rfl) m0 (pv 3) (by decide) | exact pe_oeqK o1 hr (by rfl) m1 (pv 3) (by decide) | exact pe_oeqK o2 hr (by rfl) m2 (pv 3) (by decide) | exact pe_oeq0 o0 hr (by rfl) m0 (by decide) | exact pe_oeq0 o1 hr (by rfl) m1 (by decide) | exact pe_oeq0 o2 hr (by rfl) m2 (by decide) | exact pe_exc1 FB TF.ex mT TF.kp (by rfl) (pv 3) | refine' pe_callB (call_isX0.or call_isi) (by rfl) hI (by decide +kernel) _ | ((with_reducible show PE _ (.BoolOp .And (_ :: _ :: _) _) _); refine' pe_and _ _) | ((with_reducible show PE _ (.BoolOp .And [_] _) _); refine' pe_one _) | ((with_reducible show PS _ (.Assign [.Subscript _ _ _] _ _) _); exact ps_dput hu1 (pv 3) pe_str pe_int rfl) | ((with_reducible show PS _ (.Expr _ _) _); exact ps_expr (pe_bm PySem.F.plainAttrs_list PySem.F.slot_list_append PySem.F.type_list_append mt_append (pv 3) (pa_cons pe_str pa_nil) rfl rfl rfl)))) | (with_reducible show PA _ _ _); (first | refine' pa_cons _ _ | exact pa_nil) | (with_reducible show PSs _ _ _); (first | refine' pss_cons _ _ | exact pss_nil) | (with_reducible show PS _ _ _); (first | (first | exact pe_bltn (v := .ty "ValueError") (by rfl) mV (by decide +kernel) rfl | exact pe_bltn (v := .ty "list") (by rfl) hLi (by decide +kernel) rfl | exact pe_bltn (v := .ty "dict") (by rfl) hDi (by decide +kernel) rfl | exact pe_dnewK | refine' pe_tup _ | refine' pe_callG p4 hr hg (by rfl) p1 p2 p3 _ (by decide) (by rfl) (by rfl) | refine' pe_callG d4 hr hg (by rfl) d1 d2 d3 _ (by decide) (by rfl) (by rfl) | refine' pe_callG k4 hr hg (by rfl) k1 k2 k3 _ (by decide) (by rfl) (by rfl) | refine' pe_callG r4 hr hg (by rfl) r1 r2 r3 _ (by decide) (by rfl) (by rfl) | exact pe_oeq1 o0 hr (by rfl) m0 (pv 3) (by rfl) (by decide) | exact pe_oeq1 o1 hr (by rfl) m1 (pv 3) (by rfl) (by decide) | exact pe_oeq1 o2 hr (by rfl) m2 (pv 3) (by rfl) (by decide) | exact pe_oeqK o0 hr (by rfl) m0 (pv 3) (by decide) | exact pe_oeqK o1 hr (by rfl) m1 (pv 3) (by decide) | exact pe_oeqK o2 hr (by rfl) m2 (pv 3) (by decide) | exact pe_oeq0 o0 hr (by rfl) m0 (by decide) | exact pe_oeq0 o1 hr (by rfl) m1 (by decide) | exact pe_oeq0 o2 hr (by rfl) m2 (by decide) | exact pe_exc1 FB TF.ex mT TF.kp (by rfl) (pv 3) | refine' pe_callB (call_isX0.or call_isi) (by rfl) hI (by decide +kernel) _ | ((with_reducible show PE _ (.BoolOp .And (_ :: _ :: _) _) _); refine' pe_and _ _) | ((with_reducible show PE _ (.BoolOp .And [_] _) _); refine' pe_one _) | ((with_reducible show PS _ (.Assign [.Subscript _ _ _] _ _) _); exact ps_dput hu1 (pv 3) pe_str pe_int rfl) | ((with_reducible show PS _ (.Expr _ _) _); exact ps_expr (pe_bm PySem.F.plainAttrs_list PySem.F.slot_list_append PySem.F.type_list_append mt_append (pv 3) (pa_cons pe_str pa_nil) rfl rfl rfl))) | (first | (with_reducible show PS _ (.If _ _ _ _) _); refine' ps_if _ _ _ | (with_reducible show PS _ (.Return _ _) _); refine' ps_ret _ | (with_reducible show PS _ (.Assign [.Subscript _ _ _] _ _) _); refine' ps_asg _ (pg_sub _ _ set_list (sub_assign rfl _)) | refine' ps_set (i := 0) (by assumption) rfl (.inl rfl) _ | refine' ps_set (i := 1) (by assumption) rfl (.inl rfl) _ | refine' ps_set (i := 2) (by assumption) rfl (.inl rfl) _ | refine' ps_set (i := 3) (by assumption) rfl (.inl rfl) _ | refine' ps_set (i := 4) (by assumption) rfl (.inl rfl) _ | refine' ps_set (i := 5) (by assumption) rfl (.inl rfl) _ | refine' ps_set (i := 6) (by assumption) rfl (.inl rfl) _ | refine' ps_set (i := 1) (by assumption) rfl (.inr rfl) _)) | (with_reducible show PT _ _ _); (first | (with_reducible show PT _ (.Compare _ [.Gt] _ _) _); refine' pt_cmpR op_gt _ _ rfl | (with_reducible show PT _ (.Compare _ [.Lt] _ _) _); refine' pt_cmpR op_lt _ _ rfl | refine' (pw_or _ (pw_or _ (pw_or1 _))).pt | refine' (pw_or _ (pw_or1 _)).pt | refine' pt_not _ | refine' pt_val _))
  obtain ⟨p, ns, rfl, hp, go⟩ := h
  show tSeq _ _ _ [some (.ref p), none, none, none, none, none, none] H
  refine ⟨_, rfl, p, ns, rfl, hp, fun l a b hl b0 b1 => ?_⟩
  have pw6 : ∀ i j : Int, 0 ≤ j → j ≤ 1000000 → i.natAbs < 2 ^ 64 → CPow i j := fun i j h1 h2 h3 => ⟨h1, h2, h3⟩
  have e6 : ((10 : Int) ^ (Int.toNat 6)) = 1000000 := by decide
  refine ⟨_, rfl, .inl ⟨_, _, rfl, rfl, ⟨by decide, by decide, by decide⟩, l, a, b, 0, _, rfl, upd_same, by decide, by decide, by decide, by decide, b0, b1, fun v1 a1 t1 v10 v11 t10 t11 => ?_⟩⟩
  refine .inl ⟨_, _, rfl, rfl, ⟨by decide, by decide, by decide⟩, .inl ⟨_, _, rfl, rfl, .inl ?_, ?_⟩⟩
  · rw [e6] at v11; omega
  refine ⟨_, rfl, .inl ⟨_, _, rfl, rfl, ⟨by decide, by decide, by decide⟩, l, a1, b, t1, _, rfl, upd_same, by decide, by decide, by omega, by omega, b0, b1, fun v2 a2 t2 v20 v21 t20 t21 => .inl ⟨_, _, rfl, rfl, ?_⟩⟩⟩
  have le : ∀ n : Nat, n ≤ 20 → n ≤ sizeLine := fun n hn => by rw [sizeLine_eq]; omega
  have mo : ∀ v : Int, 0 ≤ v → v < 9 → PySem.MulOk "x" v := fun v h0 h1 => by
    have : v = 0 ∨ v = 1 ∨ v = 2 ∨ v = 3 ∨ v = 4 ∨ v = 5 ∨ v = 6 ∨ v = 7 ∨ v = 8 := by omega
    rcases this with rfl | rfl | rfl | rfl | rfl | rfl | rfl | rfl | rfl <;> exact ⟨by decide +kernel, by decide +kernel, by decide +kernel⟩
  refine ⟨_, rfl, _, rfl, _, rfl, _, _, rfl, rfl, _, rfl, l, a2, b, t2, 9, rfl, upd_same, by decide, by decide, by omega, by omega, b0, b1, fun v3 a3 t3 v30 v31 t30 t31 => ?_⟩
  refine .inr (.inr ⟨_, _, rfl, rfl, mo v3 v30 v31, le 0 (by decide), fun q0 hq0 => ?_⟩)
  refine ⟨_, rfl, le 1 (by decide), fun q1 hq1 => ⟨le 0 (by decide), fun q2 hq2 => ⟨le 1 (by decide), fun q3 hq3 => ⟨le 2 (by decide), fun q4 hq4 => fun q5 hq5 => ⟨le 9 (by decide), fun q6 hq6 => ?_⟩⟩⟩⟩⟩
  have hl3 : ∀ (G0 : Hp) (x y : HO), upd (upd G0 l x) l y l = some y := fun _ _ _ => upd_same
  have GV := Giv.mk' (n := v1 * 10 ^ Int.toNat 33 + v2) (xs := [.non, .bl true, .int (v1 * 10 ^ Int.toNat 33 + v2), .int (0 - (v1 * 10 ^ Int.toNat 33 + v2)), .str (Txt.mul (Str.ofString "x") v3), .ref q0, .ref q1, .ref q4, .ref q5]) upd_same hq0 hq1 hq2 hq3 hq4 hq5 hq6
  generalize hH6 : upd _ q6 _ = H6 at GV
  dsimp only
  clear hH6
  have ne6 : l ≠ q6 := ne_of GV.l GV.e6 nofun
  refine ⟨l, q6, a3, b, t3, _, rfl, GV.l, GV.e6, ne6, (show 0 < 9 by decide), (show 9 < 1000 by decide), by omega, by omega, b0, b1, fun v a4 t4 hv t40 t41 => ?_⟩
  have KV : Knd K (upd H6 l (purV a4 b t4)) v := giv_knd GV (by rw [e6] at v11 v21; have : (10 : Int) ^ (Int.toNat 33) = 1000000000000000000000000000000000 := by decide
                                                                rw [this]; omega) v30 v31 (fun x u ne e => by rw [upd_ne ne]; exact e) hv
  generalize upd H6 l (purV a4 b t4) = Hc at KV
  clear GV hv
  obtain ⟨d, gd, hd⟩ : ∃ d, GdQ d ∧ ∀ H', Same Hc H' → Dq K H' v d := by
    cases KV with
    | flat _ _ h2 h3 => exact ⟨_, h3, h2⟩
    | lst _ _ h1 _ h3 _ => exact ⟨_, h1, h3⟩
    | dct _ h1 _ h3 _ => exact ⟨_, h1, h3⟩
  have gn : GdQ .none := .of rfl (by decide +kernel) (by decide +kernel)
  refine ⟨_, rfl, fun a0 d0 ha0 hd0 n0 => ⟨_, rfl, fun a1 d1 ha1 hd1 n1 => ⟨_, rfl, fun a2 d2 ha2 hd2 n2 => ⟨le 3 (by decide), fun L1 hL1 => ?_⟩⟩⟩⟩
  obtain ⟨P1, S1⟩ := Er3.mk (C := C) (v := v) (Same.refl Hc) ha0 hd0 n0 ha1 hd1 n1 ha2 hd2 n2 hL1
  generalize upd _ L1 _ = H1 at P1 S1
  clear ha0 hd0 n0 ha1 hd1 n1 ha2 hd2 n2 hL1
  refine ⟨_, rfl, fun a0 d0 ha0 hd0 n0 => ⟨_, rfl, fun a1 d1 ha1 hd1 n1 => ⟨_, rfl, fun a2 d2 ha2 hd2 n2 => ⟨le 3 (by decide), fun L2 hL2 => ?_⟩⟩⟩⟩
  obtain ⟨P2, S2⟩ := Er3.mk (C := C) (v := v) S1 ha0 hd0 n0 ha1 hd1 n1 ha2 hd2 n2 hL2
  generalize upd _ L2 _ = H2 at P2 S2
  clear ha0 hd0 n0 ha1 hd1 n1 ha2 hd2 n2 hL2
  refine fun a0 d0 ha0 hd0 n0 => fun a1 d1 ha1 hd1 n1 => fun a2 d2 ha2 hd2 n2 => ⟨le 3 (by decide), fun L3 hL3 => ?_⟩
  obtain ⟨P3, S3⟩ := Er3.mk (C := C) (v := .non) (S1.trans S2) ha0 hd0 n0 ha1 hd1 n1 ha2 hd2 n2 hL3
  generalize upd _ L3 _ = H3 at P3 S3
  clear ha0 hd0 n0 ha1 hd1 n1 ha2 hd2 n2 hL3
  refine ⟨_, rfl, fun ax hax => .inl ⟨ax, T, .ty "ValueError", _, true, rfl, upd_same, .ty _, TF.is, TF.kV, _, rfl, iteF ?_⟩⟩
  have S4 := same_upd (u := ExO (.ref T) ax) hax
  generalize upd _ ax _ = H4 at S4
  clear hax
  refine ⟨_, rfl, _, rfl, ((P1.same S2).same S3 |>.same S4).right (hd _ (((S1.trans S2).trans S3).trans S4)) gd fun H5 S5 => ⟨_, rfl, iteF ⟨_, rfl, _, rfl, (((P2.same S3).same S4).same S5).right (hd _ ((((S1.trans S2).trans S3).trans S4).trans S5)) gd fun H6 S6 => ⟨_, rfl, iteF
    ⟨_, rfl, (((P3.same S4).same S5).same S6).right .non gn fun H7 S7 => ⟨_, rfl, iteF ?_⟩⟩⟩⟩⟩⟩
  have SB : Same Hc H7 := (((((S1.trans S2).trans S3).trans S4).trans S5).trans S6).trans S7
  have Q1 : Er3 C Hc H7 L1 v := P1.same (((((S2.trans S3).trans S4).trans S5).trans S6).trans S7)
  have Q2 : Er3 C Hc H7 L2 v := P2.same ((((S3.trans S4).trans S5).trans S6).trans S7)
  clear P1 P2 P3 S1 S2 S3 S4 S5 S6 S7 hd gd
  cases KV with
  | flat ht h1 h2 h3 =>
    refine ⟨_, rfl, .inr ⟨v, .ty "list", _, _, false, rfl, .ty _, h1 _ SB, (hk.1 _ ht).1, _, rfl, iteF ?_⟩⟩
    refine ⟨_, rfl, .inr ⟨v, .ty "dict", _, _, false, rfl, .ty _, h1 _ SB, (hk.1 _ ht).2, _, rfl, iteF ?_⟩⟩
    exact ⟨_, rfl, _, rfl, Q1.right (h2 _ SB) h3 fun H8 S8 => ⟨_, rfl, iteT ⟨_, rfl, _, rfl, (Q2.same S8).right (h2 _ (SB.trans S8)) h3 fun H9 S9 => go H9⟩⟩⟩
  | @lst g xs d1 d2 h0 hz h1 h2 h3 h4 =>
    have hg0 : Hc g ≠ none := by rw [h0]; nofun
    refine ⟨_, rfl, .inr ⟨_, .ty "list", _, _, true, rfl, .ty _, .base (.lst (SB _ _ h0)), hk.2.1, _, rfl, iteT ?_⟩⟩
    refine ⟨_, rfl, .inl ⟨rfl, _, SqL.of (SB _ _ h0)⟩, g, xs, _, rfl, rfl, SB _ _ h0, Nat.lt_of_lt_of_le hz (by rw [sizeLine_eq]; decide), ?_⟩
    refine ⟨_, rfl, .inr ⟨_, .ty "dict", _, _, false, rfl, .ty _, .base (.lst upd_same), hk.2.2.1, _, rfl, iteF ?_⟩⟩
    have D2 := h4 _ SB
    exact ⟨_, rfl, _, rfl, (Q1.put hg0).right D2 h2 fun H8 S8 => ⟨_, rfl, iteT ⟨_, rfl, _, rfl, ((Q2.put hg0).same S8).right (D2.same S8) h2 fun H9 S9 => go H9⟩⟩⟩
  | @dct g d1 d2 h0 h1 h2 h3 h4 =>
    have hg0 : Hc g ≠ none := by rw [h0]; nofun
    refine ⟨_, rfl, .inr ⟨_, .ty "list", _, _, false, rfl, .ty _, .base (.dK (SB _ _ h0)), hk.2.2.2.1, _, rfl, iteF ?_⟩⟩
    refine ⟨_, rfl, .inr ⟨_, .ty "dict", _, _, true, rfl, .ty _, .base (.dK (SB _ _ h0)), hk.2.2.2.2, _, rfl, iteT ?_⟩⟩
    have D2 := h4 _ SB
    refine ⟨_, rfl, g, _, rfl, .inl ⟨[], .inr "more", SB _ _ h0, rfl, (show 0 < sizeLine by rw [sizeLine_eq]; decide), rfl⟩, ?_⟩
    exact ⟨_, rfl, _, rfl, (Q1.put hg0).right D2 h2 fun H8 S8 => ⟨_, rfl, iteT ⟨_, rfl, _, rfl, ((Q2.put hg0).same S8).right (D2.same S8) h2 fun H9 S9 => go H9⟩⟩⟩
end
end Lw
end

section
set_option Elab.async false
set_option linter.all false
set_option maxRecDepth 100000
namespace Lw
open PySem PySem.Spec PyProof.Rows L2 En EnX EnQ
def C3 (c0 c1 c2 : Addr) : Nat → Addr
  | 0 => c0
  | 1 => c1
  | _ => c2
structure Txt (K : PySem.W.Frag) : Prop where
  t_purse : ∃ a fd, PySem.W.nsIn K mainGlobals "_law_purse" = some (some (.ref a)) ∧ Fun K "_law_purse" "_law_purse" (topS 6) a fd
  t_draw : ∃ a fd, PySem.W.nsIn K mainGlobals "_law_draw" = some (some (.ref a)) ∧ Fun K "_law_draw" "_law_draw" (topS 7) a fd
  t_pick : ∃ a fd, PySem.W.nsIn K mainGlobals "_law_pick" = some (some (.ref a)) ∧ Fun K "_law_pick" "_law_pick" (topS 8) a fd
  t_classes : ∃ a fd, PySem.W.nsIn K mainGlobals "_law_classes" = some (some (.ref a)) ∧ Fun K "_law_classes" "_law_classes" (topS 9) a fd
  t_right : ∃ a fd, PySem.W.nsIn K mainGlobals "_law_right" = some (some (.ref a)) ∧ Fun K "_law_right" "_law_right" (topS 10) a fd
  t_law : ∃ a fd, PySem.W.nsIn K mainGlobals "law" = some (some (.ref a)) ∧ Fun K "law" "law" (topS 11) a fd
/-- one error class -/
structure OneE (K : PySem.W.Frag) (x : Str) (C : Addr) : Prop where
  m : PySem.W.nsIn K mainGlobals x = some (some (.ref C))
  ox : OexQ PK K C
  xf : XfC K C
  xc : ExcC K C
structure TxtC (K : PySem.W.Frag) (c0 c1 c2 T : Addr) : Prop where
  e0 : OneE K "InvalidWeb" c0
  e1 : OneE K "InvalidName" c1
  e2 : OneE K "InvalidNames" c2
  mT : PySem.W.nsIn K mainGlobals "TipsAndTwinsError" = some (some (.ref T))
  k00 : PySem.W.kitOne K (.ref c0) (.ref c0) = some true
  k01 : PySem.W.kitOne K (.ref c0) (.ref c1) = some false
  k02 : PySem.W.kitOne K (.ref c0) (.ref c2) = some false
  k10 : PySem.W.kitOne K (.ref c1) (.ref c0) = some false
  k11 : PySem.W.kitOne K (.ref c1) (.ref c1) = some true
  k12 : PySem.W.kitOne K (.ref c1) (.ref c2) = some false
  k20 : PySem.W.kitOne K (.ref c2) (.ref c0) = some false
  k21 : PySem.W.kitOne K (.ref c2) (.ref c1) = some false
  k22 : PySem.W.kitOne K (.ref c2) (.ref c2) = some true
  kT0 : PySem.W.kitOne K (.ref c0) (.ref T) = some true
  kT1 : PySem.W.kitOne K (.ref c1) (.ref T) = some true
  kT2 : PySem.W.kitOne K (.ref c2) (.ref T) = some true
  kV0 : PySem.W.kitOne K (.ref c0) (.type "ValueError") = some true
  kV1 : PySem.W.kitOne K (.ref c1) (.type "ValueError") = some true
  kV2 : PySem.W.kitOne K (.ref c2) (.type "ValueError") = some true
  kVT : PySem.W.kitOne K (.ref T) (.type "ValueError") = some true
  xT : PySem.W.excIn K T [.type "ValueError", .type "Exception", .type "BaseException", .type "object"] "ValueError.__new__" = true
  kpT : PySem.W.keepIn K (.ref T) = true
  xcT : ExcC K T
  nl : ∀ t ∈ ["NoneType", "bool", "int", "str", "tuple"], PySem.W.kitOne K (.type t) (.type "list") = some false
  nd : ∀ t ∈ ["NoneType", "bool", "int", "str", "tuple"], PySem.W.kitOne K (.type t) (.type "dict") = some false
  ll : PySem.W.kitOne K (.type "list") (.type "list") = some true
  ld : PySem.W.kitOne K (.type "list") (.type "dict") = some false
  dl : PySem.W.kitOne K (.type "dict") (.type "list") = some false
  dd : PySem.W.kitOne K (.type "dict") (.type "dict") = some true
  blt : ∀ x ∈ (["isinstance", "len", "range", "repr", "int", "max", "list", "dict", "ValueError"] : List Str), PySem.W.nsIn K mainGlobals x = some none
section
variable {w : World} {K : PySem.W.Frag} {mg : Str → Option Value} {h : Heap} {c0 c1 c2 T : Addr}
theorem errF (KX : K.In h) (G : h.Ns mainGlobals mg) (TC : TxtC K c0 c1 c2 T) : ErrF K mg (C3 c0 c1 c2) T where
  m0 := PySem.W.mg_of KX G TC.e0.m
  m1 := PySem.W.mg_of KX G TC.e1.m
  m2 := PySem.W.mg_of KX G TC.e2.m
  mT := PySem.W.mg_of KX G TC.mT
  mV := PySem.W.mg_none_of KX G (TC.blt _ (by simp))
  ox := fun i hi => match i, hi with
    | 0, _ => ⟨TC.e0.ox, TC.e0.xf, TC.e0.xc⟩
    | 1, _ => ⟨TC.e1.ox, TC.e1.xf, TC.e1.xc⟩
    | 2, _ => ⟨TC.e2.ox, TC.e2.xf, TC.e2.xc⟩
  k1 := fun i j hi hj => match i, j, hi, hj with
    | 0, 0, _, _ => TC.k00
    | 0, 1, _, _ => TC.k01
    | 0, 2, _, _ => TC.k02
    | 1, 0, _, _ => TC.k10
    | 1, 1, _, _ => TC.k11
    | 1, 2, _, _ => TC.k12
    | 2, 0, _, _ => TC.k20
    | 2, 1, _, _ => TC.k21
    | 2, 2, _, _ => TC.k22
  kT := fun i hi => match i, hi with
    | 0, _ => TC.kT0
    | 1, _ => TC.kT1
    | 2, _ => TC.kT2
  kV := fun i hi => match i, hi with
    | 0, _ => TC.kV0
    | 1, _ => TC.kV1
    | 2, _ => TC.kV2
theorem law_go {fa : Addr} (KX : K.In h) (G : h.Ns mainGlobals mg) (T : Txt K) {T1 : Addr} (TC : TxtC K c0 c1 c2 T1) (hmg : mg "law" = some (.ref fa)) :
    ∃ (K : PySem.W.Frag) (fd : FuncData) (sp : SpG), K.In h ∧ (∀ (s : Shared) (u : Value), BindsTo s fd ⟨[u], []⟩ [("_law_script", u)]) ∧
        (∀ (H : Hp) (a : Addr) (ns : List Int), ns.length ≤ 63 → LN K no H a (ns.map V.int) → sp [.ref a] H (fun v _ => v = .bl true)) ∧
        ∀ base : Heap, K.In base → base.Ns mainGlobals mg → FnG PK w K mg base 3 fa fd ["_law_script"] sp := by
  obtain ⟨a, fd, e, F⟩ := T.t_law
  have ea := (PySem.W.mg_of KX G e).symm.trans hmg
  cases ea
  have hb : ∀ (s : Shared) (u : Value), BindsTo s fd ⟨[u], []⟩ [("_law_script", u)] := by
    obtain ⟨oc, od, kV, doc, pm, an, cdv, ct, osl, rfl, _⟩ := F.ex
    exact fun s u => .of_eq rfl
  have nb : ∀ x ∈ (["isinstance", "len", "range", "repr", "int", "max", "list", "dict", "ValueError"] : List Str), mg x = none := fun x hx => PySem.W.mg_none_of KX G (TC.blt x hx)
  have E := errF KX G TC
  refine ⟨K, fd, spLaw K, KX, hb, fun H a ns hl hS => ⟨a, ns, rfl, hS.seq, fun _ => rfl⟩, fun base KB GB => ?_⟩
  obtain ⟨a1, fd1, x1, F1⟩ := T.t_purse
  obtain ⟨a2, fd2, x2, F2⟩ := T.t_draw
  obtain ⟨a3, fd3, x3, F3⟩ := T.t_pick
  obtain ⟨a4, fd4, x4, F4⟩ := T.t_classes
  obtain ⟨a5, fd5, x5, F5⟩ := T.t_right
  have B1 : Binds K fd1 ["_law_script", "_law_at"] [] := F1.binds (ps := ["_law_script", "_law_at"]) (fun _ _ _ _ _ _ us hl => match us, hl with | [_, _], _ => rfl)
  have B2 : Binds K fd2 ["_law_purse_here", "_law_many"] [] := F2.binds (ps := ["_law_purse_here", "_law_many"]) (fun _ _ _ _ _ _ us hl => match us, hl with | [_, _], _ => rfl)
  have B3 : Binds K fd3 ["_law_purse_here", "_law_items"] [] := F3.binds (ps := ["_law_purse_here", "_law_items"]) (fun _ _ _ _ _ _ us hl => match us, hl with | [_, _], _ => rfl)
  have B4 : Binds K fd4 ["_law_error"] [] := F4.binds (ps := ["_law_error"]) (fun _ _ _ _ _ _ us hl => match us, hl with | [_], _ => rfl)
  have B5 : Binds K fd5 ["_law_errors", "_law_given"] [] := F5.binds (ps := ["_law_errors", "_law_given"]) (fun _ _ _ _ _ _ us hl => match us, hl with | [_, _], _ => rfl)
  have i0 := nb "isinstance" (by simp)
  have i1 := nb "len" (by simp)
  have i2 := nb "range" (by simp)
  have i3 := nb "repr" (by simp)
  have i4 := nb "int" (by simp)
  have i5 := nb "max" (by simp)
  have i6 := nb "list" (by simp)
  have i7 := nb "dict" (by simp)
  have g1 := purse_ok (w := w) (base := base) (k := 0) i4 i1 i5 F1
  have g2 := draw_ok (w := w) (base := base) (k := 0) i4 F2
  have d2 : FnAt w K mg base 1 "_law_draw" ["_law_purse_here", "_law_many"] spDraw := ⟨a2, fd2, PySem.W.mg_of KX G x2, F2.kp, B2, g2⟩
  have g3 := pick_ok (k := 1) i1 d2 F3
  have g4 := classes_ok (w := w) (base := base) (k := 0) i0 i1 i2 E F4
  have g5 := right_ok (k := 1) i1 i2 i3 E ⟨a4, fd4, PySem.W.mg_of KX G x4, F4.kp, B4, g4⟩ F5
  exact lawF_ok (newId := "") (k := 1) i0 ⟨fun t ht => ⟨TC.nl t ht, TC.nd t ht⟩, TC.ll, TC.ld, TC.dl, TC.dd⟩ i6 i7 E ⟨TC.xT, TC.kpT, TC.xcT, TC.kVT⟩ PySem.F.excBase_ValueError
    ⟨a1, fd1, PySem.W.mg_of KX G x1, F1.kp, B1, g1.up (by decide)⟩ ⟨a2, fd2, PySem.W.mg_of KX G x2, F2.kp, B2, g2.up (by decide)⟩ ⟨a3, fd3, PySem.W.mg_of KX G x3, F3.kp, B3, g3⟩ ⟨a5, fd5, PySem.W.mg_of KX G x5, F5.kp, B5, g5⟩ F
end
end Lw
end

section
set_option Elab.async false
set_option linter.all false
open PySem PySem.W PyProof.Rows
set_option maxRecDepth 100000 in
set_option maxHeartbeats 0 in
theorem PySem.Challenge.cw_tipsandtwins_k01_errors_made_holds : PySem.Challenge.rw_tipsandtwins_k01_errors_made.Holds := by
  w_on; o_law; k_head; (case hw => w_witness2)
  k_fill
  refine En.walkG (l := PySem.Challenge.rw_tipsandtwins_k01_errors_made) (n := 63) (k := 3) (x := "_law_script") rfl (by decide) rfl ⟨rfl, by decide, by decide⟩ ?F
  case F =>
    intro w mg fa h Y G hmg
    have KX := PySem.W.kIn_of Y
    refine' Lw.law_go KX G ?T ?TC hmg
    case TC =>
      refine' ⟨?e0, ?e1, ?e2, ?mT, ?k00, ?k01, ?k02, ?k10, ?k11, ?k12, ?k20, ?k21, ?k22, ?kT0, ?kT1, ?kT2, ?kV0, ?kV1, ?kV2, ?kVT, ?xT, ?kpT, ?xcT, ?nl, ?nd, ?ll, ?ld, ?dl, ?dd, ?blt⟩
      case e0 =>
        refine' ⟨?m, EnQ.oexq_mk ?xL ?sa ?no ?kC ?s1 ?s2 ?s3 ?g1 ?g2 ?i1 ?i2 ?i3 ?i4 ?i5 ?i8 ?i9 ?hbm ?i6 ?i7 ?htop ?hev ?h1 ?h2, ⟨?x1, ?x2, ?x3, ?x4⟩, ⟨?y1, ?y2, ?y3, ?y4, ?y5, ?y6, ?y7, ?y8⟩⟩
        (case m => k_is); (case xL => k_is); (case sa => k_is); (case no => k_is); (case kC => k_is); (case s1 => kernel_rfl); (case s2 => k_is); (case s3 => k_is); (case g1 => k_is); (case g2 => k_is); (case i1 => k_is); (case i2 => k_is); (case i3 => k_is); (case i4 => k_is); (case i5 => k_is); (case i8 => k_is); (case i9 => k_is)
        (case hbm => decide +kernel); (case i6 => rfl); (case i7 => rfl); (case htop => decide +kernel)
        (case hev => exact EnQ.hev_ok rfl); (case h1 => exact fun _ => rfl); (case h2 => exact fun _ => rfl)
        (case x1 => k_is); (case x2 => k_is); (case x3 => k_is); (case x4 => k_is)
        (case y1 => k_is); (case y2 => k_is); (case y3 => k_is); (case y4 => k_is); (case y5 => k_is); (case y6 => k_is); (case y7 => k_is); (case y8 => k_is)
      case e1 =>
        refine' ⟨?m, EnQ.oexq_mk ?xL ?sa ?no ?kC ?s1 ?s2 ?s3 ?g1 ?g2 ?i1 ?i2 ?i3 ?i4 ?i5 ?i8 ?i9 ?hbm ?i6 ?i7 ?htop ?hev ?h1 ?h2, ⟨?x1, ?x2, ?x3, ?x4⟩, ⟨?y1, ?y2, ?y3, ?y4, ?y5, ?y6, ?y7, ?y8⟩⟩
        (case m => k_is); (case xL => k_is); (case sa => k_is); (case no => k_is); (case kC => k_is); (case s1 => kernel_rfl); (case s2 => k_is); (case s3 => k_is); (case g1 => k_is); (case g2 => k_is); (case i1 => k_is); (case i2 => k_is); (case i3 => k_is); (case i4 => k_is); (case i5 => k_is); (case i8 => k_is); (case i9 => k_is)
        (case hbm => decide +kernel); (case i6 => rfl); (case i7 => rfl); (case htop => decide +kernel)
        (case hev => exact EnQ.hev_ok rfl); (case h1 => exact fun _ => rfl); (case h2 => exact fun _ => rfl)
        (case x1 => k_is); (case x2 => k_is); (case x3 => k_is); (case x4 => k_is)
        (case y1 => k_is); (case y2 => k_is); (case y3 => k_is); (case y4 => k_is); (case y5 => k_is); (case y6 => k_is); (case y7 => k_is); (case y8 => k_is)
      case e2 =>
        refine' ⟨?m, EnQ.oexq_mk ?xL ?sa ?no ?kC ?s1 ?s2 ?s3 ?g1 ?g2 ?i1 ?i2 ?i3 ?i4 ?i5 ?i8 ?i9 ?hbm ?i6 ?i7 ?htop ?hev ?h1 ?h2, ⟨?x1, ?x2, ?x3, ?x4⟩, ⟨?y1, ?y2, ?y3, ?y4, ?y5, ?y6, ?y7, ?y8⟩⟩
        (case m => k_is); (case xL => k_is); (case sa => k_is); (case no => k_is); (case kC => k_is); (case s1 => kernel_rfl); (case s2 => k_is); (case s3 => k_is); (case g1 => k_is); (case g2 => k_is); (case i1 => k_is); (case i2 => k_is); (case i3 => k_is); (case i4 => k_is); (case i5 => k_is); (case i8 => k_is); (case i9 => k_is)
        (case hbm => decide +kernel); (case i6 => rfl); (case i7 => rfl); (case htop => decide +kernel)
        (case hev => exact EnQ.hev_ok rfl); (case h1 => exact fun _ => rfl); (case h2 => exact fun _ => rfl)
        (case x1 => k_is); (case x2 => k_is); (case x3 => k_is); (case x4 => k_is)
        (case y1 => k_is); (case y2 => k_is); (case y3 => k_is); (case y4 => k_is); (case y5 => k_is); (case y6 => k_is); (case y7 => k_is); (case y8 => k_is)
      (case mT => k_is)
      (case k00 => kit_is)
      (case k01 => kit_is)
      (case k02 => kit_is)
      (case k10 => kit_is)
      (case k11 => kit_is)
      (case k12 => kit_is)
      (case k20 => kit_is)
      (case k21 => kit_is)
      (case k22 => kit_is)
      (case kT0 => kit_is)
      (case kT1 => kit_is)
      (case kT2 => kit_is)
      (case kV0 => kit_is)
      (case kV1 => kit_is)
      (case kV2 => kit_is)
      (case kVT => kit_is)
      (case xT => k_exc)
      (case kpT => k_is)
      case xcT =>
        refine' ⟨?y1, ?y2, ?y3, ?y4, ?y5, ?y6, ?y7, ?y8⟩ <;> k_is
      (case nl => refine' List.forall_mem_cons.mpr ⟨?nl0, List.forall_mem_cons.mpr ⟨?nl1, List.forall_mem_cons.mpr ⟨?nl2, List.forall_mem_cons.mpr ⟨?nl3, List.forall_mem_cons.mpr ⟨?nl4, fun _ h => (nomatch h)⟩⟩⟩⟩⟩ <;> kit_is)
      (case nd => refine' List.forall_mem_cons.mpr ⟨?nd0, List.forall_mem_cons.mpr ⟨?nd1, List.forall_mem_cons.mpr ⟨?nd2, List.forall_mem_cons.mpr ⟨?nd3, List.forall_mem_cons.mpr ⟨?nd4, fun _ h => (nomatch h)⟩⟩⟩⟩⟩ <;> kit_is)
      (case ll => kit_is)
      (case ld => kit_is)
      (case dl => kit_is)
      (case dd => kit_is)
      (case blt => refine' List.forall_mem_cons.mpr ⟨?bb0, List.forall_mem_cons.mpr ⟨?bb1, List.forall_mem_cons.mpr ⟨?bb2, List.forall_mem_cons.mpr ⟨?bb3, List.forall_mem_cons.mpr ⟨?bb4, List.forall_mem_cons.mpr ⟨?bb5, List.forall_mem_cons.mpr ⟨?bb6, List.forall_mem_cons.mpr ⟨?bb7, List.forall_mem_cons.mpr ⟨?bb8, fun _ h => (nomatch h)⟩⟩⟩⟩⟩⟩⟩⟩⟩ <;> k_is)
    case T =>
      clear hmg G
      refine' ⟨?z0, ?z1, ?z2, ?z3, ?z4, ?z5⟩
      (case z0 => refine' ⟨_, _, ?a, L2.fun_mk ?l ?c ?k⟩; (case a => k_is); (case l => k_is); (case c => k_is); (case k => k_is))
      (case z1 => refine' ⟨_, _, ?a, L2.fun_mk ?l ?c ?k⟩; (case a => k_is); (case l => k_is); (case c => k_is); (case k => k_is))
      (case z2 => refine' ⟨_, _, ?a, L2.fun_mk ?l ?c ?k⟩; (case a => k_is); (case l => k_is); (case c => k_is); (case k => k_is))
      (case z3 => refine' ⟨_, _, ?a, L2.fun_mk ?l ?c ?k⟩; (case a => k_is); (case l => k_is); (case c => k_is); (case k => k_is))
      (case z4 => refine' ⟨_, _, ?a, L2.fun_mk ?l ?c ?k⟩; (case a => k_is); (case l => k_is); (case c => k_is); (case k => k_is))
      (case z5 => refine' ⟨_, _, ?a, L2.fun_mk ?l ?c ?k⟩; (case a => k_is); (case l => k_is); (case c => k_is); (case k => k_is))
end
