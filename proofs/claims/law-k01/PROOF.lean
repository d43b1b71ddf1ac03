import PyProof.Rows.All
import Wide.All
import OpenK.AllK
import Wide.FinOn
import KE.KStateDown
import Lean
import HandS.ForMost
import HandS.ForExc
import HandS.Evl
import HandS.HeadHook2
import HandS.TupAny
import HandS.Wide
import HandS.IsInst
import HandS.Deep
import HandS.Zip
import HandS.Walk
import PyProof.ListStr
import PyProof.Rows.SortShellAny
import HandS.RaiseMore
import HandS.SortInts
import HandS.CallSlots
import PyProof.Rows.SeqCalls
import PyProof.Rows.SeqGen
import HandS.HeadEnd
import HandS.Head0
import HandS.Head1
import HandS.Head2
import HandS.HeadHook1
import HandS.HeadHook3
import HandS.HeadHook4
import PySem.Challenge.RW_forestep_k01_alphabets
set_option Elab.async false
set_option linter.all false
set_option maxRecDepth 100000
set_option maxHeartbeats 0
/-! FsA: the data domain, the store of cells, the relation to the abstract heap of the hand layer. -/
namespace Fs
open PySem PySem.Spec PyProof.Rows L2

/-- a text as its signs -/
def toS (x : List Char) : Str := ⟨(x.map Char.toNat).toArray⟩

inductive D where
  | non
  | bl (b : Bool)
  | int (i : Int)
  | str (x : List Char)
  | lst (ds : List D)
  | tup (ds : List D)
  | frz (ds : List D)
  | wtp (ds : List D)
  | set (ds : List D)
  | dct (t : Bool) (ks vs : List D)
  | ins (c : Nat) (ks : List Nat) (vs : List D)
  | obj (n : Nat)
  | fn (k : Nat)
  deriving Inhabited

inductive Cell where
  | dead
  | lst (ds : List D)
  | dct (t : Bool) (ks vs : List D)
  | ins (c : Nat) (ks : List Nat) (vs : List D)
  deriving Inhabited
def Cell.live : Cell → Bool
  | .dead => false
  | _ => true

abbrev Store := List Cell
inductive R (α : Type) where
  | ok (a : α) (m : Store)
  | exc (c : Nat) (ks : List Nat) (vs : List D) (m : Store)
  | stuck
def M (α : Type) := Store → R α
instance : Monad M where
  pure a := fun m => .ok a m
  bind x f := fun m => match x m with
    | .ok a m' => f a m'
    | .exc c ks vs m' => .exc c ks vs m'
    | .stuck => .stuck
@[simp] theorem M.pure_ap {α : Type} (a : α) (m : Store) : (pure a : M α) m = .ok a m := rfl
theorem M.bind_ap {α β : Type} (x : M α) (f : α → M β) (m : Store) : (x >>= f) m = match x m with
    | .ok a m' => f a m'
    | .exc c ks vs m' => .exc c ks vs m'
    | .stuck => .stuck := rfl
theorem M.bind_ok {α β : Type} {x : M α} {f : α → M β} {m m' : Store} {a : α} (h : x m = .ok a m') : (x >>= f) m = f a m' := by
  rw [M.bind_ap, h]
theorem M.bind_exc {α β : Type} {x : M α} {f : α → M β} {m m' : Store} {c : Nat} {ks : List Nat} {vs : List D} (h : x m = .exc c ks vs m') : (x >>= f) m = .exc c ks vs m' := by
  rw [M.bind_ap, h]
@[simp] theorem M.pure_bind' {α β : Type} (a : α) (f : α → M β) : (pure a >>= f) = f a := rfl
def stuckM {α : Type} : M α := fun _ => .stuck
def excM {α : Type} (c : Nat) (ks : List Nat) (vs : List D) : M α := fun m => .exc c ks vs m
def optM {α : Type} : Option α → M α
  | some a => pure a
  | none => stuckM
@[simp] theorem optM_some {α : Type} (a : α) : optM (some a) = pure a := rfl
@[simp] theorem optM_none {α : Type} : optM (none : Option α) = stuckM := rfl
def getM : M Store := fun m => .ok m m
def putM (m : Store) : M Unit := fun _ => .ok () m

/-! ### the relation -/
structure Ct where
  K : PySem.W.Frag
  nm : Nat → Str
structure Ws where
  ad : List Addr
  mu : Store
  ex : List Addr
  H : Hp
/-- a is a live cell's -/
def Ws.C (S : Ws) (a : Addr) : Prop := ∃ (n : Nat) (c : Cell), S.mu[n]? = some c ∧ c.live = true ∧ S.ad[n]? = some a
/-- a may change -/
def Ws.L (S : Ws) (a : Addr) : Prop := a ∈ S.ex ∨ S.C a
/-- a stands still -/
def Fx (S : Ws) (a : Addr) (o : HO) : Prop := S.H a = some o ∧ ¬ S.L a
def dKey : D → Option Key
  | .int i => some (.inl i)
  | .str x => some (.inr (toS x))
  | _ => none
def dKeyT : D → Option (List Key)
  | .tup ds => ds.mapM dKey
  | _ => none
/-- a written list; a list that stands still from ahead -/
def WrL (K : PySem.W.Frag) (a : Addr) (xs : List V) : Prop :=
  ∃ (o : Obj) (its : Array Value) (n : Nat), K.lookup a = some o ∧ o.cls = .type "list" ∧ o.dict = none ∧ o.data = .seq its n ∧ its.size ≤ sizeLine ∧ Vals xs its.toList
def FzL (K : PySem.W.Frag) (S : Ws) (a : Addr) (vs : List V) : Prop := (∃ o, Fx S a (.frz o (.lst vs))) ∨ WrL K a vs
theorem FzL.seq {K : PySem.W.Frag} {S : Ws} {a : Addr} {vs : List V} (h : FzL K S a vs) : SqL K S.H a vs := by
  rcases h with ⟨o, f⟩ | h
  · exact .inl (.inr ⟨o, f.1⟩)
  · exact .inr h
/-- a written tuple -/
def WrT (K : PySem.W.Frag) (a : Addr) (xs : List V) : Prop :=
  ∃ (o : Obj) (its : Array Value) (n : Nat), K.lookup a = some o ∧ o.cls = .type "tuple" ∧ o.data = .seq its n ∧ its.size ≤ sizeLine ∧ Vals xs its.toList
variable (C : Ct)
mutual
def Rep (S : Ws) : D → V → Prop
  | .non, v => v = .non
  | .bl b, v => v = .bl b
  | .int i, v => v = .int i
  | .str x, v => v = .str (toS x) ∧ x.length ≤ sizeLine
  | .lst ds, v => ∃ a vs, v = .ref a ∧ Fx S a (.lst vs) ∧ ds.length ≤ sizeLine ∧ Reps S ds vs
  | .tup ds, v => ∃ a vs, v = .ref a ∧ Fx S a (.tup vs) ∧ ds.length ≤ sizeLine ∧ Reps S ds vs
  | .wtp ds, v => ∃ a vs, v = .ref a ∧ WrT C.K a vs ∧ ds.length ≤ sizeLine ∧ Reps S ds vs
  | .frz ds, v => ∃ a vs, v = .ref a ∧ FzL C.K S a vs ∧ ds.length ≤ sizeLine ∧ Reps S ds vs
  | .set _, _ => False
  | .dct t ks ds, v => ∃ a, v = .ref a ∧ (if t = true then ∃ kvs : List (List Key × V), Fx S a (.dT kvs) ∧ ks.map dKeyT = kvs.map (fun p => some p.1) ∧ Reps S ds (kvs.map (·.2))
      else ∃ kvs : List (Key × V), Fx S a (.dK kvs) ∧ ks.map dKey = kvs.map (fun p => some p.1) ∧ Reps S ds (kvs.map (·.2)))
  | .ins c ks ds, v => ∃ a dx fvs, v = .ref a ∧ Fx S a (.ins (He.ga C.K (C.nm c)) dx fvs) ∧ fvs.map (·.1) = ks.map C.nm ∧ Reps S ds (fvs.map (·.2))
  | .obj n, v => ∃ a, S.ad[n]? = some a ∧ v = .ref a
  | .fn _, _ => False
def Reps (S : Ws) : List D → List V → Prop
  | [], vs => vs = []
  | d :: ds, vs => ∃ v vs', vs = v :: vs' ∧ Rep S d v ∧ Reps S ds vs'
end
structure Step0 (S S' : Ws) : Prop where
  keep : ∀ a o, S.H a = some o → ¬ S.L a → S'.H a = some o ∧ ¬ S'.L a
  pre : ∀ (n : Nat) (a : Addr), S.ad[n]? = some a → S'.ad[n]? = some a
structure Step (S S' : Ws) : Prop extends Step0 S S' where
  exs : S'.ex = S.ex
  exk : ∀ a ∈ S.ex, S'.H a = S.H a
theorem Step0.refl (S : Ws) : Step0 S S := ⟨fun _ _ h n => ⟨h, n⟩, fun _ _ h => h⟩
theorem Step0.trans {S S1 S2 : Ws} (a : Step0 S S1) (b : Step0 S1 S2) : Step0 S S2 :=
  ⟨fun x o h n => let ⟨h1, n1⟩ := a.keep x o h n; b.keep x o h1 n1, fun n x h => b.pre n x (a.pre n x h)⟩
theorem Step.refl (S : Ws) : Step S S := ⟨.refl S, rfl, fun _ _ => rfl⟩
theorem Step.trans {S S1 S2 : Ws} (a : Step S S1) (b : Step S1 S2) : Step S S2 := ⟨a.toStep0.trans b.toStep0, b.exs.trans a.exs, fun x h => (b.exk x (by rw [a.exs]; exact h)).trans (a.exk x h)⟩
theorem Step0.fx {S S' : Ws} (st : Step0 S S') {a : Addr} {o : HO} (h : Fx S a o) : Fx S' a o := st.keep a o h.1 h.2
theorem FzL.fx {K : PySem.W.Frag} {S S' : Ws} {a : Addr} {vs : List V} (h : FzL K S a vs) (st : Step0 S S') : FzL K S' a vs := by
  rcases h with ⟨o, f⟩ | h
  · exact .inl ⟨o, st.fx f⟩
  · exact .inr h
variable {C}
mutual
theorem Rep.mono0 {S S' : Ws} (st : Step0 S S') : ∀ {d : D} {v : V}, Rep C S d v → Rep C S' d v
  | .non, v, h => by simp only [Rep] at h ⊢; exact h
  | .bl b, v, h => by simp only [Rep] at h ⊢; exact h
  | .int b, v, h => by simp only [Rep] at h ⊢; exact h
  | .str b, v, h => by simp only [Rep] at h ⊢; exact h
  | .lst ds, v, h => by
    simp only [Rep] at h ⊢
    obtain ⟨a, vs, e, f, l, r⟩ := h
    exact ⟨a, vs, e, st.fx f, l, Reps.mono0 st r⟩
  | .tup ds, v, h => by
    simp only [Rep] at h ⊢
    obtain ⟨a, vs, e, f, l, r⟩ := h
    exact ⟨a, vs, e, st.fx f, l, Reps.mono0 st r⟩
  | .wtp ds, v, h => by
    simp only [Rep] at h ⊢
    obtain ⟨a, vs, e, f, l, r⟩ := h
    exact ⟨a, vs, e, f, l, Reps.mono0 st r⟩
  | .frz ds, v, h => by
    simp only [Rep] at h ⊢
    obtain ⟨a, vs, e, f, l, r⟩ := h
    exact ⟨a, vs, e, f.fx st, l, Reps.mono0 st r⟩
  | .set ds, v, h => by simp only [Rep] at h
  | .dct t ks ds, v, h => by
    simp only [Rep] at h ⊢
    obtain ⟨a, e, h⟩ := h
    refine ⟨a, e, ?_⟩
    split at h
    · rename_i ht; rw [if_pos ht]; obtain ⟨kvs, f, k, r⟩ := h; exact ⟨kvs, st.fx f, k, Reps.mono0 st r⟩
    · rename_i ht; rw [if_neg ht]; obtain ⟨kvs, f, k, r⟩ := h; exact ⟨kvs, st.fx f, k, Reps.mono0 st r⟩
  | .ins c ks ds, v, h => by
    simp only [Rep] at h ⊢
    obtain ⟨a, dx, fvs, e, f, k, r⟩ := h
    exact ⟨a, dx, fvs, e, st.fx f, k, Reps.mono0 st r⟩
  | .obj n, v, h => by
    simp only [Rep] at h ⊢
    obtain ⟨a, e, r⟩ := h
    exact ⟨a, st.pre _ _ e, r⟩
  | .fn k, v, h => by simp only [Rep] at h
theorem Reps.mono0 {S S' : Ws} (st : Step0 S S') : ∀ {ds : List D} {vs : List V}, Reps C S ds vs → Reps C S' ds vs
  | [], vs, h => by simp only [Reps] at h ⊢; exact h
  | d :: ds, vs, h => by
    simp only [Reps] at h ⊢
    obtain ⟨v, vs', e, r, t⟩ := h
    exact ⟨v, vs', e, Rep.mono0 st r, Reps.mono0 st t⟩
end
theorem Rep.mono {S S' : Ws} (st : Step S S') {d : D} {v : V} (h : Rep C S d v) : Rep C S' d v := Rep.mono0 st.toStep0 h
theorem Reps.mono {S S' : Ws} (st : Step S S') {d : List D} {v : List V} (h : Reps C S d v) : Reps C S' d v := Reps.mono0 st.toStep0 h
def CellAt (C : Ct) (S : Ws) (a : Addr) : Cell → Prop
  | .dead => True
  | .lst ds => ∃ vs, S.H a = some (.lst vs) ∧ ds.length ≤ sizeLine ∧ Reps C S ds vs
  | .dct t ks ds => if t = true then ∃ kvs : List (List Key × V), S.H a = some (.dT kvs) ∧ ks.map dKeyT = kvs.map (fun p => some p.1) ∧ Reps C S ds (kvs.map (·.2))
      else ∃ kvs : List (Key × V), S.H a = some (.dK kvs) ∧ ks.map dKey = kvs.map (fun p => some p.1) ∧ Reps C S ds (kvs.map (·.2))
  | .ins c ks ds => ∃ dx fvs, S.H a = some (.ins (He.ga C.K (C.nm c)) dx fvs) ∧ fvs.map (·.1) = ks.map C.nm ∧ Reps C S ds (fvs.map (·.2))
structure Wf (C : Ct) (S : Ws) : Prop where
  len : S.ad.length = S.mu.length
  cell : ∀ (n : Nat) (c : Cell) (a : Addr), S.mu[n]? = some c → S.ad[n]? = some a → CellAt C S a c
  inj : ∀ (n k : Nat) (c d : Cell) (a : Addr), S.mu[n]? = some c → c.live = true → S.ad[n]? = some a → S.mu[k]? = some d → d.live = true → S.ad[k]? = some a → n = k
  exh : ∀ a ∈ S.ex, (∃ o, S.H a = some o) ∧ ¬ S.C a
  exd : S.ex.Nodup
theorem CellAt.has {S : Ws} {a : Addr} {c : Cell} (h : CellAt C S a c) (l : c.live = true) : ∃ o, S.H a = some o := by
  cases c with
  | dead => cases l
  | lst ds => obtain ⟨vs, e, _⟩ := h; exact ⟨_, e⟩
  | dct t ks ds =>
    simp only [CellAt] at h
    split at h
    · obtain ⟨_, e, _⟩ := h; exact ⟨_, e⟩
    · obtain ⟨_, e, _⟩ := h; exact ⟨_, e⟩
  | ins c ks ds => obtain ⟨_, _, e, _⟩ := h; exact ⟨_, e⟩
theorem Wf.hasC {S : Ws} (w : Wf C S) {a : Addr} (h : S.C a) : ∃ o, S.H a = some o := by
  obtain ⟨n, c, e, l, i⟩ := h
  exact (w.cell n c a e i).has l
theorem Wf.has {S : Ws} (w : Wf C S) {a : Addr} (h : S.L a) : ∃ o, S.H a = some o := by
  rcases h with h | h
  · exact (w.exh a h).1
  · exact w.hasC h
theorem Wf.fresh {S : Ws} (w : Wf C S) {p : Addr} (h : S.H p = none) : ¬ S.L p := fun l => by
  obtain ⟨o, e⟩ := w.has l
  rw [h] at e; cases e
theorem CellAt.keep {S S' : Ws} (st : Step0 S S') {a : Addr} {c : Cell} (e : S'.H a = S.H a) (h : CellAt C S a c) : CellAt C S' a c := by
  cases c with
  | dead => trivial
  | lst ds => obtain ⟨vs, q, l, r⟩ := h; exact ⟨vs, e.trans q, l, r.mono0 st⟩
  | dct t ks ds =>
    simp only [CellAt] at h ⊢
    split at h
    · rename_i ht; rw [if_pos ht]; obtain ⟨x, q, k, r⟩ := h; exact ⟨x, e.trans q, k, r.mono0 st⟩
    · rename_i ht; rw [if_neg ht]; obtain ⟨x, q, k, r⟩ := h; exact ⟨x, e.trans q, k, r.mono0 st⟩
  | ins c ks ds => obtain ⟨dx, x, q, k, r⟩ := h; exact ⟨dx, x, e.trans q, k, r.mono0 st⟩
/-- a new object that stands still -/
abbrev Ws.new (S : Ws) (p : Addr) (o : HO) : Ws := ⟨S.ad, S.mu, S.ex, upd S.H p o⟩
theorem Step0.new {S : Ws} {p : Addr} {o : HO} (h : S.H p = none) : Step0 S (S.new p o) :=
  ⟨fun a u e n => ⟨by show upd S.H p o a = _; rw [upd_ne (ne_of_none e h)]; exact e, n⟩, fun _ _ e => e⟩
theorem Step.new {S : Ws} (w : Wf C S) {p : Addr} {o : HO} (h : S.H p = none) : Step S (S.new p o) :=
  ⟨Step0.new h, rfl, fun a ha => by
    obtain ⟨⟨u, hu⟩, _⟩ := w.exh a ha
    show upd S.H p o a = _
    rw [upd_ne (ne_of_none hu h)]⟩
theorem Wf.new {S : Ws} (w : Wf C S) {p : Addr} {o : HO} (h : S.H p = none) : Wf C (S.new p o) where
  len := w.len
  inj := w.inj
  exd := w.exd
  exh := fun a ha => by
    obtain ⟨⟨u, hu⟩, n⟩ := w.exh a ha
    exact ⟨⟨u, by show upd S.H p o a = _; rw [upd_ne (ne_of_none hu h)]; exact hu⟩, n⟩
  cell := fun n c a e i => by
    have q := w.cell n c a e i
    cases l : c.live with
    | false =>
      cases c with
      | dead => trivial
      | _ => cases l
    | true =>
      obtain ⟨u, hu⟩ := q.has l
      exact q.keep (Step0.new h) (by show upd S.H p o a = _; rw [upd_ne (ne_of_none hu h)])
theorem Fx.new {S : Ws} (w : Wf C S) {p : Addr} {o : HO} (h : S.H p = none) : Fx (S.new p o) p o := ⟨upd_same, w.fresh h⟩
/-- a new cell -/
abbrev Ws.cell (S : Ws) (p : Addr) (o : HO) (c : Cell) : Ws := ⟨S.ad ++ [p], S.mu ++ [c], S.ex, upd S.H p o⟩
theorem C_cell {S : Ws} (w : Wf C S) {p a : Addr} {o : HO} {c : Cell} (h : (S.cell p o c).C a) : S.C a ∨ a = p := by
  obtain ⟨n, d, e, l, i⟩ := h
  rcases Nat.lt_or_ge n S.mu.length with q | q
  · have q' : n < S.ad.length := by rw [w.len]; exact q
    rw [List.getElem?_append_left q] at e
    rw [List.getElem?_append_left q'] at i
    exact .inl ⟨n, d, e, l, i⟩
  · have q' : S.ad.length ≤ n := by rw [w.len]; exact q
    rw [List.getElem?_append_right q'] at i
    cases k : n - S.ad.length with
    | zero => rw [k] at i; simp at i; exact .inr i.symm
    | succ m => rw [k] at i; simp at i
theorem L_cell {S : Ws} (w : Wf C S) {p a : Addr} {o : HO} {c : Cell} (h : (S.cell p o c).L a) : S.L a ∨ a = p := by
  rcases h with h | h
  · exact .inl (.inl h)
  · exact (C_cell w h).imp .inr id
theorem Step.cell {S : Ws} (w : Wf C S) {p : Addr} {o : HO} {c : Cell} (h : S.H p = none) : Step S (S.cell p o c) :=
  ⟨⟨fun a u e n => ⟨by show upd S.H p o a = _; rw [upd_ne (ne_of_none e h)]; exact e, fun l => (L_cell w l).elim n fun z => by rw [z, h] at e; cases e⟩,
   fun n a e => by
    have := (List.getElem?_eq_some_iff.mp e).1
    show (S.ad ++ [p])[n]? = _
    rw [List.getElem?_append_left this]; exact e⟩, rfl, fun a ha => by
    obtain ⟨⟨u, hu⟩, _⟩ := w.exh a ha
    show upd S.H p o a = _
    rw [upd_ne (ne_of_none hu h)]⟩
theorem Wf.cell' {S : Ws} (w : Wf C S) {p : Addr} {o : HO} {c : Cell} (h : S.H p = none) (hc : CellAt C (S.cell p o c) p c) : Wf C (S.cell p o c) where
  len := by simp [w.len]
  exd := w.exd
  exh := fun a ha => by
    obtain ⟨⟨u, hu⟩, n⟩ := w.exh a ha
    refine ⟨⟨u, by show upd S.H p o a = _; rw [upd_ne (ne_of_none hu h)]; exact hu⟩, fun q => (C_cell w q).elim n fun z => ?_⟩
    rw [z, h] at hu; cases hu
  inj := by
    have key : ∀ (n : Nat) (d : Cell) (a : Addr), (S.mu ++ [c])[n]? = some d → (S.ad ++ [p])[n]? = some a → (S.mu[n]? = some d ∧ S.ad[n]? = some a) ∨ (n = S.mu.length ∧ a = p) := by
      intro n d a e i
      rcases Nat.lt_or_ge n S.mu.length with q | q
      · have q' : n < S.ad.length := by rw [w.len]; exact q
        rw [List.getElem?_append_left q] at e
        rw [List.getElem?_append_left q'] at i
        exact .inl ⟨e, i⟩
      · have q' : S.ad.length ≤ n := by rw [w.len]; exact q
        rw [List.getElem?_append_right q'] at i
        cases k : n - S.ad.length with
        | zero => rw [k] at i; simp at i; rw [w.len] at k q'; exact .inr ⟨by omega, i.symm⟩
        | succ m => rw [k] at i; simp at i
    intro n k c1 c2 a e1 l1 i1 e2 l2 i2
    rcases key n c1 a e1 i1 with ⟨x1, y1⟩ | ⟨x1, y1⟩ <;> rcases key k c2 a e2 i2 with ⟨x2, y2⟩ | ⟨x2, y2⟩
    · exact w.inj n k c1 c2 a x1 l1 y1 x2 l2 y2
    · subst y2; exact absurd (.inr ⟨n, c1, x1, l1, y1⟩) (w.fresh h)
    · subst y1; exact absurd (.inr ⟨k, c2, x2, l2, y2⟩) (w.fresh h)
    · rw [x1, x2]
  cell := fun n d a e i => by
    rcases Nat.lt_or_ge n S.mu.length with q | q
    · have q' : n < S.ad.length := by rw [w.len]; exact q
      have e' : S.mu[n]? = some d := by rw [← List.getElem?_append_left q (l₂ := [c])]; exact e
      have i' : S.ad[n]? = some a := by rw [← List.getElem?_append_left q' (l₂ := [p])]; exact i
      have z := w.cell n d a e' i'
      cases l : d.live with
      | false =>
        cases d with
        | dead => trivial
        | _ => cases l
      | true =>
        obtain ⟨u, hu⟩ := z.has l
        exact z.keep (Step.cell w h).toStep0 (by show upd S.H p o a = _; rw [upd_ne (ne_of_none hu h)])
    · have q' : S.ad.length ≤ n := by rw [w.len]; exact q
      have e' : (S.mu ++ [c])[n]? = some d := e
      have i' : (S.ad ++ [p])[n]? = some a := i
      rw [List.getElem?_append_right q'] at i'
      rw [List.getElem?_append_right q] at e'
      cases k : n - S.ad.length with
      | zero =>
        rw [k] at i'; rw [w.len] at k; rw [k] at e'
        simp at i' e'
        subst i'; subst e'
        exact hc
      | succ m => rw [k] at i'; simp at i'
/-- a cell is written, or given up -/
abbrev Ws.put (S : Ws) (n : Nat) (a : Addr) (o : HO) (c : Cell) : Ws := ⟨S.ad, S.mu.set n c, S.ex, upd S.H a o⟩
theorem C_put {S : Ws} {n : Nat} {a b : Addr} {o : HO} {c d : Cell} (hd : S.mu[n]? = some d) (l : d.live = true) (h : (S.put n a o c).C b) : S.C b := by
  obtain ⟨k, d', e, l', i⟩ := h
  by_cases q : k = n
  · subst q; exact ⟨k, d, hd, l, i⟩
  · have e' : (S.mu.set n c)[k]? = some d' := e
    rw [List.getElem?_set_ne (Ne.symm q)] at e'
    exact ⟨k, d', e', l', i⟩
theorem L_put {S : Ws} {n : Nat} {a b : Addr} {o : HO} {c d : Cell} (hd : S.mu[n]? = some d) (l : d.live = true) (h : (S.put n a o c).L b) : S.L b := h.imp id (C_put hd l)
theorem Step.put {S : Ws} (w : Wf C S) {n : Nat} {a : Addr} {o : HO} {c d : Cell} (hd : S.mu[n]? = some d) (l : d.live = true) (ha : S.ad[n]? = some a) : Step S (S.put n a o c) :=
  ⟨⟨fun b u e nl => ⟨by
      show upd S.H a o b = _
      rw [upd_ne (fun z => nl (by rw [z]; exact .inr ⟨n, d, hd, l, ha⟩))]; exact e, fun z => nl (L_put hd l z)⟩, fun _ _ e => e⟩, rfl, fun b hb => by
    show upd S.H a o b = _
    rw [upd_ne (fun z => (w.exh b hb).2 (by rw [z]; exact ⟨n, d, hd, l, ha⟩))]⟩
theorem Wf.put {S : Ws} (w : Wf C S) {n : Nat} {a : Addr} {o : HO} {c d : Cell} (hd : S.mu[n]? = some d) (l : d.live = true) (ha : S.ad[n]? = some a)
    (hc : CellAt C (S.put n a o c) a c) : Wf C (S.put n a o c) where
  len := by simp [w.len]
  exd := w.exd
  exh := fun b hb => by
    obtain ⟨⟨u, hu⟩, k⟩ := w.exh b hb
    refine ⟨⟨u, ?_⟩, fun q => k (C_put hd l q)⟩
    show upd S.H a o b = _
    rw [upd_ne (fun z => k (by rw [z]; exact ⟨n, d, hd, l, ha⟩))]; exact hu
  inj := by
    have key : ∀ (k : Nat) (e : Cell) (b : Addr), (S.mu.set n c)[k]? = some e → e.live = true → S.ad[k]? = some b → ∃ e' : Cell, S.mu[k]? = some e' ∧ e'.live = true := by
      intro k e b h1 h2 h3
      by_cases q : k = n
      · subst q; exact ⟨d, hd, l⟩
      · rw [List.getElem?_set_ne (Ne.symm q)] at h1; exact ⟨e, h1, h2⟩
    intro k j c1 c2 b e1 l1 i1 e2 l2 i2
    obtain ⟨d1, x1, y1⟩ := key k c1 b e1 l1 i1
    obtain ⟨d2, x2, y2⟩ := key j c2 b e2 l2 i2
    exact w.inj k j d1 d2 b x1 y1 i1 x2 y2 i2
  cell := fun k e b h1 h2 => by
    by_cases q : k = n
    · subst q
      have h1' : (S.mu.set k c)[k]? = some e := h1
      rw [List.getElem?_set_self (List.getElem?_eq_some_iff.mp hd).1] at h1'
      have h2' : S.ad[k]? = some b := h2
      rw [ha] at h2'
      cases h1'; cases h2'
      exact hc
    · have h1' : (S.mu.set n c)[k]? = some e := h1
      rw [List.getElem?_set_ne (Ne.symm q)] at h1'
      have z := w.cell k e b h1' h2
      cases le : e.live with
      | false =>
        cases e with
        | dead => trivial
        | _ => cases le
      | true =>
        refine z.keep (Step.put w hd l ha).toStep0 ?_
        show upd S.H a o b = _
        rw [upd_ne (fun y => q (w.inj k n e d a h1' le (by rw [← y]; exact h2) hd l ha))]
/-- a cell is given up: its object stands still from now on -/
abbrev Ws.drop (S : Ws) (n : Nat) : Ws := ⟨S.ad, S.mu.set n .dead, S.ex, S.H⟩
theorem C_drop {S : Ws} {n : Nat} {b : Addr} (h : (S.drop n).C b) : S.C b := by
  obtain ⟨k, d', e, l', i⟩ := h
  by_cases q : k = n
  · subst q
    have e' : (S.mu.set k Cell.dead)[k]? = some d' := e
    by_cases z : k < S.mu.length
    · rw [List.getElem?_set_self z] at e'; cases e'; cases l'
    · rw [List.getElem?_eq_none (by simp; omega)] at e'; cases e'
  · have e' : (S.mu.set n Cell.dead)[k]? = some d' := e
    rw [List.getElem?_set_ne (Ne.symm q)] at e'
    exact ⟨k, d', e', l', i⟩
theorem L_drop {S : Ws} {n : Nat} {b : Addr} (h : (S.drop n).L b) : S.L b := h.imp id C_drop
theorem drop_notL {S : Ws} (w : Wf C S) {n : Nat} {a : Addr} {d : Cell} (hd : S.mu[n]? = some d) (l : d.live = true) (ha : S.ad[n]? = some a) : ¬ (S.drop n).L a := fun h => by
  rcases h with h | h
  · exact (w.exh a h).2 ⟨n, d, hd, l, ha⟩
  obtain ⟨k, d', e, l', i⟩ := h
  by_cases q : k = n
  · subst q
    have e' : (S.mu.set k Cell.dead)[k]? = some d' := e
    rw [List.getElem?_set_self (List.getElem?_eq_some_iff.mp hd).1] at e'; cases e'; cases l'
  · have e' : (S.mu.set n Cell.dead)[k]? = some d' := e
    rw [List.getElem?_set_ne (Ne.symm q)] at e'
    exact q (w.inj k n d' d a e' l' i hd l ha)
theorem Step.drop {S : Ws} {n : Nat} : Step S (S.drop n) := ⟨⟨fun _ _ e nl => ⟨e, fun z => nl (L_drop z)⟩, fun _ _ e => e⟩, rfl, fun _ _ => rfl⟩
theorem Wf.drop {S : Ws} (w : Wf C S) {n : Nat} : Wf C (S.drop n) where
  len := by simp [w.len]
  exd := w.exd
  exh := fun b hb => ⟨(w.exh b hb).1, fun q => (w.exh b hb).2 (C_drop q)⟩
  inj := by
    have key : ∀ (k : Nat) (e : Cell), (S.mu.set n Cell.dead)[k]? = some e → e.live = true → S.mu[k]? = some e := by
      intro k e h1 h2
      by_cases q : k = n
      · subst q
        by_cases z : k < S.mu.length
        · rw [List.getElem?_set_self z] at h1; cases h1; cases h2
        · rw [List.getElem?_eq_none (by simp; omega)] at h1; cases h1
      · rw [List.getElem?_set_ne (Ne.symm q)] at h1; exact h1
    intro k j c1 c2 b e1 l1 i1 e2 l2 i2
    exact w.inj k j c1 c2 b (key k c1 e1 l1) l1 i1 (key j c2 e2 l2) l2 i2
  cell := fun k e b h1 h2 => by
    by_cases q : k = n
    · subst q
      have h1' : (S.mu.set k Cell.dead)[k]? = some e := h1
      by_cases z : k < S.mu.length
      · rw [List.getElem?_set_self z] at h1'; cases h1'; trivial
      · rw [List.getElem?_eq_none (by simp; omega)] at h1'; cases h1'
    · have h1' : (S.mu.set n Cell.dead)[k]? = some e := h1
      rw [List.getElem?_set_ne (Ne.symm q)] at h1'
      exact (w.cell k e b h1' h2).keep Step.drop.toStep0 rfl

/-- an object that changes, outside the store (a comprehension's list) -/
abbrev Ws.push (S : Ws) (p : Addr) (o : HO) : Ws := ⟨S.ad, S.mu, p :: S.ex, upd S.H p o⟩
theorem Step0.push {S : Ws} {p : Addr} {o : HO} (h : S.H p = none) : Step0 S (S.push p o) :=
  ⟨fun a u e n => ⟨by show upd S.H p o a = _; rw [upd_ne (ne_of_none e h)]; exact e, fun z => by
    rcases z with z | z
    · rcases List.mem_cons.mp z with z | z
      · rw [z, h] at e; cases e
      · exact n (.inl z)
    · exact n (.inr z)⟩, fun _ _ e => e⟩
theorem Wf.push {S : Ws} (w : Wf C S) {p : Addr} {o : HO} (h : S.H p = none) : Wf C (S.push p o) where
  len := w.len
  inj := w.inj
  exd := List.nodup_cons.mpr ⟨fun z => w.fresh h (.inl z), w.exd⟩
  exh := fun a ha => by
    rcases List.mem_cons.mp ha with z | z
    · subst z; exact ⟨⟨o, upd_same⟩, fun q => w.fresh h (.inr q)⟩
    · obtain ⟨⟨u, hu⟩, n⟩ := w.exh a z
      exact ⟨⟨u, by show upd S.H p o a = _; rw [upd_ne (ne_of_none hu h)]; exact hu⟩, n⟩
  cell := fun n c a e i => by
    have q := w.cell n c a e i
    cases l : c.live with
    | false =>
      cases c with
      | dead => trivial
      | _ => cases l
    | true =>
      obtain ⟨u, hu⟩ := q.has l
      exact q.keep (Step0.push h) (by show upd S.H p o a = _; rw [upd_ne (ne_of_none hu h)])
abbrev Ws.at (S : Ws) (p : Addr) (o : HO) : Ws := ⟨S.ad, S.mu, S.ex, upd S.H p o⟩
theorem Step0.at {S : Ws} {p : Addr} {o : HO} (h : p ∈ S.ex) : Step0 S (S.at p o) :=
  ⟨fun a u e n => ⟨by show upd S.H p o a = _; rw [upd_ne (fun z => n (by rw [z]; exact .inl h))]; exact e, n⟩, fun _ _ e => e⟩
theorem Wf.at {S : Ws} (w : Wf C S) {p : Addr} {o : HO} (h : p ∈ S.ex) : Wf C (S.at p o) where
  len := w.len
  inj := w.inj
  exd := w.exd
  exh := fun a ha => by
    refine ⟨?_, (w.exh a ha).2⟩
    by_cases z : a = p
    · subst z; exact ⟨o, upd_same⟩
    · obtain ⟨u, hu⟩ := (w.exh a ha).1
      exact ⟨u, by show upd S.H p o a = _; rw [upd_ne z]; exact hu⟩
  cell := fun n c a e i => by
    have q := w.cell n c a e i
    cases l : c.live with
    | false =>
      cases c with
      | dead => trivial
      | _ => cases l
    | true =>
      exact q.keep (Step0.at h) (by
        show upd S.H p o a = _
        rw [upd_ne (fun z => (w.exh p h).2 (by rw [← z]; exact ⟨n, c, e, l, i⟩))])
abbrev Ws.pop (S : Ws) (ex : List Addr) : Ws := ⟨S.ad, S.mu, ex, S.H⟩
theorem Step0.pop {S : Ws} {ex : List Addr} (h : ∀ a ∈ ex, a ∈ S.ex) : Step0 S (S.pop ex) := ⟨fun a u e n => ⟨e, fun z => n (z.imp (h a) id)⟩, fun _ _ e => e⟩
theorem Wf.pop {S : Ws} (w : Wf C S) {ex : List Addr} {p : Addr} (h : S.ex = p :: ex) : Wf C (S.pop ex) where
  len := w.len
  inj := w.inj
  exd := by have := w.exd; rw [h] at this; exact (List.nodup_cons.mp this).2
  exh := fun a ha => w.exh a (by rw [h]; exact List.mem_cons_of_mem _ ha)
  cell := fun n c a e i => (w.cell n c a e i).keep (Step0.pop fun b hb => by rw [h]; exact List.mem_cons_of_mem _ hb) rfl
theorem pop_notL {S : Ws} (w : Wf C S) {ex : List Addr} {p : Addr} (h : S.ex = p :: ex) : ¬ (S.pop ex).L p := fun z => by
  rcases z with z | z
  · have := w.exd; rw [h] at this; exact (List.nodup_cons.mp this).1 z
  · exact (w.exh p (by rw [h]; exact List.mem_cons_self)).2 z

/-! ### lists of data -/
theorem Reps.len {S : Ws} : ∀ {ds : List D} {vs : List V}, Reps C S ds vs → ds.length = vs.length
  | [], vs, h => by simp only [Reps] at h; rw [h]; rfl
  | d :: ds, vs, h => by
    simp only [Reps] at h
    obtain ⟨v, vs', e, _, t⟩ := h
    rw [e, List.length_cons, List.length_cons, Reps.len t]
theorem Reps.nil {S : Ws} : Reps C S [] [] := by simp only [Reps]
theorem Reps.cons {S : Ws} {d : D} {v : V} {ds : List D} {vs : List V} (h : Rep C S d v) (t : Reps C S ds vs) : Reps C S (d :: ds) (v :: vs) := by
  simp only [Reps]; exact ⟨v, vs, rfl, h, t⟩
theorem Reps.append {S : Ws} : ∀ {ds es : List D} {vs us : List V}, Reps C S ds vs → Reps C S es us → Reps C S (ds ++ es) (vs ++ us)
  | [], es, vs, us, h, t => by simp only [Reps] at h; rw [h]; exact t
  | d :: ds, es, vs, us, h, t => by
    simp only [Reps] at h
    obtain ⟨v, vs', e, r, q⟩ := h
    rw [e]; exact Reps.cons r (Reps.append q t)
theorem Reps.get {S : Ws} : ∀ {ds : List D} {vs : List V} {i : Nat} {d : D}, Reps C S ds vs → ds[i]? = some d → ∃ v, vs[i]? = some v ∧ Rep C S d v
  | [], vs, i, d, h, e => by simp at e
  | x :: ds, vs, 0, d, h, e => by
    simp only [Reps] at h
    obtain ⟨v, vs', e', r, _⟩ := h
    simp at e; subst e; subst e'
    exact ⟨v, rfl, r⟩
  | x :: ds, vs, i + 1, d, h, e => by
    simp only [Reps] at h
    obtain ⟨v, vs', e', _, t⟩ := h
    subst e'
    obtain ⟨u, h1, h2⟩ := Reps.get (i := i) t (by simpa using e)
    exact ⟨u, by simpa using h1, h2⟩
theorem Reps.get' {S : Ws} : ∀ {ds : List D} {vs : List V} {i : Nat} {v : V}, Reps C S ds vs → vs[i]? = some v → ∃ d, ds[i]? = some d ∧ Rep C S d v
  | [], vs, i, v, h, e => by simp only [Reps] at h; rw [h] at e; simp at e
  | x :: ds, vs, 0, v, h, e => by
    simp only [Reps] at h
    obtain ⟨u, vs', e', r, _⟩ := h
    subst e'; simp at e; subst e
    exact ⟨x, rfl, r⟩
  | x :: ds, vs, i + 1, v, h, e => by
    simp only [Reps] at h
    obtain ⟨u, vs', e', _, t⟩ := h
    subst e'
    obtain ⟨d, h1, h2⟩ := Reps.get' (i := i) t (by simpa using e)
    exact ⟨d, by simpa using h1, h2⟩
theorem Reps.take {S : Ws} : ∀ {ds : List D} {vs : List V} (n : Nat), Reps C S ds vs → Reps C S (ds.take n) (vs.take n)
  | ds, vs, 0, _ => by simp only [List.take_zero]; exact Reps.nil
  | [], vs, n + 1, h => by simp only [Reps] at h; rw [h]; simp only [List.take_nil]; exact Reps.nil
  | d :: ds, vs, n + 1, h => by
    simp only [Reps] at h
    obtain ⟨v, vs', e, r, t⟩ := h
    subst e; exact Reps.cons r (Reps.take n t)
theorem Reps.drop {S : Ws} : ∀ {ds : List D} {vs : List V} (n : Nat), Reps C S ds vs → Reps C S (ds.drop n) (vs.drop n)
  | ds, vs, 0, h => h
  | [], vs, n + 1, h => by simp only [Reps] at h; rw [h]; simp only [List.drop_nil]; exact Reps.nil
  | d :: ds, vs, n + 1, h => by
    simp only [Reps] at h
    obtain ⟨v, vs', e, r, t⟩ := h
    subst e; exact Reps.drop n t
theorem Reps.set {S : Ws} {d : D} {v : V} (r : Rep C S d v) : ∀ {ds : List D} {vs : List V} (n : Nat), Reps C S ds vs → Reps C S (ds.set n d) (vs.set n v)
  | [], vs, n, h => by simp only [Reps] at h; rw [h]; simp only [List.set_nil]; exact Reps.nil
  | x :: ds, vs, 0, h => by
    simp only [Reps] at h
    obtain ⟨u, vs', e, _, t⟩ := h
    subst e; exact Reps.cons r t
  | x :: ds, vs, n + 1, h => by
    simp only [Reps] at h
    obtain ⟨u, vs', e, q, t⟩ := h
    subst e; exact Reps.cons q (Reps.set r n t)

/-! ### slots -/
abbrev Env := List (Option D)
structure SRep (C : Ct) (S : Ws) (r : Env) (σ : L2.St) : Prop where
  len : r.length = σ.length
  at_ : ∀ (i : Nat) (d : D), r[i]? = some (some d) → ∃ v, σ[i]? = some (some v) ∧ Rep C S d v
theorem SRep.mono {S S' : Ws} (st : Step S S') {r : Env} {σ : L2.St} (h : SRep C S r σ) : SRep C S' r σ :=
  ⟨h.len, fun i d e => let ⟨v, a, b⟩ := h.at_ i d e; ⟨v, a, b.mono st⟩⟩
theorem SRep.set {S : Ws} {r : Env} {σ : L2.St} (h : SRep C S r σ) {i : Nat} {d : D} {v : V} (q : Rep C S d v) : SRep C S (r.set i (some d)) (σ.set i (some v)) :=
  ⟨by simp [h.len], fun j e hj => by
    by_cases z : i = j
    · subst z
      by_cases l : i < r.length
      · rw [List.getElem?_set_self l] at hj
        cases hj
        exact ⟨v, by rw [List.getElem?_set_self (by rw [← h.len]; exact l)], q⟩
      · rw [List.getElem?_eq_none (by simp; omega)] at hj; cases hj
    · rw [List.getElem?_set_ne z] at hj
      obtain ⟨u, a, b⟩ := h.at_ j e hj
      exact ⟨u, by rw [List.getElem?_set_ne z]; exact a, b⟩⟩

/-! ### what is wanted behind an evaluation -/
def ExcAt (C : Ct) (S : Ws) (ks : List Nat) (ds : List D) (dx : Addr) : Prop := ∃ fvs : List (Str × V), Fx S dx (.xd fvs) ∧ fvs.map (·.1) = ks.map C.nm ∧ Reps C S ds (fvs.map (·.2))
def PostE (C : Ct) (S : Ws) (r : R D) (W : XK) (Q : VK) : Prop :=
  match r with
  | .ok d m => ∀ S' v, S'.mu = m → Wf C S' → Step S S' → Rep C S' d v → Q v S'.H
  | .exc c ks ds m => ∀ S' dx, S'.mu = m → Wf C S' → Step S S' → ExcAt C S' ks ds dx → W (.ref (He.ga C.K (C.nm c))) (some dx) S'.H
  | .stuck => False
theorem PostE.step {S S' : Ws} (st : Step S S') {r : R D} {W : XK} {Q : VK} (h : PostE C S r W Q) : PostE C S' r W Q := by
  cases r with
  | ok d m => exact fun S2 v e w s r => h S2 v e w (st.trans s) r
  | exc c ks ds m => exact fun S2 v e w s r => h S2 v e w (st.trans s) r
  | stuck => exact h
theorem PostE.imp {S : Ws} {r : R D} {W : XK} {Q Q' : VK} (h : PostE C S r W Q) (k : ∀ v H, Q v H → Q' v H) : PostE C S r W Q' := by
  cases r with
  | ok d m => exact fun S2 v e w s r => k _ _ (h S2 v e w s r)
  | exc c ks ds m => exact h
  | stuck => exact h
/-- the same of lists of values -/
def PostA (C : Ct) (S : Ws) (r : R (List D)) (W : XK) (Q : List V → Hp → Prop) : Prop :=
  match r with
  | .ok ds m => ∀ S' vs, S'.mu = m → Wf C S' → Step S S' → Reps C S' ds vs → Q vs S'.H
  | .exc c ks ds m => ∀ S' dx, S'.mu = m → Wf C S' → Step S S' → ExcAt C S' ks ds dx → W (.ref (He.ga C.K (C.nm c))) (some dx) S'.H
  | .stuck => False
def PostT (C : Ct) (S : Ws) (r : R Bool) (W : XK) (Q : Bool → Hp → Prop) : Prop :=
  match r with
  | .ok b m => ∀ S', S'.mu = m → Wf C S' → Step S S' → Q b S'.H
  | .exc c ks ds m => ∀ S' dx, S'.mu = m → Wf C S' → Step S S' → ExcAt C S' ks ds dx → W (.ref (He.ga C.K (C.nm c))) (some dx) S'.H
  | .stuck => False
/-- one evaluation behind another -/
theorem PostE.bind {S : Ws} {x : M D} {g : D → M D} {W : XK} {Q : VK} (h : PostE C S ((x >>= g) S.mu) W Q) :
    PostE C S (x S.mu) W (fun v H' => ∃ S' d, S'.H = H' ∧ Wf C S' ∧ Step S S' ∧ Rep C S' d v ∧ PostE C S' (g d S'.mu) W Q) := by
  rw [M.bind_ap] at h
  cases e : x S.mu with
  | ok d m =>
    rw [e] at h
    intro S' v em w st r
    subst em
    exact ⟨S', d, rfl, w, st, r, h.step st⟩
  | exc c ks ds m => rw [e] at h; exact h
  | stuck => rw [e] at h; exact h
theorem PostE.bindT {S : Ws} {x : M Bool} {g : Bool → M D} {W : XK} {Q : VK} (h : PostE C S ((x >>= g) S.mu) W Q) :
    PostT C S (x S.mu) W (fun b H' => ∃ S', S'.H = H' ∧ Wf C S' ∧ Step S S' ∧ PostE C S' (g b S'.mu) W Q) := by
  rw [M.bind_ap] at h
  cases e : x S.mu with
  | ok d m =>
    rw [e] at h
    intro S' em w st
    subst em
    exact ⟨S', rfl, w, st, h.step st⟩
  | exc c ks ds m => rw [e] at h; exact h
  | stuck => rw [e] at h; exact h
theorem PostE.bindA {S : Ws} {x : M (List D)} {g : List D → M D} {W : XK} {Q : VK} (h : PostE C S ((x >>= g) S.mu) W Q) :
    PostA C S (x S.mu) W (fun vs H' => ∃ S' ds, S'.H = H' ∧ Wf C S' ∧ Step S S' ∧ Reps C S' ds vs ∧ PostE C S' (g ds S'.mu) W Q) := by
  rw [M.bind_ap] at h
  cases e : x S.mu with
  | ok d m =>
    rw [e] at h
    intro S' v em w st r
    subst em
    exact ⟨S', d, rfl, w, st, r, h.step st⟩
  | exc c ks ds m => rw [e] at h; exact h
  | stuck => rw [e] at h; exact h
theorem PostT.step {S S' : Ws} (st : Step S S') {r : R Bool} {W : XK} {Q : Bool → Hp → Prop} (h : PostT C S r W Q) : PostT C S' r W Q := by
  cases r with
  | ok d m => exact fun S2 e w s => h S2 e w (st.trans s)
  | exc c ks ds m => exact fun S2 v e w s r => h S2 v e w (st.trans s) r
  | stuck => exact h
theorem PostA.step {S S' : Ws} (st : Step S S') {r : R (List D)} {W : XK} {Q : List V → Hp → Prop} (h : PostA C S r W Q) : PostA C S' r W Q := by
  cases r with
  | ok d m => exact fun S2 v e w s r => h S2 v e w (st.trans s) r
  | exc c ks ds m => exact fun S2 v e w s r => h S2 v e w (st.trans s) r
  | stuck => exact h
theorem PostT.bind {S : Ws} {x : M D} {g : D → M Bool} {W : XK} {Q : Bool → Hp → Prop} (h : PostT C S ((x >>= g) S.mu) W Q) :
    PostE C S (x S.mu) W (fun v H' => ∃ S' d, S'.H = H' ∧ Wf C S' ∧ Step S S' ∧ Rep C S' d v ∧ PostT C S' (g d S'.mu) W Q) := by
  rw [M.bind_ap] at h
  cases e : x S.mu with
  | ok d m =>
    rw [e] at h
    intro S' v em w st r
    subst em
    exact ⟨S', d, rfl, w, st, r, h.step st⟩
  | exc c ks ds m => rw [e] at h; exact h
  | stuck => rw [e] at h; exact h
theorem PostT.bindT {S : Ws} {x : M Bool} {g : Bool → M Bool} {W : XK} {Q : Bool → Hp → Prop} (h : PostT C S ((x >>= g) S.mu) W Q) :
    PostT C S (x S.mu) W (fun b H' => ∃ S', S'.H = H' ∧ Wf C S' ∧ Step S S' ∧ PostT C S' (g b S'.mu) W Q) := by
  rw [M.bind_ap] at h
  cases e : x S.mu with
  | ok d m =>
    rw [e] at h
    intro S' em w st
    subst em
    exact ⟨S', rfl, w, st, h.step st⟩
  | exc c ks ds m => rw [e] at h; exact h
  | stuck => rw [e] at h; exact h
theorem PostA.bind {S : Ws} {x : M D} {g : D → M (List D)} {W : XK} {Q : List V → Hp → Prop} (h : PostA C S ((x >>= g) S.mu) W Q) :
    PostE C S (x S.mu) W (fun v H' => ∃ S' d, S'.H = H' ∧ Wf C S' ∧ Step S S' ∧ Rep C S' d v ∧ PostA C S' (g d S'.mu) W Q) := by
  rw [M.bind_ap] at h
  cases e : x S.mu with
  | ok d m =>
    rw [e] at h
    intro S' v em w st r
    subst em
    exact ⟨S', d, rfl, w, st, r, h.step st⟩
  | exc c ks ds m => rw [e] at h; exact h
  | stuck => rw [e] at h; exact h
theorem PostA.bindA {S : Ws} {x : M (List D)} {g : List D → M (List D)} {W : XK} {Q : List V → Hp → Prop} (h : PostA C S ((x >>= g) S.mu) W Q) :
    PostA C S (x S.mu) W (fun vs H' => ∃ S' ds, S'.H = H' ∧ Wf C S' ∧ Step S S' ∧ Reps C S' ds vs ∧ PostA C S' (g ds S'.mu) W Q) := by
  rw [M.bind_ap] at h
  cases e : x S.mu with
  | ok d m =>
    rw [e] at h
    intro S' v em w st r
    subst em
    exact ⟨S', d, rfl, w, st, r, h.step st⟩
  | exc c ks ds m => rw [e] at h; exact h
  | stuck => rw [e] at h; exact h
theorem PostE.pure {S : Ws} (w : Wf C S) {d : D} {v : V} {W : XK} {Q : VK} (h : PostE C S (.ok d S.mu) W Q) (r : Rep C S d v) : Q v S.H := h S v rfl w (Step.refl S) r
/-- a new object that stands still is the value -/
theorem PostE.new {S : Ws} (w : Wf C S) {d : D} {p : Addr} {o : HO} {W : XK} {Q : VK} (h : PostE C S (.ok d S.mu) W Q) (hp : S.H p = none) (r : Fx (S.new p o) p o → Rep C (S.new p o) d (.ref p)) : Q (.ref p) (upd S.H p o) :=
  h (S.new p o) _ rfl (w.new hp) (Step.new w hp) (r (Fx.new w hp))

/-! ### the readings -/
def dnE (C : Ct) (f : Env → M D) (W : WX) : TE := fun σ H Q => ∃ r S, S.H = H ∧ Wf C S ∧ SRep C S r σ ∧ PostE C S (f r S.mu) (fun c d H' => W c d σ H') Q
def dnT (C : Ct) (f : Env → M Bool) (W : WX) : TT := fun σ H Q => ∃ r S, S.H = H ∧ Wf C S ∧ SRep C S r σ ∧ PostT C S (f r S.mu) (fun c d H' => W c d σ H') Q
def dnA (C : Ct) (f : Env → M (List D)) (W : WX) : TA := fun σ H Q => ∃ r S, S.H = H ∧ Wf C S ∧ SRep C S r σ ∧ PostA C S (f r S.mu) (fun c d H' => W c d σ H') Q
theorem PEw {X : Cx} {e : PySem.Expr} {t t' : TE} (h : PE X e t) (k : ∀ σ H Q, t' σ H Q → t σ H Q) : PE X e t' := ⟨fun pins s σ H Q I q => h.run pins s σ H Q I (k σ H Q q)⟩
theorem PTw {X : Cx} {e : PySem.Expr} {t t' : TT} (h : PT X e t) (k : ∀ σ H Q, t' σ H Q → t σ H Q) : PT X e t' := ⟨fun pins s σ H Q I q => h.run pins s σ H Q I (k σ H Q q)⟩
theorem PWw {X : Cx} {e : PySem.Expr} {t t' : TT} (h : PW X e t) (k : ∀ σ H Q, t' σ H Q → t σ H Q) : PW X e t' := ⟨fun wh pins s σ H Q I q => h.run wh pins s σ H Q I (k σ H Q q)⟩
theorem PAw {X : Cx} {e : List PySem.Expr} {t t' : TA} (h : PA X e t) (k : ∀ σ H Q, t' σ H Q → t σ H Q) : PA X e t' := ⟨fun pos pins s σ H Q I q => h.run pos pins s σ H Q I (k σ H Q q)⟩
theorem PSw {X : Cx} {e : PySem.Stmt} {t t' : TS} (h : PS X e t) (k : ∀ D σ H, t' D σ H → t D σ H) : PS X e t' := ⟨fun pins s σ H D I q => h.run pins s σ H D I (k D σ H q)⟩
theorem PSsw {X : Cx} {e : List PySem.Stmt} {t t' : TS} (h : PSs X e t) (k : ∀ D σ H, t' D σ H → t D σ H) : PSs X e t' := ⟨fun pins s σ H D I q => h.run pins s σ H D I (k D σ H q)⟩
end Fs

/-! FsB: operators on data, each with its lemma to the hand layer's reading by values. -/
namespace Fs
open PySem PySem.Spec PyProof.Rows L2

theorem toS_len (x : List Char) : (toS x).length = x.length := by
  show ((x.map Char.toNat).toArray).size = x.length
  simp
theorem toS_cps (x : List Char) : (toS x).cps.toList = x.map Char.toNat := by simp [toS]
theorem toS_app (x y : List Char) : toS x ++ toS y = toS (x ++ y) := by
  show (⟨(x.map Char.toNat).toArray ++ (y.map Char.toNat).toArray⟩ : Str) = ⟨((x ++ y).map Char.toNat).toArray⟩
  simp
theorem chr_inj {a b : Char} (h : a.toNat = b.toNat) : a = b := Char.ext (UInt32.toNat_inj.mp h)
theorem map_chr_inj : ∀ {x y : List Char}, x.map Char.toNat = y.map Char.toNat → x = y
  | [], [], _ => rfl
  | [], _ :: _, h => by simp at h
  | _ :: _, [], h => by simp at h
  | a :: x, b :: y, h => by
    simp only [List.map_cons, List.cons.injEq] at h
    rw [chr_inj h.1, map_chr_inj h.2]
theorem toS_inj {x y : List Char} (h : toS x = toS y) : x = y := by
  have e : (toS x).cps.toList = (toS y).cps.toList := by rw [h]
  rw [toS_cps, toS_cps] at e
  exact map_chr_inj e
theorem small16 {n : Nat} (h : n ≤ 16) : n ≤ sizeLine := Nat.le_trans h (by decide)

/-! ### reading lists -/
def readL (m : Store) : D → Option (List D)
  | .lst ds => some ds
  | .obj n => match m[n]? with
    | some (.lst ds) => some ds
    | _ => none
  | _ => none
def readQ (m : Store) : D → Option (List D)
  | .tup ds => some ds
  | .wtp ds => some ds
  | d => readL m d
section
variable {C : Ct} {S : Ws}
theorem readL_rep (w : Wf C S) {d : D} {v : V} {ds : List D} (h : readL S.mu d = some ds) (r : Rep C S d v) : ∃ a vs, v = .ref a ∧ S.H a = some (.lst vs) ∧ ds.length ≤ sizeLine ∧ Reps C S ds vs := by
  cases d with
  | lst es =>
    simp only [readL, Option.some.injEq] at h
    subst h
    simp only [Rep] at r
    obtain ⟨a, vs, e, f, l, q⟩ := r
    exact ⟨a, vs, e, f.1, l, q⟩
  | obj n =>
    simp only [readL] at h
    simp only [Rep] at r
    obtain ⟨a, ha, e⟩ := r
    cases q : S.mu[n]? with
    | none => rw [q] at h; cases h
    | some c =>
      rw [q] at h
      cases c with
      | lst es =>
        simp only [Option.some.injEq] at h
        subst h
        obtain ⟨vs, h1, l, h2⟩ := w.cell n _ a q ha
        exact ⟨a, vs, e, h1, l, h2⟩
      | _ => cases h
  | _ => simp [readL] at h
theorem rep_tup {ds : List D} {v : V} (r : Rep C S (.tup ds) v) : ∃ a vs, v = .ref a ∧ SqT C.K S.H a vs ∧ ds.length ≤ sizeLine ∧ Reps C S ds vs := by
  simp only [Rep] at r
  obtain ⟨a, vs, e, f, l, q⟩ := r
  exact ⟨a, vs, e, .inl (.inl f.1), l, q⟩
theorem rep_wtp {ds : List D} {v : V} (r : Rep C S (.wtp ds) v) : ∃ a vs, v = .ref a ∧ SqT C.K S.H a vs ∧ ds.length ≤ sizeLine ∧ Reps C S ds vs := by
  simp only [Rep] at r
  obtain ⟨a, vs, e, f, l, q⟩ := r
  exact ⟨a, vs, e, .inr f, l, q⟩
theorem readQ_rep (w : Wf C S) {d : D} {v : V} {ds : List D} (h : readQ S.mu d = some ds) (r : Rep C S d v) : ∃ a vs, v = .ref a ∧ (SqL C.K S.H a vs ∨ SqT C.K S.H a vs) ∧ ds.length ≤ sizeLine ∧ Reps C S ds vs := by
  cases d with
  | tup es =>
    simp only [readQ, Option.some.injEq] at h
    subst h
    obtain ⟨a, vs, e, f, l, q⟩ := rep_tup r
    exact ⟨a, vs, e, .inr f, l, q⟩
  | wtp es =>
    simp only [readQ, Option.some.injEq] at h
    subst h
    obtain ⟨a, vs, e, f, l, q⟩ := rep_wtp r
    exact ⟨a, vs, e, .inr f, l, q⟩
  | _ =>
    simp only [readQ] at h
    obtain ⟨a, vs, e, f, l, q⟩ := readL_rep w h r
    exact ⟨a, vs, e, .inl (SqL.of f), l, q⟩
theorem rep_int {i : Int} {v : V} : Rep C S (.int i) v ↔ v = .int i := by simp only [Rep]
theorem rep_bl {i : Bool} {v : V} : Rep C S (.bl i) v ↔ v = .bl i := by simp only [Rep]
theorem rep_non {v : V} : Rep C S .non v ↔ v = .non := by simp only [Rep]
theorem rep_str {x : List Char} {v : V} : Rep C S (.str x) v ↔ v = .str (toS x) ∧ x.length ≤ sizeLine := by simp only [Rep]
theorem rep_lst {ds : List D} {v : V} : Rep C S (.lst ds) v ↔ ∃ a vs, v = .ref a ∧ Fx S a (.lst vs) ∧ ds.length ≤ sizeLine ∧ Reps C S ds vs := by simp only [Rep]
theorem rep_lst_new {p : Addr} {vs : List V} {ds : List D} (f : Fx S p (.lst vs)) (l : ds.length ≤ sizeLine) (r : Reps C S ds vs) : Rep C S (.lst ds) (.ref p) := by
  simp only [Rep]; exact ⟨p, vs, rfl, f, l, r⟩
theorem rep_tup_new {p : Addr} {vs : List V} {ds : List D} (f : Fx S p (.tup vs)) (l : ds.length ≤ sizeLine) (r : Reps C S ds vs) : Rep C S (.tup ds) (.ref p) := by
  simp only [Rep]; exact ⟨p, vs, rfl, f, l, r⟩
/-- the end: a new list, a new tuple -/
theorem PostE.newL (w : Wf C S) {ds : List D} {vs : List V} {p : Addr} {W : XK} {Q : VK} (h : PostE C S (.ok (.lst ds) S.mu) W Q) (hp : S.H p = none) (l : ds.length ≤ sizeLine) (r : Reps C S ds vs) : Q (.ref p) (upd S.H p (.lst vs)) :=
  h.new w hp fun f => rep_lst_new f l (r.mono (Step.new w hp))
theorem PostE.newT (w : Wf C S) {ds : List D} {vs : List V} {p : Addr} {W : XK} {Q : VK} (h : PostE C S (.ok (.tup ds) S.mu) W Q) (hp : S.H p = none) (l : ds.length ≤ sizeLine) (r : Reps C S ds vs) : Q (.ref p) (upd S.H p (.tup vs)) :=
  h.new w hp fun f => rep_tup_new f l (r.mono (Step.new w hp))
/-- the end: a new cell -/
theorem PostE.newCell (w : Wf C S) {ds : List D} {vs : List V} {p : Addr} {W : XK} {Q : VK} (h : PostE C S (.ok (.obj S.mu.length) (S.mu ++ [.lst ds])) W Q) (hp : S.H p = none) (l : ds.length ≤ sizeLine) (r : Reps C S ds vs) : Q (.ref p) (upd S.H p (.lst vs)) := by
  have st := Step.cell (o := .lst vs) (c := .lst ds) w hp
  refine h (S.cell p (.lst vs) (.lst ds)) _ rfl (w.cell' hp ⟨vs, upd_same, l, r.mono st⟩) st ?_
  simp only [Rep]
  refine ⟨p, ?_, rfl⟩
  show (S.ad ++ [p])[S.mu.length]? = _
  rw [← w.len]; simp
end

/-! ### binary operators -/
inductive Bop where
  | add | sub | mul | mod | fdv | pow | shl | bor | band
  deriving DecidableEq
def Bop.op : Bop → Operator
  | .add => .Add | .sub => .Sub | .mul => .Mult | .mod => .Mod | .fdv => .FloorDiv | .pow => .Pow | .shl => .LShift | .bor => .BitOr | .band => .BitAnd

/-- the operator of two lists | two tuples, else stuck -/
def catM (a b : D) : M D := fun m =>
  match a, b with
  | .tup x, .tup y => if x.length + y.length ≤ sizeLine then .ok (.tup (x ++ y)) m else .stuck
  | a, b => match readL m a, readL m b with
    | some x, some y => if x.length + y.length ≤ sizeLine then .ok (.lst (x ++ y)) m else .stuck
    | _, _ => .stuck
def addM (a b : D) : M D := fun m =>
  match a, b with
  | .int i, .int j => .ok (.int (i + j)) m
  | .str x, .str y => if x.length + y.length ≤ sizeLine then .ok (.str (x ++ y)) m else .stuck
  | a, b => catM a b m
def rAddA (K : PySem.W.Frag) : R2 := fun x y H Q =>
  (∃ i j, x = .int i ∧ y = .int j ∧ Q (.int (i + j)) H) ∨ (∃ i j, x = .str i ∧ y = .str j ∧ i.length + j.length ≤ sizeLine ∧ Q (.str (i ++ j)) H) ∨ rCatA K x y H Q ∨ rCat x y H Q
theorem op_addA {X : Cx} : OpR X (binaryOp .Add) (rAddA X.K) := op_add.or (op_add_str.or (op_catA.or op_cat))
section
variable {C : Ct} {S : Ws} {a b : D} {x y : V} {W : XK} {Q : VK}
theorem cat_ok (w : Wf C S) (ra : Rep C S a x) (rb : Rep C S b y) (h : PostE C S (catM a b S.mu) W Q) : rCatA C.K x y S.H Q ∨ rCat x y S.H Q := by
  unfold catM at h
  split at h
  · rename_i x1 y1
    split at h
    · rename_i hl
      left
      obtain ⟨a1, vs1, e1, f1, l1, q1⟩ := rep_tup ra
      obtain ⟨a2, vs2, e2, f2, l2, q2⟩ := rep_tup rb
      subst e1; subst e2
      refine ⟨a1, a2, vs1, vs2, rfl, rfl, f1, f2, by rw [← q1.len, ← q2.len]; exact hl, fun z => ?_, fun z1 z2 => ?_, fun z1 z2 p hp => ?_⟩
      · have e : x1 = [] := by
          have := q1.len; rw [z] at this; exact List.length_eq_zero_iff.mp this
        subst e
        exact h S _ rfl w (Step.refl S) rb
      · have e : y1 = [] := by
          have := q2.len; rw [z2] at this; exact List.length_eq_zero_iff.mp this
        subst e
        refine h S _ rfl w (Step.refl S) ?_
        rw [List.append_nil]; exact ra
      · exact h.newT w hp (by rw [List.length_append]; exact hl) (q1.append q2)
    · exact h.elim
  · split at h
    · rename_i x1 y1 h1 h2
      split at h
      · rename_i hl
        right
        obtain ⟨a1, vs1, e1, f1, l1, q1⟩ := readL_rep w h1 ra
        obtain ⟨a2, vs2, e2, f2, l2, q2⟩ := readL_rep w h2 rb
        subst e1; subst e2
        exact ⟨a1, a2, vs1, vs2, rfl, rfl, f1, f2, by rw [← q1.len, ← q2.len]; exact hl, fun p hp => h.newL w hp (by rw [List.length_append]; exact hl) (q1.append q2)⟩
      · exact h.elim
    · exact h.elim
theorem add_ok (w : Wf C S) (ra : Rep C S a x) (rb : Rep C S b y) (h : PostE C S (addM a b S.mu) W Q) : rAddA C.K x y S.H Q := by
  unfold addM at h
  split at h
  · rename_i i j
    rw [rep_int] at ra rb
    exact .inl ⟨i, j, ra, rb, h.pure w (rep_int.mpr rfl)⟩
  · rename_i i j
    split at h
    · rename_i hl
      rw [rep_str] at ra rb
      refine .inr (.inl ⟨_, _, ra.1, rb.1, ?_, ?_⟩)
      · rw [toS_len, toS_len]; exact hl
      · rw [toS_app]; exact h.pure w (rep_str.mpr ⟨rfl, by rw [List.length_append]; exact hl⟩)
    · exact h.elim
  · rcases cat_ok w ra rb h with z | z
    · exact .inr (.inr (.inl z))
    · exact .inr (.inr (.inr z))
end
end Fs

/-! FsC: further operators, comparisons, subscripts, slices, truth, length. -/
namespace Fs
open PySem PySem.Spec PyProof.Rows L2

/-! ### data as the library tells it -/
mutual
def toP : D → PyData
  | .non => .none
  | .bl b => .bool b
  | .int i => .int i
  | .str x => .str (toS x)
  | .lst ds => .list (toPs ds)
  | .tup ds => .tuple (toPs ds)
  | .wtp ds => .tuple (toPs ds)
  | _ => .dict []
def toPs : List D → List PyData
  | [] => []
  | d :: ds => toP d :: toPs ds
end
/- data without objects, dicts, sets -/
mutual
def plain : D → Bool
  | .non => true
  | .bl b => true
  | .int i => true
  | .str x => true
  | .lst ds => plains ds
  | .tup ds => plains ds
  | .wtp ds => plains ds
  | _ => false
def plains : List D → Bool
  | [] => true
  | d :: ds => plain d && plains ds
end
mutual
def dep : D → Nat
  | .lst ds => deps ds + 1
  | .tup ds => deps ds + 1
  | .wtp ds => deps ds + 1
  | _ => 0
def deps : List D → Nat
  | [] => 0
  | d :: ds => max (dep d) (deps ds)
end
/- == of data -/
mutual
def eqD : D → D → Bool
  | .non, .non => true
  | .bl a, .bl b => a == b
  | .bl a, .int j => (if a then 1 else 0) == j
  | .int i, .bl b => i == (if b then 1 else 0)
  | .int i, .int j => i == j
  | .str x, .str y => x == y
  | .lst xs, .lst ys => eqDs xs ys
  | .tup xs, .tup ys => eqDs xs ys
  | .tup xs, .wtp ys => eqDs xs ys
  | .wtp xs, .tup ys => eqDs xs ys
  | .wtp xs, .wtp ys => eqDs xs ys
  | _, _ => false
def eqDs : List D → List D → Bool
  | [], [] => true
  | x :: xs, y :: ys => eqD x y && eqDs xs ys
  | _, _ => false
end
theorem toS_beq (x y : List Char) : (toS x == toS y) = (x == y) := by
  by_cases h : x = y
  · subst h; simp
  · have : ¬ toS x = toS y := fun e => h (toS_inj e)
    rw [beq_eq_false_iff_ne.mpr h, beq_eq_false_iff_ne.mpr this]
mutual
theorem eqD_toP : ∀ {a b : D}, plain a = true → plain b = true → PyData.eqv (toP a) (toP b) = eqD a b
  | .non, b, h, k => by cases b <;> simp_all [plain, toP, PyData.eqv, eqD]
  | .bl x, b, h, k => by cases b <;> simp_all [plain, toP, PyData.eqv, eqD]
  | .int x, b, h, k => by cases b <;> simp_all [plain, toP, PyData.eqv, eqD]
  | .str x, b, h, k => by cases b <;> simp_all [plain, toP, PyData.eqv, eqD, toS_beq]
  | .lst x, b, h, k => by
    simp only [plain] at h
    cases b with
    | lst y => simp only [plain] at k; simp only [toP, PyData.eqv, eqD]; exact eqDs_toP h k
    | _ => simp_all [plain, toP, PyData.eqv, eqD]
  | .tup x, b, h, k => by
    simp only [plain] at h
    cases b with
    | tup y => simp only [plain] at k; simp only [toP, PyData.eqv, eqD]; exact eqDs_toP h k
    | wtp y => simp only [plain] at k; simp only [toP, PyData.eqv, eqD]; exact eqDs_toP h k
    | _ => simp_all [plain, toP, PyData.eqv, eqD]
  | .wtp x, b, h, k => by
    simp only [plain] at h
    cases b with
    | tup y => simp only [plain] at k; simp only [toP, PyData.eqv, eqD]; exact eqDs_toP h k
    | wtp y => simp only [plain] at k; simp only [toP, PyData.eqv, eqD]; exact eqDs_toP h k
    | _ => simp_all [plain, toP, PyData.eqv, eqD]
  | .frz _, b, h, k => by simp [plain] at h
  | .set _, b, h, k => by simp [plain] at h
  | .dct _ _ _, b, h, k => by simp [plain] at h
  | .ins _ _ _, b, h, k => by simp [plain] at h
  | .obj _, b, h, k => by simp [plain] at h
  | .fn _, b, h, k => by simp [plain] at h
theorem eqDs_toP : ∀ {a b : List D}, plains a = true → plains b = true → PyData.eqvAll (toPs a) (toPs b) = eqDs a b
  | [], [], _, _ => by simp [toPs, PyData.eqvAll, eqDs]
  | [], _ :: _, _, _ => by simp [toPs, PyData.eqvAll, eqDs]
  | _ :: _, [], _, _ => by simp [toPs, PyData.eqvAll, eqDs]
  | x :: xs, y :: ys, h, k => by
    simp only [plains, Bool.and_eq_true] at h k
    simp only [toPs, PyData.eqvAll, eqDs]
    rw [eqD_toP h.1 k.1, eqDs_toP h.2 k.2]
end
theorem strOk_toS (x : List Char) : PyData.strOk (toS x) = true := by
  simp only [PyData.strOk, toS, List.all_toArray, List.all_map, List.all_eq_true, Function.comp, decide_eq_true_eq]
  intro c _
  have h := c.valid
  unfold UInt32.isValidChar Nat.isValidChar at h
  have e : c.toNat = c.val.toNat := rfl
  omega
mutual
theorem lay_toP : ∀ {a : D}, plain a = true → (toP a).canLay0 = true
  | .non, h => by simp [toP, PyData.canLay0]
  | .bl x, h => by simp [toP, PyData.canLay0]
  | .int x, h => by simp [toP, PyData.canLay0]
  | .str x, h => by simp only [toP, PyData.canLay0]; exact strOk_toS x
  | .lst x, h => by simp only [plain] at h; simp only [toP, PyData.canLay0]; exact lay_toPs h
  | .tup x, h => by simp only [plain] at h; simp only [toP, PyData.canLay0]; exact lay_toPs h
  | .wtp x, h => by simp only [plain] at h; simp only [toP, PyData.canLay0]; exact lay_toPs h
  | .frz _, h => by simp [plain] at h
  | .set _, h => by simp [plain] at h
  | .dct _ _ _, h => by simp [plain] at h
  | .ins _ _ _, h => by simp [plain] at h
  | .obj _, h => by simp [plain] at h
  | .fn _, h => by simp [plain] at h
theorem lay_toPs : ∀ {a : List D}, plains a = true → PyData.canLayAll0 (toPs a) = true
  | [], _ => by simp [toPs, PyData.canLayAll0]
  | x :: xs, h => by
    simp only [plains, Bool.and_eq_true] at h
    simp only [toPs, PyData.canLayAll0, Bool.and_eq_true]
    exact ⟨lay_toP h.1, lay_toPs h.2⟩
end
mutual
theorem dep_toP : ∀ {a : D}, plain a = true → (toP a).depth = dep a
  | .non, h => by simp [toP, PyData.depth, dep]
  | .bl x, h => by simp [toP, PyData.depth, dep]
  | .int x, h => by simp [toP, PyData.depth, dep]
  | .str x, h => by simp [toP, PyData.depth, dep]
  | .lst x, h => by simp only [plain] at h; simp only [toP, PyData.depth, dep]; rw [dep_toPs h]; try omega
  | .tup x, h => by simp only [plain] at h; simp only [toP, PyData.depth, dep]; rw [dep_toPs h]; try omega
  | .wtp x, h => by simp only [plain] at h; simp only [toP, PyData.depth, dep]; rw [dep_toPs h]; try omega
  | .frz _, h => by simp [plain] at h
  | .set _, h => by simp [plain] at h
  | .dct _ _ _, h => by simp [plain] at h
  | .ins _ _ _, h => by simp [plain] at h
  | .obj _, h => by simp [plain] at h
  | .fn _, h => by simp [plain] at h
theorem dep_toPs : ∀ {a : List D}, plains a = true → PyData.depthAll (toPs a) = deps a
  | [], _ => by simp [toPs, PyData.depthAll, deps]
  | x :: xs, h => by
    simp only [plains, Bool.and_eq_true] at h
    simp only [toPs, PyData.depthAll, deps]
    rw [dep_toP h.1, dep_toPs h.2]
end
theorem shaped_toP {a : D} (h : plain a = true) (k : dep a ≤ 64) : SeqAt.shaped (toP a) = true := by
  unfold SeqAt.shaped
  rw [lay_toP h, dep_toP h]
  simpa using k
section
variable {C : Ct} {S : Ws}
mutual
theorem Rep.dp : ∀ {d : D} {v : V}, plain d = true → Rep C S d v → Dp C.K S.H v (toP d)
  | .non, v, h, r => by simp only [Rep] at r; subst r; simp only [toP]; exact .non
  | .bl x, v, h, r => by simp only [Rep] at r; subst r; simp only [toP]; exact .bl x
  | .int x, v, h, r => by simp only [Rep] at r; subst r; simp only [toP]; exact .int x
  | .str x, v, h, r => by simp only [Rep] at r; rw [r.1]; simp only [toP]; exact .str _
  | .lst ds, v, h, r => by
    simp only [plain] at h
    simp only [Rep] at r
    obtain ⟨a, vs, e, f, l, q⟩ := r
    subst e; simp only [toP]
    exact .lst (SqL.of f.1) (Reps.dp h q)
  | .tup ds, v, h, r => by
    simp only [plain] at h
    obtain ⟨a, vs, e, f, l, q⟩ := rep_tup r
    subst e; simp only [toP]
    exact .tup f (Reps.dp h q)
  | .wtp ds, v, h, r => by
    simp only [plain] at h
    obtain ⟨a, vs, e, f, l, q⟩ := rep_wtp r
    subst e; simp only [toP]
    exact .tup f (Reps.dp h q)
  | .frz _, _, h, _ => by simp [plain] at h
  | .set _, _, h, _ => by simp [plain] at h
  | .dct _ _ _, _, h, _ => by simp [plain] at h
  | .ins _ _ _, _, h, _ => by simp [plain] at h
  | .obj _, _, h, _ => by simp [plain] at h
  | .fn _, _, h, _ => by simp [plain] at h
theorem Reps.dp : ∀ {ds : List D} {vs : List V}, plains ds = true → Reps C S ds vs → DpAll C.K S.H vs (toPs ds)
  | [], vs, h, r => by simp only [Reps] at r; subst r; simp only [toPs]; exact .nil
  | d :: ds, vs, h, r => by
    simp only [Reps] at r
    obtain ⟨v, vs', e, r1, r2⟩ := r
    subst e
    simp only [plains, Bool.and_eq_true] at h
    simp only [toPs]
    exact .cons (Rep.dp h.1 r1) (Reps.dp h.2 r2)
end
end
/-- a mutable list read as it stands -/
def deref (m : Store) : D → D
  | .obj n => match m[n]? with
    | some (.lst ds) => .lst ds
    | _ => .obj n
  | d => d
section
variable {C : Ct} {S : Ws}
theorem deref_dp (w : Wf C S) {d : D} {v : V} (h : plain (deref S.mu d) = true) (r : Rep C S d v) : Dp C.K S.H v (toP (deref S.mu d)) := by
  cases d with
  | obj n =>
    have r0 := r
    simp only [Rep] at r
    obtain ⟨a, ha, e⟩ := r
    simp only [deref] at h ⊢
    cases q : S.mu[n]? with
    | none => rw [q] at h; simp [plain] at h
    | some c =>
      rw [q] at h
      cases c with
      | lst ds =>
        simp only [plain] at h ⊢
        obtain ⟨vs, h1, l, h2⟩ := w.cell n _ a q ha
        subst e
        simp only [toP]
        exact .lst (SqL.of h1) (Reps.dp h h2)
      | _ => simp [plain] at h
  | _ => exact Rep.dp h r
end
def flatD : D → Bool
  | .non => true
  | .bl _ => true
  | .int _ => true
  | .str _ => true
  | _ => false
theorem flat_rep {C : Ct} {S : Ws} {d : D} {v : V} (h : flatD d = true) (r : Rep C S d v) : flatV v = true := by
  cases d <;> simp_all [flatD, Rep, flatV]
theorem flat_eq {C : Ct} {S : Ws} {d e : D} {v u : V} (h : flatD d = true) (k : flatD e = true) (r : Rep C S d v) (q : Rep C S e u) : eqV v u = eqD d e := by
  cases d <;> cases e <;> simp_all [flatD, Rep, eqV, eqD, toS_beq]
theorem flats_rep {C : Ct} {S : Ws} : ∀ {ds : List D} {vs : List V}, ds.all flatD = true → Reps C S ds vs → vs.all flatV = true
  | [], vs, h, r => by simp only [Reps] at r; subst r; rfl
  | d :: ds, vs, h, r => by
    simp only [Reps] at r
    obtain ⟨v, vs', e, r1, r2⟩ := r
    subst e
    simp only [List.all_cons, Bool.and_eq_true] at h ⊢
    exact ⟨flat_rep h.1 r1, flats_rep h.2 r2⟩
theorem flats_in {C : Ct} {S : Ws} {d : D} {v : V} (k : flatD d = true) (q : Rep C S d v) : ∀ {ds : List D} {vs : List V}, ds.all flatD = true → Reps C S ds vs → inV v vs = ds.any fun e => eqD e d
  | [], vs, h, r => by simp only [Reps] at r; subst r; rfl
  | e :: ds, vs, h, r => by
    simp only [Reps] at r
    obtain ⟨u, vs', z, r1, r2⟩ := r
    subst z
    simp only [List.all_cons, Bool.and_eq_true] at h
    have ih := flats_in k q h.2 r2
    unfold inV at ih ⊢
    rw [List.any_cons, List.any_cons, ih, flat_eq h.1 k r1 q]
theorem toPs_any {d : D} (k : plain d = true) : ∀ {ds : List D}, plains ds = true → (toPs ds).any (fun z => PyData.eqv z (toP d)) = ds.any fun e => eqD e d
  | [], _ => rfl
  | e :: ds, h => by
    simp only [plains, Bool.and_eq_true] at h
    simp only [toPs, List.any_cons]
    rw [eqD_toP h.1 k, toPs_any k h.2]

/-! ### comparisons -/
inductive Cop where
  | eq | ne | lt | le | gt | ge | is | isnt | in_ | nin
  deriving DecidableEq
def Cop.op : Cop → CmpOp
  | .eq => .Eq | .ne => .NotEq | .lt => .Lt | .le => .LtE | .gt => .Gt | .ge => .GtE | .is => .Is | .isnt => .IsNot | .in_ => .In | .nin => .NotIn
/-- order of texts -/
def ltT (x y : List Char) : Bool := decide (x.map Char.toNat < y.map Char.toNat)
def isNonD : D → Bool
  | .non => true
  | _ => false
def eqM (a b : D) : M Bool := fun m =>
  let a := deref m a; let b := deref m b
  if plain a = true ∧ plain b = true ∧ dep a ≤ 64 ∧ dep b ≤ 64 then .ok (eqD a b) m else .stuck
def keyK (ks : List D) : List (Option Key) := ks.map dKey
/-- the place of a key -/
def findK (ks : List D) (d : D) : Option Nat := match dKey d with
  | some k => (ks.map dKey).idxOf? (some k)
  | none => none
def inM (a b : D) : M Bool := fun m =>
  match b with
  | .str y => match a with
    | .str [c] => .ok (decide (c ∈ y)) m
    | _ => .stuck
  | .tup ds => if flatD a = true ∧ ds.all flatD = true then .ok (ds.any fun e => eqD e a) m else .stuck
  | .wtp ds => if flatD a = true ∧ ds.all flatD = true then .ok (ds.any fun e => eqD e a) m else .stuck
  | b => match readL m b with
    | some ds => if plain a = true ∧ plains ds = true ∧ dep a ≤ 64 ∧ deps ds < 64 then .ok (ds.any fun e => eqD e a) m else .stuck
    | none => .stuck
def cmpM (o : Cop) (a b : D) : M Bool := fun m =>
  match o with
  | .eq => eqM a b m
  | .ne => match eqM a b m with
    | .ok c m' => .ok (!c) m'
    | _ => .stuck
  | .in_ => inM a b m
  | .nin => match inM a b m with
    | .ok c m' => .ok (!c) m'
    | _ => .stuck
  | .is => match b with
    | .non => .ok (isNonD a) m
    | _ => .stuck
  | .isnt => match b with
    | .non => .ok (!isNonD a) m
    | _ => .stuck
  | .lt => match a, b with
    | .int i, .int j => .ok (decide (i < j)) m
    | .str x, .str y => .ok (ltT x y) m
    | _, _ => .stuck
  | .le => match a, b with
    | .int i, .int j => .ok (decide (i ≤ j)) m
    | .str x, .str y => .ok (!ltT y x) m
    | _, _ => .stuck
  | .gt => match a, b with
    | .int i, .int j => .ok (decide (j < i)) m
    | .str x, .str y => .ok (ltT y x) m
    | _, _ => .stuck
  | .ge => match a, b with
    | .int i, .int j => .ok (decide (j ≤ i)) m
    | .str x, .str y => .ok (!ltT x y) m
    | _, _ => .stuck
def rCmp (K : PySem.W.Frag) (o : Cop) : R2 :=
  match o with
  | .eq => rEqD K
  | .ne => rNeD K
  | .is => fun x y H Q => y = .non ∧ Q (.bl (decide (x = .non))) H
  | .isnt => fun x y H Q => y = .non ∧ Q (.bl (!decide (x = .non))) H
  | .lt => fun x y H Q => rI0 (fun i j => .bl (decide (i < j))) x y H Q ∨ (∃ i j, x = .str i ∧ y = .str j ∧ Q (.bl (decide (i.cps.toList < j.cps.toList))) H)
  | .le => fun x y H Q => rI0 (fun i j => .bl (decide (i ≤ j))) x y H Q ∨ (∃ i j, x = .str i ∧ y = .str j ∧ Q (.bl (!decide (j.cps.toList < i.cps.toList))) H)
  | .gt => fun x y H Q => rI0 (fun i j => .bl (decide (j < i))) x y H Q ∨ (∃ i j, x = .str i ∧ y = .str j ∧ Q (.bl (decide (j.cps.toList < i.cps.toList))) H)
  | .ge => fun x y H Q => rI0 (fun i j => .bl (decide (j ≤ i))) x y H Q ∨ (∃ i j, x = .str i ∧ y = .str j ∧ Q (.bl (!decide (i.cps.toList < j.cps.toList))) H)
  | .in_ => fun x y H Q => (∃ (c : Nat) (z : Str), x = .str ⟨#[c]⟩ ∧ y = .str z ∧ Q (.bl (decide (c ∈ z.cps.toList))) H) ∨ rIn K false x y H Q ∨ rInD K x y H Q
  | .nin => fun x y H Q => (∃ (c : Nat) (z : Str), x = .str ⟨#[c]⟩ ∧ y = .str z ∧ Q (.bl (!decide (c ∈ z.cps.toList))) H) ∨ rIn K true x y H Q ∨ rNotInD K x y H Q
theorem op_cmpA {X : Cx} (hu : X.A.units + 65 < cLine) (o : Cop) : OpR X (compareOp o.op) (rCmp X.K o) := by
  have hu' : X.A.units + 64 < cLine := by omega
  cases o with
  | eq => exact op_eqD hu'
  | ne => exact op_neD hu'
  | is => exact op_isN
  | isnt => exact op_notN
  | lt => exact op_lt.or op_lt_str
  | le => exact op_le.or op_le_str
  | gt => exact op_gt.or op_gt_str
  | ge => exact op_ge.or op_ge_str
  | in_ => exact op_in_sign.or (op_in_seq.or (op_inD hu))
  | nin => exact op_notIn_sign.or (op_notIn_seq.or (op_notInD hu))
/-- a truth value and a heap as a value's post -/
def bQ (Q : Bool → Hp → Prop) : VK := fun v H => ∃ k, v = .bl k ∧ Q k H
section
variable {C : Ct} {S : Ws} {a b : D} {x y : V} {W : XK} {Q : Bool → Hp → Prop}
theorem PostT.pure (w : Wf C S) {k : Bool} (h : PostT C S (.ok k S.mu) W Q) : Q k S.H := h S rfl w (Step.refl S)
theorem eq_core (w : Wf C S) (ra : Rep C S a x) (rb : Rep C S b y) {Q' : Bool → Hp → Prop} (h : ∀ c, eqM a b S.mu = .ok c S.mu → Q' c S.H) (hs : eqM a b S.mu ≠ .stuck) :
    ∃ d e, Dp C.K S.H x d ∧ Dp C.K S.H y e ∧ SeqAt.shaped d = true ∧ SeqAt.shaped e = true ∧ Q' (PyData.eqv d e) S.H := by
  unfold eqM at h hs
  simp only at h hs
  split at hs
  · rename_i z
    obtain ⟨p1, p2, d1, d2⟩ := z
    refine ⟨_, _, deref_dp w p1 ra, deref_dp w p2 rb, shaped_toP p1 d1, shaped_toP p2 d2, ?_⟩
    rw [eqD_toP p1 p2]
    exact h _ (if_pos ⟨p1, p2, d1, d2⟩)
  · exact absurd rfl hs
theorem eqM_ok (a b : D) (m : Store) : eqM a b m = .stuck ∨ ∃ c, eqM a b m = .ok c m := by
  unfold eqM
  simp only
  split
  · exact .inr ⟨_, rfl⟩
  · exact .inl rfl
theorem in_core (w : Wf C S) (ra : Rep C S a x) (rb : Rep C S b y) {Qb : Bool → Hp → Prop} {neg : Bool} (h : ∀ c, inM a b S.mu = .ok c S.mu → Qb (if neg then !c else c) S.H) (hs : inM a b S.mu ≠ .stuck) :
    (∃ (c : Nat) (z : Str), x = .str ⟨#[c]⟩ ∧ y = .str z ∧ Qb (if neg then !decide (c ∈ z.cps.toList) else decide (c ∈ z.cps.toList)) S.H) ∨ rIn C.K neg x y S.H (bQ Qb) ∨
      (∃ d ds, Dp C.K S.H x d ∧ Dp C.K S.H y (.list ds) ∧ SeqAt.shaped d = true ∧ SeqAt.shaped (.list ds) = true ∧ Qb (if neg then !ds.any fun z => PyData.eqv z d else ds.any fun z => PyData.eqv z d) S.H) := by
  unfold inM at h hs
  split at hs
  · rename_i y1
    split at hs
    · rename_i c
      left
      rw [rep_str] at ra rb
      refine ⟨c.toNat, toS y1, ?_, rb.1, ?_⟩
      · rw [ra.1]; simp [toS]
      · have e : decide (c.toNat ∈ (toS y1).cps.toList) = decide (c ∈ y1) := by
          rw [toS_cps]
          refine decide_eq_decide.mpr ⟨fun q => ?_, fun q => List.mem_map.mpr ⟨c, q, rfl⟩⟩
          obtain ⟨c', h1, h2⟩ := List.mem_map.mp q
          rw [← chr_inj h2]; exact h1
        rw [e]
        exact h _ rfl
    · exact absurd rfl hs
  · rename_i ds
    split at hs
    · rename_i z
      right; left
      obtain ⟨p, vs, e, f, l, q⟩ := rep_tup rb
      refine ⟨p, vs, e, .inr f, flat_rep z.1 ra, flats_rep z.2 q, _, rfl, ?_⟩
      rw [flats_in z.1 ra z.2 q]
      exact h _ (if_pos z)
    · exact absurd rfl hs
  · rename_i ds
    split at hs
    · rename_i z
      right; left
      obtain ⟨p, vs, e, f, l, q⟩ := rep_wtp rb
      refine ⟨p, vs, e, .inr f, flat_rep z.1 ra, flats_rep z.2 q, _, rfl, ?_⟩
      rw [flats_in z.1 ra z.2 q]
      exact h _ (if_pos z)
    · exact absurd rfl hs
  · split at hs
    · rename_i ds hd
      split at hs
      · rename_i z
        right; right
        obtain ⟨p, vs, e, f, l, q⟩ := readL_rep w hd rb
        obtain ⟨p1, p2, d1, d2⟩ := z
        subst e
        refine ⟨toP a, toPs ds, Rep.dp p1 ra, .lst (SqL.of f) (Reps.dp p2 q), shaped_toP p1 d1, ?_, ?_⟩
        · have : SeqAt.shaped (toP (.lst ds)) = true := shaped_toP (by simp only [plain]; exact p2) (by simp only [dep]; omega)
          simpa only [toP] using this
        · rw [toPs_any p1 p2]
          have := h (ds.any fun e => eqD e a) (by simp only [hd]; exact if_pos ⟨p1, p2, d1, d2⟩)
          exact this
      · exact absurd rfl hs
    · exact absurd rfl hs
theorem inM_ok (a b : D) (m : Store) : inM a b m = .stuck ∨ ∃ c, inM a b m = .ok c m := by
  unfold inM
  split
  · split
    · exact .inr ⟨_, rfl⟩
    · exact .inl rfl
  · split
    · exact .inr ⟨_, rfl⟩
    · exact .inl rfl
  · split
    · exact .inr ⟨_, rfl⟩
    · exact .inl rfl
  · split
    · split
      · exact .inr ⟨_, rfl⟩
      · exact .inl rfl
    · exact .inl rfl
theorem rep_isN {a : D} {x : V} (ra : Rep C S a x) : decide (x = .non) = isNonD a := by
  cases a <;> simp only [Rep] at ra <;> first
    | (subst ra; rfl)
    | (rw [ra.1]; rfl)
    | (obtain ⟨_, _, _, e, _⟩ := ra; subst e; rfl)
    | (obtain ⟨_, _, e, _⟩ := ra; subst e; rfl)
    | (obtain ⟨_, _, e⟩ := ra; subst e; rfl)
    | (obtain ⟨_, e, _⟩ := ra; subst e; rfl)
theorem cmp_ok {o : Cop} (w : Wf C S) (ra : Rep C S a x) (rb : Rep C S b y) (h : PostT C S (cmpM o a b S.mu) W Q) : rCmp C.K o x y S.H (bQ Q) := by
  cases o with
  | eq =>
    simp only [cmpM] at h
    rcases eqM_ok a b S.mu with e | ⟨c, e⟩
    · rw [e] at h; exact h.elim
    · obtain ⟨d, e', h1, h2, h3, h4, h5⟩ := eq_core w ra rb (Q' := Q) (fun c' e' => by rw [e'] at h; exact h.pure w) (by rw [e]; intro z; cases z)
      exact ⟨d, e', h1, h2, h3, h4, _, rfl, h5⟩
  | ne =>
    simp only [cmpM] at h
    rcases eqM_ok a b S.mu with e | ⟨c, e⟩
    · rw [e] at h; exact h.elim
    · obtain ⟨d, e', h1, h2, h3, h4, h5⟩ := eq_core w ra rb (Q' := fun k H => Q (!k) H) (fun c' e' => by rw [e'] at h; exact h.pure w) (by rw [e]; intro z; cases z)
      exact ⟨d, e', h1, h2, h3, h4, _, rfl, h5⟩
  | in_ =>
    simp only [cmpM] at h
    rcases inM_ok a b S.mu with e | ⟨c, e⟩
    · rw [e] at h; exact h.elim
    · rcases in_core w ra rb (Qb := Q) (neg := false) (fun c' e' => by rw [e'] at h; exact h.pure w) (by rw [e]; intro z; cases z) with ⟨c, z, e1, e2, q⟩ | q | ⟨d, ds, h1, h2, h3, h4, h5⟩
      · exact .inl ⟨c, z, e1, e2, _, rfl, q⟩
      · exact .inr (.inl q)
      · exact .inr (.inr ⟨d, ds, h1, h2, h3, h4, _, rfl, h5⟩)
  | nin =>
    simp only [cmpM] at h
    rcases inM_ok a b S.mu with e | ⟨c, e⟩
    · rw [e] at h; exact h.elim
    · rcases in_core w ra rb (Qb := Q) (neg := true) (fun c' e' => by rw [e'] at h; exact h.pure w) (by rw [e]; intro z; cases z) with ⟨c, z, e1, e2, q⟩ | q | ⟨d, ds, h1, h2, h3, h4, h5⟩
      · exact .inl ⟨c, z, e1, e2, _, rfl, q⟩
      · exact .inr (.inl q)
      · exact .inr (.inr ⟨d, ds, h1, h2, h3, h4, _, rfl, h5⟩)
  | is =>
    simp only [cmpM] at h
    split at h
    · rw [rep_non] at rb
      refine ⟨rb, _, rfl, ?_⟩
      rw [rep_isN ra]
      exact h.pure w
    · exact h.elim
  | isnt =>
    simp only [cmpM] at h
    split at h
    · rw [rep_non] at rb
      refine ⟨rb, _, rfl, ?_⟩
      rw [rep_isN ra]
      exact h.pure w
    · exact h.elim
  | lt =>
    simp only [cmpM] at h
    split at h
    · rw [rep_int] at ra rb; exact .inl ⟨_, _, ra, rb, _, rfl, h.pure w⟩
    · rw [rep_str] at ra rb; exact .inr ⟨_, _, ra.1, rb.1, _, rfl, by rw [toS_cps, toS_cps]; exact h.pure w⟩
    · exact h.elim
  | le =>
    simp only [cmpM] at h
    split at h
    · rw [rep_int] at ra rb; exact .inl ⟨_, _, ra, rb, _, rfl, h.pure w⟩
    · rw [rep_str] at ra rb; exact .inr ⟨_, _, ra.1, rb.1, _, rfl, by rw [toS_cps, toS_cps]; exact h.pure w⟩
    · exact h.elim
  | gt =>
    simp only [cmpM] at h
    split at h
    · rw [rep_int] at ra rb; exact .inl ⟨_, _, ra, rb, _, rfl, h.pure w⟩
    · rw [rep_str] at ra rb; exact .inr ⟨_, _, ra.1, rb.1, _, rfl, by rw [toS_cps, toS_cps]; exact h.pure w⟩
    · exact h.elim
  | ge =>
    simp only [cmpM] at h
    split at h
    · rw [rep_int] at ra rb; exact .inl ⟨_, _, ra, rb, _, rfl, h.pure w⟩
    · rw [rep_str] at ra rb; exact .inr ⟨_, _, ra.1, rb.1, _, rfl, by rw [toS_cps, toS_cps]; exact h.pure w⟩
    · exact h.elim
end
end Fs

/-! FsD: the other binary operators, minus, subscripts, slices, truth, length. -/
namespace Fs
open PySem PySem.Spec PyProof.Rows L2

def binM (o : Bop) (a b : D) : M D :=
  match o with
  | .add => addM a b
  | .sub => fun m => match a, b with
    | .int i, .int j => .ok (.int (i - j)) m
    | _, _ => .stuck
  | .mul => fun m => match a, b with
    | .int i, .int j => if i.natAbs.log2 + j.natAbs.log2 < 1000000 then .ok (.int (i * j)) m else .stuck
    | _, _ => .stuck
  | .mod => fun m => match a, b with
    | .int i, .int j => if 0 < j then .ok (.int (i % j)) m else .stuck
    | _, _ => .stuck
  | .fdv => fun m => match a, b with
    | .int i, .int j => if 0 < j ∧ j.natAbs.log2 < 9000 then .ok (.int (i / j)) m else .stuck
    | _, _ => .stuck
  | .pow => fun m => match a, b with
    | .int i, .int j => if 0 ≤ j ∧ j ≤ 1000000 ∧ i.natAbs < 2 ^ 64 then .ok (.int (i ^ j.toNat)) m else .stuck
    | _, _ => .stuck
  | .shl => fun m => match a, b with
    | .int i, .int j => if 0 ≤ j ∧ j ≤ 1000000 ∧ i.natAbs < 2 ^ 64 then .ok (.int (i * 2 ^ j.toNat)) m else .stuck
    | _, _ => .stuck
  | .bor => fun m => match a, b with
    | .int i, .int j => .ok (.int (Builtin.bitOr i j)) m
    | _, _ => .stuck
  | .band => fun m => match a, b with
    | .int i, .int j => .ok (.int (Builtin.bitAnd i j)) m
    | _, _ => .stuck
def rBin (K : PySem.W.Frag) (o : Bop) : R2 :=
  match o with
  | .add => rAddA K
  | .sub => rI0 fun i j => .int (i - j)
  | .mul => rI CMulW fun i j => .int (i * j)
  | .mod => rI (fun _ j => 0 < j) fun i j => .int (i % j)
  | .fdv => rI CDivW fun i j => .int (i / j)
  | .pow => rI CPow fun i j => .int (i ^ j.toNat)
  | .shl => rI CPow fun i j => .int (i * 2 ^ j.toNat)
  | .bor => rI0 fun i j => .int (Builtin.bitOr i j)
  | .band => rI0 fun i j => .int (Builtin.bitAnd i j)
theorem op_binA {X : Cx} (o : Bop) : OpR X (binaryOp o.op) (rBin X.K o) := by
  cases o with
  | add => exact op_addA
  | sub => exact op_sub
  | mul => exact op_mulW
  | mod => exact op_mod
  | fdv => exact op_fdivW
  | pow => exact op_pow
  | shl => exact op_shl
  | bor => exact op_or
  | band => exact op_and
section
variable {C : Ct} {S : Ws} {a b : D} {x y : V} {W : XK} {Q : VK}
theorem bin_ok {o : Bop} (w : Wf C S) (ra : Rep C S a x) (rb : Rep C S b y) (h : PostE C S (binM o a b S.mu) W Q) : rBin C.K o x y S.H Q := by
  cases o with
  | add => exact add_ok w ra rb h
  | sub =>
    simp only [binM] at h
    split at h
    · rw [rep_int] at ra rb; exact ⟨_, _, ra, rb, h.pure w (rep_int.mpr rfl)⟩
    · exact h.elim
  | mul =>
    simp only [binM] at h
    split at h
    · split at h
      · rename_i c
        rw [rep_int] at ra rb; exact ⟨_, _, ra, rb, c, h.pure w (rep_int.mpr rfl)⟩
      · exact h.elim
    · exact h.elim
  | mod =>
    simp only [binM] at h
    split at h
    · split at h
      · rename_i c
        rw [rep_int] at ra rb; exact ⟨_, _, ra, rb, c, h.pure w (rep_int.mpr rfl)⟩
      · exact h.elim
    · exact h.elim
  | fdv =>
    simp only [binM] at h
    split at h
    · split at h
      · rename_i c
        rw [rep_int] at ra rb; exact ⟨_, _, ra, rb, c, h.pure w (rep_int.mpr rfl)⟩
      · exact h.elim
    · exact h.elim
  | pow =>
    simp only [binM] at h
    split at h
    · split at h
      · rename_i c
        rw [rep_int] at ra rb; exact ⟨_, _, ra, rb, c, h.pure w (rep_int.mpr rfl)⟩
      · exact h.elim
    · exact h.elim
  | shl =>
    simp only [binM] at h
    split at h
    · split at h
      · rename_i c
        rw [rep_int] at ra rb; exact ⟨_, _, ra, rb, c, h.pure w (rep_int.mpr rfl)⟩
      · exact h.elim
    · exact h.elim
  | bor =>
    simp only [binM] at h
    split at h
    · rw [rep_int] at ra rb; exact ⟨_, _, ra, rb, h.pure w (rep_int.mpr rfl)⟩
    · exact h.elim
  | band =>
    simp only [binM] at h
    split at h
    · rw [rep_int] at ra rb; exact ⟨_, _, ra, rb, h.pure w (rep_int.mpr rfl)⟩
    · exact h.elim
end
/-! ### minus -/
def negM (a : D) : M D := fun m => match a with
  | .int i => .ok (.int (-i)) m
  | _ => .stuck
theorem neg_ok {C : Ct} {S : Ws} {a : D} {x : V} {W : XK} {Q : VK} (w : Wf C S) (ra : Rep C S a x) (h : PostE C S (negM a S.mu) W Q) : rU (fun i => .int (-i)) x S.H Q := by
  unfold negM at h
  split at h
  · rw [rep_int] at ra; exact ⟨_, ra, h.pure w (rep_int.mpr rfl)⟩
  · exact h.elim

/-! ### dicts: the place of a key -/
def idxK {κ : Type} [DecidableEq κ] (k : κ) : List (Option κ) → Option Nat
  | [] => none
  | o :: r => if o = some k then some 0 else (idxK k r).map (· + 1)
theorem idxK_lt {κ : Type} [DecidableEq κ] {k : κ} : ∀ {l : List (Option κ)} {i : Nat}, idxK k l = some i → i < l.length
  | [], i, h => by simp [idxK] at h
  | o :: r, i, h => by
    simp only [idxK] at h
    split at h
    · simp only [Option.some.injEq] at h; subst h; simp
    · obtain ⟨j, h1, h2⟩ := Option.map_eq_some_iff.mp h
      have := idxK_lt h1
      simp only [List.length_cons]; omega
/-- the place of a key: none: the key is of another kind; some none: it is not there -/
def lookD (t : Bool) (ks : List D) (d : D) : Option (Option Nat) :=
  if t = true then (match d with
    | .tup _ => (dKeyT d).map fun k => idxK k (ks.map dKeyT)
    | _ => none)
  else (dKey d).map fun k => idxK k (ks.map dKey)
/-- the values with k's replaced -/
def putV {κ : Type} [DecidableEq κ] (k : κ) (e : D) : List (Option κ) → List D → List D
  | o :: ks, v :: vs => (if o = some k then e else v) :: putV k e ks vs
  | _, vs => vs
def putD (t : Bool) (ks vs : List D) (i e : D) : List D :=
  if t = true then (match dKeyT i with
    | some k => putV k e (ks.map dKeyT) vs
    | none => vs)
  else (match dKey i with
    | some k => putV k e (ks.map dKey) vs
    | none => vs)
theorem valV_idx {κ : Type} [DecidableEq κ] : ∀ (kvs : List (κ × V)) (k : κ), valV kvs k = (idxK k (kvs.map fun p => some p.1)).bind fun i => (kvs.map (·.2))[i]?
  | [], k => by simp [valV, idxK]
  | p :: r, k => by
    by_cases e : p.1 = k
    · rw [valV_pos e]
      simp [idxK, e]
    · rw [valV_neg e, valV_idx r k]
      have e2 : ¬ (some p.1 = some k) := by simpa using e
      simp only [List.map_cons, idxK, if_neg e2]
      cases q : idxK k (r.map fun p => some p.1) with
      | none => simp
      | some i => simp
theorem kV_rep {C : Ct} {S : Ws} {d : D} {v : V} {k : Key} (h : dKey d = some k) (r : Rep C S d v) : v = kV k := by
  cases d <;> simp_all [dKey, Rep]
  · subst h; rfl
  · subst h; rfl
theorem kVs_rep {C : Ct} {S : Ws} : ∀ {ds : List D} {vs : List V} {k : List Key}, ds.mapM dKey = some k → Reps C S ds vs → vs = k.map kV
  | [], vs, k, h, r => by
    simp only [Reps] at r
    simp at h; subst h; subst r; rfl
  | d :: ds, vs, k, h, r => by
    simp only [Reps] at r
    obtain ⟨v, vs', e, r1, r2⟩ := r
    subst e
    simp only [List.mapM_cons, Option.pure_def, Option.bind_eq_bind, Option.bind_eq_some_iff, Option.some.injEq] at h
    obtain ⟨k1, h1, k2, h2, h3⟩ := h
    subst h3
    rw [kV_rep h1 r1, kVs_rep h2 r2]
    rfl
/-- what a dict tells of a key: none: the key is of another kind; some none: it is not there -/
structure DctAt (C : Ct) (S : Ws) (a : Addr) (t : Bool) (ks vs : List D) : Prop where
  at_ : if t = true then ∃ kvs : List (List Key × V), S.H a = some (.dT kvs) ∧ ks.map dKeyT = kvs.map (fun p => some p.1) ∧ Reps C S vs (kvs.map (·.2))
      else ∃ kvs : List (Key × V), S.H a = some (.dK kvs) ∧ ks.map dKey = kvs.map (fun p => some p.1) ∧ Reps C S vs (kvs.map (·.2))
theorem DctAt.get {C : Ct} {S : Ws} {a : Addr} {t : Bool} {ks vs : List D} (h : DctAt C S a t ks vs) {d : D} {y : V} {o : Option Nat} (hk : lookD t ks d = some o) (r : Rep C S d y) :
    ∃ z : Option V, DGet S.H a y z ∧ (o = none → z = none) ∧ (∀ i, o = some i → ∃ e v, vs[i]? = some e ∧ z = some v ∧ Rep C S e v) := by
  have at_ := h.at_
  cases t with
  | true =>
    simp only [if_true] at at_
    obtain ⟨kvs, h1, h2, h3⟩ := at_
    simp only [lookD, if_true] at hk
    split at hk
    · rename_i ds
      obtain ⟨k, k1, k2⟩ := Option.map_eq_some_iff.mp hk
      simp only [Rep] at r
      obtain ⟨b, us, e, f, l, q⟩ := r
      subst e
      have e := kVs_rep (by simpa only [dKeyT] using k1) q
      subst e
      refine ⟨valV kvs k, DGet.t h1 f.1, fun z => ?_, fun i z => ?_⟩
      · rw [valV_idx, ← h2, k2, z]; rfl
      · have hv := valV_idx kvs k
        rw [← h2, k2, z] at hv
        have hi : i < vs.length := by
          have hlt := idxK_lt (k2.trans z)
          have e1 : (ks.map dKeyT).length = (kvs.map (·.2)).length := by rw [h2]; simp
          rw [h3.len, ← e1]; exact hlt
        obtain ⟨v, g1, g2⟩ := h3.get (List.getElem?_eq_getElem hi)
        exact ⟨_, v, List.getElem?_eq_getElem hi, hv.trans g1, g2⟩
    · cases hk
  | false =>
    simp only [Bool.false_eq_true, if_false] at at_
    obtain ⟨kvs, h1, h2, h3⟩ := at_
    simp only [lookD, Bool.false_eq_true, if_false] at hk
    obtain ⟨k, k1, k2⟩ := Option.map_eq_some_iff.mp hk
    have e := kV_rep k1 r
    subst e
    refine ⟨valV kvs k, DGet.k h1, fun z => ?_, fun i z => ?_⟩
    · rw [valV_idx, ← h2, k2, z]; rfl
    · have hv := valV_idx kvs k
      rw [← h2, k2, z] at hv
      have hi : i < vs.length := by
        have hlt := idxK_lt (k2.trans z)
        have e1 : (ks.map dKey).length = (kvs.map (·.2)).length := by rw [h2]; simp
        rw [h3.len, ← e1]; exact hlt
      obtain ⟨v, g1, g2⟩ := h3.get (List.getElem?_eq_getElem hi)
      exact ⟨_, v, List.getElem?_eq_getElem hi, hv.trans g1, g2⟩
end Fs

/-! FsE: subscripts, slices, truth, length. -/
namespace Fs
open PySem PySem.Spec PyProof.Rows L2

def readDct (m : Store) : D → Option (Bool × List D × List D)
  | .dct t ks vs => some (t, ks, vs)
  | .obj n => match m[n]? with
    | some (.dct t ks vs) => some (t, ks, vs)
    | _ => none
  | _ => none
section
variable {C : Ct} {S : Ws}
theorem readDct_rep (w : Wf C S) {d : D} {v : V} {t : Bool} {ks vs : List D} (h : readDct S.mu d = some (t, ks, vs)) (r : Rep C S d v) : ∃ a, v = .ref a ∧ DctAt C S a t ks vs := by
  cases d with
  | dct t' ks' vs' =>
    simp only [readDct, Option.some.injEq, Prod.mk.injEq] at h
    obtain ⟨rfl, rfl, rfl⟩ := h
    simp only [Rep] at r
    obtain ⟨a, e, r⟩ := r
    refine ⟨a, e, ⟨?_⟩⟩
    split at r
    · rename_i ht; rw [if_pos ht]; obtain ⟨kvs, f, k, q⟩ := r; exact ⟨kvs, f.1, k, q⟩
    · rename_i ht; rw [if_neg ht]; obtain ⟨kvs, f, k, q⟩ := r; exact ⟨kvs, f.1, k, q⟩
  | obj n =>
    simp only [readDct] at h
    simp only [Rep] at r
    obtain ⟨a, ha, e⟩ := r
    cases q : S.mu[n]? with
    | none => rw [q] at h; cases h
    | some c =>
      rw [q] at h
      cases c with
      | dct t' ks' vs' =>
        simp only [Option.some.injEq, Prod.mk.injEq] at h
        obtain ⟨rfl, rfl, rfl⟩ := h
        exact ⟨a, e, ⟨w.cell n _ a q ha⟩⟩
      | _ => cases h
  | _ => simp [readDct] at h
end
/-! ### a[b] -/
def idxM (a b : D) : M D := fun m =>
  match readQ m a with
  | some ds => match b with
    | .int i => match atI ds i with
      | some d => .ok d m
      | none => .stuck
    | _ => .stuck
  | none => match a with
    | .str x => match b with
      | .int i => match atI x i with
        | some c => .ok (.str [c]) m
        | none => .stuck
      | _ => .stuck
    | a => match readDct m a with
      | some (t, ks, vs) => match lookD t ks b with
        | some (some i) => match vs[i]? with
          | some d => .ok d m
          | none => .stuck
        | _ => .stuck
      | none => .stuck
def rIxD : R2 := fun x y H Q => ∃ a v, x = .ref a ∧ DGet H a y (some v) ∧ Q v H
theorem ix_dict {X : Cx} (hu : X.A.units + 1 < cLine) : IxR X rIxD := by
  intro value slice pins s σ H x y v u Q I rx ry h hs
  obtain ⟨a, z, rfl, g, q⟩ := h
  obtain rfl : v = Value.ref a := rx
  exact tail_any (dict_typeIs I g) PySem.F.slot_dict_getitem.lookup (d_getItem hu I g ry fun w' s3 I3 rw' => ⟨z, H, I3, rw', q⟩) hs
def rIxA (K : PySem.W.Frag) : R2 := fun x y H Q => rIxL K x y H Q ∨ rIxT K x y H Q ∨ rIxS x y H Q ∨ rIxD x y H Q
theorem ix_all {X : Cx} (hu : X.A.units + 1 < cLine) : IxR X (rIxA X.K) := ix_list.or (ix_tup.or (ix_str.or (ix_dict hu)))
theorem atI_map {α β : Type} (f : α → β) (xs : List α) (i : Int) : atI (xs.map f) i = (atI xs i).map f := by
  unfold atI
  rw [List.length_map]
  cases ixN xs.length i with
  | none => rfl
  | some j => simp
section
variable {C : Ct} {S : Ws} {a b : D} {x y : V} {W : XK} {Q : VK}
theorem Reps.atI {ds : List D} {vs : List V} (r : Reps C S ds vs) {i : Int} {d : D} (h : L2.atI ds i = some d) : ∃ v, L2.atI vs i = some v ∧ Rep C S d v := by
  unfold L2.atI at h ⊢
  rw [r.len] at h
  cases e : ixN vs.length i with
  | none => rw [e] at h; cases h
  | some j =>
    rw [e] at h
    exact r.get h
theorem idx_ok (w : Wf C S) (ra : Rep C S a x) (rb : Rep C S b y) (h : PostE C S (idxM a b S.mu) W Q) : rIxA C.K x y S.H Q := by
  unfold idxM at h
  split at h
  · rename_i ds hd
    split at h
    · rename_i i
      split at h
      · rename_i d he
        obtain ⟨p, vs, e, f, l, q⟩ := readQ_rep w hd ra
        obtain ⟨v, h1, h2⟩ := q.atI he
        rw [rep_int] at rb
        rcases f with f | f
        · exact .inl ⟨p, vs, i, v, e, rb, f, h1, h.pure w h2⟩
        · exact .inr (.inl ⟨p, vs, i, v, e, rb, f, h1, h.pure w h2⟩)
      · exact h.elim
    · exact h.elim
  · split at h
    · rename_i z hz
      split at h
      · rename_i i
        split at h
        · rename_i c hc
          rw [rep_str] at ra
          rw [rep_int] at rb
          refine .inr (.inr (.inl ⟨toS z, i, c.toNat, ra.1, rb, by rw [toS_len]; exact ra.2, ?_, ?_⟩))
          · rw [toS_cps, atI_map, hc]; rfl
          · refine h.pure w (rep_str.mpr ⟨?_, small16 (by simp)⟩)
            simp [toS]
        · exact h.elim
      · exact h.elim
    · split at h
      · rename_i t ks vs hd
        split at h
        · rename_i i hk
          split at h
          · rename_i d he
            obtain ⟨p, e, g⟩ := readDct_rep w hd ra
            obtain ⟨z, g1, g2, g3⟩ := g.get hk rb
            obtain ⟨e', v, h1, h2, h3⟩ := g3 i rfl
            rw [he] at h1; cases h1; subst h2
            exact .inr (.inr (.inr ⟨p, v, e, g1, h.pure w h3⟩))
          · exact h.elim
        · exact h.elim
      · exact h.elim
end
/-! ### a[lo:hi] -/
def cutL {α : Type} (xs : List α) (lo hi : Option Int) : List α := (xs.drop (HT.sIx xs.length 0 lo)).take (HT.sIx xs.length xs.length hi - HT.sIx xs.length 0 lo)
theorem cutL_len {α : Type} (xs : List α) (lo hi : Option Int) : (cutL xs lo hi).length ≤ xs.length := by
  unfold cutL; rw [List.length_take, List.length_drop]; omega
def slcM (a : D) (lo hi : Option Int) : M D := fun m =>
  match a with
  | .str x => .ok (.str (cutL x lo hi)) m
  | .tup ds => .ok (.tup (cutL ds lo hi)) m
  | .frz ds => .ok (.lst (cutL ds lo hi)) m
  | a => match readL m a with
    | some ds => .ok (.lst (cutL ds lo hi)) m
    | none => .stuck
def rSlAll (K : PySem.W.Frag) : V → Option Int → Option Int → Hp → VK → Prop := fun x lo hi H Q => rSlL K x lo hi H Q ∨ rSlA K x lo hi H Q ∨ rSlS x lo hi H Q
theorem sl_all {X : Cx} : SlR X (rSlAll X.K) := sl_list.or (sl_tupA.or sl_str)
section
variable {C : Ct} {S : Ws} {a b : D} {x y : V} {W : XK} {Q : VK}
theorem Reps.cut {ds : List D} {vs : List V} (r : Reps C S ds vs) (lo hi : Option Int) : Reps C S (cutL ds lo hi) (cutV vs lo hi) := by
  unfold cutL cutV
  rw [r.len]
  exact (r.drop _).take _
theorem cut_whole {α : Type} {xs : List α} {lo hi : Option Int} (h : HT.sIx xs.length 0 lo = 0 ∧ HT.sIx xs.length xs.length hi = xs.length) : cutL xs lo hi = xs := by
  unfold cutL; rw [h.1, h.2]; simp
theorem slc_ok {lo hi : Option Int} (w : Wf C S) (ra : Rep C S a x) (h : PostE C S (slcM a lo hi S.mu) W Q) : rSlAll C.K x lo hi S.H Q := by
  unfold slcM at h
  split at h
  · rename_i z
    rw [rep_str] at ra
    refine .inr (.inr ⟨toS z, ra.1, by rw [toS_len]; exact ra.2, ?_⟩)
    have e : cutS (toS z) lo hi = toS (cutL z lo hi) := by
      unfold cutS cutL toS
      simp only [PySem.Str.length, List.size_toArray, List.length_map, List.map_take, List.map_drop]
    rw [e]
    exact h.pure w (rep_str.mpr ⟨rfl, Nat.le_trans (cutL_len _ _ _) ra.2⟩)
  · rename_i ds
    right; left
    have ra' := ra
    obtain ⟨p, vs, e, f, l, q⟩ := rep_tup ra
    refine ⟨p, vs, e, f, fun z => ?_, fun z p hp => h.newT w hp (Nat.le_trans (cutL_len _ _ _) l) (q.cut _ _)⟩
    rw [← q.len] at z
    rw [cut_whole z] at h
    subst e
    exact h.pure w ra'
  · rename_i ds
    left
    simp only [Rep] at ra
    obtain ⟨p, vs, e, f, l, q⟩ := ra
    exact ⟨p, vs, e, f.seq, fun p hp => h.newL w hp (Nat.le_trans (cutL_len _ _ _) l) (q.cut _ _)⟩
  · split at h
    · rename_i ds hd
      left
      obtain ⟨p, vs, e, f, l, q⟩ := readL_rep w hd ra
      exact ⟨p, vs, e, SqL.of f, fun p hp => h.newL w hp (Nat.le_trans (cutL_len _ _ _) l) (q.cut _ _)⟩
    · exact h.elim
end
/-! ### truth -/
def truM (a : D) : M Bool := fun m =>
  match a with
  | .non => .ok false m
  | .bl b => .ok b m
  | .int i => .ok (i != 0) m
  | .str x => .ok (!x.isEmpty) m
  | a => match readQ m a with
    | some ds => .ok (!ds.isEmpty) m
    | none => match readDct m a with
      | some (false, ks, vs) => .ok (!ks.isEmpty) m
      | _ => .stuck
theorem Reps.isEmpty {C : Ct} {S : Ws} {ds : List D} {vs : List V} (r : Reps C S ds vs) : ds.isEmpty = vs.isEmpty := by
  have := r.len
  cases ds <;> cases vs <;> simp_all
theorem tru_okM {C : Ct} {S : Ws} {a : D} {x : V} {W : XK} {Q : Bool → Hp → Prop} (w : Wf C S) (ra : Rep C S a x) (h : PostT C S (truM a S.mu) W Q) : ∃ k, TruV C.K x S.H k ∧ Q k S.H := by
  unfold truM at h
  split at h
  · rw [rep_non] at ra; subst ra; exact ⟨false, rfl, h.pure w⟩
  · rw [rep_bl] at ra; subst ra; exact ⟨_, rfl, h.pure w⟩
  · rw [rep_int] at ra; subst ra; exact ⟨_, rfl, h.pure w⟩
  · rename_i z
    rw [rep_str] at ra; rw [ra.1]
    refine ⟨_, ⟨by rw [toS_len]; exact ra.2, ?_⟩, h.pure w⟩
    rw [toS_len]; cases z <;> simp
    omega
  · split at h
    · rename_i ds hd
      obtain ⟨p, vs, e, f, l, q⟩ := readQ_rep w hd ra
      subst e
      refine ⟨_, ?_, h.pure w⟩
      rw [q.isEmpty]
      rcases f with f | f
      · exact .inl ⟨vs, f, rfl⟩
      · exact .inr (.inl ⟨vs, f, rfl⟩)
    · split at h
      · rename_i ks vs hd
        obtain ⟨p, e, g⟩ := readDct_rep w hd ra
        subst e
        have := g.at_
        simp only [Bool.false_eq_true, if_false] at this
        obtain ⟨kvs, h1, h2, h3⟩ := this
        refine ⟨_, .inr (.inr ⟨kvs, h1, rfl⟩), ?_⟩
        have e : kvs.isEmpty = ks.isEmpty := by
          have : (ks.map dKey).length = (kvs.map fun p => some p.1).length := by rw [h2]
          cases ks <;> cases kvs <;> simp_all
        rw [e]; exact h.pure w
      · exact h.elim
/-! ### len -/
def lenM (a : D) : M D := fun m =>
  match a with
  | .str x => .ok (.int x.length) m
  | .frz ds => .ok (.int ds.length) m
  | a => match readQ m a with
    | some ds => .ok (.int ds.length) m
    | none => match readDct m a with
      | some (false, ks, vs) => .ok (.int ks.length) m
      | _ => .stuck
def rLenA (K : PySem.W.Frag) : List V → Hp → VK → Prop := fun xs H Q => (∃ x n, xs = [x] ∧ LenV K x H n ∧ Q (.int n) H) ∨ (∃ a kvs, xs = [V.ref a] ∧ H a = some (.dK kvs) ∧ Q (.int kvs.length) H)
theorem call_lenA {X : Cx} : CallR X (.builtin "len") (rLenA X.K) := call_len.or call_lenD
theorem len_ok {C : Ct} {S : Ws} {a : D} {x : V} {W : XK} {Q : VK} (w : Wf C S) (ra : Rep C S a x) (h : PostE C S (lenM a S.mu) W Q) : rLenA C.K [x] S.H Q := by
  unfold lenM at h
  split at h
  · rename_i z
    rw [rep_str] at ra; rw [ra.1]
    exact .inl ⟨_, z.length, rfl, ⟨by rw [toS_len]; exact ra.2, (toS_len z).symm⟩, h.pure w (rep_int.mpr rfl)⟩
  · rename_i ds
    simp only [Rep] at ra
    obtain ⟨p, vs, e, f, l, q⟩ := ra
    subst e
    exact .inl ⟨_, ds.length, rfl, .inl ⟨vs, f.seq, q.len⟩, h.pure w (rep_int.mpr rfl)⟩
  · split at h
    · rename_i ds hd
      obtain ⟨p, vs, e, f, l, q⟩ := readQ_rep w hd ra
      subst e
      rcases f with f | f
      · exact .inl ⟨_, ds.length, rfl, .inl ⟨vs, f, q.len⟩, h.pure w (rep_int.mpr rfl)⟩
      · exact .inl ⟨_, ds.length, rfl, .inr ⟨vs, f, q.len⟩, h.pure w (rep_int.mpr rfl)⟩
    · split at h
      · rename_i ks vs hd
        obtain ⟨p, e, g⟩ := readDct_rep w hd ra
        subst e
        have := g.at_
        simp only [Bool.false_eq_true, if_false] at this
        obtain ⟨kvs, h1, h2, h3⟩ := this
        refine .inr ⟨p, kvs, rfl, h1, ?_⟩
        have e : kvs.length = ks.length := by
          have : (ks.map dKey).length = (kvs.map fun p => some p.1).length := by rw [h2]
          simpa using this.symm
        rw [e]; exact h.pure w (rep_int.mpr rfl)
      · exact h.elim
end Fs

/-! FsF: the deep syntax and its evaluator. -/
namespace Fs
open PySem PySem.Spec PyProof.Rows L2
open Classical

inductive MG where
  | nm (i : Nat)
  | tp (is : List Nat)
mutual
inductive ME where
  | var (i : Nat)
  | con (d : D)
  | bin (o : Bop) (a b : ME)
  | neg (a : ME)
  | cmp (o : Cop) (a b : ME)
  | cmp2 (o1 o2 : Cop) (a b c : ME)
  | and (a b : ME)
  | or (a b : ME)
  | not (a : ME)
  | ite (c : MT) (a b : ME)
  | tup (es : MEs)
  | lst (es : MEs)
  | new (es : MEs)
  | idx (a b : ME)
  | slc (a : ME) (lo hi : MO)
  | call (F : List D → M D) (es : MEs)
  | meth (P : Store → D → Bool) (F : D → List D → M D) (o : ME) (es : MEs)
  | attr (F : D → M D) (o : ME)
  | comp (mu : Bool) (own : List Nat) (g : MG) (s : MI) (c : MTO) (e : ME)
  | frz (a : ME)
inductive MEs where
  | nil
  | cons (e : ME) (es : MEs)
inductive MO where
  | no
  | yes (e : ME)
inductive MT where
  | val (e : ME)
  | cmp (o : Cop) (a b : ME)
  | cmp2 (o1 o2 : Cop) (a b c : ME)
  | and (a b : MT)
  | or (a b : MT)
  | not (a : MT)
inductive MTO where
  | no
  | yes (c : MT)
inductive MI where
  | val (e : ME)
  | rng1 (a : ME)
  | rng2 (a b : ME)
  | enm (a : ME)
  | zip (a b : ME)
  | items (a : ME)
end
mutual
inductive MS where
  | exp (e : ME)
  | set (g : MG) (e : ME)
  | par (i j : Nat) (a b : ME)
  | aug (i : Nat) (o : Bop) (e : ME)
  | ret (e : ME)
  | retN
  | ite (c : MT) (a b : MSs)
  | for_ (g : MG) (s : MI) (b : MSs)
  | while_ (fuel : Nat) (c : MT) (b : MSs)
  | brk
  | cnt
  | pass
  | never
  | raise (F : List D → M D) (es : MEs)
  | setSub (o i e : ME)
  | setAt (F : D → D → M Unit) (o e : ME)
inductive MSs where
  | nil
  | cons (s : MS) (ss : MSs)
end

/-! ### the pieces -/
def eqT : D → M D → M D := fun _ x => x
def asgG (g : MG) (d : D) (r : Env) : Option Env :=
  match g with
  | .nm i => some (r.set i (some d))
  | .tp is => match d with
    | .tup ds => if ds.length = is.length then some ((is.zip ds).foldl (fun r p => r.set p.1 (some p.2)) r) else none
    | .wtp ds => if ds.length = is.length then some ((is.zip ds).foldl (fun r p => r.set p.1 (some p.2)) r) else none
    | _ => none
/-- what a for walks: the items; the cell that must stay as it is -/
structure Itm where
  ds : List D
  lk : Option Nat
def Itm.ok (t : Itm) (m : Store) : Prop := match t.lk with
  | none => True
  | some n => m[n]? = some (.lst t.ds)
def itmM (d : D) : M Itm := fun m =>
  match d with
  | .str x => .ok ⟨x.map fun c => .str [c], none⟩ m
  | .lst ds => .ok ⟨ds, none⟩ m
  | .tup ds => .ok ⟨ds, none⟩ m
  | .wtp ds => .ok ⟨ds, none⟩ m
  | .frz ds => .ok ⟨ds, none⟩ m
  | .obj n => match m[n]? with
    | some (.lst ds) => .ok ⟨ds, some n⟩ m
    | _ => .stuck
  | _ => .stuck
def rngL (lo : Int) (n : Nat) : List D := (List.range n).map fun (i : Nat) => .int (lo + (i : Int))
def rng1M (d : D) : M Itm := fun m => match d with
  | .int j => if -(2 ^ 62) ≤ j ∧ j < 2 ^ 62 ∧ j.toNat ≤ sizeLine then .ok ⟨rngL 0 j.toNat, none⟩ m else .stuck
  | _ => .stuck
def rng2M (c d : D) : M Itm := fun m => match c, d with
  | .int i, .int j => if -(2 ^ 62) ≤ i ∧ i < 2 ^ 62 ∧ -(2 ^ 62) ≤ j ∧ j < 2 ^ 62 ∧ (j - i).toNat ≤ sizeLine then .ok ⟨rngL i (j - i).toNat, none⟩ m else .stuck
  | _, _ => .stuck
def enL : Nat → List D → List D
  | _, [] => []
  | i, d :: ds => .tup [.int i, d] :: enL (i + 1) ds
def enmM (d : D) : M Itm := fun m => match d with
  | .lst ds => .ok ⟨enL 0 ds, none⟩ m
  | _ => .stuck
def zipM (c d : D) : M Itm := fun m => match c, d with
  | .lst xs, .lst ys => .ok ⟨(xs.zip ys).map fun p => .tup [p.1, p.2], none⟩ m
  | .tup xs, .tup ys => .ok ⟨(xs.zip ys).map fun p => .tup [p.1, p.2], none⟩ m
  | _, _ => .stuck
/-- flow of a statement -/
inductive Fl where
  | nxt (r : Env)
  | ret (d : D)
  | brk (r : Env)
  | cnt (r : Env)
  | exc (c : Nat) (ks : List Nat) (vs : List D) (r : Env)
abbrev RS := Option (Fl × Store)
noncomputable def forM (t : Itm) (body : D → Env → Store → RS) : List D → Env → Store → RS
  | [], r, m => if t.ok m then some (.nxt r, m) else none
  | d :: ds, r, m => if t.ok m then (match body d r m with
      | some (.nxt r', m') => forM t body ds r' m'
      | some (.cnt r', m') => forM t body ds r' m'
      | some (.brk r', m') => some (.nxt r', m')
      | o => o) else none
def whileM (c : Env → M Bool) (body : Env → Store → RS) : Nat → Env → Store → RS
  | 0, _, _ => none
  | n + 1, r, m => match c r m with
    | .ok true m1 => (match body r m1 with
      | some (.nxt r', m') => whileM c body n r' m'
      | some (.cnt r', m') => whileM c body n r' m'
      | some (.brk r', m') => some (.nxt r', m')
      | o => o)
    | .ok false m1 => some (.nxt r, m1)
    | .exc k ks vs m1 => some (.exc k ks vs r, m1)
    | .stuck => none
noncomputable def compM (t : Itm) (f : D → M (Option D)) : List D → M (List D)
  | [] => fun m => if t.ok m then .ok [] m else .stuck
  | d :: ds => fun m => if t.ok m then (match f d m with
      | .ok o m1 => (match compM t f ds m1 with
        | .ok r m2 => .ok (match o with | some y => y :: r | none => r) m2
        | _ => .stuck)
      | _ => .stuck) else .stuck
def newM (ds : List D) : M D := fun m => .ok (.obj m.length) (m ++ [.lst ds])
/-- the cell is given up -/
def frzM (d : D) : M D := fun m => match d with
  | .obj n => match m[n]? with
    | some (.lst ds) => .ok (.lst ds) (m.set n .dead)
    | some (.dct t ks vs) => .ok (.dct t ks vs) (m.set n .dead)
    | some (.ins c ks vs) => .ok (.ins c ks vs) (m.set n .dead)
    | _ => .stuck
  | d => .ok d m
def intO (d : D) : M (Option Int) := fun m => match d with
  | .int i => .ok (some i) m
  | _ => .stuck
def blM (d : D) : M Bool := fun m => match d with
  | .bl b => .ok b m
  | _ => .stuck
def varM (r : Env) (i : Nat) : M D := fun m => match r[i]? with
  | some (some d) => .ok d m
  | _ => .stuck
def wipeE (r : Env) : List Nat → Env
  | [] => r
  | v :: vs => (wipeE r vs).set v none
/-- a method's receiver is of the right kind -/
def chkM (P : Store → D → Bool) (d : D) : M Unit := fun m => if P m d = true then .ok () m else .stuck
def itL (xs : List D) (p : Bool) : M (List D) := fun m => if p = true then .ok xs m else .stuck

/-! ### the evaluator -/
mutual
noncomputable def ev : ME → Env → M D
  | .var i, r => varM r i
  | .con d, _ => pure d
  | .bin o a b, r => do let x ← ev a r; let y ← ev b r; binM o x y
  | .neg a, r => do let x ← ev a r; negM x
  | .cmp o a b, r => do let x ← ev a r; let y ← ev b r; let c ← cmpM o x y; pure (.bl c)
  | .cmp2 o1 o2 a b c, r => do
    let x ← ev a r; let y ← ev b r; let k ← cmpM o1 x y
    if k = true then (do let z ← ev c r; let l ← cmpM o2 y z; pure (.bl l)) else pure (.bl false)
  | .and a b, r => do let x ← ev a r; let k ← blM x; if k = true then ev b r else pure (.bl false)
  | .or a b, r => do let x ← ev a r; let k ← blM x; if k = true then pure (.bl true) else ev b r
  | .not a, r => do let x ← ev a r; let k ← blM x; pure (.bl (!k))
  | .ite c a b, r => do let k ← evT c r; if k = true then ev a r else ev b r
  | .tup es, r => do let xs ← evs es r; if xs.length ≤ sizeLine then pure (.tup xs) else stuckM
  | .lst es, r => do let xs ← evs es r; if xs.length ≤ sizeLine then pure (.lst xs) else stuckM
  | .new es, r => do let xs ← evs es r; if xs.length ≤ sizeLine then newM xs else stuckM
  | .idx a b, r => do let x ← ev a r; let y ← ev b r; idxM x y
  | .slc a lo hi, r => do let x ← ev a r; let l ← evO lo r; let h ← evO hi r; slcM x l h
  | .call F es, r => do let xs ← evs es r; F xs
  | .meth P F o es, r => do let x ← ev o r; let _ ← chkM P x; let xs ← evs es r; F x xs
  | .attr F o, r => do let x ← ev o r; F x
  | .comp mu own g s c e, r => do
    let t ← evI s r
    let ys ← compM t (fun d => match asgG g d (wipeE r own) with
      | some r' => (do let k ← evTO c r'; if k = true then (do let y ← ev e r'; pure (some y)) else pure none)
      | none => stuckM) t.ds
    if mu = true then newM ys else pure (.lst ys)
  | .frz a, r => do let x ← ev a r; frzM x
noncomputable def evs : MEs → Env → M (List D)
  | .nil, _ => pure []
  | .cons e es, r => do let x ← ev e r; let xs ← evs es r; pure (x :: xs)
noncomputable def evO : MO → Env → M (Option Int)
  | .no, _ => pure none
  | .yes e, r => do let x ← ev e r; intO x
noncomputable def evT : MT → Env → M Bool
  | .val e, r => do let x ← ev e r; truM x
  | .cmp o a b, r => do let x ← ev a r; let y ← ev b r; cmpM o x y
  | .cmp2 o1 o2 a b c, r => do
    let x ← ev a r; let y ← ev b r; let k ← cmpM o1 x y
    if k = true then (do let z ← ev c r; cmpM o2 y z) else pure false
  | .and a b, r => do let k ← evT a r; if k = true then evT b r else pure false
  | .or a b, r => do let k ← evT a r; if k = true then pure true else evT b r
  | .not a, r => do let k ← evT a r; pure (!k)
noncomputable def evTO : MTO → Env → M Bool
  | .no, _ => pure true
  | .yes c, r => evT c r
noncomputable def evI : MI → Env → M Itm
  | .val e, r => do let x ← ev e r; itmM x
  | .rng1 a, r => do let x ← ev a r; rng1M x
  | .rng2 a b, r => do let x ← ev a r; let y ← ev b r; rng2M x y
  | .enm a, r => do let x ← ev a r; enmM x
  | .zip a b, r => do let x ← ev a r; let y ← ev b r; zipM x y
  | .items a, _ => stuckM
end
/-- an expression's end within a statement -/
def thenS {α : Type} (x : M α) (r : Env) (m : Store) (k : α → Store → RS) : RS := match x m with
  | .ok a m' => k a m'
  | .exc c ks vs m' => some (.exc c ks vs r, m')
  | .stuck => none
/-- in-place operators on names -/
def augM (o : Bop) (a b : D) : M D := fun m => match o with
  | .add => match a, b with
    | .int i, .int j => .ok (.int (i + j)) m
    | .str x, .str y => if x.length + y.length ≤ sizeLine then .ok (.str (x ++ y)) m else .stuck
    | _, _ => .stuck
  | .sub => match a, b with
    | .int i, .int j => .ok (.int (i - j)) m
    | _, _ => .stuck
  | _ => .stuck
def setSubM (o i e : D) : M Unit := fun m => match o with
  | .obj n => match m[n]? with
    | some (.lst ds) => match i with
      | .int k => match ixN ds.length k with
        | some j => .ok () (m.set n (.lst (ds.set j e)))
        | none => .stuck
      | _ => .stuck
    | some (.dct t ks vs) => match lookD t ks i with
      | some (some j) => if ks.length < sizeLine then .ok () (m.set n (.dct t ks (putD t ks vs i e))) else .stuck
      | some none => if ks.length < sizeLine then .ok () (m.set n (.dct t (ks ++ [i]) (vs ++ [e]))) else .stuck
      | none => .stuck
    | _ => .stuck
  | _ => .stuck
mutual
noncomputable def evS : MS → Env → Store → RS
  | .exp e, r, m => thenS (ev e r) r m fun _ m' => some (.nxt r, m')
  | .set g e, r, m => thenS (ev e r) r m fun d m' => (asgG g d r).map fun r' => (.nxt r', m')
  | .par i j a b, r, m => thenS (do let x ← ev a r; let y ← ev b r; pure (x, y)) r m fun p m' => some (.nxt ((r.set i (some p.1)).set j (some p.2)), m')
  | .aug i o e, r, m => thenS (do let x ← varM r i; let y ← ev e r; augM o x y) r m fun d m' => some (.nxt (r.set i (some d)), m')
  | .ret e, r, m => thenS (ev e r) r m fun d m' => some (.ret d, m')
  | .retN, _, m => some (.ret .non, m)
  | .ite c a b, r, m => thenS (evT c r) r m fun k m' => if k = true then evSs a r m' else evSs b r m'
  | .for_ g s b, r, m => thenS (evI s r) r m fun t m' => forM t (fun d r m => match asgG g d r with
      | some r' => evSs b r' m
      | none => none) t.ds r m'
  | .while_ n c b, r, m => whileM (evT c) (evSs b) n r m
  | .brk, r, m => some (.brk r, m)
  | .cnt, r, m => some (.cnt r, m)
  | .pass, r, m => some (.nxt r, m)
  | .never, _, _ => none
  | .raise F es, r, m => thenS (do let xs ← evs es r; F xs) r m fun _ _ => none
  | .setSub o i e, r, m => thenS (do let v ← ev e r; let x ← ev o r; let y ← ev i r; setSubM x y v) r m fun _ m' => some (.nxt r, m')
  | .setAt F o e, r, m => thenS (do let v ← ev e r; let x ← ev o r; F x v) r m fun _ m' => some (.nxt r, m')
noncomputable def evSs : MSs → Env → Store → RS
  | .nil, r, m => some (.nxt r, m)
  | .cons s ss, r, m => match evS s r m with
    | some (.nxt r', m') => evSs ss r' m'
    | o => o
end
/-- a def's run: np parameters of n names -/
noncomputable def runF (np n : Nat) (b : MSs) (ds : List D) : M D := fun m =>
  if ds.length = np then (match evSs b (ds.map some ++ List.replicate (n - np) none) m with
    | some (.nxt _, m') => .ok .non m'
    | some (.ret d, m') => .ok d m'
    | some (.exc c ks vs _, m') => .exc c ks vs m'
    | _ => .stuck) else .stuck
end Fs

/-! FsG: the evaluator against the hand layer's rules: expressions. -/
namespace Fs
open PySem PySem.Spec PyProof.Rows L2

/-- the judgements -/
def SE (C : Ct) (X : Cx) (e : Expr) (m : ME) : Prop := ∀ W, Takes X W → PE X e (dnE C (ev m) W)
def SA (C : Ct) (X : Cx) (es : List Expr) (m : MEs) : Prop := ∀ W, Takes X W → PA X es (dnA C (evs m) W)
def ST (C : Ct) (X : Cx) (e : Expr) (m : MT) : Prop := ∀ W, Takes X W → PT X e (dnT C (evT m) W)
def SW (C : Ct) (X : Cx) (e : Expr) (m : MT) : Prop := ∀ W, Takes X W → PW X e (dnT C (evT m) W)
section
variable {C : Ct} {X : Cx}
theorem dnE_intro {f : Env → M D} {W : WX} {σ : L2.St} {S : Ws} {Q : VK} (r : Env) (w : Wf C S) (sr : SRep C S r σ) (h : PostE C S (f r S.mu) (fun c d H' => W c d σ H') Q) : dnE C f W σ S.H Q := ⟨r, S, rfl, w, sr, h⟩
theorem dnT_intro {f : Env → M Bool} {W : WX} {σ : L2.St} {S : Ws} {Q : Bool → Hp → Prop} (r : Env) (w : Wf C S) (sr : SRep C S r σ) (h : PostT C S (f r S.mu) (fun c d H' => W c d σ H') Q) : dnT C f W σ S.H Q := ⟨r, S, rfl, w, sr, h⟩
theorem dnA_intro {f : Env → M (List D)} {W : WX} {σ : L2.St} {S : Ws} {Q : List V → Hp → Prop} (r : Env) (w : Wf C S) (sr : SRep C S r σ) (h : PostA C S (f r S.mu) (fun c d H' => W c d σ H') Q) : dnA C f W σ S.H Q := ⟨r, S, rfl, w, sr, h⟩

theorem se_var {i : Nat} {x : Str} {pos : Pos} (hN : X.N[i]? = some x) (hv : Vis X.env.scope x) (hd : (x == ("__debug__" : Str)) = false) (hcd : (x == ("__classdict__" : Str)) = false) : SE C X (.Name x pos) (.var i) := fun W tk =>
  PEw (pe_var hN hv hd hcd) fun σ H Q ⟨r, S, hH, w, sr, h⟩ => by
    subst hH
    simp only [ev, varM] at h
    split at h
    · rename_i d hi
      obtain ⟨v, h1, h2⟩ := sr.at_ i d hi
      exact ⟨v, h1, h.pure w h2⟩
    · exact h.elim
/-- a constant | a global constant: te the reading of it -/
theorem se_con {e : Expr} {d : D} {v : V} (he : PE X e (tC v)) (hr : ∀ S, Rep C S d v) : SE C X e (.con d) := fun W tk =>
  PEw he fun σ H Q ⟨r, S, hH, w, sr, h⟩ => by
    subst hH
    simp only [ev] at h
    exact h.pure w (hr S)
theorem dn_op {r2 : R2} {ma mb : ME} {g : D → D → M D} {W : WX} (hr : ∀ (S : Ws) d1 d2 v1 v2 (W : XK) (Q : VK), Wf C S → Rep C S d1 v1 → Rep C S d2 v2 → PostE C S (g d1 d2 S.mu) W Q → r2 v1 v2 S.H Q) :
    ∀ σ H Q, dnE C (fun r => do let x ← ev ma r; let y ← ev mb r; g x y) W σ H Q → tOp r2 (dnE C (ev ma) W) (dnE C (ev mb) W) σ H Q := fun σ H Q ⟨r, S, hH, w, sr, h⟩ => by
  subst hH
  refine dnE_intro r w sr (h.bind.imp fun v1 H1 q1 => ?_)
  obtain ⟨S1, d1, e1, w1, st1, r1, h1⟩ := q1
  subst e1
  refine dnE_intro r w1 (sr.mono st1) (h1.bind.imp fun v2 H2 q2 => ?_)
  obtain ⟨S2, d2, e2, w2, st2, r2', h2⟩ := q2
  subst e2
  exact hr S2 d1 d2 v1 v2 _ Q w2 (r1.mono st2) r2' h2
theorem se_bin {o : Bop} {a b : Expr} {ma mb : ME} {pos : Pos} (ha : SE C X a ma) (hb : SE C X b mb) (hK : X.K = C.K) : SE C X (.BinOp a o.op b pos) (.bin o ma mb) := fun W tk => by
  refine PEw (pe_op (op_binA o) (ha W tk) (hb W tk)) (t' := dnE C (ev (.bin o ma mb)) W) ?_
  rw [hK]
  simp only [ev]
  exact dn_op fun S d1 d2 v1 v2 W Q w r1 r2 h => bin_ok w r1 r2 h
theorem se_neg {a : Expr} {ma : ME} {pos : Pos} (ha : SE C X a ma) : SE C X (.UnaryOp .USub a pos) (.neg ma) := fun W tk =>
  PEw (pe_un un_neg (ha W tk)) fun σ H Q ⟨r, S, hH, w, sr, h⟩ => by
    subst hH
    simp only [ev] at h
    refine dnE_intro r w sr (h.bind.imp fun v1 H1 q1 => ?_)
    obtain ⟨S1, d1, e1, w1, st1, r1, h1⟩ := q1
    subst e1
    exact neg_ok w1 r1 h1
theorem cmp_toE {S : Ws} {x : M Bool} {W : XK} {Q : VK} (h : PostE C S ((do let c ← x; pure (.bl c) : M D) S.mu) W Q) : PostT C S (x S.mu) W (fun b H => Q (.bl b) H) := by
  have h' := h.bindT
  cases e : x S.mu with
  | ok b m =>
    rw [e] at h'
    intro S' em w st
    obtain ⟨S2, e2, w2, st2, h2⟩ := h' S' em w st
    rw [← e2]
    exact h2.pure w2 (rep_bl.mpr rfl)
  | exc c ks vs m => rw [e] at h'; exact h'
  | stuck => rw [e] at h'; exact h'
theorem se_cmp {o : Cop} {a b : Expr} {ma mb : ME} {pos : Pos} (ha : SE C X a ma) (hb : SE C X b mb) (hK : X.K = C.K) (hu : X.A.units + 65 < cLine) (hm : behindInMarks o.op b = false) : SE C X (.Compare a [o.op] [b] pos) (.cmp o ma mb) := fun W tk => by
  refine PEw (pe_cmpR (op_cmpA hu o) (ha W tk) (hb W tk) hm) (t' := dnE C (ev (.cmp o ma mb)) W) ?_
  rw [hK]
  simp only [ev]
  refine dn_op fun S d1 d2 v1 v2 W Q w r1 r2 h => ?_
  have q := cmp_ok w r1 r2 (cmp_toE h)
  have e : bQ (fun b H => Q (.bl b) H) = fun v H => ∃ k, v = .bl k ∧ Q v H := by
    funext v H
    exact propext ⟨fun ⟨k, e, h⟩ => ⟨k, e, by rw [e]; exact h⟩, fun ⟨k, e, h⟩ => ⟨k, e, by show Q (.bl k) H; rw [← e]; exact h⟩⟩
  rw [e] at q
  cases o with
  | eq => obtain ⟨d, e', a1, a2, a3, a4, k, _, a5⟩ := q; exact ⟨d, e', a1, a2, a3, a4, a5⟩
  | ne => obtain ⟨d, e', a1, a2, a3, a4, k, _, a5⟩ := q; exact ⟨d, e', a1, a2, a3, a4, a5⟩
  | is => obtain ⟨a1, k, _, a2⟩ := q; exact ⟨a1, a2⟩
  | isnt => obtain ⟨a1, k, _, a2⟩ := q; exact ⟨a1, a2⟩
  | lt =>
    rcases q with ⟨i, j, a1, a2, k, _, a3⟩ | ⟨i, j, a1, a2, k, _, a3⟩
    · exact .inl ⟨i, j, a1, a2, a3⟩
    · exact .inr ⟨i, j, a1, a2, a3⟩
  | le =>
    rcases q with ⟨i, j, a1, a2, k, _, a3⟩ | ⟨i, j, a1, a2, k, _, a3⟩
    · exact .inl ⟨i, j, a1, a2, a3⟩
    · exact .inr ⟨i, j, a1, a2, a3⟩
  | gt =>
    rcases q with ⟨i, j, a1, a2, k, _, a3⟩ | ⟨i, j, a1, a2, k, _, a3⟩
    · exact .inl ⟨i, j, a1, a2, a3⟩
    · exact .inr ⟨i, j, a1, a2, a3⟩
  | ge =>
    rcases q with ⟨i, j, a1, a2, k, _, a3⟩ | ⟨i, j, a1, a2, k, _, a3⟩
    · exact .inl ⟨i, j, a1, a2, a3⟩
    · exact .inr ⟨i, j, a1, a2, a3⟩
  | in_ =>
    rcases q with ⟨c, z, a1, a2, k, _, a3⟩ | ⟨p, xs, a1, a2, a3, a4, k, _, a5⟩ | ⟨d, ds, a1, a2, a3, a4, k, _, a5⟩
    · exact .inl ⟨c, z, a1, a2, a3⟩
    · exact .inr (.inl ⟨p, xs, a1, a2, a3, a4, a5⟩)
    · exact .inr (.inr ⟨d, ds, a1, a2, a3, a4, a5⟩)
  | nin =>
    rcases q with ⟨c, z, a1, a2, k, _, a3⟩ | ⟨p, xs, a1, a2, a3, a4, k, _, a5⟩ | ⟨d, ds, a1, a2, a3, a4, k, _, a5⟩
    · exact .inl ⟨c, z, a1, a2, a3⟩
    · exact .inr (.inl ⟨p, xs, a1, a2, a3, a4, a5⟩)
    · exact .inr (.inr ⟨d, ds, a1, a2, a3, a4, a5⟩)
/-- the comparison as a test -/
theorem st_cmp {o : Cop} {a b : Expr} {ma mb : ME} {pos : Pos} (ha : SE C X a ma) (hb : SE C X b mb) (hK : X.K = C.K) (hu : X.A.units + 65 < cLine) (hm : behindInMarks o.op b = false) : ST C X (.Compare a [o.op] [b] pos) (.cmp o ma mb) := fun W tk => by
  refine PTw (pt_cmpR (op_cmpA hu o) (ha W tk) (hb W tk) hm) (t' := dnT C (evT (.cmp o ma mb)) W) ?_
  rw [hK]
  intro σ H Q ⟨r, S, hH, w, sr, h⟩
  subst hH
  simp only [evT] at h
  refine dnE_intro r w sr (h.bind.imp fun v1 H1 q1 => ?_)
  obtain ⟨S1, d1, e1, w1, st1, r1, h1⟩ := q1
  subst e1
  refine dnE_intro r w1 (sr.mono st1) (h1.bind.imp fun v2 H2 q2 => ?_)
  obtain ⟨S2, d2, e2, w2, st2, r2', h2⟩ := q2
  subst e2
  exact cmp_ok w2 (r1.mono st2) r2' h2
/-- the two comparisons of a chain -/
theorem chain_ok {o1 o2 : Cop} {ma mb mc : ME} {W : WX} {σ : L2.St} {r : Env} {S : Ws} {Q : Bool → Hp → Prop} (w : Wf C S) (sr : SRep C S r σ)
    (h : PostT C S ((do let x ← ev ma r; let y ← ev mb r; let k ← cmpM o1 x y; if k = true then (do let z ← ev mc r; cmpM o2 y z) else pure false : M Bool) S.mu) (fun c d H' => W c d σ H') Q) :
    tChain (rCmp C.K o1) (rCmp C.K o2) (dnE C (ev ma) W) (dnE C (ev mb) W) (dnE C (ev mc) W) σ S.H (bQ Q) := by
  refine dnE_intro r w sr (h.bind.imp fun v1 H1 q1 => ?_)
  obtain ⟨S1, d1, e1, w1, st1, r1, h1⟩ := q1
  subst e1
  refine dnE_intro r w1 (sr.mono st1) (h1.bind.imp fun v2 H2 q2 => ?_)
  obtain ⟨S2, d2, e2, w2, st2, r2', h2⟩ := q2
  subst e2
  have sr2 := (sr.mono st1).mono st2
  refine cmp_ok w2 (r1.mono st2) r2' (W := fun c d H' => W c d σ H') ?_
  have h3 := h2.bindT
  cases e : cmpM o1 d1 d2 S2.mu with
  | stuck => rw [e] at h3; exact h3
  | exc c ks vs m => rw [e] at h3; exact h3
  | ok k m =>
    rw [e] at h3
    intro S3 em w3 st3
    obtain ⟨S3', e3, w3', st3', h4⟩ := h3 S3 em w3 st3
    rw [← e3]
    cases k with
    | false =>
      rw [if_neg Bool.false_ne_true]
      rw [if_neg Bool.false_ne_true] at h4
      exact ⟨_, rfl, h4.pure w3'⟩
    | true =>
      rw [if_pos rfl]
      rw [if_pos rfl] at h4
      refine dnE_intro r w3' (sr2.mono st3') (h4.bind.imp fun v4 H4 q4 => ?_)
      obtain ⟨S4, d4, e4, w4, st4, r4, h5⟩ := q4
      subst e4
      exact cmp_ok w4 ((r2'.mono st3').mono st4) r4 h5
theorem tChain_mono {r r' : R2} {ta tb tc : TE} {σ : L2.St} {H : Hp} {Q Q' : VK} (hq : ∀ v H, Q v H → Q' v H) (hr : ∀ x y H Q Q', (∀ v H, Q v H → Q' v H) → r x y H Q → r x y H Q') (hr' : ∀ x y H Q Q', (∀ v H, Q v H → Q' v H) → r' x y H Q → r' x y H Q')
    (ha : ∀ σ H Q Q', (∀ v H, Q v H → Q' v H) → ta σ H Q → ta σ H Q') (hb : ∀ σ H Q Q', (∀ v H, Q v H → Q' v H) → tb σ H Q → tb σ H Q') (hc : ∀ σ H Q Q', (∀ v H, Q v H → Q' v H) → tc σ H Q → tc σ H Q')
    (h : tChain r r' ta tb tc σ H Q) : tChain r r' ta tb tc σ H Q' := by
  refine ha _ _ _ _ (fun v1 H1 q1 => hb _ _ _ _ (fun v2 H2 q2 => hr _ _ _ _ _ (fun v3 H3 q3 => ?_) q2) q1) h
  obtain ⟨k, e, q⟩ := q3
  refine ⟨k, e, ?_⟩
  split at q
  · rename_i z; rw [if_pos z]; exact hc _ _ _ _ (fun v4 H4 q4 => hr' _ _ _ _ _ hq q4) q
  · rename_i z; rw [if_neg z]; exact hq _ _ q
theorem dnE_mono {f : Env → M D} {W : WX} : ∀ σ H (Q Q' : VK), (∀ v H, Q v H → Q' v H) → dnE C f W σ H Q → dnE C f W σ H Q' := fun σ H Q Q' k ⟨r, S, hH, w, sr, h⟩ => ⟨r, S, hH, w, sr, h.imp k⟩
theorem rCmp_mono {K : PySem.W.Frag} {o : Cop} : ∀ x y H (Q Q' : VK), (∀ v H, Q v H → Q' v H) → rCmp K o x y H Q → rCmp K o x y H Q' := fun x y H Q Q' k q => by
  cases o with
  | eq => obtain ⟨d, e', a1, a2, a3, a4, a5⟩ := q; exact ⟨d, e', a1, a2, a3, a4, k _ _ a5⟩
  | ne => obtain ⟨d, e', a1, a2, a3, a4, a5⟩ := q; exact ⟨d, e', a1, a2, a3, a4, k _ _ a5⟩
  | is => obtain ⟨a1, a2⟩ := q; exact ⟨a1, k _ _ a2⟩
  | isnt => obtain ⟨a1, a2⟩ := q; exact ⟨a1, k _ _ a2⟩
  | lt =>
    rcases q with ⟨i, j, a1, a2, a3⟩ | ⟨i, j, a1, a2, a3⟩
    · exact .inl ⟨i, j, a1, a2, k _ _ a3⟩
    · exact .inr ⟨i, j, a1, a2, k _ _ a3⟩
  | le =>
    rcases q with ⟨i, j, a1, a2, a3⟩ | ⟨i, j, a1, a2, a3⟩
    · exact .inl ⟨i, j, a1, a2, k _ _ a3⟩
    · exact .inr ⟨i, j, a1, a2, k _ _ a3⟩
  | gt =>
    rcases q with ⟨i, j, a1, a2, a3⟩ | ⟨i, j, a1, a2, a3⟩
    · exact .inl ⟨i, j, a1, a2, k _ _ a3⟩
    · exact .inr ⟨i, j, a1, a2, k _ _ a3⟩
  | ge =>
    rcases q with ⟨i, j, a1, a2, a3⟩ | ⟨i, j, a1, a2, a3⟩
    · exact .inl ⟨i, j, a1, a2, k _ _ a3⟩
    · exact .inr ⟨i, j, a1, a2, k _ _ a3⟩
  | in_ =>
    rcases q with ⟨c, z, a1, a2, a3⟩ | ⟨p, xs, a1, a2, a3, a4, a5⟩ | ⟨d, ds, a1, a2, a3, a4, a5⟩
    · exact .inl ⟨c, z, a1, a2, k _ _ a3⟩
    · exact .inr (.inl ⟨p, xs, a1, a2, a3, a4, k _ _ a5⟩)
    · exact .inr (.inr ⟨d, ds, a1, a2, a3, a4, k _ _ a5⟩)
  | nin =>
    rcases q with ⟨c, z, a1, a2, a3⟩ | ⟨p, xs, a1, a2, a3, a4, a5⟩ | ⟨d, ds, a1, a2, a3, a4, a5⟩
    · exact .inl ⟨c, z, a1, a2, k _ _ a3⟩
    · exact .inr (.inl ⟨p, xs, a1, a2, a3, a4, k _ _ a5⟩)
    · exact .inr (.inr ⟨d, ds, a1, a2, a3, a4, k _ _ a5⟩)
theorem M.bind_assoc {α β γ : Type} (x : M α) (f : α → M β) (g : β → M γ) : ((x >>= f) >>= g) = (x >>= fun a => f a >>= g) := by
  funext m
  simp only [M.bind_ap]
  cases x m <;> rfl
theorem M.bind_ite {α β : Type} {c : Prop} [Decidable c] (x y : M α) (f : α → M β) : ((if c then x else y) >>= f) = if c then x >>= f else y >>= f := by split <;> rfl
theorem st_cmp2 {o1 o2 : Cop} {a b c : Expr} {ma mb mc : ME} {pos : Pos} (ha : SE C X a ma) (hb : SE C X b mb) (hc : SE C X c mc) (hK : X.K = C.K) (hu : X.A.units + 65 < cLine) (hm : lastMarks [o1.op, o2.op] [b, c] = false) :
    ST C X (.Compare a [o1.op, o2.op] [b, c] pos) (.cmp2 o1 o2 ma mb mc) := fun W tk => by
  refine PTw (pt_chain (op_cmpA hu o1) (op_cmpA hu o2) (ha W tk) (hb W tk) (hc W tk) hm) (t' := dnT C (evT (.cmp2 o1 o2 ma mb mc)) W) ?_
  rw [hK]
  intro σ H Q ⟨r, S, hH, w, sr, h⟩
  subst hH
  simp only [evT] at h
  exact chain_ok w sr h
theorem se_cmp2 {o1 o2 : Cop} {a b c : Expr} {ma mb mc : ME} {pos : Pos} (ha : SE C X a ma) (hb : SE C X b mb) (hc : SE C X c mc) (hK : X.K = C.K) (hu : X.A.units + 65 < cLine) (hm : lastMarks [o1.op, o2.op] [b, c] = false) :
    SE C X (.Compare a [o1.op, o2.op] [b, c] pos) (.cmp2 o1 o2 ma mb mc) := fun W tk => by
  refine PEw (pe_chain (op_cmpA hu o1) (op_cmpA hu o2) (ha W tk) (hb W tk) (hc W tk) hm) (t' := dnE C (ev (.cmp2 o1 o2 ma mb mc)) W) ?_
  rw [hK]
  intro σ H Q ⟨r, S, hH, w, sr, h⟩
  subst hH
  have e : ev (.cmp2 o1 o2 ma mb mc) r = (do let q ← evT (.cmp2 o1 o2 ma mb mc) r; pure (.bl q) : M D) := by
    simp only [ev, evT, M.bind_assoc, M.bind_ite]
    rfl
  rw [e] at h
  have h' := cmp_toE h
  simp only [evT] at h'
  refine tChain_mono ?_ rCmp_mono rCmp_mono dnE_mono dnE_mono dnE_mono (chain_ok w sr h')
  intro v H ⟨k, e, q⟩
  rw [e]; exact q

/-! ### and, or, not, if -/
theorem blM_ok {S : Ws} {d : D} {v : V} {W : XK} {Q : Bool → Hp → Prop} (w : Wf C S) (r : Rep C S d v) (h : PostT C S (blM d S.mu) W Q) : ∃ c, v = .bl c ∧ Q c S.H := by
  unfold blM at h
  split at h
  · rw [rep_bl] at r; exact ⟨_, r, h.pure w⟩
  · exact h.elim
theorem se_one {op : BoolOp} {a : Expr} {ma : ME} {pos : Pos} (ha : SE C X a ma) : SE C X (.BoolOp op [a] pos) ma := fun W tk => pe_one (ha W tk)
theorem se_and {a b : Expr} {rest : List Expr} {ma mb : ME} {pos : Pos} (ha : SE C X a ma) (hb : SE C X (.BoolOp .And (b :: rest) pos) mb) : SE C X (.BoolOp .And (a :: b :: rest) pos) (.and ma mb) := fun W tk =>
  PEw (pe_and (ha W tk) (hb W tk)) fun σ H Q ⟨r, S, hH, w, sr, h⟩ => by
    subst hH
    simp only [ev] at h
    refine dnE_intro r w sr (h.bind.imp fun v1 H1 q1 => ?_)
    obtain ⟨S1, d1, e1, w1, st1, r1, h1⟩ := q1
    subst e1
    refine (blM_ok w1 r1 h1.bindT).imp fun c q => ⟨q.1, ?_⟩
    obtain ⟨S2, e2, w2, st2, h2⟩ := q.2
    rw [← e2]
    split
    · rename_i z; rw [if_pos z] at h2; exact dnE_intro r w2 ((sr.mono st1).mono st2) h2
    · rename_i z; rw [if_neg z] at h2; exact h2.pure w2 (rep_bl.mpr rfl)
theorem se_or {a b : Expr} {rest : List Expr} {ma mb : ME} {pos : Pos} (ha : SE C X a ma) (hb : SE C X (.BoolOp .Or (b :: rest) pos) mb) : SE C X (.BoolOp .Or (a :: b :: rest) pos) (.or ma mb) := fun W tk =>
  PEw (pe_or (ha W tk) (hb W tk)) fun σ H Q ⟨r, S, hH, w, sr, h⟩ => by
    subst hH
    simp only [ev] at h
    refine dnE_intro r w sr (h.bind.imp fun v1 H1 q1 => ?_)
    obtain ⟨S1, d1, e1, w1, st1, r1, h1⟩ := q1
    subst e1
    refine (blM_ok w1 r1 h1.bindT).imp fun c q => ⟨q.1, ?_⟩
    obtain ⟨S2, e2, w2, st2, h2⟩ := q.2
    rw [← e2]
    split
    · rename_i z; rw [if_pos z] at h2; exact h2.pure w2 (rep_bl.mpr rfl)
    · rename_i z; rw [if_neg z] at h2; exact dnE_intro r w2 ((sr.mono st1).mono st2) h2
theorem se_not {a : Expr} {ma : ME} {pos : Pos} (ha : SE C X a ma) : SE C X (.UnaryOp .Not a pos) (.not ma) := fun W tk =>
  PEw (pe_not (ha W tk)) fun σ H Q ⟨r, S, hH, w, sr, h⟩ => by
    subst hH
    simp only [ev] at h
    refine dnE_intro r w sr (h.bind.imp fun v1 H1 q1 => ?_)
    obtain ⟨S1, d1, e1, w1, st1, r1, h1⟩ := q1
    subst e1
    refine (blM_ok w1 r1 h1.bindT).imp fun c q => ⟨q.1, ?_⟩
    obtain ⟨S2, e2, w2, st2, h2⟩ := q.2
    rw [← e2]
    exact h2.pure w2 (rep_bl.mpr rfl)
theorem PostT.imp {S : Ws} {r : R Bool} {W : XK} {Q Q' : Bool → Hp → Prop} (h : PostT C S r W Q) (k : ∀ v H, Q v H → Q' v H) : PostT C S r W Q' := by
  cases r with
  | ok d m => exact fun S2 e w s => k _ _ (h S2 e w s)
  | exc c ks ds m => exact h
  | stuck => exact h
theorem PostA.imp {S : Ws} {r : R (List D)} {W : XK} {Q Q' : List V → Hp → Prop} (h : PostA C S r W Q) (k : ∀ v H, Q v H → Q' v H) : PostA C S r W Q' := by
  cases r with
  | ok d m => exact fun S2 v e w s r => k _ _ (h S2 v e w s r)
  | exc c ks ds m => exact h
  | stuck => exact h
theorem st_val {a : Expr} {ma : ME} (ha : SE C X a ma) (hK : X.K = C.K) (he : ∀ whole, isTrue a X.env whole = (do let v ← whole; standAt a.pos; holding [v] (truthy v))) : ST C X a (.val ma) := fun W tk => by
  refine PTw (pt_truth (ha W tk) he) (t' := dnT C (evT (.val ma)) W) ?_
  rw [hK]
  intro σ H Q ⟨r, S, hH, w, sr, h⟩
  subst hH
  simp only [evT] at h
  refine dnE_intro r w sr (h.bind.imp fun v1 H1 q1 => ?_)
  obtain ⟨S1, d1, e1, w1, st1, r1, h1⟩ := q1
  subst e1
  exact tru_okM w1 r1 h1
theorem sw_one {op : BoolOp} {a : Expr} {ma : MT} {pos : Pos} (ha : ST C X a ma) : SW C X (.BoolOp op [a] pos) ma := fun W tk => match op with
  | .And => pw_and1 (ha W tk)
  | .Or => pw_or1 (ha W tk)
theorem sw_and {a b : Expr} {rest : List Expr} {ma mb : MT} {pos : Pos} (ha : ST C X a ma) (hb : SW C X (.BoolOp .And (b :: rest) pos) mb) : SW C X (.BoolOp .And (a :: b :: rest) pos) (.and ma mb) := fun W tk =>
  PWw (pw_and (ha W tk) (hb W tk)) fun σ H Q ⟨r, S, hH, w, sr, h⟩ => by
    subst hH
    simp only [evT] at h
    refine dnT_intro r w sr (h.bindT.imp fun c H1 q1 => ?_)
    obtain ⟨S1, e1, w1, st1, h1⟩ := q1
    subst e1
    split
    · rename_i z; rw [if_pos z] at h1; exact dnT_intro r w1 (sr.mono st1) h1
    · rename_i z; rw [if_neg z] at h1; exact h1.pure w1
theorem sw_or {a b : Expr} {rest : List Expr} {ma mb : MT} {pos : Pos} (ha : ST C X a ma) (hb : SW C X (.BoolOp .Or (b :: rest) pos) mb) : SW C X (.BoolOp .Or (a :: b :: rest) pos) (.or ma mb) := fun W tk =>
  PWw (pw_or (ha W tk) (hb W tk)) fun σ H Q ⟨r, S, hH, w, sr, h⟩ => by
    subst hH
    simp only [evT] at h
    refine dnT_intro r w sr (h.bindT.imp fun c H1 q1 => ?_)
    obtain ⟨S1, e1, w1, st1, h1⟩ := q1
    subst e1
    split
    · rename_i z; rw [if_pos z] at h1; exact h1.pure w1
    · rename_i z; rw [if_neg z] at h1; exact dnT_intro r w1 (sr.mono st1) h1
theorem st_sw {a : Expr} {ma : MT} (ha : SW C X a ma) : ST C X a ma := fun W tk => (ha W tk).pt
theorem st_not {a : Expr} {ma : MT} {pos : Pos} (ha : ST C X a ma) : ST C X (.UnaryOp .Not a pos) (.not ma) := fun W tk =>
  PTw (pt_not (ha W tk)) fun σ H Q ⟨r, S, hH, w, sr, h⟩ => by
    subst hH
    simp only [evT] at h
    refine dnT_intro r w sr (h.bindT.imp fun c H1 q1 => ?_)
    obtain ⟨S1, e1, w1, st1, h1⟩ := q1
    subst e1
    exact h1.pure w1
theorem se_ite {c a b : Expr} {mc : MT} {ma mb : ME} {pos : Pos} (hc : ST C X c mc) (ha : SE C X a ma) (hb : SE C X b mb) : SE C X (.IfExp c a b pos) (.ite mc ma mb) := fun W tk =>
  PEw (pe_ifExp (hc W tk) (ha W tk) (hb W tk)) fun σ H Q ⟨r, S, hH, w, sr, h⟩ => by
    subst hH
    simp only [ev] at h
    refine dnT_intro r w sr (h.bindT.imp fun c H1 q1 => ?_)
    obtain ⟨S1, e1, w1, st1, h1⟩ := q1
    subst e1
    split
    · rename_i z; rw [if_pos z] at h1; exact dnE_intro r w1 (sr.mono st1) h1
    · rename_i z; rw [if_neg z] at h1; exact dnE_intro r w1 (sr.mono st1) h1

/-! ### lists of arguments, tuples, lists -/
theorem sa_nil : SA C X [] .nil := fun W tk => PAw pa_nil fun σ H Q ⟨r, S, hH, w, sr, h⟩ => by
  subst hH
  simp only [evs] at h
  exact h S [] rfl w (Step.refl S) Reps.nil
theorem sa_cons {e : Expr} {es : List Expr} {me : ME} {mes : MEs} (he : SE C X e me) (hes : SA C X es mes) (hs : starEach (e :: es) X.env = (false, eval e X.env) :: starEach es X.env) : SA C X (e :: es) (.cons me mes) := fun W tk =>
  PAw (pa_cons (he W tk) (hes W tk) hs) fun σ H Q ⟨r, S, hH, w, sr, h⟩ => by
    subst hH
    simp only [evs] at h
    refine dnE_intro r w sr (h.bind.imp fun v1 H1 q1 => ?_)
    obtain ⟨S1, d1, e1, w1, st1, r1, h1⟩ := q1
    subst e1
    refine dnA_intro r w1 (sr.mono st1) (h1.bindA.imp fun vs H2 q2 => ?_)
    obtain ⟨S2, ds, e2, w2, st2, r2, h2⟩ := q2
    subst e2
    exact h2 S2 _ rfl w2 (Step.refl S2) (Reps.cons (r1.mono st2) r2)
theorem se_tup {es : List Expr} {mes : MEs} {k : Nat} {pos : Pos} (h : SA C X es mes) : SE C X (.Tuple es k pos) (.tup mes) := fun W tk =>
  PEw (pe_tup (h W tk)) fun σ H Q ⟨r, S, hH, w, sr, h⟩ => by
    subst hH
    simp only [ev] at h
    refine dnA_intro r w sr (h.bindA.imp fun vs H1 q1 => ?_)
    obtain ⟨S1, ds, e1, w1, st1, r1, h1⟩ := q1
    subst e1
    split at h1
    · rename_i hl
      exact ⟨by rw [← r1.len]; exact hl, fun p hp => h1.newT w1 hp hl r1⟩
    · exact h1.elim
theorem se_lst {es : List Expr} {mes : MEs} {pos : Pos} (h : SA C X es mes) : SE C X (.List es pos) (.lst mes) := fun W tk =>
  PEw (pe_lst (h W tk)) fun σ H Q ⟨r, S, hH, w, sr, h⟩ => by
    subst hH
    simp only [ev] at h
    refine dnA_intro r w sr (h.bindA.imp fun vs H1 q1 => ?_)
    obtain ⟨S1, ds, e1, w1, st1, r1, h1⟩ := q1
    subst e1
    split at h1
    · rename_i hl
      exact ⟨by rw [← r1.len]; exact hl, fun p hp => h1.newL w1 hp hl r1⟩
    · exact h1.elim
theorem se_new {es : List Expr} {mes : MEs} {pos : Pos} (h : SA C X es mes) : SE C X (.List es pos) (.new mes) := fun W tk =>
  PEw (pe_lst (h W tk)) fun σ H Q ⟨r, S, hH, w, sr, h⟩ => by
    subst hH
    simp only [ev] at h
    refine dnA_intro r w sr (h.bindA.imp fun vs H1 q1 => ?_)
    obtain ⟨S1, ds, e1, w1, st1, r1, h1⟩ := q1
    subst e1
    split at h1
    · rename_i hl
      exact ⟨by rw [← r1.len]; exact hl, fun p hp => PostE.newCell w1 h1 hp hl r1⟩
    · exact h1.elim
/-! ### subscripts -/
theorem se_idx {a b : Expr} {ma mb : ME} {pos : Pos} (ha : SE C X a ma) (hb : SE C X b mb) (hK : X.K = C.K) (hu : X.A.units + 65 < cLine) (hs : PlainIx b) : SE C X (.Subscript a b pos) (.idx ma mb) := fun W tk => by
  refine PEw (pe_ix (ix_all (by omega)) (ha W tk) (hb W tk) hs) (t' := dnE C (ev (.idx ma mb)) W) ?_
  rw [hK]
  simp only [ev]
  exact dn_op fun S d1 d2 v1 v2 W Q w r1 r2 h => idx_ok w r1 r2 h
def SO (C : Ct) (X : Cx) (e : Option Expr) (m : MO) : Prop := ∀ W, Takes X W → PO X e (fun σ H Q => ∃ r S, S.H = H ∧ Wf C S ∧ SRep C S r σ ∧ (match evO m r S.mu with
  | .ok o m' => ∀ S', S'.mu = m' → Wf C S' → Step S S' → Q o S'.H
  | .exc c ks ds m' => ∀ S' dx, S'.mu = m' → Wf C S' → Step S S' → ExcAt C S' ks ds dx → W (.ref (He.ga C.K (C.nm c))) (some dx) σ S'.H
  | .stuck => False))
theorem POw {e : Option Expr} {t t' : TO} (h : PO X e t) (k : ∀ σ H Q, t' σ H Q → t σ H Q) : PO X e t' := ⟨fun pins s σ H Q I q => h.run pins s σ H Q I (k σ H Q q)⟩
theorem so_no : SO C X none .no := fun W tk => POw po_none fun σ H Q ⟨r, S, hH, w, sr, h⟩ => by
  subst hH
  simp only [evO] at h
  exact h S rfl w (Step.refl S)
theorem so_yes {e : Expr} {me : ME} (he : SE C X e me) : SO C X (some e) (.yes me) := fun W tk => POw (po_some (he W tk)) fun σ H Q ⟨r, S, hH, w, sr, h⟩ => by
  subst hH
  simp only [evO, M.bind_ap] at h
  refine dnE_intro r w sr ?_
  cases e : ev me r S.mu with
  | stuck => rw [e] at h; exact h
  | exc c ks vs m => rw [e] at h; exact h
  | ok d m =>
    rw [e] at h
    intro S' v em w' st q
    subst em
    simp only [intO] at h
    cases d with
    | int i => rw [rep_int] at q; exact ⟨i, q, h S' rfl w' st⟩
    | _ => exact h.elim
theorem se_slc {a : Expr} {lo hi : Option Expr} {ma : ME} {ml mh : MO} {p2 pos : Pos} (ha : SE C X a ma) (hl : SO C X lo ml) (hh : SO C X hi mh) (hK : X.K = C.K) : SE C X (.Subscript a (.Slice lo hi none p2) pos) (.slc ma ml mh) := fun W tk => by
  refine PEw (pe_slice sl_all (ha W tk) (hl W tk) (hh W tk)) (t' := dnE C (ev (.slc ma ml mh)) W) ?_
  rw [hK]
  intro σ H Q ⟨r, S, hH, w, sr, h⟩
  subst hH
  simp only [ev] at h
  refine dnE_intro r w sr (h.bind.imp fun v1 H1 q1 => ?_)
  obtain ⟨S1, d1, e1, w1, st1, r1, h1⟩ := q1
  subst e1
  refine ⟨r, S1, rfl, w1, sr.mono st1, ?_⟩
  rw [M.bind_ap] at h1
  cases e : evO ml r S1.mu with
  | stuck => rw [e] at h1; exact h1
  | exc c ks vs m => rw [e] at h1; exact h1
  | ok o1 m =>
    rw [e] at h1
    intro S2 em2 w2 st2
    subst em2
    refine ⟨r, S2, rfl, w2, (sr.mono st1).mono st2, ?_⟩
    replace h1 : PostE C S1 ((do let h ← evO mh r; slcM d1 o1 h : M D) S2.mu) _ _ := h1
    have h2 := h1.step st2
    rw [M.bind_ap] at h2
    cases e' : evO mh r S2.mu with
    | stuck => rw [e'] at h2; exact h2
    | exc c ks vs m => rw [e'] at h2; exact h2
    | ok o2 m =>
      rw [e'] at h2
      intro S3 em3 w3 st3
      subst em3
      exact slc_ok w3 ((r1.mono st2).mono st3) (h2.step st3)
end
end Fs

/-! FsH: what is walked; comprehensions; calls. -/
namespace Fs
open PySem PySem.Spec PyProof.Rows L2
open Classical

/-! ### what is walked -/
structure SrcOk (C : Ct) (S0 : Ws) (J : It) (t : Itm) : Prop where
  len : t.ds.length ≤ sizeLine
  ex : ∃ (G : Hp → Prop) (Y : Nat → Hp → V → Hp → Prop), Walk J t.ds.length G Y ∧ (∀ S, Wf C S → Step0 S0 S → t.ok S.mu → G S.H) ∧
    (∀ (i : Nat) (x : V) (S : Ws) (H' : Hp), i < t.ds.length → Wf C S → Step0 S0 S → t.ok S.mu → Y i S.H x H' → ∃ (S' : Ws) (d : D), S'.H = H' ∧ S'.mu = S.mu ∧ Wf C S' ∧ Step S S' ∧ t.ds[i]? = some d ∧ Rep C S' d x)
def PostI (C : Ct) (S : Ws) (r : R Itm) (W : XK) (Rq : It → Hp → Prop) : Prop :=
  match r with
  | .ok t m => ∀ S' J, S'.mu = m → Wf C S' → Step S S' → SrcOk C S' J t → Rq J S'.H
  | .exc c ks ds m => ∀ S' dx, S'.mu = m → Wf C S' → Step S S' → ExcAt C S' ks ds dx → W (.ref (He.ga C.K (C.nm c))) (some dx) S'.H
  | .stuck => False
def dnI (C : Ct) (f : Env → M Itm) (W : WX) : TI := fun σ H Rq => ∃ r S, S.H = H ∧ Wf C S ∧ SRep C S r σ ∧ PostI C S (f r S.mu) (fun c d H' => W c d σ H') Rq
def SI (C : Ct) (X : Cx) (tg e : Expr) (m : MI) : Prop := ∀ W, Takes X W → PI X tg e (dnI C (evI m) W)
section
variable {C : Ct} {X : Cx}
theorem PIw {tg e : Expr} {t t' : TI} (h : PI X tg e t) (k : ∀ σ H Q, t' σ H Q → t σ H Q) : PI X tg e t' := ⟨fun pins s σ H Q I q => h.run pins s σ H Q I (k σ H Q q)⟩
theorem PostI.step {S S' : Ws} (st : Step S S') {r : R Itm} {W : XK} {Rq : It → Hp → Prop} (h : PostI C S r W Rq) : PostI C S' r W Rq := by
  cases r with
  | ok d m => exact fun S2 v e w s r => h S2 v e w (st.trans s) r
  | exc c ks ds m => exact fun S2 v e w s r => h S2 v e w (st.trans s) r
  | stuck => exact h
theorem PostI.bind {S : Ws} {x : M D} {g : D → M Itm} {W : XK} {Rq : It → Hp → Prop} (h : PostI C S ((x >>= g) S.mu) W Rq) :
    PostE C S (x S.mu) W (fun v H' => ∃ S' d, S'.H = H' ∧ Wf C S' ∧ Step S S' ∧ Rep C S' d v ∧ PostI C S' (g d S'.mu) W Rq) := by
  rw [M.bind_ap] at h
  cases e : x S.mu with
  | ok d m =>
    rw [e] at h
    intro S' v em w st r
    subst em
    exact ⟨S', d, rfl, w, st, r, h.step st⟩
  | exc c ks ds m => rw [e] at h; exact h
  | stuck => rw [e] at h; exact h
/-- a list, a tuple or a text -/
theorem pi_any {tg e : Expr} {te : TE} (he : PE X e te) : PI X tg e (fun σ H R => te σ H fun x H1 =>
    (∃ a, x = .ref a ∧ (∃ xs, SqL X.K H1 a xs) ∧ R (Itl X.K a) H1) ∨ (∃ a, x = .ref a ∧ (∃ xs, SqT X.K H1 a xs) ∧ R (Itt X.K a) H1) ∨ (∃ z, x = .str z ∧ R (Its z) H1)) := by
  refine ⟨fun pins s σ H R I h => ?_⟩
  refine thn (he.run pins s σ H _ I h) fun v s1 ⟨x, H1, I1, r1, q⟩ => ?_
  rcases q with ⟨a, e, ⟨xs, hq⟩, q⟩ | ⟨a, e, ⟨xs, hq⟩, q⟩ | ⟨z, ex, q⟩
  · subst e
    cases r1
    obtain ⟨its, rv, p, hz⟩ := I1.list hq
    exact wpAny_pyIter_list p.isList (pi_one (tk := s1.toks) I1 _ (turn_list a _) ⟨_, Heap.get?_push_size _ rfl, rfl, rfl⟩ q)
  · subst e
    cases r1
    obtain ⟨its, rv, p, hz⟩ := I1.tuple hq
    exact wpAny_pyIter_tuple (show s1.heap.IsTuple a its.toArray from p) (pi_one (tk := s1.toks) I1 _ (turn_tuple a _) ⟨_, Heap.get?_push_size _ rfl, rfl, rfl⟩ q)
  · subst ex
    obtain ⟨t, rfl⟩ := r1
    cases ha : z.cps.all (· < 128)
    · exact wpAny_pyIter_wide ha (pi_one (tk := s1.toks) I1 _ (turn_str _ z t "str_iterator" (.inr rfl)) ⟨_, Heap.get?_push_size _ rfl, rfl, rfl⟩ q)
    · exact wpAny_pyIter_ascii ha (pi_one (tk := s1.toks) I1 _ (turn_str _ z t "str_ascii_iterator" (.inl rfl)) ⟨_, Heap.get?_push_size _ rfl, rfl, rfl⟩ q)
theorem yat_same {S : Ws} {ds : List D} {vs : List V} {i : Nat} {x : V} {H' : Hp} (w : Wf C S) (rs : Reps C S ds vs) (y : H' = S.H ∧ vs[i]? = some x) : ∃ (S' : Ws) (d : D), S'.H = H' ∧ S'.mu = S.mu ∧ Wf C S' ∧ Step S S' ∧ ds[i]? = some d ∧ Rep C S' d x := by
  obtain ⟨d, h1, h2⟩ := rs.get' y.2
  exact ⟨S, d, y.1.symm, rfl, w, Step.refl S, h1, h2⟩
theorem src_list {S0 : Ws} {a : Addr} {ds : List D} {vs : List V} (f : Fx S0 a (.lst vs)) (l : ds.length ≤ sizeLine) (r : Reps C S0 ds vs) : SrcOk C S0 (Itl C.K a) ⟨ds, none⟩ := by
  refine ⟨l, _, _, (show Walk (Itl C.K a) ds.length _ _ from by rw [r.len]; exact walk_list), fun S w st _ => SqL.of (st.fx f).1, fun i x S H' hi w st _ y => ?_⟩
  exact yat_same w (r.mono0 st) y
theorem src_tup {S0 : Ws} {a : Addr} {ds : List D} {vs : List V} (f : Fx S0 a (.tup vs)) (l : ds.length ≤ sizeLine) (r : Reps C S0 ds vs) : SrcOk C S0 (Itt C.K a) ⟨ds, none⟩ := by
  refine ⟨l, _, _, (show Walk (Itt C.K a) ds.length _ _ from by rw [r.len]; exact walk_tup), fun S w st _ => SqT.of (st.fx f).1, fun i x S H' hi w st _ y => ?_⟩
  exact yat_same w (r.mono0 st) y
theorem src_wtp {S0 : Ws} {a : Addr} {ds : List D} {vs : List V} (f : WrT C.K a vs) (l : ds.length ≤ sizeLine) (r : Reps C S0 ds vs) : SrcOk C S0 (Itt C.K a) ⟨ds, none⟩ := by
  refine ⟨l, _, _, (show Walk (Itt C.K a) ds.length _ _ from by rw [r.len]; exact walk_tup), fun S w st _ => (Or.inr f : SqT C.K S.H a vs), fun i x S H' hi w st _ y => ?_⟩
  exact yat_same w (r.mono0 st) y
theorem src_frz {S0 : Ws} {a : Addr} {ds : List D} {vs : List V} (f : FzL C.K S0 a vs) (l : ds.length ≤ sizeLine) (r : Reps C S0 ds vs) : SrcOk C S0 (Itl C.K a) ⟨ds, none⟩ := by
  refine ⟨l, _, _, (show Walk (Itl C.K a) ds.length _ _ from by rw [r.len]; exact walk_list), fun S w st _ => (f.fx st).seq, fun i x S H' hi w st _ y => ?_⟩
  exact yat_same w (r.mono0 st) y
theorem src_str {S0 : Ws} {z : List Char} (l : z.length ≤ sizeLine) : SrcOk C S0 (Its (toS z)) ⟨z.map fun c => .str [c], none⟩ := by
  refine ⟨by simpa using l, _, _, (show Walk (Its (toS z)) (z.map fun c => D.str [c]).length _ _ from by
    have e : (z.map fun c => D.str [c]).length = (toS z).cps.size := by simp [toS]
    rw [e]; exact walk_str), fun S w st _ => trivial, fun i x S H' hi w st _ y => ?_⟩
  obtain ⟨e, c, hc, hx⟩ := y
  have hi' : i < z.length := by simpa using hi
  refine ⟨S, .str [z[i]], e.symm, rfl, w, Step.refl S, by simp [hi'], ?_⟩
  rw [rep_str]
  refine ⟨?_, small16 (by simp)⟩
  have : (z.map Char.toNat)[i]? = some c := by
    have : (toS z).cps[i]? = ((toS z).cps.toList)[i]? := by simp
    rw [← toS_cps, ← this]; exact hc
  rw [List.getElem?_map, List.getElem?_eq_getElem hi'] at this
  simp at this
  rw [hx, ← this]
  simp [toS]
theorem src_rng {S0 : Ws} {lo : Int} {n : Nat} (l : n ≤ sizeLine) : SrcOk C S0 (Itr lo n) ⟨rngL lo n, none⟩ := by
  refine ⟨by simpa [rngL] using l, _, _, (show Walk (Itr lo n) (rngL lo n).length _ _ from by
    have e : (rngL lo n).length = n := by simp [rngL]
    rw [e]; exact walk_range), fun S w st _ => trivial, fun i x S H' hi w st _ y => ?_⟩
  have hi' : i < n := by simpa [rngL] using hi
  exact ⟨S, .int (lo + (i : Int)), y.1.symm, rfl, w, Step.refl S, by simp [rngL, hi'], by rw [y.2]; exact rep_int.mpr rfl⟩
theorem src_obj {S0 : Ws} (w0 : Wf C S0) {n : Nat} {a : Addr} {ds : List D} (hm : S0.mu[n]? = some (.lst ds)) (ha : S0.ad[n]? = some a) : SrcOk C S0 (Itl C.K a) ⟨ds, some n⟩ := by
  have hlen : ds.length ≤ sizeLine := by obtain ⟨_, _, l, _⟩ := w0.cell n _ a hm ha; exact l
  have key : ∀ S, Wf C S → Step0 S0 S → (Itm.mk ds (some n)).ok S.mu → ∃ vs, S.H a = some (.lst vs) ∧ Reps C S ds vs := by
    intro S w st ok
    obtain ⟨vs, h1, _, h2⟩ := w.cell n _ a ok (st.pre n a ha)
    exact ⟨vs, h1, h2⟩
  refine ⟨hlen, fun H => ∃ vs, H a = some (.lst vs) ∧ vs.length = ds.length, fun i H x H' => H' = H ∧ ∀ vs, H a = some (.lst vs) → vs[i]? = some x, ⟨fun i H hi g => ?_, fun H g => ?_, fun i H x H' hi g y => ?_⟩, fun S w st ok => ?_, fun i x S H' hi w st ok y => ?_⟩
  · obtain ⟨vs, g1, g2⟩ := g
    have : i < vs.length := by rw [g2]; exact hi
    exact ⟨vs, vs[i], SqL.of g1, by simp [this]⟩
  · obtain ⟨vs, g1, g2⟩ := g
    exact ⟨vs, SqL.of g1, by rw [g2]; exact Nat.le_refl _⟩
  · exact ⟨y.1, fun vs e => y.2 vs (SqL.of e)⟩
  · obtain ⟨vs, h1, h2⟩ := key S w st ok
    exact ⟨vs, h1, h2.len.symm⟩
  · obtain ⟨vs, h1, h2⟩ := key S w st ok
    exact yat_same w h2 ⟨y.1, y.2 vs h1⟩
theorem itm_ok {S : Ws} {d : D} {x : V} {W : XK} {Rq : It → Hp → Prop} (w : Wf C S) (ra : Rep C S d x) (h : PostI C S (itmM d S.mu) W Rq) :
    (∃ a, x = .ref a ∧ (∃ xs, SqL C.K S.H a xs) ∧ Rq (Itl C.K a) S.H) ∨ (∃ a, x = .ref a ∧ (∃ xs, SqT C.K S.H a xs) ∧ Rq (Itt C.K a) S.H) ∨ (∃ z, x = .str z ∧ Rq (Its z) S.H) := by
  unfold itmM at h
  split at h
  · rw [rep_str] at ra
    exact .inr (.inr ⟨_, ra.1, h S _ rfl w (Step.refl S) (src_str ra.2)⟩)
  · rw [rep_lst] at ra
    obtain ⟨a, vs, e, f, l, r⟩ := ra
    exact .inl ⟨a, e, ⟨vs, SqL.of f.1⟩, h S _ rfl w (Step.refl S) (src_list f l r)⟩
  · simp only [Rep] at ra
    obtain ⟨a, vs, e, f, l, r⟩ := ra
    exact .inr (.inl ⟨a, e, ⟨vs, SqT.of f.1⟩, h S _ rfl w (Step.refl S) (src_tup f l r)⟩)
  · simp only [Rep] at ra
    obtain ⟨a, vs, e, f, l, r⟩ := ra
    exact .inr (.inl ⟨a, e, ⟨vs, .inr f⟩, h S _ rfl w (Step.refl S) (src_wtp f l r)⟩)
  · simp only [Rep] at ra
    obtain ⟨a, vs, e, f, l, r⟩ := ra
    exact .inl ⟨a, e, ⟨vs, f.seq⟩, h S _ rfl w (Step.refl S) (src_frz f l r)⟩
  · simp only [Rep] at ra
    obtain ⟨a, ha, e⟩ := ra
    split at h
    · rename_i ds hm
      obtain ⟨vs, h1, _, h2⟩ := w.cell _ _ a hm ha
      exact .inl ⟨a, e, ⟨vs, SqL.of h1⟩, h S _ rfl w (Step.refl S) (src_obj w hm ha)⟩
    · exact h.elim
  · exact h.elim
theorem si_val {tg e : Expr} {me : ME} (he : SE C X e me) (hK : X.K = C.K) : SI C X tg e (.val me) := fun W tk => by
  refine PIw (pi_any (he W tk)) ?_
  rw [hK]
  intro σ H Rq ⟨r, S, hH, w, sr, h⟩
  subst hH
  simp only [evI] at h
  refine dnE_intro r w sr (h.bind.imp fun v1 H1 q1 => ?_)
  obtain ⟨S1, d1, e1, w1, st1, r1, h1⟩ := q1
  subst e1
  exact itm_ok w1 r1 h1
theorem si_rng1 {tg a : Expr} {ma : ME} {p pos : Pos} (ha : SE C X a ma) (hg : Gl X "range") (hm : X.mg "range" = none) (hs : starEach [a] X.env = [(false, eval a X.env)]) : SI C X tg (.Call (.Name "range" p) [a] [] pos) (.rng1 ma) := fun W tk => by
  refine PIw (pi_range1 hg hm (pa_cons (ha W tk) pa_nil hs) hs) ?_
  intro σ H Rq ⟨r, S, hH, w, sr, h⟩
  subst hH
  simp only [evI] at h
  refine dnE_intro r w sr (h.bind.imp fun v1 H1 q1 => ?_)
  obtain ⟨S1, d1, e1, w1, st1, r1, h1⟩ := q1
  subst e1
  unfold rng1M at h1
  split at h1
  · rename_i j
    split at h1
    · rename_i c
      rw [rep_int] at r1
      exact ⟨j, by rw [r1], c.1, c.2.1, h1 S1 _ rfl w1 (Step.refl S1) (src_rng c.2.2)⟩
    · exact h1.elim
  · exact h1.elim
theorem si_rng2 {tg a b : Expr} {ma mb : ME} {p pos : Pos} (ha : SE C X a ma) (hb : SE C X b mb) (hg : Gl X "range") (hm : X.mg "range" = none) (hs : starEach [a, b] X.env = [(false, eval a X.env), (false, eval b X.env)]) (hs2 : starEach [b] X.env = [(false, eval b X.env)]) :
    SI C X tg (.Call (.Name "range" p) [a, b] [] pos) (.rng2 ma mb) := fun W tk => by
  refine PIw (pi_range2 hg hm (pa_cons (ha W tk) (pa_cons (hb W tk) pa_nil hs2) (by rw [hs, hs2])) hs hs2) ?_
  intro σ H Rq ⟨r, S, hH, w, sr, h⟩
  subst hH
  simp only [evI] at h
  refine dnE_intro r w sr (h.bind.imp fun v1 H1 q1 => ?_)
  obtain ⟨S1, d1, e1, w1, st1, r1, h1⟩ := q1
  subst e1
  refine dnE_intro r w1 (sr.mono st1) (h1.bind.imp fun v2 H2 q2 => ?_)
  obtain ⟨S2, d2, e2, w2, st2, r2, h2⟩ := q2
  subst e2
  have r1' := r1.mono st2
  unfold rng2M at h2
  split at h2
  · rename_i i j
    split at h2
    · rename_i c
      rw [rep_int] at r1' r2
      exact ⟨i, j, by rw [r1', r2], ⟨c.1, c.2.1, c.2.2.1, c.2.2.2.1⟩, h2 S2 _ rfl w2 (Step.refl S2) (src_rng c.2.2.2.2)⟩
    · exact h2.elim
  · exact h2.elim
/-- a new pair of two data -/
theorem pair_new {S : Ws} {d e : D} {x y : V} {T : Addr} {H' : Hp} (w : Wf C S) (hT : S.H T = none) (hH : H' = upd S.H T (.tup [x, y])) (r1 : Rep C S d x) (r2 : Rep C S e y) :
    ∃ S' : Ws, S'.H = H' ∧ S'.mu = S.mu ∧ Wf C S' ∧ Step S S' ∧ Rep C S' (.tup [d, e]) (.ref T) := by
  refine ⟨S.new T (.tup [x, y]), hH.symm, rfl, w.new hT, Step.new w hT, rep_tup_new (Fx.new w hT) (small16 (by simp)) ?_⟩
  exact Reps.cons (r1.mono (Step.new w hT)) (Reps.cons (r2.mono (Step.new w hT)) Reps.nil)
theorem src_zip {S0 : Ws} {a b : Addr} {xs ys : List D} {vs us : List V} (f : Fx S0 a (.lst vs)) (g : Fx S0 b (.lst us)) (l : xs.length ≤ sizeLine) (r1 : Reps C S0 xs vs) (r2 : Reps C S0 ys us) :
    SrcOk C S0 (Itz C.K a b) ⟨(xs.zip ys).map fun p => .tup [p.1, p.2], none⟩ := by
  refine ⟨by simp only [List.length_map, List.length_zip]; omega, _, _, (show Walk (Itz C.K a b) _ _ _ from walk_zip (xs := vs) (ys := us) (by simp [r1.len, r2.len])), fun S w st _ => ⟨SqL.of (st.fx f).1, SqL.of (st.fx g).1⟩, fun i x S H' hi w st _ y => ?_⟩
  obtain ⟨T, x1, y1, e, hT, hH, h1, h2⟩ := y
  obtain ⟨d, k1, k2⟩ := (r1.mono0 st).get' h1
  obtain ⟨d', l1, l2⟩ := (r2.mono0 st).get' h2
  obtain ⟨S', z1, z2, z3, z4, z5⟩ := pair_new w hT hH k2 l2
  refine ⟨S', .tup [d, d'], z1, z2, z3, z4, ?_, by rw [e]; exact z5⟩
  simp [List.getElem?_map, List.zip, List.getElem?_zipWith, k1, l1]
theorem si_zip {a b : Expr} {elts : List Expr} {kk : Nat} {ma mb : ME} {p pos tpos : Pos} (ha : SE C X a ma) (hb : SE C X b mb) (hK : X.K = C.K) (hg : Gl X "zip") (hm : X.mg "zip" = none) (hs : starEach [a, b] X.env = (false, eval a X.env) :: starEach [b] X.env) (hs2 : starEach [b] X.env = (false, eval b X.env) :: starEach [] X.env)
    (hpl : (backTo pos (starEach [b] X.env)).any (·.1) = false) : SI C X (.Tuple elts kk tpos) (.Call (.Name "zip" p) [a, b] [] pos) (.zip ma mb) := fun W tk => by
  refine PIw (RZ.pi_zipA hg hm (pa_cons (ha W tk) (pa_cons (hb W tk) pa_nil hs2) hs) hs hpl) ?_
  rw [hK]
  intro σ H Rq ⟨r, S, hH, w, sr, h⟩
  subst hH
  simp only [evI] at h
  refine dnE_intro r w sr (h.bind.imp fun v1 H1 q1 => ?_)
  obtain ⟨S1, d1, e1, w1, st1, r1, h1⟩ := q1
  subst e1
  refine dnE_intro r w1 (sr.mono st1) (h1.bind.imp fun v2 H2 q2 => ?_)
  obtain ⟨S2, d2, e2, w2, st2, r2, h2⟩ := q2
  subst e2
  have r1' := r1.mono st2
  unfold zipM at h2
  split at h2
  · rename_i xs ys
    rw [rep_lst] at r1' r2
    obtain ⟨a1, vs, e1, f1, l1, q1⟩ := r1'
    obtain ⟨b1, us, e2, f2, l2, q2⟩ := r2
    exact ⟨a1, b1, vs, us, by rw [e1, e2], .inl ⟨SqL.of f1.1, SqL.of f2.1, h2 S2 _ rfl w2 (Step.refl S2) (src_zip f1 f2 l1 q1 q2)⟩⟩
  · rename_i xs ys
    simp only [Rep] at r1' r2
    obtain ⟨a1, vs, e1, f1, l1, q1⟩ := r1'
    obtain ⟨b1, us, e2, f2, l2, q2⟩ := r2
    refine ⟨a1, b1, vs, us, by rw [e1, e2], .inr ⟨SqT.of f1.1, SqT.of f2.1, h2 S2 _ rfl w2 (Step.refl S2) ⟨by simp only [List.length_map, List.length_zip]; omega, ?_⟩⟩⟩
    have hn : ((xs.zip ys).map fun p => D.tup [p.1, p.2]).length = min vs.length us.length := by simp [q1.len, q2.len]
    refine ⟨fun H => SqT C.K H a1 vs ∧ SqT C.K H b1 us, YPair (fun i => vs[i]?) (fun i => us[i]?), ⟨fun i H hi g => ?_, fun H g => ?_, fun i H x H' hi g y => ?_⟩, fun S w st _ => ⟨SqT.of (st.fx f1).1, SqT.of (st.fx f2).1⟩, fun i x S H' hi w st _ y => ?_⟩
    · have h1 : i < vs.length := by simp only at hi; omega
      have h2 : i < us.length := by simp only at hi; omega
      exact ⟨vs, us, vs[i], us[i], g.1, g.2, by simp [h1], by simp [h2]⟩
    · exact ⟨vs, us, g.1, g.2, by simp only; omega⟩
    · obtain ⟨T, x1, y1, e, hT, hH, k1, k2⟩ := y
      exact ⟨T, x1, y1, e, hT, hH, k1 vs g.1, k2 us g.2⟩
    · obtain ⟨T, x1, y1, e, hT, hH, h1, h2⟩ := y
      obtain ⟨d, k1, k2⟩ := (q1.mono0 st).get' h1
      obtain ⟨d', l1, l2⟩ := (q2.mono0 st).get' h2
      obtain ⟨S', z1, z2, z3, z4, z5⟩ := pair_new w hT hH k2 l2
      refine ⟨S', .tup [d, d'], z1, z2, z3, z4, ?_, by rw [e]; exact z5⟩
      simp [List.getElem?_map, List.zip, List.getElem?_zipWith, k1, l1]
  · exact h2.elim
theorem enL_get : ∀ (ds : List D) (k i : Nat), (enL k ds)[i]? = ds[i]?.map fun d => .tup [.int (k + i : Nat), d]
  | [], k, i => by simp [enL]
  | d :: ds, k, 0 => by simp [enL]
  | d :: ds, k, i + 1 => by
    simp only [enL, List.getElem?_cons_succ, enL_get ds (k + 1) i]
    congr 1
    funext d
    rw [show k + 1 + i = k + (i + 1) by omega]
theorem enL_len : ∀ (ds : List D) (k : Nat), (enL k ds).length = ds.length
  | [], k => rfl
  | d :: ds, k => by simp [enL, enL_len ds (k + 1)]
theorem si_enm {a : Expr} {elts : List Expr} {kk : Nat} {ma : ME} {p pos tpos : Pos} (ha : SE C X a ma) (hK : X.K = C.K) (hg : Gl X "enumerate") (hm : X.mg "enumerate" = none) (hs : starEach [a] X.env = [(false, eval a X.env)]) :
    SI C X (.Tuple elts kk tpos) (.Call (.Name "enumerate" p) [a] [] pos) (.enm ma) := fun W tk => by
  refine PIw (pi_enum hg hm (pa_cons (ha W tk) pa_nil hs) hs) ?_
  rw [hK]
  intro σ H Rq ⟨r, S, hH, w, sr, h⟩
  subst hH
  simp only [evI] at h
  refine dnE_intro r w sr (h.bind.imp fun v1 H1 q1 => ?_)
  obtain ⟨S1, d1, e1, w1, st1, r1, h1⟩ := q1
  subst e1
  unfold enmM at h1
  split at h1
  · rename_i ds
    rw [rep_lst] at r1
    obtain ⟨a1, vs, e1, f1, l1, q1⟩ := r1
    refine ⟨a1, vs, by rw [e1], SqL.of f1.1, h1 S1 _ rfl w1 (Step.refl S1) ⟨by rw [enL_len]; exact l1, ?_⟩⟩
    refine ⟨_, _, (show Walk (Ite C.K a1) (enL 0 ds).length _ _ from by rw [enL_len, q1.len]; exact walk_enum), fun S w st _ => SqL.of (st.fx f1).1, fun i x S H' hi w st _ y => ?_⟩
    obtain ⟨T, x1, y1, e, hT, hH, h1, h2⟩ := y
    obtain ⟨d, k1, k2⟩ := (q1.mono0 st).get' h2
    simp only [Option.some.injEq] at h1
    obtain ⟨S', z1, z2, z3, z4, z5⟩ := pair_new (d := .int (i : Nat)) w hT hH (by rw [← h1]; exact rep_int.mpr rfl) k2
    refine ⟨S', .tup [.int (i : Nat), d], z1, z2, z3, z4, ?_, by rw [e]; exact z5⟩
    show (enL 0 ds)[i]? = _
    rw [enL_get, k1]; simp
  · exact h1.elim
end
end Fs

/-! FsI: targets, comprehensions. -/
namespace Fs
open PySem PySem.Spec PyProof.Rows L2
open Classical

def MG.slots : MG → List Nat
  | .nm i => [i]
  | .tp is => is
/-- a target's reading -/
def dnG (C : Ct) (g : MG) : TG := fun v σ H Q => ∃ d r S, S.H = H ∧ Wf C S ∧ SRep C S r σ ∧ Rep C S d v ∧ (match asgG g d r with
  | some r' => ∀ σ', SRep C S r' σ' → σ'.length = σ.length → (∀ j, j ∉ g.slots → σ'[j]? = σ[j]?) → Q σ' H
  | none => False)
def SG (C : Ct) (X : Cx) (tg : Expr) (g : MG) : Prop := PG X tg (dnG C g)
theorem PGw {X : Cx} {tg : Expr} {t t' : TG} (h : PG X tg t) (k : ∀ v σ H Q, t' v σ H Q → t v σ H Q) : PG X tg t' := ⟨fun pins s σ H v u Q I r q => h.run pins s σ H v u Q I r (k v σ H Q q)⟩
section
variable {C : Ct} {X : Cx}
theorem sg_nm {i : Nat} {x : Str} {pos : Pos} (hN : X.N.Nodup) (hi : X.N[i]? = some x) (hx : Loc X.env.scope x) (hf : X.fn x = true ∨ X.env.scope.names.lookup x = some .local) : SG C X (.Name x pos) (.nm i) :=
  PGw (pg_name hN hi hx hf) fun v σ H Q ⟨d, r, S, hH, w, sr, rd, h⟩ => by
    subst hH
    exact h _ (sr.set rd) (by simp) fun j hj => by
      simp only [MG.slots, List.mem_singleton] at hj
      exact List.getElem?_set_ne (Ne.symm hj)
/-- names in a row -/
def gNms : List Nat → TGs
  | [] => gNil
  | i :: is => gCons (gName i) (gNms is)
inductive Nms (X : Cx) : List Expr → List Nat → Prop where
  | nil : Nms X [] []
  | cons {x : Str} {i : Nat} {pos : Pos} {es : List Expr} {is : List Nat} (hi : X.N[i]? = some x) (hx : Loc X.env.scope x) (hf : X.fn x = true ∨ X.env.scope.names.lookup x = some .local) (t : Nms X es is) : Nms X (.Name x pos :: es) (i :: is)
theorem Nms.pgs (hN : X.N.Nodup) : ∀ {es : List Expr} {is : List Nat}, Nms X es is → PGs X es (gNms is)
  | _, _, .nil => pgs_nil
  | _, _, .cons hi hx hf t => pgs_cons (pg_name hN hi hx hf) (Nms.pgs hN t) rfl
theorem Nms.len {es : List Expr} {is : List Nat} (h : Nms X es is) : es.length = is.length ∧ (assignEach es X.env).length = is.length ∧ (assignEach es X.env).findIdx? (·.1) = none := by
  induction h with
  | nil => exact ⟨rfl, rfl, rfl⟩
  | @cons x i pos es is hi hx hf t ih =>
    refine ⟨by simp [ih.1], ?_, ?_⟩
    · show ((false, assign (.Name x pos) X.env) :: assignEach es X.env).length = _
      simp [ih.2.1]
    · show ((false, assign (.Name x pos) X.env) :: assignEach es X.env).findIdx? (·.1) = none
      simp [List.findIdx?_cons, ih.2.2]
def setsE (r : Env) : List Nat → List D → Env
  | i :: is, d :: ds => setsE (r.set i (some d)) is ds
  | _, _ => r
theorem setsE_fold : ∀ (is : List Nat) (ds : List D) (r : Env), (is.zip ds).foldl (fun r p => r.set p.1 (some p.2)) r = setsE r is ds
  | [], _, _ => by simp [setsE]
  | _ :: _, [], _ => by simp [setsE]
  | i :: is, d :: ds, r => by simp [setsE, setsE_fold is ds]
theorem gNms_ok {S : Ws} {Q : L2.St → Hp → Prop} : ∀ {is : List Nat} {ds : List D} {vs : List V} {r : Env} {σ : L2.St}, SRep C S r σ → Reps C S ds vs → ds.length = is.length →
    (∀ σ', SRep C S (setsE r is ds) σ' → σ'.length = σ.length → (∀ j, j ∉ is → σ'[j]? = σ[j]?) → Q σ' S.H) → gNms is vs σ S.H Q
  | [], ds, vs, r, σ, sr, rs, hl, h => by
    have e : ds = [] := List.length_eq_zero_iff.mp hl
    subst e
    simp only [Reps] at rs
    exact ⟨rs, h σ sr rfl fun _ _ => rfl⟩
  | i :: is, [], vs, r, σ, sr, rs, hl, h => by simp at hl
  | i :: is, d :: ds, vs, r, σ, sr, rs, hl, h => by
    simp only [Reps] at rs
    obtain ⟨v, vs', e, r1, r2⟩ := rs
    refine ⟨v, vs', e, gNms_ok (sr.set r1) r2 (by simpa using hl) fun σ' s1 s2 s3 => h σ' s1 (by simpa using s2) fun j hj => ?_⟩
    rw [s3 j (fun z => hj (List.mem_cons_of_mem _ z)), List.getElem?_set_ne (fun z => hj (by rw [z]; exact List.mem_cons_self))]
theorem sg_tp {es : List Expr} {is : List Nat} {k : Nat} {pos : Pos} (hN : X.N.Nodup) (hc : X.calm = true) (hK : X.K = C.K) (h : Nms X es is) : SG C X (.Tuple es k pos) (.tp is) := by
  refine PGw (pg_tup hc (h.pgs hN) h.len.2.1 h.len.2.2) ?_
  rw [hK]
  intro v σ H Q ⟨d, r, S, hH, w, sr, rd, h⟩
  subst hH
  have go : ∀ (ds : List D) (a : Addr) (vs : List V), v = .ref a → SqT C.K S.H a vs → Reps C S ds vs → (match (if ds.length = is.length then some ((is.zip ds).foldl (fun r p => r.set p.1 (some p.2)) r) else none : Option Env) with
      | some r' => ∀ σ', SRep C S r' σ' → σ'.length = σ.length → (∀ j, j ∉ is → σ'[j]? = σ[j]?) → Q σ' S.H
      | none => False) → gTup C.K is.length (gNms is) v σ S.H Q := by
    intro ds a vs e f rs h
    by_cases hl : ds.length = is.length
    · rw [if_pos hl] at h
      simp only at h
      rw [setsE_fold] at h
      exact ⟨a, vs, e, f, by rw [← rs.len]; exact hl, gNms_ok sr rs hl h⟩
    · rw [if_neg hl] at h; exact h.elim
  simp only [asgG] at h
  cases d with
  | tup ds =>
    obtain ⟨a, vs, e, f, l, rs⟩ := rep_tup rd
    exact go ds a vs e f rs h
  | wtp ds =>
    obtain ⟨a, vs, e, f, l, rs⟩ := rep_wtp rd
    exact go ds a vs e f rs h
  | _ => exact h.elim

/-! ### comprehensions -/
theorem wipe_get {σ : L2.St} : ∀ {vs : List Nat} {j : Nat}, (wipe σ vs)[j]? = if j ∈ vs ∧ j < σ.length then some none else σ[j]?
  | [], j => by simp [wipe]
  | v :: vs, j => by
    simp only [wipe]
    by_cases h : v = j
    · subst h
      by_cases hl : v < σ.length
      · rw [List.getElem?_set_self (by rw [wipe_length]; exact hl)]; simp [hl]
      · rw [List.getElem?_eq_none (by simp [wipe_length]; omega)]; simp [hl]
    · rw [List.getElem?_set_ne h, wipe_get]
      have : (j ∈ v :: vs ∧ j < σ.length) ↔ (j ∈ vs ∧ j < σ.length) := by simp [Ne.symm h]
      simp only [this]
theorem wipeE_get {r : Env} : ∀ {vs : List Nat} {j : Nat}, (wipeE r vs).length = r.length ∧ (wipeE r vs)[j]? = if j ∈ vs ∧ j < r.length then some none else r[j]?
  | [], j => by simp [wipeE]
  | v :: vs, j => by
    have ih := fun j => wipeE_get (r := r) (vs := vs) (j := j)
    simp only [wipeE]
    refine ⟨by rw [List.length_set]; exact (ih 0).1, ?_⟩
    by_cases h : v = j
    · subst h
      by_cases hl : v < r.length
      · rw [List.getElem?_set_self (by rw [(ih 0).1]; exact hl)]; simp [hl]
      · rw [List.getElem?_eq_none (by rw [List.length_set, (ih 0).1]; omega)]; simp [hl]
    · rw [List.getElem?_set_ne h, (ih j).2]
      have : (j ∈ v :: vs ∧ j < r.length) ↔ (j ∈ vs ∧ j < r.length) := by simp [Ne.symm h]
      simp only [this]
theorem SRep.wipe {S : Ws} {r : Env} {σ : L2.St} (h : SRep C S r σ) (vs : List Nat) : SRep C S (wipeE r vs) (L2.wipe σ vs) :=
  ⟨by rw [(wipeE_get (j := 0)).1, wipe_length]; exact h.len, fun i d e => by
    rw [(wipeE_get (j := i)).2] at e
    rw [wipe_get]
    split at e
    · cases e
    · rename_i z
      rw [if_neg (by rw [← h.len]; exact z)]
      exact h.at_ i d e⟩
theorem wipe_same {σ σ' : L2.St} {vs : List Nat} {sl : List Nat} (hl : σ'.length = σ.length) (hs : ∀ j, j ∉ sl → σ'[j]? = (L2.wipe σ vs)[j]?) (hi : ∀ j ∈ sl, j ∈ vs) : L2.wipe σ' vs = L2.wipe σ vs := by
  apply List.ext_getElem?
  intro j
  rw [wipe_get, wipe_get, hl]
  split
  · rfl
  · rename_i z
    by_cases hj : j ∈ sl
    · have hv := hi j hj
      have h1 : ¬ j < σ.length := fun q => z ⟨hv, q⟩
      rw [List.getElem?_eq_none (by omega), List.getElem?_eq_none (by omega)]
    · rw [hs j hj, wipe_get, if_neg z]
/-- from the changing object to a new cell -/
abbrev Ws.adopt (S : Ws) (p : Addr) (ex : List Addr) (c : Cell) : Ws := ⟨S.ad ++ [p], S.mu ++ [c], ex, S.H⟩
theorem C_adopt {S : Ws} (w : Wf C S) {p a : Addr} {ex : List Addr} {c : Cell} (h : (S.adopt p ex c).C a) : S.C a ∨ a = p := by
  obtain ⟨n, d, e, l, i⟩ := h
  rcases Nat.lt_or_ge n S.mu.length with q | q
  · have q' : n < S.ad.length := by rw [w.len]; exact q
    rw [List.getElem?_append_left q] at e
    rw [List.getElem?_append_left q'] at i
    exact .inl ⟨n, d, e, l, i⟩
  · have q' : S.ad.length ≤ n := by rw [w.len]; exact q
    rw [List.getElem?_append_right q'] at i
    cases k : n - S.ad.length with
    | zero => rw [k] at i; simp at i; exact .inr i.symm
    | succ m => rw [k] at i; simp at i
theorem Step0.adopt {S : Ws} (w : Wf C S) {p : Addr} {ex : List Addr} {c : Cell} (he : S.ex = p :: ex) : Step0 S (S.adopt p ex c) :=
  ⟨fun a u e n => ⟨e, fun l => by
    rcases l with l | l
    · exact n (.inl (by rw [he]; exact List.mem_cons_of_mem _ l))
    · rcases C_adopt w l with z | z
      · exact n (.inr z)
      · exact n (.inl (by rw [he, z]; exact List.mem_cons_self))⟩,
   fun n a e => by
    have := (List.getElem?_eq_some_iff.mp e).1
    show (S.ad ++ [p])[n]? = _
    rw [List.getElem?_append_left this]; exact e⟩
theorem Wf.adopt {S : Ws} (w : Wf C S) {p : Addr} {ex : List Addr} {c : Cell} (he : S.ex = p :: ex) (hc : CellAt C (S.adopt p ex c) p c) : Wf C (S.adopt p ex c) where
  len := by simp [w.len]
  exd := by have := w.exd; rw [he] at this; exact (List.nodup_cons.mp this).2
  exh := fun a ha => by
    obtain ⟨h1, n⟩ := w.exh a (by rw [he]; exact List.mem_cons_of_mem _ ha)
    refine ⟨h1, fun q => (C_adopt w q).elim n fun z => ?_⟩
    have := w.exd; rw [he] at this
    exact (List.nodup_cons.mp this).1 (z ▸ ha)
  inj := by
    have np : ¬ S.C p := (w.exh p (by rw [he]; exact List.mem_cons_self)).2
    have key : ∀ (n : Nat) (d : Cell) (a : Addr), (S.mu ++ [c])[n]? = some d → (S.ad ++ [p])[n]? = some a → (S.mu[n]? = some d ∧ S.ad[n]? = some a) ∨ (n = S.mu.length ∧ a = p) := by
      intro n d a e i
      rcases Nat.lt_or_ge n S.mu.length with q | q
      · have q' : n < S.ad.length := by rw [w.len]; exact q
        rw [List.getElem?_append_left q] at e
        rw [List.getElem?_append_left q'] at i
        exact .inl ⟨e, i⟩
      · have q' : S.ad.length ≤ n := by rw [w.len]; exact q
        rw [List.getElem?_append_right q'] at i
        cases k : n - S.ad.length with
        | zero => rw [k] at i; simp at i; rw [w.len] at k q'; exact .inr ⟨by omega, i.symm⟩
        | succ m => rw [k] at i; simp at i
    intro n k c1 c2 a e1 l1 i1 e2 l2 i2
    rcases key n c1 a e1 i1 with ⟨x1, y1⟩ | ⟨x1, y1⟩ <;> rcases key k c2 a e2 i2 with ⟨x2, y2⟩ | ⟨x2, y2⟩
    · exact w.inj n k c1 c2 a x1 l1 y1 x2 l2 y2
    · subst y2; exact absurd ⟨n, c1, x1, l1, y1⟩ np
    · subst y1; exact absurd ⟨k, c2, x2, l2, y2⟩ np
    · rw [x1, x2]
  cell := fun n d a e i => by
    rcases Nat.lt_or_ge n S.mu.length with q | q
    · have q' : n < S.ad.length := by rw [w.len]; exact q
      have e' : S.mu[n]? = some d := by rw [← List.getElem?_append_left q (l₂ := [c])]; exact e
      have i' : S.ad[n]? = some a := by rw [← List.getElem?_append_left q' (l₂ := [p])]; exact i
      exact (w.cell n d a e' i').keep (Step0.adopt w he) rfl
    · have q' : S.ad.length ≤ n := by rw [w.len]; exact q
      have e' : (S.mu ++ [c])[n]? = some d := e
      have i' : (S.ad ++ [p])[n]? = some a := i
      rw [List.getElem?_append_right q'] at i'
      rw [List.getElem?_append_right q] at e'
      cases k : n - S.ad.length with
      | zero =>
        rw [k] at i'; rw [w.len] at k; rw [k] at e'
        simp at i' e'
        subst i'; subst e'
        exact hc
      | succ m => rw [k] at i'; simp at i'
theorem compM_noexc {t : Itm} {f : D → M (Option D)} : ∀ (ds : List D) (m : Store) (c : Nat) (ks : List Nat) (vs : List D) (m' : Store), compM t f ds m ≠ .exc c ks vs m'
  | [], m, c, ks, vs, m', h => by
    simp only [compM] at h
    split at h <;> cases h
  | d :: ds, m, c, ks, vs, m', h => by
    simp only [compM] at h
    split at h
    · split at h
      · split at h <;> cases h
      · cases h
    · cases h
theorem compM_cons {t : Itm} {f : D → M (Option D)} {d : D} {ds : List D} {m mE : Store} {ys : List D} (h : compM t f (d :: ds) m = .ok ys mE) :
    t.ok m ∧ ∃ o m1 rest, f d m = .ok o m1 ∧ compM t f ds m1 = .ok rest mE ∧ ys = (match o with | some y => y :: rest | none => rest) := by
  simp only [compM] at h
  split at h
  · rename_i ok
    refine ⟨ok, ?_⟩
    split at h
    · rename_i o m1 e1
      split at h
      · rename_i r m2 e2
        cases h
        exact ⟨o, m1, r, e1, e2, rfl⟩
      · cases h
    · cases h
  · cases h
theorem compM_nil {t : Itm} {f : D → M (Option D)} {m mE : Store} {ys : List D} (h : compM t f [] m = .ok ys mE) : t.ok m ∧ ys = [] ∧ m = mE := by
  simp only [compM] at h
  split at h
  · rename_i ok; cases h; exact ⟨ok, rfl, rfl⟩
  · cases h
/-- a clause's test -/
def dnTO (C : Ct) (c : MTO) : TT := match c with
  | .no => tYes
  | .yes c => dnT C (evT c) (fun _ _ _ _ => False)
theorem comp_tLc {mu : Bool} {own : List Nat} {g : MG} {s : MI} {c : MTO} {e : ME} {W : WX} {σ : L2.St} {H : Hp} {Q : VK} (hsl : ∀ j ∈ g.slots, j ∈ own)
    (h : dnE C (ev (.comp mu own g s c e)) W σ H Q) : tLc (dnI C (evI s) W) (dnG C g) (dnTO C c) (dnE C (ev e) (fun _ _ _ _ => False)) own σ H Q := by
  obtain ⟨r, S, hH, w, sr, h⟩ := h
  subst hH
  simp only [ev, M.bind_ap] at h
  refine ⟨r, S, rfl, w, sr, ?_⟩
  cases e1 : evI s r S.mu with
  | stuck => rw [e1] at h; exact h
  | exc c ks vs m => rw [e1] at h; exact h
  | ok t m1 =>
  rw [e1] at h
  intro S1 J em w1 st1 src
  subst em
  simp only at h
  intro Da hD
  generalize hf : (fun d => match asgG g d (wipeE r own) with
      | some r' => (do let k ← evTO c r'; if k = true then (do let y ← ev e r'; pure (some y)) else pure none : M (Option D))
      | none => stuckM) = f at h
  cases e2 : compM t f t.ds S1.mu with
  | stuck => rw [e2] at h; exact h.elim
  | exc c ks vs m => exact absurd e2 (compM_noexc _ _ _ _ _ _)
  | ok ys mE =>
  rw [e2] at h
  simp only at h
  obtain ⟨G, Y, wk, hG, hY⟩ := src.ex
  let S2 : Ws := S1.push Da (.lst [])
  have w2 : Wf C S2 := w1.push hD
  have s02 : Step0 S1 S2 := Step0.push hD
  -- the invariant
  refine lc_it (Qd := fun H => Q (.ref Da) H) wk (fun i H => ∃ (S' : Ws) (acc : List V) (done rest : List D), S'.H = H ∧ Wf C S' ∧ Step0 S1 S' ∧ S'.ex = Da :: S1.ex ∧ (∀ a ∈ S1.ex, S'.H a = S1.H a) ∧ H Da = some (.lst acc) ∧ Reps C S' done acc ∧ done.length ≤ i ∧ compM t f (t.ds.drop i) S'.mu = .ok rest mE ∧ done ++ rest = ys) ?_ ?_ ?_ ?_
  · refine ⟨S2, [], [], ys, rfl, w2, s02, rfl, fun a ha => ?_, upd_same, Reps.nil, Nat.le_refl _, e2, rfl⟩
    obtain ⟨⟨u, hu⟩, _⟩ := w1.exh a ha
    show upd S1.H Da _ a = _
    rw [upd_ne (ne_of_none hu hD)]
  · rintro i H hi ⟨S', acc, done, rest, rfl, w', s0', ex', exk', hDa, ra, hdl, hc, hy⟩
    refine hG S' w' s0' ?_
    cases hd : t.ds.drop i with
    | nil => rw [hd] at hc; exact (compM_nil hc).1
    | cons d ds => rw [hd] at hc; exact (compM_cons hc).1
  · rintro i x H H' hi ⟨S', acc, done, rest, rfl, w', s0', ex', exk', hDa, ra, hdl, hc, hy⟩ y
    have hdr : t.ds.drop i = t.ds[i] :: t.ds.drop (i + 1) := List.drop_eq_getElem_cons hi
    rw [hdr] at hc
    obtain ⟨ok, o, m1, rest', f1, hc', hr⟩ := compM_cons hc
    obtain ⟨S3, d, eH, emu, w3, st3, hdi, rd⟩ := hY i x S' H' hi w' s0' ok y
    rw [List.getElem?_eq_getElem hi] at hdi
    cases hdi
    have sr3 : SRep C S3 r σ := by
      have s0 := s0'.trans st3.toStep0
      exact ⟨sr.len, fun i d e => let ⟨v, a, b⟩ := sr.at_ i d e; ⟨v, a, (b.mono st1).mono0 s0⟩⟩
    subst eH
    refine ⟨t.ds[i], wipeE r own, S3, rfl, w3, sr3.wipe own, rd, ?_⟩
    have hacc : acc.length < sizeLine := by rw [← ra.len]; exact Nat.lt_of_le_of_lt hdl (Nat.lt_of_lt_of_le hi src.len)
    subst hf
    simp only at f1
    cases ea : asgG g t.ds[i] (wipeE r own) with
    | none => rw [ea] at f1; cases f1
    | some r' =>
      rw [ea] at f1
      intro σ' sr' hl hs
      refine ⟨wipe_same (sl := g.slots) (by rw [hl, wipe_length]) hs hsl, ?_⟩
      simp only [M.bind_ap] at f1
      have hmu : S3.mu = S'.mu := emu
      -- the test
      have test : ∀ (Qt : Bool → Hp → Prop), (∀ b S4, evTO c r' S'.mu = .ok b S4.mu → Wf C S4 → Step S3 S4 → Qt b S4.H) → dnTO C c σ' S3.H Qt := by
        intro Qt k
        cases c with
        | no =>
          show Qt true S3.H
          exact k true S3 (by simp only [evTO]; rw [hmu]; rfl) w3 (Step.refl _)
        | yes c =>
          show dnT C (evT c) (fun _ _ _ _ => False) σ' S3.H Qt
          refine dnT_intro r' w3 sr' ?_
          simp only [evTO] at k f1
          rw [hmu]
          cases ec : evT c r' S'.mu with
          | stuck => rw [ec] at f1; cases f1
          | exc a b c d => rw [ec] at f1; cases f1
          | ok b m => exact fun S4 em w4 st4 => k b S4 (by rw [em, ec]) w4 st4
      refine test _ fun b S4 hb w4 st4 => ?_
      rw [hb] at f1
      simp only at f1
      have st34 : Step S' S4 := st3.trans st4
      have s04 : Step0 S1 S4 := s0'.trans st34.toStep0
      have ex4 : S4.ex = Da :: S1.ex := by rw [st34.exs, ex']
      have hD4 : S4.H Da = some (.lst acc) := by rw [st34.exk Da (by rw [ex']; exact List.mem_cons_self)]; exact hDa
      have exk4 : ∀ a ∈ S1.ex, S4.H a = S1.H a := fun a ha => (st34.exk a (by rw [ex']; exact List.mem_cons_of_mem _ ha)).trans (exk' a ha)
      have ra4 := ra.mono st34
      cases b with
      | false =>
        simp only [Bool.false_eq_true, if_false] at f1 ⊢
        cases f1
        simp only at hr
        subst hr
        exact ⟨S4, acc, done, rest, rfl, w4, s04, ex4, exk4, hD4, ra4, Nat.le_succ_of_le hdl, hc', hy⟩
      | true =>
        simp only [if_true, M.bind_ap] at f1 ⊢
        refine dnE_intro r' w4 (sr'.mono st4) ?_
        cases ee : ev e r' S4.mu with
        | stuck => rw [ee] at f1; cases f1
        | exc a b c d => rw [ee] at f1; cases f1
        | ok y5 m5 =>
          rw [ee] at f1
          cases f1
          intro S5 v5 em5 w5 st5 r5
          have hin : Da ∈ S5.ex := by rw [st5.exs, ex4]; exact List.mem_cons_self
          have hD5 : S5.H Da = some (.lst acc) := by rw [st5.exk Da (by rw [ex4]; exact List.mem_cons_self)]; exact hD4
          simp only at hr
          subst hr
          subst em5
          refine ⟨acc, hD5, hacc, S5.at Da (.lst (acc ++ [v5])), acc ++ [v5], done ++ [y5], rest', rfl, w5.at hin, (s04.trans st5.toStep0).trans (Step0.at hin), by show S5.ex = _; rw [st5.exs, ex4], fun a ha => ?_, upd_same, ?_, ?_, hc', by rw [List.append_assoc]; exact hy⟩
          · have hne : a ≠ Da := fun z => by
              have := w2.exd
              exact (List.nodup_cons.mp this).1 (z ▸ ha)
            show upd S5.H Da _ a = _
            rw [upd_ne hne, st5.exk a (by rw [ex4]; exact List.mem_cons_of_mem _ ha)]
            exact exk4 a ha
          · exact ((ra4.mono st5).append (Reps.cons r5 Reps.nil)).mono0 (Step0.at hin)
          · rw [List.length_append]; simp only [List.length_cons, List.length_nil]; omega
  · rintro H ⟨S', acc, done, rest, rfl, w', s0', ex', exk', hDa, ra, hdl, hc, hy⟩
    rw [List.drop_length] at hc
    obtain ⟨ok, hr, hm⟩ := compM_nil hc
    subst hr
    subst hm
    rw [List.append_nil] at hy
    subst hy
    have hlen : done.length ≤ sizeLine := Nat.le_trans hdl src.len
    cases mu with
    | false =>
      simp only [Bool.false_eq_true, if_false] at h
      have w4 := w'.pop ex'
      have sp : Step0 S' (S'.pop S1.ex) := Step0.pop fun a ha => by rw [ex']; exact List.mem_cons_of_mem _ ha
      have st : Step S1 (S'.pop S1.ex) := ⟨s0'.trans sp, rfl, exk'⟩
      exact h (S'.pop S1.ex) _ rfl w4 (st1.trans st) (rep_lst_new ⟨hDa, pop_notL w' ex'⟩ hlen (ra.mono0 sp))
    | true =>
      simp only [if_true] at h
      have sp : Step0 S' (S'.adopt Da S1.ex (.lst done)) := Step0.adopt w' ex'
      have w4 : Wf C (S'.adopt Da S1.ex (.lst done)) := w'.adopt ex' ⟨acc, hDa, hlen, ra.mono0 sp⟩
      have st : Step S1 (S'.adopt Da S1.ex (.lst done)) := ⟨s0'.trans sp, rfl, exk'⟩
      refine h (S'.adopt Da S1.ex (.lst done)) _ rfl w4 (st1.trans st) ?_
      simp only [Rep]
      refine ⟨Da, ?_, rfl⟩
      show (S'.ad ++ [Da])[S'.mu.length]? = _
      rw [← w'.len]; simp
end
end Fs

/-! FsJ: calls by name; built-ins. -/
namespace Fs
open PySem PySem.Spec PyProof.Rows L2
open Classical

def isStar : Expr → Bool
  | .Starred .. => true
  | _ => false
def noStar (es : List Expr) : Bool := es.all fun e => !isStar e
theorem star_cons {e : Expr} {es : List Expr} {env : PySem.Env} (h : isStar e = false) : starEach (e :: es) env = (false, eval e env) :: starEach es env := by
  cases e <;> first | rfl | cases h
theorem star_any {pos : Pos} {env : PySem.Env} : ∀ {es : List Expr}, noStar es = true → (backTo pos (starEach es env)).any (·.1) = false
  | [], _ => rfl
  | e :: es, h => by
    simp only [noStar, List.all_cons, Bool.and_eq_true, Bool.not_eq_true'] at h
    rw [star_cons h.1]
    have ih := star_any (pos := pos) (env := env) (es := es) h.2
    simp only [backTo, List.map_cons, List.any_cons, Bool.false_or]
    exact ih
/-- a name that is called -/
def CallOk (C : Ct) (X : Cx) (x : Str) (F : List D → M D) : Prop :=
  Gl X x → ∀ W, Takes X W → ∀ (es : List Expr) (ta : Env → M (List D)) (p pos : Pos), PA X es (dnA C ta W) → noStar es = true →
    PE X (.Call (.Name x p) es [] pos) (dnE C (fun r => do let xs ← ta r; F xs) W)
section
variable {C : Ct} {X : Cx}
theorem se_call {x : Str} {F : List D → M D} {es : List Expr} {mes : MEs} {p pos : Pos} (hF : CallOk C X x F) (hg : Gl X x) (hes : SA C X es mes) (hn : noStar es = true) : SE C X (.Call (.Name x p) es [] pos) (.call F mes) := fun W tk => by
  have h := hF hg W tk es (evs mes) p pos (hes W tk) hn
  refine PEw h ?_
  intro σ H Q q
  exact q
theorem pe_false {e : Expr} {t : TE} (h : ∀ σ H Q, ¬ t σ H Q) : PE X e t := ⟨fun _ _ σ H Q _ q => (h σ H Q q).elim⟩
theorem dn_args {r : List V → Hp → VK → Prop} {F : List D → M D} {ta : Env → M (List D)} {W : WX} (hF : ∀ (S : Ws) (ds : List D) (vs : List V) (W : XK) (Q : VK), Wf C S → Reps C S ds vs → PostE C S (F ds S.mu) W Q → r vs S.H Q) :
    ∀ σ H Q, dnE C (fun r => do let xs ← ta r; F xs) W σ H Q → tCB r (dnA C ta W) σ H Q := fun σ H Q ⟨r', S, hH, w, sr, h⟩ => by
  subst hH
  refine dnA_intro r' w sr (h.bindA.imp fun vs H1 q1 => ?_)
  obtain ⟨S1, ds, e1, w1, st1, r1, h1⟩ := q1
  subst e1
  exact hF S1 ds vs _ Q w1 r1 h1
/-- the arguments of a call of none -/
theorem nil_args {F : List D → M D} {ta : Env → M (List D)} {W : WX} {σ : L2.St} {H : Hp} {Q : VK} (hpa : PA X [] (dnA C ta W)) (h : dnE C (fun r => do let xs ← ta r; F xs) W σ H Q) : True := trivial
theorem callOk_B {x : Str} {id : String} {r : List V → Hp → VK → Prop} {F : List D → M D} (hc : CallR X (.builtin id) r) (hm : X.mg x = none) (hv : bootBuiltins x = some (.builtin id)) (h0 : ∀ m, F [] m = .stuck) (hn : x ≠ "__name__") (hdb : (x == ("__debug__" : Str)) = false)
    (hF : ∀ (S : Ws) (ds : List D) (vs : List V) (W : XK) (Q : VK), Wf C S → Reps C S ds vs → PostE C S (F ds S.mu) W Q → r vs S.H Q) : ∀ (hg : Gl X x) W, Takes X W → ∀ (e : Expr) (es : List Expr) (ta : Env → M (List D)) (p pos : Pos), PA X (e :: es) (dnA C ta W) → noStar (e :: es) = true →
    PE X (.Call (.Name x p) (e :: es) [] pos) (dnE C (fun r => do let xs ← ta r; F xs) W) := fun hg W tk e es ta p pos ha hs => by
  simp only [noStar, List.all_cons, Bool.and_eq_true, Bool.not_eq_true'] at hs
  exact PEw (pe_callB hc hg hm hv ha hn hdb (star_cons hs.1) (star_any hs.2)) (dn_args hF)
theorem callOk_T {x : Str} {T : String} {r : List V → Hp → VK → Prop} {F : List D → M D} (hc : CallR X (.type T) r) (hm : X.mg x = none) (hv : bootBuiltins x = some (.type T)) (hn : x ≠ "__name__") (hdb : (x == ("__debug__" : Str)) = false)
    (hF : ∀ (S : Ws) (ds : List D) (vs : List V) (W : XK) (Q : VK), Wf C S → Reps C S ds vs → PostE C S (F ds S.mu) W Q → r vs S.H Q) : ∀ (hg : Gl X x) W, Takes X W → ∀ (e : Expr) (es : List Expr) (ta : Env → M (List D)) (p pos : Pos), PA X (e :: es) (dnA C ta W) → noStar (e :: es) = true →
    PE X (.Call (.Name x p) (e :: es) [] pos) (dnE C (fun r => do let xs ← ta r; F xs) W) := fun hg W tk e es ta p pos ha hs => by
  simp only [noStar, List.all_cons, Bool.and_eq_true, Bool.not_eq_true'] at hs
  exact PEw (pe_callTy hc hg hm hv ha hn hdb (star_cons hs.1) (star_any hs.2)) (dn_args hF)
end
/-- a built-in of one argument or more -/
def CallOk1 (C : Ct) (X : Cx) (x : Str) (F : List D → M D) : Prop :=
  Gl X x → ∀ W, Takes X W → ∀ (e : Expr) (es : List Expr) (ta : Env → M (List D)) (p pos : Pos), PA X (e :: es) (dnA C ta W) → noStar (e :: es) = true →
    PE X (.Call (.Name x p) (e :: es) [] pos) (dnE C (fun r => do let xs ← ta r; F xs) W)

/-! ### one by one -/
def un1 (f : D → M D) : List D → M D
  | [d] => f d
  | _ => stuckM
theorem un1_ok {C : Ct} {S : Ws} {f : D → M D} {r : List V → Hp → VK → Prop} {ds : List D} {vs : List V} {W : XK} {Q : VK} (k : ∀ d v, Rep C S d v → PostE C S (f d S.mu) W Q → r [v] S.H Q) (rs : Reps C S ds vs) (h : PostE C S (un1 f ds S.mu) W Q) : r vs S.H Q := by
  cases ds with
  | nil => exact h.elim
  | cons d ds =>
    cases ds with
    | nil =>
      simp only [Reps] at rs
      obtain ⟨v, vs', e, r1, e2⟩ := rs
      subst e; subst e2
      exact k d v r1 h
    | cons d2 ds => exact h.elim
/-- all, any of a list of truth values -/
def blsO : List D → Option (List Bool)
  | [] => some []
  | .bl b :: ds => (blsO ds).map (b :: ·)
  | _ => none
theorem bls_rep {C : Ct} {S : Ws} : ∀ {ds : List D} {bs : List Bool} {vs : List V}, blsO ds = some bs → Reps C S ds vs → vs = bs.map V.bl
  | [], bs, vs, h, r => by
    simp only [Reps] at r; simp only [blsO, Option.some.injEq] at h; subst h; subst r; rfl
  | d :: ds, bs, vs, h, r => by
    simp only [Reps] at r
    obtain ⟨v, vs', e, r1, r2⟩ := r
    cases d with
    | bl b =>
      simp only [blsO] at h
      obtain ⟨bs', h1, h2⟩ := Option.map_eq_some_iff.mp h
      subst h2; subst e
      rw [rep_bl] at r1
      rw [r1, bls_rep h1 r2]; rfl
    | _ => simp [blsO] at h
def allM (d : D) : M D := fun m => match readL m d with
  | some ds => match blsO ds with
    | some bs => .ok (.bl (bs.all id)) m
    | none => .stuck
  | none => .stuck
def anyM (d : D) : M D := fun m => match readL m d with
  | some ds => match blsO ds with
    | some bs => .ok (.bl (bs.any id)) m
    | none => .stuck
  | none => .stuck
/-- list(x): a text, a list, a tuple -/
def listM (d : D) : M D := fun m => match d with
  | .str x => .ok (.lst (x.map fun c => .str [c])) m
  | d => match readQ m d with
    | some ds => .ok (.lst ds) m
    | none => .stuck
def tupleM (d : D) : M D := fun m => match d with
  | .tup ds => .ok (.tup ds) m
  | .wtp ds => .ok (.wtp ds) m
  | d => match readL m d with
    | some ds => .ok (.tup ds) m
    | none => .stuck
def intM (d : D) : M D := fun m => match d with
  | .int i => .ok (.int i) m
  | .bl b => .ok (.int (if b then 1 else 0)) m
  | _ => .stuck
/-- sorted of ints, of texts -/
def insI (i : Int) : List Int → List Int
  | [] => [i]
  | j :: js => if i ≤ j then i :: j :: js else j :: insI i js
def sortI : List Int → List Int
  | [] => []
  | i :: is => insI i (sortI is)
/-- order of texts, less or equal -/
def leT (x y : List Char) : Bool := !ltT y x
def insT (i : List Char) : List (List Char) → List (List Char)
  | [] => [i]
  | j :: js => if leT i j = true then i :: j :: js else j :: insT i js
def sortT : List (List Char) → List (List Char)
  | [] => []
  | i :: is => insT i (sortT is)
theorem insI_perm (i : Int) : ∀ l, (insI i l).Perm (i :: l)
  | [] => .refl _
  | j :: js => by
    simp only [insI]
    split
    · exact .refl _
    · exact ((insI_perm i js).cons j).trans (.swap i j js)
theorem sortI_perm : ∀ l, (sortI l).Perm l
  | [] => .refl _
  | i :: is => (insI_perm i _).trans ((sortI_perm is).cons i)
theorem insI_sorted (i : Int) : ∀ l : List Int, l.Pairwise (· ≤ ·) → (insI i l).Pairwise (· ≤ ·)
  | [], _ => by simp [insI]
  | j :: js, h => by
    simp only [insI]
    split
    · rename_i c
      refine List.pairwise_cons.mpr ⟨fun k hk => ?_, h⟩
      rcases List.mem_cons.mp hk with e | e
      · rw [e]; exact c
      · exact Int.le_trans c ((List.pairwise_cons.mp h).1 k e)
    · rename_i c
      refine List.pairwise_cons.mpr ⟨fun k hk => ?_, insI_sorted i js (List.pairwise_cons.mp h).2⟩
      rcases List.mem_cons.mp ((insI_perm i js).mem_iff.mp hk) with e | e
      · rw [e]; omega
      · exact (List.pairwise_cons.mp h).1 k e
theorem sortI_sorted : ∀ l, (sortI l).Pairwise (· ≤ ·)
  | [] => .nil
  | i :: is => insI_sorted i _ (sortI_sorted is)
theorem sortI_uniq {l ns : List Int} (hp : ns.Perm l) (hs : ns.Pairwise (· ≤ ·)) : ns = sortI l :=
  List.Perm.eq_of_pairwise (fun a b _ _ h1 h2 => Int.le_antisymm h1 h2) hs (sortI_sorted l) (hp.trans (sortI_perm l).symm)
/-- the order of texts is total -/
theorem ltT_irrefl (x : List Char) : ltT x x = false := by
  simp only [ltT, decide_eq_false_iff_not]; exact List.lt_irrefl _
theorem leT_total (x y : List Char) : leT x y = true ∨ leT y x = true := by
  simp only [leT, ltT, Bool.not_eq_true', decide_eq_false_iff_not]
  rcases Classical.em (y.map Char.toNat < x.map Char.toNat) with h | h
  · right; exact List.lt_asymm h
  · left; exact h
theorem leT_trans {x y z : List Char} (h1 : leT x y = true) (h2 : leT y z = true) : leT x z = true := by
  simp only [leT, ltT, Bool.not_eq_true', decide_eq_false_iff_not] at *
  have a : x.map Char.toNat ≤ y.map Char.toNat := h1
  have b : y.map Char.toNat ≤ z.map Char.toNat := h2
  exact List.le_trans a b
theorem leT_antisymm {x y : List Char} (h1 : leT x y = true) (h2 : leT y x = true) : x = y := by
  simp only [leT, ltT, Bool.not_eq_true', decide_eq_false_iff_not] at *
  have a : x.map Char.toNat ≤ y.map Char.toNat := h1
  have b : y.map Char.toNat ≤ x.map Char.toNat := h2
  exact map_chr_inj (List.le_antisymm a b)
theorem insT_perm (i : List Char) : ∀ l, (insT i l).Perm (i :: l)
  | [] => .refl _
  | j :: js => by
    simp only [insT]
    split
    · exact .refl _
    · exact ((insT_perm i js).cons j).trans (.swap i j js)
theorem sortT_perm : ∀ l, (sortT l).Perm l
  | [] => .refl _
  | i :: is => (insT_perm i _).trans ((sortT_perm is).cons i)
theorem insT_sorted (i : List Char) : ∀ l : List (List Char), l.Pairwise (fun x y => leT x y = true) → (insT i l).Pairwise (fun x y => leT x y = true)
  | [], _ => by simp [insT]
  | j :: js, h => by
    simp only [insT]
    split
    · rename_i c
      refine List.pairwise_cons.mpr ⟨fun k hk => ?_, h⟩
      rcases List.mem_cons.mp hk with e | e
      · rw [e]; exact c
      · exact leT_trans c ((List.pairwise_cons.mp h).1 k e)
    · rename_i c
      refine List.pairwise_cons.mpr ⟨fun k hk => ?_, insT_sorted i js (List.pairwise_cons.mp h).2⟩
      rcases List.mem_cons.mp ((insT_perm i js).mem_iff.mp hk) with e | e
      · rw [e]; exact (leT_total i j).resolve_left c
      · exact (List.pairwise_cons.mp h).1 k e
theorem sortT_sorted : ∀ l, (sortT l).Pairwise (fun x y => leT x y = true)
  | [] => .nil
  | i :: is => insT_sorted i _ (sortT_sorted is)
theorem sortT_uniq {l ns : List (List Char)} (hp : ns.Perm l) (hs : ns.Pairwise (fun x y => leT x y = true)) : ns = sortT l :=
  List.Perm.eq_of_pairwise (fun a b _ _ h1 h2 => leT_antisymm h1 h2) hs (sortT_sorted l) (hp.trans (sortT_perm l).symm)
end Fs

/-! FsK: built-ins by name, against their rules. -/
namespace Fs
open PySem PySem.Spec PyProof.Rows L2
open Classical

section
variable {prog : Program} {w : World} {A : Around} {E : Value → Shared → Prop} {s : Shared}
/-- sorted(a text) -/
theorem sorted_text {Q : Value → Shared → Prop} (hh : A.in1.handled = none) (x : Str) (t : Tok) (hn : x.cps.size ≤ sizeLine)
    (h : ∀ (h1 h' : Heap) (tk : Nat) (us : List Value) (ys : List Str), (∀ b o, s.heap.get? b = some o → h1.get? b = some o) → (∀ b o, h1.get? b = some o → h'.get? b = some o) → (∃ e, h'.get? h1.objs.size = some (seqObj "list" us.toArray e)) →
      StrsAre us ys → ys.Perm (x.cps.toList.map (fun c => (⟨#[c]⟩ : Str))) → sortedS ys = true → Q (.ref h1.objs.size) { s with heap := h', toks := tk }) :
    wpAny (model prog w) A (call (.builtin "sorted") [.str x t]) Q E s := by
  refine Calls.call_function_entry kind_sorted plain_sorted entry_sorted (args_sorted1 _) ?_
  unfold Builtin.«sorted»
  refine wpAny_bind (m := checkCount "sorted" 1 1 _) (wpAny_pure ?_)
  refine wpAny_bind (wpAny_collect_str (hn := hn) hh x t fun s' acc hk hg hd ho hi => ?_)
  obtain ⟨hp, g, dr, tk, os⟩ := s'
  obtain ⟨rfl⟩ : g = s.gens := hg
  obtain ⟨rfl⟩ : dr = s.drawn := hd
  obtain ⟨rfl⟩ : os = s.os := ho
  have hS : StrsAre acc.toList (x.cps.toList.map fun c => (⟨#[c]⟩ : Str)) := by
    have key : ∀ (l : List Value) (cs : List Nat), l.length = cs.length → (∀ (j : Nat) (v : Value), l[j]? = some v → ∃ (c : Nat) (u : Tok), cs[j]? = some c ∧ v = Value.str ⟨#[c]⟩ u) → StrsAre l (cs.map fun c => (⟨#[c]⟩ : Str)) := by
      intro l
      induction l with
      | nil => intro cs hl _; cases cs with
        | nil => exact .nil
        | cons c cs => simp at hl
      | cons v l ih =>
        intro cs hl hv
        cases cs with
        | nil => simp at hl
        | cons c cs =>
          obtain ⟨c', u, h1, h2⟩ := hv 0 v rfl
          simp at h1
          subst h1; subst h2
          exact .cons _ u (ih cs (by simpa using hl) fun j v hj => by
            have := hv (j + 1) v (by simpa using hj)
            simpa using this)
    refine key _ _ (by simpa using hi.1) fun j v hj => ?_
    have := hi.2 j v (by simpa using hj)
    obtain ⟨c, u, h1, h2⟩ := this
    exact ⟨c, u, by simpa using h1, h2⟩
  refine wpAny_bind (wpAny_newList ?_)
  have hoL : (hp.push (seqObj "list" acc 0)).get? hp.objs.size = some (seqObj "list" acc.toList.toArray 0) := by
    rw [Heap.get?_push_size _ rfl]
    try simp
  have hacc : acc.toList.length ≤ sizeLine := by
    have := hi.1
    rw [Array.length_toList, this]; exact hn
  refine wpAny_bind (wpAny_holding (wpAny_call_entry slot_list_sort ⟨_, hoL, rfl⟩ entry_list_sort (list_sort_treeKAny strKind_oneLt (by
      show (Heap.push hp _).get? _ = _
      first
        | exact hoL
        | (rw [Heap.get?_push_size _ rfl]; rfl)) hS.keysOf (fun v₁ v₂ rest e => keyKind_strs (by rw [← e]; exact hS)) hacc fun st' a1 a2 => ⟨_, rfl, ?_⟩) (args_list_sort _)))
  obtain ⟨ys, h1, h2, h3⟩ := sorted_out_str hS a1 a2
  refine wpAny_pure ⟨_, rfl, h hp _ tk ((arrOf st').map (·.2)).toList ys hk (fun b o hb => ?_) ?_ h1 h2 h3⟩
  · have hlt := Heap.lt_size hb
    rw [sortedHeap_old (Nat.ne_of_lt hlt) (by rw [size_push']; exact Nat.lt_succ_of_lt hlt)]
    exact Heap.get?_push_of_some _ hb
  · obtain ⟨e, he⟩ := sortedHeap_at (out := (arrOf st').map (·.2)) hoL
    refine ⟨e, ?_⟩
    have e1 : ((arrOf st').map (·.2)).toList.toArray = (arrOf st').map (·.2) := by rw [Array.toArray_toList]
    rw [e1]
    exact he
end
theorem rising_leT : ∀ (ss : List (List Char)) (p : List Char), risingS (toS p) (ss.map toS) = true → (p :: ss).Pairwise (fun x y => leT x y = true)
  | [], p, _ => by simp
  | x :: r, p, h => by
    simp only [List.map_cons, risingS, Bool.and_eq_true] at h
    have ih := rising_leT r x h.2
    have hx : leT p x = true := by
      have := h.1
      rw [← lt_meets, toS_cps, toS_cps] at this
      exact this
    refine List.pairwise_cons.mpr ⟨fun y hy => ?_, ih⟩
    rcases List.mem_cons.mp hy with e | e
    · rw [e]; exact hx
    · exact leT_trans hx ((List.pairwise_cons.mp ih).1 y e)
theorem sortedS_leT {ss : List (List Char)} (h : sortedS (ss.map toS) = true) : ss.Pairwise (fun x y => leT x y = true) := by
  cases ss with
  | nil => exact .nil
  | cons x r => exact rising_leT r x h
def fromS (x : Str) : List Char := x.cps.toList.map Char.ofNat
theorem fromS_toS (x : List Char) : fromS (toS x) = x := by
  unfold fromS
  rw [toS_cps, List.map_map]
  have e : (Char.ofNat ∘ Char.toNat) = id := by funext c; exact Char.ofNat_toNat c
  rw [e, List.map_id]
/-- texts that are a permutation of ours, in order, are our sort -/
theorem sortT_of {ss : List (List Char)} {ys : List Str} (hp : ys.Perm (ss.map toS)) (hs : sortedS ys = true) : ys = (sortT ss).map toS := by
  obtain ⟨zs, hz⟩ : ∃ zs : List (List Char), ys = zs.map toS := by
    have : ∀ y ∈ ys, ∃ z, y = toS z := fun y hy => by
      obtain ⟨z, _, e⟩ := List.mem_map.mp (hp.mem_iff.mp hy)
      exact ⟨z, e.symm⟩
    clear hp hs
    induction ys with
    | nil => exact ⟨[], rfl⟩
    | cons y ys ih =>
      obtain ⟨z, e⟩ := this y List.mem_cons_self
      obtain ⟨zs, e2⟩ := ih fun y hy => this y (List.mem_cons_of_mem _ hy)
      exact ⟨z :: zs, by rw [List.map_cons, e, e2]⟩
  subst hz
  have hp' : zs.Perm ss := by
    have := hp.map fromS
    rw [List.map_map, List.map_map] at this
    have e : (fromS ∘ toS) = id := by funext x; exact fromS_toS x
    rw [e, List.map_id, List.map_id] at this
    exact this
  rw [sortT_uniq hp' (sortedS_leT hs)]
/-- sorted of a text, of a list of ints | texts -/
def intsO : List D → Option (List Int)
  | [] => some []
  | .int b :: ds => (intsO ds).map (b :: ·)
  | _ => none
def strsO : List D → Option (List (List Char))
  | [] => some []
  | .str b :: ds => (strsO ds).map (b :: ·)
  | _ => none
theorem ints_rep {C : Ct} {S : Ws} : ∀ {ds : List D} {bs : List Int} {vs : List V}, intsO ds = some bs → Reps C S ds vs → vs = bs.map V.int
  | [], bs, vs, h, r => by
    simp only [Reps] at r; simp only [intsO, Option.some.injEq] at h; subst h; subst r; rfl
  | d :: ds, bs, vs, h, r => by
    simp only [Reps] at r
    obtain ⟨v, vs', e, r1, r2⟩ := r
    cases d with
    | int b =>
      simp only [intsO] at h
      obtain ⟨bs', h1, h2⟩ := Option.map_eq_some_iff.mp h
      subst h2; subst e
      rw [rep_int] at r1
      rw [r1, ints_rep h1 r2]; rfl
    | _ => simp [intsO] at h
theorem strs_rep {C : Ct} {S : Ws} : ∀ {ds : List D} {bs : List (List Char)} {vs : List V}, strsO ds = some bs → Reps C S ds vs → vs = bs.map (fun x => V.str (toS x)) ∧ ∀ x ∈ bs, x.length ≤ sizeLine
  | [], bs, vs, h, r => by
    simp only [Reps] at r; simp only [strsO, Option.some.injEq] at h; subst h; subst r; exact ⟨rfl, by simp⟩
  | d :: ds, bs, vs, h, r => by
    simp only [Reps] at r
    obtain ⟨v, vs', e, r1, r2⟩ := r
    cases d with
    | str b =>
      simp only [strsO] at h
      obtain ⟨bs', h1, h2⟩ := Option.map_eq_some_iff.mp h
      subst h2; subst e
      rw [rep_str] at r1
      obtain ⟨k1, k2⟩ := strs_rep h1 r2
      refine ⟨by rw [r1.1, k1]; rfl, fun x hx => ?_⟩
      rcases List.mem_cons.mp hx with e | e
      · rw [e]; exact r1.2
      · exact k2 x e
    | _ => simp [strsO] at h
theorem rep_ints {C : Ct} {S : Ws} : ∀ (bs : List Int), Reps C S (bs.map D.int) (bs.map V.int)
  | [] => Reps.nil
  | b :: bs => Reps.cons (rep_int.mpr rfl) (rep_ints bs)
theorem rep_strs {C : Ct} {S : Ws} : ∀ (bs : List (List Char)), (∀ x ∈ bs, x.length ≤ sizeLine) → Reps C S (bs.map D.str) (bs.map fun x => V.str (toS x))
  | [], _ => Reps.nil
  | b :: bs, h => Reps.cons (rep_str.mpr ⟨rfl, h b List.mem_cons_self⟩) (rep_strs bs fun x hx => h x (List.mem_cons_of_mem _ hx))
def sortedM (d : D) : M D := fun m => match d with
  | .str x => .ok (.lst ((sortT (x.map fun c => [c])).map .str)) m
  | d => match readL m d with
    | some ds => match intsO ds with
      | some is => .ok (.lst ((sortI is).map .int)) m
      | none => match strsO ds with
        | some ss => if ss.length < 64 then .ok (.lst ((sortT ss).map .str)) m else .stuck
        | none => .stuck
    | none => .stuck
def rSortText : List V → Hp → VK → Prop := fun vs H Q => ∃ x : Str, vs = [.str x] ∧ x.length ≤ sizeLine ∧ ∀ (ys : List Str) (p : Addr), ys.Perm (x.cps.toList.map (fun c => (⟨#[c]⟩ : Str))) → sortedS ys = true → H p = none → Q (.ref p) (upd H p (.lst (ys.map V.str)))
theorem cr_sortText {X : Cx} (hc : X.calm = true) : CallR X (.builtin "sorted") rSortText := by
  intro pins s σ H vs us Q I r h
  obtain ⟨x, rfl, hl, q⟩ := h
  obtain ⟨u, e, rv⟩ := vals1 r
  obtain ⟨t, rfl⟩ := rv
  subst e
  have hh : X.A.in1.handled = none := I.ok.hd hc
  refine sorted_text hh x t hl fun h1 h' tk us ys k1 k2 he hS hp hs => ?_
  obtain ⟨ep, he⟩ := he
  have I1 : Inv X pins σ H { s with heap := h1, toks := tk } := I.kept k1
  have hlen : (ys.map V.str).length ≤ sizeLine := by
    rw [List.length_map, hp.length_eq, List.length_map]
    have : x.cps.toList.length = x.length := by simp [PySem.Str.length]
    rw [this]; exact hl
  exact ⟨.ref _, upd H h1.objs.size (.lst (ys.map V.str)), I1.laid (t' := tk) k2 (Nat.le_refl _) ⟨hlen, us, ep, vals_of_strs hS, he⟩, rfl, q ys _ hp hs (I1.hok.fresh (Nat.le_refl _))⟩
def rSortA (K : PySem.W.Frag) : List V → Hp → VK → Prop := fun vs H Q => rSortText vs H Q ∨ rSortedI K vs H Q ∨ rSortedS K vs H Q
theorem cr_sortA {X : Cx} (hc : X.calm = true) : CallR X (.builtin "sorted") (rSortA X.K) := (cr_sortText hc).or (cr_sortedI.or cr_sortedS)
section
variable {C : Ct} {S : Ws} {d : D} {v : V} {W : XK} {Q : VK}
theorem sorted_ok (w : Wf C S) (r : Rep C S d v) (h : PostE C S (sortedM d S.mu) W Q) : rSortA C.K [v] S.H Q := by
  unfold sortedM at h
  split at h
  · rename_i x
    rw [rep_str] at r
    refine .inl ⟨toS x, by rw [r.1], by rw [toS_len]; exact r.2, fun ys p hp hs hn => ?_⟩
    have e : (toS x).cps.toList.map (fun c => (⟨#[c]⟩ : Str)) = (x.map fun c => [c]).map toS := by
      rw [toS_cps, List.map_map, List.map_map]; rfl
    rw [e] at hp
    have := sortT_of hp hs
    subst this
    have hl : ((sortT (x.map fun c => [c])).map D.str).length ≤ sizeLine := by
      rw [List.length_map, (sortT_perm _).length_eq, List.length_map]; exact r.2
    rw [List.map_map]
    refine h.newL w hn hl (rep_strs _ fun y hy => ?_)
    obtain ⟨c, _, ec⟩ := List.mem_map.mp ((sortT_perm _).mem_iff.mp hy)
    subst ec; exact small16 (by simp)
  · split at h
    · rename_i ds hd
      obtain ⟨a, vs, e, f, l, rs⟩ := readL_rep w hd r
      split at h
      · rename_i is hi
        have ev := ints_rep hi rs
        subst ev; subst e
        refine .inr (.inl ⟨a, is, rfl, SqL.of f, fun ns' p hp hs hn => ?_⟩)
        rw [sortI_uniq hp hs]
        refine h.newL w hn ?_ (rep_ints _)
        rw [List.length_map, (sortI_perm is).length_eq]
        rw [rs.len, List.length_map] at l; exact l
      · split at h
        · rename_i ss hs'
          split at h
          · rename_i h64
            obtain ⟨ev, hb⟩ := strs_rep hs' rs
            subst ev; subst e
            refine .inr (.inr ⟨a, ss.map toS, rfl, SqL.of (by rw [List.map_map]; exact f), by simpa using h64, fun ys p hp hs hn => ?_⟩)
            rw [sortT_of hp hs, List.map_map]
            refine h.newL w hn ?_ (rep_strs _ fun y hy => hb y ((sortT_perm _).mem_iff.mp hy))
            rw [List.length_map, (sortT_perm ss).length_eq]
            exact Nat.le_trans (Nat.le_of_lt h64) (by decide)
          · exact h.elim
        · exact h.elim
    · exact h.elim
theorem all_ok (w : Wf C S) (r : Rep C S d v) (h : PostE C S (allM d S.mu) W Q) : rAll C.K [v] S.H Q := by
  unfold allM at h
  split at h
  · rename_i ds hd
    split at h
    · rename_i bs hb
      obtain ⟨a, vs, e, f, l, rs⟩ := readL_rep w hd r
      have := bls_rep hb rs
      subst this; subst e
      exact ⟨a, bs, rfl, SqL.of f, h.pure w (rep_bl.mpr rfl)⟩
    · exact h.elim
  · exact h.elim
theorem any_ok (w : Wf C S) (r : Rep C S d v) (h : PostE C S (anyM d S.mu) W Q) : rAny C.K [v] S.H Q := by
  unfold anyM at h
  split at h
  · rename_i ds hd
    split at h
    · rename_i bs hb
      obtain ⟨a, vs, e, f, l, rs⟩ := readL_rep w hd r
      have := bls_rep hb rs
      subst this; subst e
      exact ⟨a, bs, rfl, SqL.of f, h.pure w (rep_bl.mpr rfl)⟩
    · exact h.elim
  · exact h.elim
/-- list(x) -/
def rListText : List V → Hp → VK → Prop := fun vs H Q => ∃ x : Str, vs = [.str x] ∧ x.length ≤ sizeLine ∧ ∀ p : Addr, H p = none → Q (.ref p) (upd H p (.lst (x.cps.toList.map fun c => V.str ⟨#[c]⟩)))
end
theorem cr_listText {X : Cx} (hc : X.calm = true) : CallR X (.type "list") rListText := by
  intro pins s σ H vs us Q I r h
  obtain ⟨x, rfl, hl, q⟩ := h
  obtain ⟨u, e, rv⟩ := vals1 r
  obtain ⟨t, rfl⟩ := rv
  subst e
  refine call_list_str (hn := hl) (I.ok.hd hc) x t fun h' tk acc c' k he hi => ?_
  have hv : Vals (x.cps.toList.map fun c => V.str ⟨#[c]⟩) acc.toList := by
    have key : ∀ (l : List Value) (cs : List Nat), l.length = cs.length → (∀ (j : Nat) (v : Value), l[j]? = some v → ∃ (c : Nat) (u : Tok), cs[j]? = some c ∧ v = Value.str ⟨#[c]⟩ u) → Vals (cs.map fun c => V.str ⟨#[c]⟩) l := by
      intro l
      induction l with
      | nil => intro cs hl _; cases cs with
        | nil => exact .nil
        | cons c cs => simp at hl
      | cons v l ih =>
        intro cs hl hv
        cases cs with
        | nil => simp at hl
        | cons c cs =>
          obtain ⟨c', u, h1, h2⟩ := hv 0 v rfl
          simp at h1
          subst h1; subst h2
          exact .cons ⟨u, rfl⟩ (ih cs (by simpa using hl) fun j v hj => by
            have := hv (j + 1) v (by simpa using hj)
            simpa using this)
    refine key _ _ (by simpa using hi.1) fun j v hj => ?_
    obtain ⟨c, u, h1, h2⟩ := hi.2 j v (by simpa using hj)
    exact ⟨c, u, by simpa using h1, h2⟩
  have hlen : (x.cps.toList.map fun c => V.str ⟨#[c]⟩).length ≤ sizeLine := by
    rw [List.length_map]
    have : x.cps.toList.length = x.length := by simp [PySem.Str.length]
    rw [this]; exact hl
  refine ⟨.ref _, _, I.laid (t' := tk) k (Nat.le_refl _) (o := .lst (x.cps.toList.map fun c => V.str ⟨#[c]⟩)) ⟨hlen, acc.toList, c', hv, ?_⟩, rfl, q _ (I.hok.fresh (Nat.le_refl _))⟩
  rw [he]
def rListA (K : PySem.W.Frag) : List V → Hp → VK → Prop := fun xs H Q => rListText xs H Q ∨ (∃ p ys, xs = [.ref p] ∧ (SqL K H p ys ∨ SqT K H p ys) ∧ ∀ l, H l = none → Q (.ref l) (upd H l (.lst ys)))
theorem cr_listA {X : Cx} (hc : X.calm = true) : CallR X (.type "list") (rListA X.K) := (cr_listText hc).or call_list_of
section
variable {C : Ct} {S : Ws} {d : D} {v : V} {W : XK} {Q : VK}
theorem list_ok (w : Wf C S) (r : Rep C S d v) (h : PostE C S (listM d S.mu) W Q) : rListA C.K [v] S.H Q := by
  unfold listM at h
  split at h
  · rename_i x
    rw [rep_str] at r
    refine .inl ⟨toS x, by rw [r.1], by rw [toS_len]; exact r.2, fun p hp => ?_⟩
    have e : (toS x).cps.toList.map (fun c => V.str ⟨#[c]⟩) = (x.map fun c => [c]).map fun y => V.str (toS y) := by
      rw [toS_cps, List.map_map, List.map_map]; rfl
    have e2 : (x.map fun c => D.str [c]) = (x.map fun c => [c]).map D.str := by rw [List.map_map]; rfl
    rw [e]
    rw [e2] at h
    refine h.newL w hp (by simpa using r.2) (rep_strs _ fun y hy => ?_)
    obtain ⟨c, _, ec⟩ := List.mem_map.mp hy
    subst ec; exact small16 (by simp)
  · split at h
    · rename_i ds hd
      obtain ⟨a, vs, e, f, l, rs⟩ := readQ_rep w hd r
      exact .inr ⟨a, vs, by rw [e], f, fun p hp => h.newL w hp l rs⟩
    · exact h.elim
def rTupA (K : PySem.W.Frag) : List V → Hp → VK → Prop := fun xs H Q => ∃ p ys, xs = [.ref p] ∧ ((SqL K H p ys ∧ ∀ l, H l = none → Q (.ref l) (upd H l (.tup ys))) ∨ (SqT K H p ys ∧ Q (.ref p) H))
theorem tuple_ok (w : Wf C S) (r : Rep C S d v) (h : PostE C S (tupleM d S.mu) W Q) : rTupA C.K [v] S.H Q := by
  unfold tupleM at h
  split at h
  · obtain ⟨a, vs, e, f, l, rs⟩ := rep_tup r
    exact ⟨a, vs, by rw [e], .inr ⟨f, by have := h.pure w r; rw [← e]; exact this⟩⟩
  · obtain ⟨a, vs, e, f, l, rs⟩ := rep_wtp r
    exact ⟨a, vs, by rw [e], .inr ⟨f, by have := h.pure w r; rw [← e]; exact this⟩⟩
  · split at h
    · rename_i ds hd
      obtain ⟨a, vs, e, f, l, rs⟩ := readL_rep w hd r
      exact ⟨a, vs, by rw [e], .inl ⟨SqL.of f, fun p hp => h.newT w hp l rs⟩⟩
    · exact h.elim
def rIntA : List V → Hp → VK → Prop := fun xs H Q => (∃ i, xs = [.int i] ∧ Q (.int i) H) ∨ ∃ k, xs = [.bl k] ∧ Q (.int (if k then 1 else 0)) H
theorem int_ok (w : Wf C S) (r : Rep C S d v) (h : PostE C S (intM d S.mu) W Q) : rIntA [v] S.H Q := by
  unfold intM at h
  split at h
  · rw [rep_int] at r; exact .inl ⟨_, by rw [r], h.pure w (rep_int.mpr rfl)⟩
  · rw [rep_bl] at r; exact .inr ⟨_, by rw [r], h.pure w (rep_int.mpr rfl)⟩
  · exact h.elim
end
end Fs

/-! FsL: statements. -/
namespace Fs
open PySem PySem.Spec PyProof.Rows L2
open Classical

def PostS (C : Ct) (S : Ws) (r : RS) (W : WX) (D : Ends) : Prop :=
  match r with
  | none => False
  | some (fl, m) => ∀ S', S'.mu = m → Wf C S' → Step S S' → (match fl with
    | .nxt r' => ∀ σ', SRep C S' r' σ' → D.nx σ' S'.H
    | .brk r' => ∀ σ', SRep C S' r' σ' → D.bk σ' S'.H
    | .cnt r' => ∀ σ', SRep C S' r' σ' → D.ct σ' S'.H
    | .ret d => ∀ v, Rep C S' d v → D.rt v S'.H
    | .exc c ks ds r' => ∀ σ' dx, SRep C S' r' σ' → ExcAt C S' ks ds dx → W (.ref (He.ga C.K (C.nm c))) (some dx) σ' S'.H)
def dnS (C : Ct) (f : Env → Store → RS) (W : WX) : TS := fun D σ H => ∃ r S, S.H = H ∧ Wf C S ∧ SRep C S r σ ∧ PostS C S (f r S.mu) W D
def SS (C : Ct) (X : Cx) (st : Stmt) (m : MS) : Prop := ∀ W, Takes X W → PS X st (dnS C (evS m) W)
def SSs (C : Ct) (X : Cx) (st : List Stmt) (m : MSs) : Prop := ∀ W, Takes X W → PSs X st (dnS C (evSs m) W)
section
variable {C : Ct} {X : Cx}
theorem PostS.step {S S' : Ws} (st : Step S S') {r : RS} {W : WX} {D : Ends} (h : PostS C S r W D) : PostS C S' r W D := by
  cases r with
  | none => exact h
  | some p => obtain ⟨fl, m⟩ := p; exact fun S2 e w s => h S2 e w (st.trans s)
theorem dnS_intro {f : Env → Store → RS} {W : WX} {σ : L2.St} {S : Ws} {D : Ends} (r : Env) (w : Wf C S) (sr : SRep C S r σ) (h : PostS C S (f r S.mu) W D) : dnS C f W D σ S.H := ⟨r, S, rfl, w, sr, h⟩
theorem PostS.nxt {S : Ws} {r : Env} {W : WX} {D : Ends} {σ : L2.St} (h : PostS C S (some (.nxt r, S.mu)) W D) (w : Wf C S) (sr : SRep C S r σ) : D.nx σ S.H := h S rfl w (Step.refl S) σ sr
/-- an expression within a statement -/
theorem thenS_ok {S : Ws} {x : M D} {r : Env} {σ : L2.St} {k : D → Store → RS} {W : WX} {D : Ends} (sr : SRep C S r σ) (h : PostS C S (thenS x r S.mu k) W D) :
    PostE C S (x S.mu) (fun c d H' => W c d σ H') (fun v H' => ∃ S' d, S'.H = H' ∧ Wf C S' ∧ Step S S' ∧ Rep C S' d v ∧ PostS C S' (k d S'.mu) W D) := by
  unfold thenS at h
  cases e : x S.mu with
  | ok d m =>
    rw [e] at h
    intro S' v em w st rd
    subst em
    exact ⟨S', d, rfl, w, st, rd, h.step st⟩
  | exc c ks vs m =>
    rw [e] at h
    intro S' dx em w st ea
    exact h S' em w st σ dx (sr.mono st) ea
  | stuck => rw [e] at h; exact h
theorem thenS_okT {S : Ws} {x : M Bool} {r : Env} {σ : L2.St} {k : Bool → Store → RS} {W : WX} {D : Ends} (sr : SRep C S r σ) (h : PostS C S (thenS x r S.mu k) W D) :
    PostT C S (x S.mu) (fun c d H' => W c d σ H') (fun b H' => ∃ S', S'.H = H' ∧ Wf C S' ∧ Step S S' ∧ PostS C S' (k b S'.mu) W D) := by
  unfold thenS at h
  cases e : x S.mu with
  | ok d m =>
    rw [e] at h
    intro S' em w st
    subst em
    exact ⟨S', rfl, w, st, h.step st⟩
  | exc c ks vs m =>
    rw [e] at h
    intro S' dx em w st ea
    exact h S' em w st σ dx (sr.mono st) ea
  | stuck => rw [e] at h; exact h

theorem ss_exp {e : Expr} {me : ME} {pos : Pos} (he : SE C X e me) (hs : swapsWith e none pos.line X.env = pure false) : SS C X (.Expr e pos) (.exp me) := fun W tk =>
  PSw (ps_expr (he W tk) hs) fun D σ H ⟨r, S, hH, w, sr, h⟩ => by
    subst hH
    simp only [evS] at h
    refine dnE_intro r w sr ((thenS_ok sr h).imp fun v1 H1 q1 => ?_)
    obtain ⟨S1, d1, e1, w1, st1, r1, h1⟩ := q1
    subst e1
    exact h1.nxt w1 (sr.mono st1)
theorem ss_doc {x : Str} {j : Nat} {pos pos' : Pos} : SS C X (.Expr (.Constant (.str x) j pos) pos') .pass := fun W tk =>
  PSw ps_doc fun D σ H ⟨r, S, hH, w, sr, h⟩ => by
    subst hH
    simp only [evS] at h
    exact h.nxt w sr
theorem ss_pass {pos : Pos} : SS C X (.Pass pos) .pass := fun W tk =>
  PSw ps_pass fun D σ H ⟨r, S, hH, w, sr, h⟩ => by
    subst hH
    simp only [evS] at h
    exact h.nxt w sr
theorem ss_brk {pos : Pos} : SS C X (.Break pos) .brk := fun W tk =>
  PSw ps_break fun D σ H ⟨r, S, hH, w, sr, h⟩ => by
    subst hH
    simp only [evS] at h
    exact h S rfl w (Step.refl S) σ sr
theorem ss_cnt {pos : Pos} : SS C X (.Continue pos) .cnt := fun W tk =>
  PSw ps_continue fun D σ H ⟨r, S, hH, w, sr, h⟩ => by
    subst hH
    simp only [evS] at h
    exact h S rfl w (Step.refl S) σ sr
theorem ss_ret {e : Expr} {me : ME} {pos : Pos} (he : SE C X e me) : SS C X (.Return (some e) pos) (.ret me) := fun W tk =>
  PSw (ps_ret (he W tk)) fun D σ H ⟨r, S, hH, w, sr, h⟩ => by
    subst hH
    simp only [evS] at h
    refine dnE_intro r w sr ((thenS_ok sr h).imp fun v1 H1 q1 => ?_)
    obtain ⟨S1, d1, e1, w1, st1, r1, h1⟩ := q1
    subst e1
    exact h1 S1 rfl w1 (Step.refl S1) v1 r1
theorem ss_retN {pos : Pos} : SS C X (.Return none pos) .retN := fun W tk =>
  PSw ps_retN fun D σ H ⟨r, S, hH, w, sr, h⟩ => by
    subst hH
    simp only [evS] at h
    exact h S rfl w (Step.refl S) .non (rep_non.mpr rfl)
theorem ss_if {c : Expr} {a b : List Stmt} {mc : MT} {ma mb : MSs} {pos : Pos} (hc : ST C X c mc) (ha : SSs C X a ma) (hb : SSs C X b mb) : SS C X (.If c a b pos) (.ite mc ma mb) := fun W tk =>
  PSw (ps_if (hc W tk) (ha W tk) (hb W tk)) fun D σ H ⟨r, S, hH, w, sr, h⟩ => by
    subst hH
    simp only [evS] at h
    refine dnT_intro r w sr ((thenS_okT sr h).imp fun k H1 q1 => ?_)
    obtain ⟨S1, e1, w1, st1, h1⟩ := q1
    subst e1
    split
    · rename_i z; rw [if_pos z] at h1; exact dnS_intro r w1 (sr.mono st1) h1
    · rename_i z; rw [if_neg z] at h1; exact dnS_intro r w1 (sr.mono st1) h1
theorem sss_nil : SSs C X [] .nil := fun W tk =>
  PSsw pss_nil fun D σ H ⟨r, S, hH, w, sr, h⟩ => by
    subst hH
    simp only [evSs] at h
    exact h.nxt w sr
theorem PostS.seq {S : Ws} {x : RS} {k : Env → Store → RS} {W : WX} {D : Ends} (h : PostS C S (match x with
    | some (.nxt r', m') => k r' m'
    | o => o) W D) : PostS C S x W { D with nx := fun σ' H' => ∃ r' S', S'.H = H' ∧ Wf C S' ∧ SRep C S' r' σ' ∧ PostS C S' (k r' S'.mu) W D } := by
  cases x with
  | none => exact h
  | some p =>
    obtain ⟨fl, m⟩ := p
    cases fl with
    | nxt r' =>
      intro S' em w st σ' sr
      subst em
      exact ⟨r', S', rfl, w, sr, PostS.step st h⟩
    | ret d => exact h
    | brk r' => exact h
    | cnt r' => exact h
    | exc c ks vs r' => exact h
theorem sss_cons {s : Stmt} {ss : List Stmt} {ms : MS} {mss : MSs} (hs : SS C X s ms) (hss : SSs C X ss mss) : SSs C X (s :: ss) (.cons ms mss) := fun W tk =>
  PSsw (pss_cons (hs W tk) (hss W tk)) fun D σ H ⟨r, S, hH, w, sr, h⟩ => by
    subst hH
    simp only [evSs] at h
    exact dnS_intro r w sr (PostS.seq h)
/-- targets within statements -/
theorem asg_ok {S : Ws} {g : MG} {d : D} {v : V} {r : Env} {σ : L2.St} {W : WX} {D : Ends} (w : Wf C S) (sr : SRep C S r σ) (rd : Rep C S d v) (h : PostS C S ((asgG g d r).map fun r' => (Fl.nxt r', S.mu)) W D) : dnG C g v σ S.H D.nx := by
  refine ⟨d, r, S, rfl, w, sr, rd, ?_⟩
  cases e : asgG g d r with
  | none => rw [e] at h; exact h
  | some r' =>
    rw [e] at h
    exact fun σ' s1 _ _ => h S rfl w (Step.refl S) σ' s1
theorem ss_asg {tg e : Expr} {g : MG} {me : ME} {pos : Pos} (he : SE C X e me) (hg : SG C X tg g) (hs : swapsWithSole [tg] e pos.line X.env = pure false) (hw : swappedStores [tg] e X.env = pure none) (h1 : (assignEach [tg] X.env).map (·.2) = [assign tg X.env]) :
    SS C X (.Assign [tg] e pos) (.set g me) := fun W tk =>
  PSw (ps_asg (he W tk) hg hs hw h1) fun D σ H ⟨r, S, hH, w, sr, h⟩ => by
    subst hH
    simp only [evS] at h
    refine dnE_intro r w sr ((thenS_ok sr h).imp fun v1 H1 q1 => ?_)
    obtain ⟨S1, d1, e1, w1, st1, r1, h1⟩ := q1
    subst e1
    exact asg_ok w1 (sr.mono st1) r1 h1
theorem ss_set {i : Nat} {x : Str} {e : Expr} {me : ME} {pos pos' : Pos} (hN : X.N.Nodup) (hi : X.N[i]? = some x) (hx : Loc X.env.scope x) (hf : X.fn x = true ∨ X.env.scope.names.lookup x = some .local) (he : SE C X e me) (hs : swapsWith e (some (.Name x pos')) pos.line X.env = pure false) :
    SS C X (.Assign [.Name x pos'] e pos) (.set (.nm i) me) := fun W tk =>
  PSw (ps_set hN hi hx (he W tk) hs hf) fun D σ H ⟨r, S, hH, w, sr, h⟩ => by
    subst hH
    simp only [evS] at h
    refine dnE_intro r w sr ((thenS_ok sr h).imp fun v1 H1 q1 => ?_)
    obtain ⟨S1, d1, e1, w1, st1, r1, h1⟩ := q1
    subst e1
    simp only [asgG, Option.map_some] at h1
    exact h1.nxt w1 ((sr.mono st1).set r1)
theorem pair_ap {a b : ME} {r : Env} {m : Store} : (do let x ← ev a r; let y ← ev b r; pure (x, y) : M (D × D)) m = (match ev a r m with
    | .ok x m1 => (match ev b r m1 with
      | .ok y m2 => .ok (x, y) m2
      | .exc c ks vs m2 => .exc c ks vs m2
      | .stuck => .stuck)
    | .exc c ks vs m1 => .exc c ks vs m1
    | .stuck => .stuck) := by
  simp only [M.bind_ap]
  cases ev a r m with
  | ok x m1 => cases e : ev b r m1 <;> simp [e]
  | exc c ks vs m1 => rfl
  | stuck => rfl
theorem ss_par {i j : Nat} {x y : Str} {a b : Expr} {ma mb : ME} {px py pt pos pt2 : Pos} {kt k2 : Nat} (hc : X.calm = true) (hN : X.N.Nodup) (hi : X.N[i]? = some x) (hj : X.N[j]? = some y) (hij : i ≠ j)
    (hx : X.env.scope.names.lookup x = some .local) (hy : X.env.scope.names.lookup y = some .local) (ha : SE C X a ma) (hb : SE C X b mb) (hs1 : starEach [a, b] X.env = (false, eval a X.env) :: starEach [b] X.env) (hs2 : starEach [b] X.env = (false, eval b X.env) :: starEach [] X.env)
    (hw : swappedStores [.Tuple [.Name x px, .Name y py] kt pt] (.Tuple [a, b] k2 pt2) X.env = pure (some [x, y]))
    (hs : swapsWithSole [.Tuple [.Name x px, .Name y py] kt pt] (.Tuple [a, b] k2 pt2) pos.line X.env = pure false) :
    SS C X (.Assign [.Tuple [.Name x px, .Name y py] kt pt] (.Tuple [a, b] k2 pt2) pos) (.par i j ma mb) := fun W tk =>
  PSw (ps_par hc hN hi hj hij hx hy (pa_cons (ha W tk) (pa_cons (hb W tk) pa_nil hs2) hs1) hw hs) fun D σ H ⟨r, S, hH, w, sr, h⟩ => by
    subst hH
    simp only [evS, thenS, pair_ap] at h
    refine dnE_intro r w sr ?_
    cases e1 : ev ma r S.mu with
    | stuck => rw [e1] at h; exact h
    | exc c ks vs m => rw [e1] at h; exact fun S' dx em w' st ea => h S' em w' st σ dx (sr.mono st) ea
    | ok d1 m1 =>
      rw [e1] at h
      intro S1 v1 em1 w1 st1 r1
      subst em1
      have h1 := PostS.step st1 h
      refine dnE_intro r w1 (sr.mono st1) ?_
      simp only at h1
      cases e2 : ev mb r S1.mu with
      | stuck => rw [e2] at h1; exact h1
      | exc c ks vs m => rw [e2] at h1; exact fun S' dx em w' st ea => h1 S' em w' st σ dx ((sr.mono st1).mono st) ea
      | ok d2 m2 =>
        rw [e2] at h1
        intro S2 v2 em2 w2 st2 r2
        subst em2
        refine ⟨v1, v2, rfl, ?_⟩
        exact h1 S2 rfl w2 st2 _ ((((sr.mono st1).mono st2).set (r1.mono st2)).set r2)
theorem pip_of {op : Operator} {r : R2} (h : OpR X (inplaceOp op) r) : PIp X op (fun x y H Q => r x y H Q) := fun pins s σ H x y v u Q I rx ry q => h pins s σ H x y v u Q I rx ry q
theorem aug_core {i : Nat} {o : Bop} {me : ME} {W : WX} {D : Ends} {σ : L2.St} {S : Ws} {r : Env} {rr : R2} (w : Wf C S) (sr : SRep C S r σ) (h : PostS C S (evS (.aug i o me) r S.mu) W D)
    (ho : ∀ (S : Ws) d0 d1 v0 v1 (W : XK) (Q : VK), Wf C S → Rep C S d0 v0 → Rep C S d1 v1 → PostE C S (augM o d0 d1 S.mu) W Q → rr v0 v1 S.H Q) :
    tAug i (dnE C (ev me) W) (fun x y H Q => rr x y H Q) D σ S.H := by
  simp only [evS, varM, M.bind_ap, thenS] at h
  cases e0 : r[i]? with
  | none => rw [e0] at h; exact h.elim
  | some o' =>
    cases o' with
    | none => rw [e0] at h; exact h.elim
    | some d0 =>
      rw [e0] at h
      simp only at h
      obtain ⟨v0, h1, h2⟩ := sr.at_ i d0 e0
      refine ⟨v0, h1, dnE_intro r w sr ?_⟩
      cases e1 : ev me r S.mu with
      | stuck => rw [e1] at h; exact h
      | exc c ks vs m => rw [e1] at h; exact fun S' dx em w' st ea => h S' em w' st σ dx (sr.mono st) ea
      | ok d1 m1 =>
        rw [e1] at h
        intro S1 v1 em1 w1 st1 r1
        subst em1
        have h' := PostS.step st1 h
        refine ho S1 d0 d1 v0 v1 (fun c d H' => W c d σ H') _ w1 (h2.mono st1) r1 ?_
        simp only at h'
        cases ea : augM o d0 d1 S1.mu with
        | stuck => rw [ea] at h'; exact h'
        | exc c ks vs m => rw [ea] at h'; exact fun S' dx em w' st ea => h' S' em w' st σ dx ((sr.mono st1).mono st) ea
        | ok d2 m2 =>
          rw [ea] at h'
          intro S2 v2 em2 w2 st2 r2
          exact h' S2 em2 w2 st2 _ (((sr.mono st1).mono st2).set r2)
theorem ss_augA {i : Nat} {x : Str} {e : Expr} {me : ME} {pos pos' : Pos} (hN : X.N.Nodup) (hi : X.N[i]? = some x) (hx : Loc X.env.scope x) (hf : X.fn x = true ∨ X.env.scope.names.lookup x = some .local) (he : SE C X e me) :
    SS C X (.AugAssign (.Name x pos') .Add e pos) (.aug i .add me) := fun W tk =>
  PSw (ps_aug hN hi hx (he W tk) (pip_of (iop_add.or iop_add_str)) hf) fun D σ H ⟨r, S, hH, w, sr, h⟩ => by
    subst hH
    refine aug_core w sr h fun S d0 d1 v0 v1 W Q w r0 r1 h => ?_
    simp only [augM] at h
    split at h
    · rw [rep_int] at r0 r1; exact .inl ⟨_, _, r0, r1, h.pure w (rep_int.mpr rfl)⟩
    · split at h
      · rename_i hl
        rw [rep_str] at r0 r1
        refine .inr ⟨_, _, r0.1, r1.1, by rw [toS_len, toS_len]; exact hl, ?_⟩
        rw [toS_app]
        exact h.pure w (rep_str.mpr ⟨rfl, by rw [List.length_append]; exact hl⟩)
      · exact h.elim
    · exact h.elim
theorem ss_augS {i : Nat} {x : Str} {e : Expr} {me : ME} {pos pos' : Pos} (hN : X.N.Nodup) (hi : X.N[i]? = some x) (hx : Loc X.env.scope x) (hf : X.fn x = true ∨ X.env.scope.names.lookup x = some .local) (he : SE C X e me) :
    SS C X (.AugAssign (.Name x pos') .Sub e pos) (.aug i .sub me) := fun W tk =>
  PSw (ps_aug hN hi hx (he W tk) (pip_of iop_sub) hf) fun D σ H ⟨r, S, hH, w, sr, h⟩ => by
    subst hH
    refine aug_core w sr h fun S d0 d1 v0 v1 W Q w r0 r1 h => ?_
    simp only [augM] at h
    split at h
    · rw [rep_int] at r0 r1; exact ⟨_, _, r0, r1, h.pure w (rep_int.mpr rfl)⟩
    · exact h.elim
/-! ### loops -/
theorem ss_for {tg iter : Expr} {body : List Stmt} {g : MG} {s : MI} {mb : MSs} {pos : Pos} (hp : PassesOwn (model X.prog X.w) X.A X.env X.xe) (hc : X.calm = true) (hi : SI C X tg iter s) (hg : SG C X tg g) (hb : SSs C X body mb)
    (hs : ∀ x, foldedSetIterable iter X.env x = pure x) : SS C X (.For tg iter body [] pos) (.for_ g s mb) := fun W tk =>
  PSw (ps_for hp hc (hi W tk) hg (hb W tk) hs) fun D σ H ⟨r, S, hH, w, sr, h⟩ => by
    subst hH
    simp only [evS, thenS] at h
    refine ⟨r, S, rfl, w, sr, ?_⟩
    cases e1 : evI s r S.mu with
    | stuck => rw [e1] at h; exact h
    | exc c ks vs m => rw [e1] at h; exact fun S' dx em w' st ea => h S' em w' st σ dx (sr.mono st) ea
    | ok t m1 =>
    rw [e1] at h
    intro S1 J em w1 st1 src
    subst em
    simp only at h
    generalize hbd : (fun d r m => match asgG g d r with
      | some r' => evSs mb r' m
      | none => none : Fs.D → Env → Store → RS) = bd at h
    obtain ⟨G, Y, wk, hG, hY⟩ := src.ex
    refine for_it wk (fun i σ H => ∃ (S' : Ws) (r' : Env), S'.H = H ∧ Wf C S' ∧ Step S1 S' ∧ SRep C S' r' σ ∧ PostS C S' (forM t bd (t.ds.drop i) r' S'.mu) W D) ?_ ?_ ?_ ?_
    · exact ⟨S1, r, rfl, w1, Step.refl S1, sr.mono st1, PostS.step st1 h⟩
    · rintro i σ H hi ⟨S', r', rfl, w', st', sr', h'⟩
      refine hG S' w' st'.toStep0 ?_
      cases hd : t.ds.drop i with
      | nil =>
        rw [hd] at h'
        simp only [forM] at h'
        split at h'
        · assumption
        · exact h'.elim
      | cons d ds =>
        rw [hd] at h'
        simp only [forM] at h'
        split at h'
        · assumption
        · exact h'.elim
    · rintro i x σ H H' hi ⟨S', r', rfl, w', st', sr', h'⟩ y
      have hdr : t.ds.drop i = t.ds[i] :: t.ds.drop (i + 1) := List.drop_eq_getElem_cons hi
      rw [hdr] at h'
      simp only [forM] at h'
      split at h'
      · rename_i ok
        obtain ⟨S3, d, eH, emu, w3, st3, hdi, rd⟩ := hY i x S' H' hi w' st'.toStep0 ok y
        rw [List.getElem?_eq_getElem hi] at hdi
        cases hdi
        subst eH
        refine ⟨t.ds[i], r', S3, rfl, w3, sr'.mono st3, rd, ?_⟩
        have h3 := PostS.step st3 h'
        rw [← emu] at h3
        subst hbd
        simp only at h3
        cases ea : asgG g t.ds[i] r' with
        | none => rw [ea] at h3; exact h3.elim
        | some r2 =>
          rw [ea] at h3
          intro σ' s1 _ _
          refine dnS_intro r2 w3 s1 ?_
          simp only at h3
          have st13 := st'.trans st3
          cases eb : evSs mb r2 S3.mu with
          | none => rw [eb] at h3; exact h3
          | some p =>
            obtain ⟨fl, m⟩ := p
            rw [eb] at h3
            cases fl with
            | nxt r5 =>
              intro S5 em w5 st5 σ5 sr5
              subst em
              exact ⟨S5, r5, rfl, w5, st13.trans st5, sr5, PostS.step st5 h3⟩
            | cnt r5 =>
              intro S5 em w5 st5 σ5 sr5
              subst em
              exact ⟨S5, r5, rfl, w5, st13.trans st5, sr5, PostS.step st5 h3⟩
            | brk r5 => exact h3
            | ret d => exact h3
            | exc c ks vs r5 => exact h3
      · exact h'.elim
    · rintro σ H ⟨S', r', rfl, w', st', sr', h'⟩
      rw [List.drop_length] at h'
      simp only [forM] at h'
      split at h'
      · exact h'.nxt w' sr'
      · exact h'.elim
theorem ss_while {n : Nat} {c : Expr} {body : List Stmt} {mc : MT} {mb : MSs} {pos : Pos} (hp : PassesOwn (model X.prog X.w) X.A X.env X.xe) (hc : ST C X c mc) (hb : SSs C X body mb) : SS C X (.While c body [] pos) (.while_ n mc mb) := fun W tk =>
  PSw (ps_while hp (hc W tk) (hb W tk)) fun D σ H ⟨r, S, hH, w, sr, h⟩ => by
    subst hH
    simp only [evS] at h
    refine ⟨fun m σ H => ∃ r S, S.H = H ∧ Wf C S ∧ SRep C S r σ ∧ PostS C S (whileM (evT mc) (evSs mb) m r S.mu) W D, ⟨n, r, S, rfl, w, sr, h⟩, ?_⟩
    rintro m σ H ⟨r, S, rfl, w, sr, h⟩
    cases m with
    | zero => exact h.elim
    | succ m =>
      simp only [whileM] at h
      refine dnT_intro r w sr ?_
      cases e1 : evT mc r S.mu with
      | stuck => rw [e1] at h; exact h
      | exc c ks vs m => rw [e1] at h; exact fun S' dx em w' st ea => h S' em w' st σ dx (sr.mono st) ea
      | ok b m1 =>
        rw [e1] at h
        intro S1 em1 w1 st1
        subst em1
        have h1 := PostS.step st1 h
        cases b with
        | false =>
          rw [if_neg Bool.false_ne_true]
          exact h1.nxt w1 (sr.mono st1)
        | true =>
          rw [if_pos rfl]
          refine ⟨fun σ' H' => ∃ r S, S.H = H' ∧ Wf C S ∧ SRep C S r σ' ∧ PostS C S (whileM (evT mc) (evSs mb) m r S.mu) W D, fun σ' H' q => ⟨m, Nat.lt_succ_self m, q⟩, dnS_intro r w1 (sr.mono st1) ?_⟩
          simp only at h1
          cases eb : evSs mb r S1.mu with
          | none => rw [eb] at h1; exact h1
          | some p =>
            obtain ⟨fl, m2⟩ := p
            rw [eb] at h1
            cases fl with
            | nxt r5 =>
              intro S5 em w5 st5 σ5 sr5
              subst em
              exact ⟨r5, S5, rfl, w5, sr5, PostS.step st5 h1⟩
            | cnt r5 =>
              intro S5 em w5 st5 σ5 sr5
              subst em
              exact ⟨r5, S5, rfl, w5, sr5, PostS.step st5 h1⟩
            | brk r5 => exact h1
            | ret d => exact h1
            | exc c ks vs r5 => exact h1
end
end Fs

/-! FsM: cells given up, stores into cells, methods of built-in types, isinstance, defs. -/
namespace Fs
open PySem PySem.Spec PyProof.Rows L2
open Classical

section
variable {C : Ct} {X : Cx}
theorem frz_ok {S : Ws} {d : D} {v : V} {W : XK} {Q : VK} (w : Wf C S) (r : Rep C S d v) (h : PostE C S (frzM d S.mu) W Q) : Q v S.H := by
  have plainCase : (∀ n, d ≠ .obj n) → Q v S.H := fun hn => by
    have e : frzM d S.mu = .ok d S.mu := by
      unfold frzM; cases d <;> first | rfl | exact absurd rfl (hn _)
    rw [e] at h
    exact h.pure w r
  cases d with
  | obj n =>
    simp only [Rep] at r
    obtain ⟨a, ha, e⟩ := r
    subst e
    simp only [frzM] at h
    cases q : S.mu[n]? with
    | none => rw [q] at h; exact h.elim
    | some c =>
      rw [q] at h
      have z := w.cell n c a q ha
      have st : Step S (S.drop n) := Step.drop
      cases c with
      | dead => exact h.elim
      | lst ds =>
        obtain ⟨vs, h1, l, h2⟩ := z
        exact h (S.drop n) _ rfl w.drop st (rep_lst_new ⟨h1, drop_notL w q rfl ha⟩ l (h2.mono st))
      | dct t ks ds =>
        have nl := drop_notL w q rfl ha
        refine h (S.drop n) _ rfl w.drop st ?_
        simp only [Rep]
        refine ⟨a, rfl, ?_⟩
        simp only [CellAt] at z
        split at z
        · rename_i ht; rw [if_pos ht]; obtain ⟨x, q1, k, r⟩ := z; exact ⟨x, ⟨q1, nl⟩, k, r.mono st⟩
        · rename_i ht; rw [if_neg ht]; obtain ⟨x, q1, k, r⟩ := z; exact ⟨x, ⟨q1, nl⟩, k, r.mono st⟩
      | ins c ks ds =>
        obtain ⟨dx, fvs, q1, k, r⟩ := z
        refine h (S.drop n) _ rfl w.drop st ?_
        simp only [Rep]
        exact ⟨a, dx, fvs, rfl, ⟨q1, drop_notL w q rfl ha⟩, k, r.mono st⟩
  | _ => exact plainCase (by intro n e; cases e)
theorem se_frz {e : Expr} {m : ME} (h : SE C X e m) : SE C X e (.frz m) := fun W tk =>
  PEw (h W tk) fun σ H Q ⟨r, S, hH, w, sr, q⟩ => by
    subst hH
    simp only [ev] at q
    refine dnE_intro r w sr (q.bind.imp fun v1 H1 q1 => ?_)
    obtain ⟨S1, d1, e1, w1, st1, r1, h1⟩ := q1
    subst e1
    exact frz_ok w1 r1 h1

/-! ### stores into cells -/
def rSetA : V → V → V → Hp → (Hp → Prop) → Prop := fun o i v H Q => rSetL o i v H Q ∨ ∃ a H', o = .ref a ∧ DPut H a i v H' ∧ Q H'
theorem set_all (hu : X.A.units + 1 < cLine) : PSet X rSetA := by
  intro pins s σ H o i v ov iv u Q I ro ri rv h
  rcases h with h | ⟨a, H', e, g, q⟩
  · exact set_list pins s σ H o i v ov iv u Q I ro ri rv h
  · subst e
    obtain rfl : ov = Value.ref a := ro
    exact d_setItem hu I g ri rv fun s4 I4 => ⟨H', I4, q⟩
def PostU (C : Ct) (S : Ws) (r : R Unit) (W : XK) (Q : Hp → Prop) : Prop :=
  match r with
  | .ok _ m => ∀ S', S'.mu = m → Wf C S' → Step S S' → Q S'.H
  | .exc c ks ds m => ∀ S' dx, S'.mu = m → Wf C S' → Step S S' → ExcAt C S' ks ds dx → W (.ref (He.ga C.K (C.nm c))) (some dx) S'.H
  | .stuck => False
theorem idxK_any {κ : Type} [DecidableEq κ] (k : κ) : ∀ kvs : List (κ × V), (kvs.any fun kv => decide (kv.1 = k)) = (idxK k (kvs.map fun p => some p.1)).isSome
  | [] => rfl
  | p :: r => by
    simp only [List.any_cons, List.map_cons, idxK]
    by_cases e : p.1 = k
    · simp [e]
    · have e2 : ¬ (some p.1 = some k) := by simpa using e
      rw [if_neg e2, idxK_any k r]
      simp [e]
theorem putK_rep {S : Ws} {κ : Type} [DecidableEq κ] {k : κ} {e : D} {v : V} (re : Rep C S e v) : ∀ {kvs : List (κ × V)} {vs : List D}, Reps C S vs (kvs.map (·.2)) →
    Reps C S (putV k e (kvs.map fun p => some p.1) vs) ((kvs.map fun kv => if kv.1 = k then (kv.1, v) else kv).map (·.2))
  | [], vs, h => by
    have : vs = [] := by
      have := h.len; simpa using this
    subst this
    simpa [putV] using Reps.nil
  | p :: r, vs, h => by
    cases vs with
    | nil => have := h.len; simp at this
    | cons d ds =>
      simp only [List.map_cons, Reps] at h
      obtain ⟨v', vs', e', r1, r2⟩ := h
      cases e'
      simp only [List.map_cons, putV]
      refine Reps.cons ?_ (putK_rep re r2)
      by_cases hk : p.1 = k
      · rw [if_pos (by rw [hk]), if_pos hk]; exact re
      · rw [if_neg (by simpa using hk), if_neg hk]; exact r1
theorem putK_keys {κ : Type} [DecidableEq κ] (k : κ) (v : V) (kvs : List (κ × V)) : (kvs.map fun kv => if kv.1 = k then (kv.1, v) else kv).map (·.1) = kvs.map (·.1) := by
  induction kvs with
  | nil => rfl
  | cons p r ih =>
    simp only [List.map_cons, ih]
    congr 1
    split <;> rfl
theorem map_some_fst {κ : Type} (kvs : List (κ × V)) : (kvs.map fun p => some p.1) = (kvs.map (·.1)).map some := by simp
theorem setSub_ok {S : Ws} {o i e : D} {ov iv ev : V} {W : XK} {Q : Hp → Prop} (w : Wf C S) (ro : Rep C S o ov) (ri : Rep C S i iv) (re : Rep C S e ev) (h : PostU C S (setSubM o i e S.mu) W Q) : rSetA ov iv ev S.H Q := by
  unfold setSubM at h
  split at h
  · rename_i n
    simp only [Rep] at ro
    obtain ⟨a, ha, eo⟩ := ro
    split at h
    · rename_i ds hm
      obtain ⟨vs, h1, l, h2⟩ := w.cell n _ a hm ha
      split at h
      · rename_i k
        split at h
        · rename_i j hj
          rw [rep_int] at ri
          left
          refine ⟨a, vs, k, j, eo, ri, h1, by rw [← h2.len]; exact hj, ?_⟩
          have st : Step S (S.put n a (.lst (vs.set j ev)) (.lst (ds.set j e))) := Step.put w hm rfl ha
          exact h (S.put n a (.lst (vs.set j ev)) (.lst (ds.set j e))) rfl (w.put hm rfl ha ⟨_, upd_same, by rw [List.length_set]; exact l, (h2.mono st).set (re.mono st) j⟩) st
        · exact h.elim
      · exact h.elim
    · rename_i t ks vs hm
      have z := w.cell n _ a hm ha
      simp only [CellAt] at z
      right
      cases t with
      | true =>
        simp only [if_true] at z
        obtain ⟨kvs, h1, h2, h3⟩ := z
        have hlen : kvs.length = ks.length := by
          have := congrArg List.length h2; simpa using this.symm
        simp only [lookD, putD, if_true] at h
        cases i with
        | tup is =>
          simp only at h
          cases hk : dKeyT (.tup is) with
          | none => rw [hk] at h; exact h.elim
          | some k =>
            rw [hk] at h
            simp only [Option.map_some] at h
            simp only [Rep] at ri
            obtain ⟨b, us, eb, f, _, q⟩ := ri
            have eu := kVs_rep (by simpa only [dKeyT] using hk) q
            subst eu
            rw [h2] at h
            refine ⟨a, upd S.H a (.dT (putK kvs k ev)), eo, ?_⟩
            have any := idxK_any k kvs
            cases hx : idxK k (kvs.map fun p => some p.1) with
            | some j =>
              rw [hx] at h any
              simp only at h
              split at h
              · rename_i hl
                refine ⟨by rw [eb]; exact DPut.t h1 f.1 (by rw [hlen]; exact hl), ?_⟩
                have ep : putK kvs k ev = kvs.map fun kv => if kv.1 = k then (kv.1, ev) else kv := by unfold putK; rw [any]; rfl
                rw [ep]
                have st : Step S (S.put n a (.dT (kvs.map fun kv => if kv.1 = k then (kv.1, ev) else kv)) (.dct true ks (putV k e (kvs.map fun p => some p.1) vs))) := Step.put w hm rfl ha
                refine h _ rfl (w.put hm rfl ha ?_) st
                simp only [CellAt, if_true]
                exact ⟨_, upd_same, by rw [h2, map_some_fst, map_some_fst, putK_keys], putK_rep (re.mono st) (h3.mono st)⟩
              · exact h.elim
            | none =>
              rw [hx] at h any
              simp only at h
              split at h
              · rename_i hl
                refine ⟨by rw [eb]; exact DPut.t h1 f.1 (by rw [hlen]; exact hl), ?_⟩
                have ep : putK kvs k ev = kvs ++ [(k, ev)] := by unfold putK; rw [any]; rfl
                rw [ep]
                have st : Step S (S.put n a (.dT (kvs ++ [(k, ev)])) (.dct true (ks ++ [.tup is]) (vs ++ [e]))) := Step.put w hm rfl ha
                refine h _ rfl (w.put hm rfl ha ?_) st
                simp only [CellAt, if_true]
                exact ⟨_, upd_same, by rw [List.map_append, List.map_append, h2]; simp [hk], by rw [List.map_append]; exact (h3.mono st).append (Reps.cons (re.mono st) Reps.nil)⟩
              · exact h.elim
        | _ => exact h.elim
      | false =>
        simp only [Bool.false_eq_true, if_false] at z
        obtain ⟨kvs, h1, h2, h3⟩ := z
        have hlen : kvs.length = ks.length := by
          have := congrArg List.length h2; simpa using this.symm
        simp only [lookD, putD, Bool.false_eq_true, if_false] at h
        cases hk : dKey i with
        | none => rw [hk] at h; exact h.elim
        | some k =>
          rw [hk] at h
          simp only [Option.map_some] at h
          have ei := kV_rep hk ri
          subst ei
          rw [h2] at h
          refine ⟨a, upd S.H a (.dK (putK kvs k ev)), eo, ?_⟩
          have any := idxK_any k kvs
          cases hx : idxK k (kvs.map fun p => some p.1) with
          | some j =>
            rw [hx] at h any
            simp only at h
            split at h
            · rename_i hl
              refine ⟨DPut.k h1 (by rw [hlen]; exact hl), ?_⟩
              have ep : putK kvs k ev = kvs.map fun kv => if kv.1 = k then (kv.1, ev) else kv := by unfold putK; rw [any]; rfl
              rw [ep]
              have st : Step S (S.put n a (.dK (kvs.map fun kv => if kv.1 = k then (kv.1, ev) else kv)) (.dct false ks (putV k e (kvs.map fun p => some p.1) vs))) := Step.put w hm rfl ha
              refine h _ rfl (w.put hm rfl ha ?_) st
              simp only [CellAt, Bool.false_eq_true, if_false]
              exact ⟨_, upd_same, by rw [h2, map_some_fst, map_some_fst, putK_keys], putK_rep (re.mono st) (h3.mono st)⟩
            · exact h.elim
          | none =>
            rw [hx] at h any
            simp only at h
            split at h
            · rename_i hl
              refine ⟨DPut.k h1 (by rw [hlen]; exact hl), ?_⟩
              have ep : putK kvs k ev = kvs ++ [(k, ev)] := by unfold putK; rw [any]; rfl
              rw [ep]
              have st : Step S (S.put n a (.dK (kvs ++ [(k, ev)])) (.dct false (ks ++ [i]) (vs ++ [e]))) := Step.put w hm rfl ha
              refine h _ rfl (w.put hm rfl ha ?_) st
              simp only [CellAt, Bool.false_eq_true, if_false]
              exact ⟨_, upd_same, by rw [List.map_append, List.map_append, h2]; simp [hk], by rw [List.map_append]; exact (h3.mono st).append (Reps.cons (re.mono st) Reps.nil)⟩
            · exact h.elim
    · exact h.elim
  · exact h.elim
theorem ss_setSub {o i e : Expr} {mo mi me : ME} {pos pos' : Pos} (ho : SE C X o mo) (hi : SE C X i mi) (he : SE C X e me) (hu : X.A.units + 1 < cLine)
    (ha : ∀ v, assign (.Subscript o i pos') X.env v = (do
      let ov ← holding [v] (eval o X.env)
      let iv ← holding [v, ov] (eval i X.env)
      standAt pos'
      holding [v, ov, iv] (setItem ov iv v)
      release [v, ov, iv] [])) (hs : swapsWithSole [.Subscript o i pos'] e pos.line X.env = pure false) (hw : swappedStores [.Subscript o i pos'] e X.env = pure none) :
    SS C X (.Assign [.Subscript o i pos'] e pos) (.setSub mo mi me) := fun W tk =>
  PSw (ps_asg (he W tk) (pg_sub (ho W tk) (hi W tk) (set_all hu) ha) hs hw rfl) fun D σ H ⟨r, S, hH, w, sr, h⟩ => by
    subst hH
    simp only [evS, thenS, M.bind_ap] at h
    refine dnE_intro r w sr ?_
    cases e1 : ev me r S.mu with
    | stuck => rw [e1] at h; exact h
    | exc c ks vs m => rw [e1] at h; exact fun S' dx em w' st ea => h S' em w' st σ dx (sr.mono st) ea
    | ok d1 m1 =>
      rw [e1] at h
      intro S1 v1 em1 w1 st1 r1
      subst em1
      have h1 := PostS.step st1 h
      have sr1 := sr.mono st1
      refine dnE_intro r w1 sr1 ?_
      simp only at h1
      cases e2 : ev mo r S1.mu with
      | stuck => rw [e2] at h1; exact h1
      | exc c ks vs m => rw [e2] at h1; exact fun S' dx em w' st ea => h1 S' em w' st σ dx (sr1.mono st) ea
      | ok d2 m2 =>
        rw [e2] at h1
        intro S2 v2 em2 w2 st2 r2
        subst em2
        have h2 := PostS.step st2 h1
        have sr2 := sr1.mono st2
        refine dnE_intro r w2 sr2 ?_
        simp only at h2
        cases e3 : ev mi r S2.mu with
        | stuck => rw [e3] at h2; exact h2
        | exc c ks vs m => rw [e3] at h2; exact fun S' dx em w' st ea => h2 S' em w' st σ dx (sr2.mono st) ea
        | ok d3 m3 =>
          rw [e3] at h2
          intro S3 v3 em3 w3 st3 r3
          subst em3
          have h3 := PostS.step st3 h2
          have sr3 := sr2.mono st3
          refine setSub_ok (W := fun c d H' => W c d σ H') w3 (r2.mono st3) r3 ((r1.mono st2).mono st3) ?_
          simp only at h3
          cases e4 : setSubM d2 d3 d1 S3.mu with
          | stuck => rw [e4] at h3; exact h3
          | exc c ks vs m => rw [e4] at h3; exact fun S' dx em w' st ea => h3 S' em w' st σ dx (sr3.mono st) ea
          | ok u m4 =>
            rw [e4] at h3
            exact fun S4 em4 w4 st4 => h3 S4 em4 w4 st4 σ (sr3.mono st4)
end
end Fs

/-! FsN: constants, comprehensions as values, methods of built-in types, isinstance. -/
namespace Fs
open PySem PySem.Spec PyProof.Rows L2
open Classical

section
variable {C : Ct} {X : Cx}
/-! ### constants -/
theorem se_int {i : Int} {j : Nat} {pos : Pos} : SE C X (.Constant (.int i) j pos) (.con (.int i)) := se_con pe_int fun _ => rep_int.mpr rfl
theorem se_bl {i : Bool} {j : Nat} {pos : Pos} : SE C X (.Constant (.bool i) j pos) (.con (.bl i)) := se_con pe_bl fun S => by simp only [Rep]
theorem se_non {j : Nat} {pos : Pos} : SE C X (.Constant .none j pos) (.con .non) := se_con pe_non fun S => by simp only [Rep]
theorem se_str {x : List Char} {s : Str} {j : Nat} {pos : Pos} (h : toS x = s) (hl : x.length ≤ 1000) : SE C X (.Constant (.str s) j pos) (.con (.str x)) := se_con pe_str fun S => by
  simp only [Rep]
  exact ⟨by rw [h], Nat.le_trans hl (by rw [sizeLine_eq]; decide)⟩
/-- a module's constant -/
def GV (C : Ct) (mg : Str → Option Value) (x : Str) (d : D) : Prop := ∃ (u : Value) (v : V), mg x = some u ∧ RelV v u ∧ ∀ S, Rep C S d v
theorem se_glob {x : Str} {d : D} {pos : Pos} (hg : Gl X x) (g : GV C X.mg x d) (hd : (x == ("__debug__" : Str)) = false) : SE C X (.Name x pos) (.con d) := by
  obtain ⟨u, v, h1, h2, h3⟩ := g
  exact se_con (pe_glob hg h1 h2 hd) h3
/-! ### comprehensions -/
def Ifs (C : Ct) (X : Cx) (ifs : List Expr) (c : MTO) : Prop := match c with
  | .no => ifs = []
  | .yes m => ∃ i, ifs = [i] ∧ ST C X i m
theorem takesF {X : Cx} : Takes X (fun _ _ _ _ => False) := fun u s' x => by
  obtain ⟨_, _, _, _, _, _, _, _, _, _, _, _, _, _, _, _, w⟩ := x
  exact w.elim
theorem ifs_pts {ifs : List Expr} {c : MTO} (h : Ifs C X ifs c) : PTs X ifs (dnTO C c) := by
  cases c with
  | no => cases (show ifs = [] from h); exact pts_nil
  | yes m =>
    obtain ⟨i, rfl, h⟩ := h
    exact pts_one (h _ takesF)
theorem se_comp {elt tg iter : Expr} {ifs : List Expr} {scope : Scope} {pos : Pos} {own : List (Str × Nat)} {mu : Bool} {g : MG} {s : MI} {c : MTO} {e : ME} (hc : X.calm = true) (hN : X.N.Nodup) (hi : SI C X tg iter s) (ok : blkC X.N X.env.scope scope own = true)
    (hsl : ∀ j ∈ g.slots, j ∈ own.map (·.2))
    (hg : ∀ (s : Shared) (H : Hp) (L : Addr) (cl : List (Str × Addr)) (fp : List Addr), SG C (X.blk s H scope (compEnvC scope cl L X.env) fp) tg g)
    (ht : ∀ (s : Shared) (H : Hp) (L : Addr) (cl : List (Str × Addr)) (fp : List Addr), Ifs C (X.blk s H scope (compEnvC scope cl L X.env) fp) ifs c)
    (he : ∀ (s : Shared) (H : Hp) (L : Addr) (cl : List (Str × Addr)) (fp : List Addr), SE C (X.blk s H scope (compEnvC scope cl L X.env) fp) elt e)
    (hs : ∀ x, foldedSetIterable iter X.env x = pure x) : SE C X (.ListComp elt [⟨tg, iter, ifs, 0⟩] scope pos) (.comp mu (own.map (·.2)) g s c e) := fun W tk =>
  PEw (pe_lc hc hN (hi W tk) (blkOk_by ok) (fun s H L cl fp => hg s H L cl fp) (fun s H L cl fp => ifs_pts (ht s H L cl fp)) (fun s H L cl fp => he s H L cl fp _ takesF) hs) fun σ H Q h => comp_tLc hsl h
theorem ss_setLc {i : Nat} {y : Str} {py : Pos} {elt tg iter : Expr} {ifs : List Expr} {scope : Scope} {pos spos : Pos} {own : List (Str × Nat)} {mu : Bool} {g : MG} {s : MI} {c : MTO} {e : ME} (hc : X.calm = true) (hN : X.N.Nodup) (hy : X.N[i]? = some y) (hyl : X.env.scope.names.lookup y = some .local)
    (hsw : swapsWith (.ListComp elt [⟨tg, iter, ifs, 0⟩] scope pos) (some (.Name y py)) spos.line X.env = pure true) (hi : SI C X tg iter s) (ok : blkC X.N X.env.scope scope own = true)
    (hsl : ∀ j ∈ g.slots, j ∈ own.map (·.2))
    (hg : ∀ (s : Shared) (H : Hp) (L : Addr) (cl : List (Str × Addr)) (fp : List Addr), SG C (X.blk s H scope (compEnvC scope cl L X.env) fp) tg g)
    (ht : ∀ (s : Shared) (H : Hp) (L : Addr) (cl : List (Str × Addr)) (fp : List Addr), Ifs C (X.blk s H scope (compEnvC scope cl L X.env) fp) ifs c)
    (he : ∀ (s : Shared) (H : Hp) (L : Addr) (cl : List (Str × Addr)) (fp : List Addr), SE C (X.blk s H scope (compEnvC scope cl L X.env) fp) elt e)
    (hs : ∀ x, foldedSetIterable iter X.env x = pure x) : SS C X (.Assign [.Name y py] (.ListComp elt [⟨tg, iter, ifs, 0⟩] scope pos) spos) (.set (.nm i) (.comp mu (own.map (·.2)) g s c e)) := fun W tk =>
  PSw (ps_setLc hc hN hy hyl hsw (hi W tk) (blkOk_by ok) (fun s H L cl fp => hg s H L cl fp) (fun s H L cl fp => ifs_pts (ht s H L cl fp)) (fun s H L cl fp => he s H L cl fp _ takesF) hs) fun Dn σ H ⟨r, S, hH, w, sr, h⟩ => by
    subst hH
    simp only [evS] at h
    have z := thenS_ok sr h
    refine comp_tLc hsl ⟨r, S, rfl, w, sr, z.imp fun v H' ⟨S', d, eH, w', st, rd, h'⟩ => ?_⟩
    subst eH
    simp only [asgG, Option.map_some] at h'
    exact h'.nxt w' ((sr.mono st).set rd)
/-! ### append, join -/
def appendM (o e : D) : M D := fun m => match o with
  | .obj n => match m[n]? with
    | some (.lst ds) => if ds.length < sizeLine then .ok .non (m.set n (.lst (ds ++ [e]))) else .stuck
    | _ => .stuck
  | _ => .stuck
def un1m (f : D → D → M D) (o : D) : List D → M D
  | [d] => f o d
  | _ => stuckM
theorem append_ok {S : Ws} {o e : D} {ov ev : V} {W : XK} {Q : VK} (w : Wf C S) (ro : Rep C S o ov) (re : Rep C S e ev) (h : PostE C S (appendM o e S.mu) W Q) : rAppend ov [ev] S.H Q := by
  unfold appendM at h
  split at h
  · rename_i n
    simp only [Rep] at ro
    obtain ⟨a, ha, eo⟩ := ro
    split at h
    · rename_i ds hm
      split at h
      · rename_i hl
        obtain ⟨vs, h1, l, h2⟩ := w.cell n _ a hm ha
        refine ⟨a, vs, ev, eo, rfl, h1, by rw [← h2.len]; exact hl, ?_⟩
        have st : Step S (S.put n a (.lst (vs ++ [ev])) (.lst (ds ++ [e]))) := Step.put w hm rfl ha
        refine h (S.put n a (.lst (vs ++ [ev])) (.lst (ds ++ [e]))) _ rfl (w.put hm rfl ha ⟨_, upd_same, by rw [List.length_append, List.length_singleton]; exact hl, (h2.mono st).append (Reps.cons (re.mono st) Reps.nil)⟩) st ?_
        simp only [Rep]
      · exact h.elim
    · exact h.elim
  · exact h.elim
theorem tyV_list {S : Ws} {n : Nat} {ov : V} {ds : List D} (w : Wf C S) (ro : Rep C S (.obj n) ov) (hm : S.mu[n]? = some (.lst ds)) : tyV C.K "list" ov S.H := by
  simp only [Rep] at ro
  obtain ⟨a, ha, eo⟩ := ro
  obtain ⟨vs, h1, l, h2⟩ := w.cell n _ a hm ha
  subst eo
  exact .inl ⟨rfl, vs, .inl (.inl h1)⟩
/-- o.append(e): the list is looked up ahead of e -/
def isLst (m : Store) : D → Bool
  | .obj n => match m[n]? with
    | some (.lst _) => true
    | _ => false
  | _ => false
theorem chk_ok {α : Type} {P : Store → D → Bool} {d : D} {m : Store} {g : Unit → M α} {r : R α} (h : (chkM P d >>= g) m = r) : (P m d = true ∧ r = g () m) ∨ r = .stuck := by
  rw [M.bind_ap] at h
  unfold chkM at h
  by_cases c : P m d = true
  · rw [if_pos c] at h
    exact .inl ⟨c, h.symm⟩
  · rw [if_neg c] at h
    exact .inr h.symm
theorem PostE.chk {S : Ws} {P : Store → D → Bool} {d : D} {g : Unit → M D} {W : XK} {Q : VK} (h : PostE C S ((chkM P d >>= g) S.mu) W Q) : P S.mu d = true ∧ PostE C S (g () S.mu) W Q := by
  rcases chk_ok (g := g) (r := (chkM P d >>= g) S.mu) rfl with ⟨h1, h2⟩ | h2
  · rw [h2] at h
    exact ⟨h1, h⟩
  · rw [h2] at h
    exact h.elim
/-- the reading of a method call -/
theorem dn_meth {P : Store → D → Bool} {F : D → List D → M D} {mo : ME} {mes : MEs} {W : WX} {ty : V → Hp → Prop} {rr : V → List V → Hp → VK → Prop}
    (hP : ∀ (S : Ws) (d : D) (v : V), Wf C S → Rep C S d v → P S.mu d = true → ty v S.H)
    (hF : ∀ (S : Ws) (d : D) (ds : List D) (v : V) (vs : List V) (W : XK) (Q : VK), Wf C S → Rep C S d v → Reps C S ds vs → PostE C S (F d ds S.mu) W Q → rr v vs S.H Q) :
    ∀ σ H Q, dnE C (ev (.meth P F mo mes)) W σ H Q → dnE C (ev mo) W σ H fun x H1 => ty x H1 ∧ dnA C (evs mes) W σ H1 fun xs H2 => rr x xs H2 Q := fun σ H Q ⟨r, S, hH, w, sr, h⟩ => by
  subst hH
  simp only [ev] at h
  refine dnE_intro r w sr (h.bind.imp fun v1 H1 ⟨S1, d1, e1, w1, st1, r1, h1⟩ => ?_)
  subst e1
  obtain ⟨p, h2⟩ := h1.chk
  refine ⟨hP S1 d1 v1 w1 r1 p, dnA_intro r w1 (sr.mono st1) (h2.bindA.imp fun vs H2 ⟨S2, ds, e2, w2, st2, r2, h3⟩ => ?_)⟩
  subst e2
  exact hF S2 d1 ds v1 vs _ Q w2 (r1.mono st2) r2 h3
theorem star_allk {cpos : Pos} {env : PySem.Env} : ∀ {es : List Expr}, noStar es = true → (backTo cpos (starEach es env)).all (fun x => !x.1) = true
  | [], _ => rfl
  | e :: es, h => by
    simp only [noStar, List.all_cons, Bool.and_eq_true, Bool.not_eq_true'] at h
    rw [star_cons h.1]
    show (!false && (backTo cpos (starEach es env)).all (fun x => !x.1)) = true
    rw [star_allk h.2]
    rfl
theorem star_few {cpos : Pos} {env : PySem.Env} {es : List Expr} (h : noStar es = true) (l : es.length < 29) :
    ((backTo cpos (starEach es env)).all (fun x => !x.1) && (backToKw cpos (keywordEach [] env)).all (fun x => x.1.isSome)
      && decide (es.length + ([] : List Keyword).length + (if ([] : List Keyword).isEmpty then 0 else 1) < 30)) = true := by
  rw [star_allk h]
  show (true && true && decide (es.length + 0 + 0 < 30)) = true
  simp; omega
theorem se_append {o e : Expr} {mo me : ME} {apos pos : Pos} (ho : SE C X o mo) (he : SE C X e me) (hK : X.K = C.K) (hs : isStar e = false) (hbase : attributeBase o "append" X.env (eval o X.env) = eval o X.env) (hline : (apos.endLine == pos.line) = true) :
    SE C X (.Call (.Attribute o "append" apos) [e] [] pos) (.meth isLst (un1m appendM) mo (.cons me .nil)) := fun W tk => by
  have n1 : noStar [e] = true := by simp [noStar, hs]
  have ha : SA C X [e] (.cons me .nil) := sa_cons he sa_nil (star_cons hs)
  refine PEw (pe_bm PySem.F.plainAttrs_list PySem.F.slot_list_append PySem.F.type_list_append mt_append (ho W tk) (ha W tk) hbase (star_few n1 (by simp)) hline (star_cons hs) rfl) (dn_meth ?_ ?_)
  · intro S d v w r p
    rw [hK]
    cases d with
    | obj n =>
      simp only [isLst] at p
      split at p
      · rename_i ds hm
        exact tyV_list w r hm
      · cases p
    | _ => cases p
  · intro S d ds v vs W Q w r rs h
    cases ds with
    | nil => exact h.elim
    | cons x xs =>
      cases xs with
      | cons _ _ => exact h.elim
      | nil =>
        obtain ⟨v1, vs1, e1, rx, rn⟩ := rs
        subst e1
        cases rn
        exact append_ok w r rx h
/-! ### join -/
def glue (s : List Char) : List (List Char) → List Char
  | [] => []
  | [x] => x
  | x :: y :: r => x ++ s ++ glue s (y :: r)
def joinM (s d : D) : M D := fun m => match s with
  | .str x => match readQ m d with
    | some ds => match strsO ds with
      | some ys => if (ys.map List.length).sum + ys.length * x.length ≤ 1000000 then .ok (.str (glue x ys)) m else .stuck
      | none => .stuck
    | none => .stuck
  | _ => .stuck
def isStrD (_ : Store) : D → Bool
  | .str _ => true
  | _ => false
theorem toS_glue (x : List Char) : ∀ ys : List (List Char), Txt.join (toS x) (ys.map toS) = toS (glue x ys) := by
  intro ys
  rw [TL.join_eq]
  induction ys with
  | nil => rfl
  | cons y r ih =>
    cases r with
    | nil => rfl
    | cons z r =>
      show toS y ++ toS x ++ Str.join (toS x) ((z :: r).map toS) = toS (y ++ x ++ glue x (z :: r))
      rw [ih, toS_app, toS_app]
theorem glue_len (x : List Char) : ∀ ys : List (List Char), (glue x ys).length ≤ (ys.map List.length).sum + ys.length * x.length
  | [] => Nat.zero_le _
  | [y] => by simp [glue]
  | y :: z :: r => by
    have ih := glue_len x (z :: r)
    have e1 : ((z :: r).length + 1) * x.length = (z :: r).length * x.length + x.length := Nat.succ_mul _ _
    have e2 : ((y :: z :: r).map List.length).sum = y.length + ((z :: r).map List.length).sum := by simp
    have e3 : (glue x (y :: z :: r)).length = y.length + x.length + (glue x (z :: r)).length := by simp [glue]; omega
    have e4 : (y :: z :: r).length = (z :: r).length + 1 := rfl
    rw [e3, e2, e4, e1]
    omega
theorem se_join {o e : Expr} {mo me : ME} {apos pos : Pos} (ho : SE C X o mo) (he : SE C X e me) (hK : X.K = C.K) (hs : isStar e = false) (hbase : attributeBase o "join" X.env (eval o X.env) = eval o X.env) (hline : (apos.endLine == pos.line) = true) :
    SE C X (.Call (.Attribute o "join" apos) [e] [] pos) (.meth isStrD (un1m joinM) mo (.cons me .nil)) := fun W tk => by
  refine PEw (pe_join (ho W tk) (he W tk) (star_cons hs) hbase hline) fun σ H Q h => ?_
  have q := dn_meth (ty := fun x _ => ∃ a, x = .str a) (rr := fun x xs H Q => ∃ a p, ∃ ys : List Str, x = .str a ∧ xs = [.ref p] ∧ (SqL C.K H p (ys.map V.str) ∨ SqT C.K H p (ys.map V.str)) ∧
      (ys.map (·.length)).sum + ys.length * a.length ≤ 16777216 ∧ Q (.str (Txt.join a ys)) H) ?_ ?_ σ H Q h
  · rw [hK]
    refine dnE_mono _ _ _ _ (fun v H' ⟨ty, z⟩ => ⟨ty, ?_⟩) q
    obtain ⟨r, S, hH, w, sr, z⟩ := z
    subst hH
    refine dnE_intro r w sr ?_
    simp only [evs] at z
    have z1 : PostA C S ((do let x ← ev me r; pure [x]) S.mu) (fun c d H' => W c d σ H') (fun xs H2 => ∃ a p, ∃ ys : List Str, v = .str a ∧ xs = [.ref p] ∧ (SqL C.K H2 p (ys.map V.str) ∨ SqT C.K H2 p (ys.map V.str)) ∧
      (ys.map (·.length)).sum + ys.length * a.length ≤ 16777216 ∧ Q (.str (Txt.join a ys)) H2) := z
    refine z1.bind.imp fun v1 H1 ⟨S1, d1, e1, w1, st1, r1, h1⟩ => ?_
    subst e1
    exact h1 S1 [v1] rfl w1 (Step.refl _) (Reps.cons r1 Reps.nil)
  · intro S d v w r p
    cases d with
    | str x => exact ⟨_, (rep_str.mp r).1⟩
    | _ => cases p
  · intro S d ds v vs W Q w r rs h
    cases ds with
    | nil => exact h.elim
    | cons x xs =>
      cases xs with
      | cons _ _ => exact h.elim
      | nil =>
        obtain ⟨v1, vs1, e1, rx, rn⟩ := rs
        subst e1
        cases rn
        simp only [un1m] at h
        unfold joinM at h
        split at h
        · rename_i sx
          split at h
          · rename_i es he2
            split at h
            · rename_i ys hy
              split at h
              · rename_i hl
                obtain ⟨a, us, ea, hq, l, rq⟩ := readQ_rep w he2 rx
                obtain ⟨q1, q2⟩ := strs_rep hy rq
                refine ⟨toS sx, a, ys.map toS, (rep_str.mp r).1, by rw [ea], ?_, ?_, ?_⟩
                · rw [q1] at hq
                  rw [List.map_map]
                  exact hq
                · rw [List.map_map, List.length_map, toS_len]
                  have : ((fun x : Str => x.length) ∘ toS) = List.length := funext fun x => toS_len x
                  rw [this]
                  omega
                · rw [toS_glue]
                  refine h.pure w (rep_str.mpr ⟨rfl, ?_⟩)
                  have := glue_len sx ys
                  rw [sizeLine_eq]
                  omega
              · exact h.elim
            · exact h.elim
          · exact h.elim
        · exact h.elim
end
end Fs

/-! FsO: defs, their calls; isinstance. -/
namespace Fs
open PySem PySem.Spec PyProof.Rows L2
open Classical

/-! ### defs -/
def spM (C : Ct) (n : Nat) (F : List D → M D) : Sp := fun vs H Q E => vs.length = n ∧ ∃ S ds, S.H = H ∧ Wf C S ∧ Reps C S ds vs ∧ PostE C S (F ds S.mu) E Q
structure UF (C : Ct) (P : Program) (w : World) (mg : Str → Option Value) (base : Heap) (k : Nat) (x : Str) (F : List D → M D) : Prop where
  ex : ∃ (f : Addr) (fd : FuncData) (ps : List Str), FnOk P w C.K mg base (L2.CX P w) k f fd ps (spM C ps.length F) ∧ mg x = some (.ref f) ∧ PySem.W.keepIn C.K (.ref f) = true ∧ Binds C.K fd ps [] ∧ ∀ ds m, ds.length ≠ ps.length → F ds m = .stuck
section
variable {C : Ct} {P : Program} {w : World} {mg : Str → Option Value} {base : Heap} {k : Nat} {x qual : Str} {F : List D → M D} {params : Arguments} {body : List Stmt} {scope : Scope} {f : Addr} {fd : FuncData} {N ps : List Str}
theorem UF.mono {j : Nat} (u : UF C P w mg base k x F) (h : k ≤ j) : UF C P w mg base j x F := by
  obtain ⟨f, fd, ps, h1, h2⟩ := u.ex
  exact ⟨f, fd, ps, h1.mono h, h2⟩
theorem Rep.stk {n : Nat} {vs : List V} {H : Hp} {Q : VK} {E : XK} (h : spM C n (fun _ => stuckM) vs H Q E) : False := by
  obtain ⟨_, S, ds, _, _, _, z⟩ := h
  exact z
theorem uf_stuck (F : FunD C.K x qual params body scope [] [] f fd) (hg : mg x = some (.ref f)) (hb : Binds C.K fd ps []) : UF C P w mg base k x (fun _ => stuckM) :=
  ⟨f, fd, ps, ⟨fun vs H Q E h => (Rep.stk h).elim, fun A outer s H args us vs Q E hr he hb' hv h => (Rep.stk h).elim⟩, hg, F.kp, hb, fun _ _ _ => rfl⟩
theorem start_rep {S : Ws} {ds : List D} {vs : List V} (r : Reps C S ds vs) (N : List Str) (n : Nat) (hn : vs.length = n) : SRep C S (ds.map some ++ List.replicate (N.length - n) none) (L2.start N vs) := by
  unfold L2.start
  refine ⟨by simp [r.len, hn], fun i d h => ?_⟩
  have l := r.len
  by_cases hi : i < ds.length
  · rw [List.getElem?_append_left (by simpa using hi), List.getElem?_map] at h
    cases hd : ds[i]? with
    | none => rw [hd] at h; cases h
    | some d' =>
      rw [hd] at h
      cases h
      obtain ⟨v, hv, rv⟩ := r.get hd
      refine ⟨v, ?_, rv⟩
      rw [List.getElem?_append_left (by rw [List.length_map, ← l]; exact hi), List.getElem?_map, hv]
      rfl
  · rw [List.getElem?_append_right (by simpa using hi)] at h
    rw [List.getElem?_replicate] at h
    split at h <;> cases h
theorem fn_M (F : FunD C.K x qual params body scope [] [] f fd) (Sc : FnScope N ps scope) (m : MSs)
    (hbody : ∀ (cdv : Value) (A : Around) (outer : List PySem.Env) (s : Shared) (H : Hp) (E : XK), Room k (A.deeper (envOfC qual scope s.heap.objs.size f cdv)) → SSs C (cxOf (L2.CX P w) P w C.K mg base N qual scope f cdv A outer s H E) body m) :
    FnOk P w C.K mg base (L2.CX P w) (k + 1) f fd ps (spM C ps.length (runF ps.length N.length m)) := by
  refine F.ok Sc (fun vs H Q E h => h.1) (fun cdv A outer s H vs Q E hr h => ⟨_, hbody cdv A outer s H E hr _ (takes_of rfl rfl rfl rfl), ?_⟩)
  obtain ⟨hn, S, ds, hH, w, r, z⟩ := h
  subst hH
  refine dnS_intro _ w (start_rep r N ps.length hn) ?_
  unfold runF at z
  rw [if_pos (by rw [r.len, hn])] at z
  cases e : evSs m (ds.map some ++ List.replicate (N.length - ps.length) none) S.mu with
  | none => rw [e] at z; exact z
  | some p =>
    obtain ⟨fl, m'⟩ := p
    rw [e] at z
    intro S' hm w' st
    cases fl with
    | nxt r' => exact fun σ' sr => z S' .non hm w' st (by simp only [Rep])
    | ret d => exact fun v rv => z S' v hm w' st rv
    | brk r' => exact z.elim
    | cnt r' => exact z.elim
    | exc c ks ds' r' => exact fun σ' dx sr ea => z S' dx hm w' st ea
theorem uf_of (F : FunD C.K x qual params body scope [] [] f fd) (hg : mg x = some (.ref f)) (hb : Binds C.K fd ps []) (Sc : FnScope N ps scope) (m : MSs)
    (hbody : ∀ (cdv : Value) (A : Around) (outer : List PySem.Env) (s : Shared) (H : Hp) (E : XK), Room k (A.deeper (envOfC qual scope s.heap.objs.size f cdv)) → SSs C (cxOf (L2.CX P w) P w C.K mg base N qual scope f cdv A outer s H E) body m) :
    UF C P w mg base (k + 1) x (runF ps.length N.length m) := by
  refine ⟨f, fd, ps, fn_M F Sc m hbody, hg, F.kp, hb, fun ds m' hn => ?_⟩
  unfold runF
  rw [if_neg hn]
end
section
variable {C : Ct} {X : Cx} {k : Nat} {x : Str} {F : List D → M D}
theorem callOk_U (u : UF C X.prog X.w X.mg X.base k x F) (hK : X.K = C.K) (hr : Room k X.A) (hdb : (x == ("__debug__" : Str)) = false) : CallOk1 C X x F := by
  intro hg W tk e es ta p pos ha hs
  obtain ⟨f, fd, ps, h1, h2, h3, h4, h5⟩ := u.ex
  rw [← hK] at h1 h3 h4
  simp only [noStar, List.all_cons, Bool.and_eq_true, Bool.not_eq_true'] at hs
  refine PEw (pe_callSD (dvs := []) (E := WE W) h1 hr hg h2 h3 h4 .nil (passAt tk) ha hdb (star_cons hs.1) (star_any hs.2)) fun σ H Q ⟨r, S, hH, w, sr, h⟩ => ?_
  subst hH
  refine dnA_intro r w sr (h.bindA.imp fun vs H' ⟨S', ds, e1, w', st, rs, z⟩ => ?_)
  subst e1
  show spM C ps.length F (vs ++ []) S'.H Q (WE W σ)
  rw [List.append_nil]
  refine ⟨?_, S', ds, rfl, w', rs, z⟩
  rw [← rs.len]
  by_cases hn : ds.length = ps.length
  · exact hn
  · rw [h5 _ _ hn] at z
    exact z.elim
theorem se_call1 {e : Expr} {es : List Expr} {mes : MEs} {p pos : Pos} (hF : CallOk1 C X x F) (hg : Gl X x) (hes : SA C X (e :: es) mes) (hn : noStar (e :: es) = true) : SE C X (.Call (.Name x p) (e :: es) [] pos) (.call F mes) := fun W tk =>
  PEw (hF hg W tk e es (evs mes) p pos (hes W tk) hn) fun σ H Q h => by simpa only [ev] using h
theorem se_call0 {p pos : Pos} (u : UF C X.prog X.w X.mg X.base k x F) (hK : X.K = C.K) (hr : Room k X.A) (hg : Gl X x) (hdb : (x == ("__debug__" : Str)) = false) : SE C X (.Call (.Name x p) [] [] pos) (.call F .nil) := fun W tk => by
  obtain ⟨f, fd, ps, h1, h2, h3, h4, h5⟩ := u.ex
  rw [← hK] at h1 h3 h4
  refine ⟨fun pins s σ H Q I ⟨r, S, hH, w, sr, h⟩ => ?_⟩
  subst hH
  refine wpAny_Call_Name_kw (ld_glob I hg h2 ?_ hdb)
  refine PySem.W.callWith_K0 I.kIn h3 (run_fnSD (us := []) (vs := []) (dvs := []) (E := WE W) h1 hr h4 .nil (passAt tk σ) I .nil ?_)
  simp only [ev, evs] at h
  have z : PostE C S (F [] S.mu) (fun c d H' => W c d σ H') Q := h
  refine ⟨?_, S, [], rfl, w, Reps.nil, z⟩
  by_cases hn : ([] : List D).length = ps.length
  · exact hn
  · rw [h5 _ _ hn] at z
    exact z.elim
end
/-! ### isinstance -/
inductive BT where
  | bool | int | str | list | tuple | dict
  deriving DecidableEq
def BT.nm : BT → String
  | .bool => "bool"
  | .int => "int"
  | .str => "str"
  | .list => "list"
  | .tuple => "tuple"
  | .dict => "dict"
/-- a datum's type: of no interest, a built-in one, an own class -/
inductive DT where
  | non
  | b (t : BT)
  | c (c : Nat)
  deriving DecidableEq
def dty (m : Store) : D → Option DT
  | .non => some .non
  | .bl _ => some (.b .bool)
  | .int _ => some (.b .int)
  | .str _ => some (.b .str)
  | .lst _ => some (.b .list)
  | .frz _ => some (.b .list)
  | .tup _ => some (.b .tuple)
  | .wtp _ => some (.b .tuple)
  | .dct _ _ _ => some (.b .dict)
  | .ins c _ _ => some (.c c)
  | .obj n => match m[n]? with
    | some (.lst _) => some (.b .list)
    | some (.dct _ _ _) => some (.b .dict)
    | some (.ins c _ _) => some (.c c)
    | _ => none
  | _ => none
def DT.nm : DT → String
  | .non => "NoneType"
  | .b t => t.nm
  | .c _ => ""
/-- an own class, as isinstance sees it -/
structure ClsI (C : Ct) (c : Nat) : Prop where
  cl : Cls C.K (He.ga C.K (C.nm c))
  ha : PySem.W.findIn C.K (.ref (He.ga C.K (C.nm c))) "__class__" = some (some (.builtin "object.__class__"))
  hn : PySem.W.specialIn C.K (.builtin "object.__class__") "__get__" = some (some (.builtin "getset_descriptor.__get__"))
  htk : PySem.W.takesIn C.K (.builtin "object.__class__") = some true
  hm : PySem.W.mroIn C.K (He.ga C.K (C.nm c)) (.type "object") = some true
  bt : ∀ T : BT, PySem.W.kitOne C.K (.ref (He.ga C.K (C.nm c))) (.type T.nm) = some false
def isiB (T : BT) : DT → Bool
  | .b t => decide (t = T) || (decide (t = .bool) && decide (T = .int))
  | _ => false
def isiM (cs : List Nat) (T : BT) (d : D) : M D := fun m => match dty m d with
  | some (.c c) => if c ∈ cs then .ok (.bl false) m else .stuck
  | some t => .ok (.bl (isiB T t)) m
  | none => .stuck
theorem isiB_kit (t : DT) (T : BT) (h : ∀ c, t ≠ .c c) : kitB t.nm T.nm = some (isiB T t) := by
  cases t with
  | non => cases T <;> decide +kernel
  | b t => cases t <;> cases T <;> decide +kernel
  | c c => exact absurd rfl (h c)
section
variable {C : Ct} {X : Cx}
/-- the type, as the layer has it -/
theorem dty_ty {S : Ws} {d : D} {v : V} {t : DT} (w : Wf C S) (r : Rep C S d v) (h : dty S.mu d = some t) : (∀ c, t ≠ .c c) → TyX C.K S.H v (.type t.nm) := by
  intro hc
  cases d with
  | non => cases h; simp only [Rep] at r; subst r; exact .base .non
  | bl b => cases h; simp only [Rep] at r; subst r; exact .base (.bl b)
  | int i => cases h; rw [rep_int] at r; subst r; exact .base (.int i)
  | str x => cases h; rw [rep_str] at r; obtain ⟨rfl, _⟩ := r; exact .base (.str _)
  | lst ds => cases h; simp only [Rep] at r; obtain ⟨a, vs, rfl, f, _⟩ := r; exact .base (.lst f.1)
  | frz ds => cases h; simp only [Rep] at r; obtain ⟨a, vs, rfl, f, _⟩ := r; exact f.elim (fun ⟨o, f⟩ => .base (.frz f.1)) (fun ⟨o, its, n, h1, h2, _⟩ => .kList h1 h2)
  | tup ds => cases h; simp only [Rep] at r; obtain ⟨a, vs, rfl, f, _⟩ := r; exact .base (.tup f.1)
  | wtp ds => cases h; simp only [Rep] at r; obtain ⟨a, vs, rfl, f, _⟩ := r; obtain ⟨o, its, n, h1, h2, _⟩ := f; exact .kTuple h1 h2
  | dct t ks ds =>
    cases h
    simp only [Rep] at r
    obtain ⟨a, rfl, z⟩ := r
    cases t with
    | true => simp only [if_true] at z; obtain ⟨kvs, f, _⟩ := z; exact .base (.dT f.1)
    | false => simp only [Bool.false_eq_true, if_false] at z; obtain ⟨kvs, f, _⟩ := z; exact .base (.dK f.1)
  | ins c ks vs => cases h; exact absurd rfl (hc c)
  | obj n =>
    simp only [Rep] at r
    obtain ⟨a, ha, rfl⟩ := r
    simp only [dty] at h
    split at h
    · rename_i ds hm
      cases h
      obtain ⟨vs, h1, _⟩ := w.cell n _ a hm ha
      exact .base (.lst h1)
    · rename_i t ks vs hm
      cases h
      have z := w.cell n _ a hm ha
      simp only [CellAt] at z
      cases t with
      | true => simp only [if_true] at z; obtain ⟨kvs, f, _⟩ := z; exact .base (.dT f)
      | false => simp only [Bool.false_eq_true, if_false] at z; obtain ⟨kvs, f, _⟩ := z; exact .base (.dK f)
    · cases h; exact absurd rfl (hc _)
    · cases h
  | set _ => cases h
  | fn _ => cases h
theorem dty_cls {S : Ws} {d : D} {v : V} {c : Nat} (w : Wf C S) (k : ClsI C c) (r : Rep C S d v) (h : dty S.mu d = some (.c c)) : TyX C.K S.H v (.ref (He.ga C.K (C.nm c))) := by
  cases d with
  | ins c' ks vs =>
    cases h
    simp only [Rep] at r
    obtain ⟨a, dx, fvs, rfl, f, _⟩ := r
    exact .base (.ins f.1 k.cl k.ha k.hn k.htk k.hm)
  | obj n =>
    simp only [Rep] at r
    obtain ⟨a, ha, rfl⟩ := r
    simp only [dty] at h
    split at h
    · cases h
    · cases h
    · rename_i c' ks vs hm
      cases h
      obtain ⟨dx, fvs, h1, _⟩ := w.cell n _ a hm ha
      exact .base (.ins h1 k.cl k.ha k.hn k.htk k.hm)
    · cases h
  | _ => cases h
theorem isi_ok {S : Ws} {d : D} {v : V} {cs : List Nat} {T : BT} {W : XK} {Q : VK} (w : Wf C S) (hcs : ∀ c ∈ cs, ClsI C c) (r : Rep C S d v) (h : PostE C S (isiM cs T d S.mu) W Q) : rIsi C.K [v, .ty T.nm] S.H Q := by
  unfold isiM at h
  split at h
  · rename_i c hd
    split at h
    · rename_i hm
      exact ⟨v, .ty T.nm, _, .type T.nm, false, rfl, .ty _, dty_cls w (hcs c hm) r hd, (hcs c hm).bt T, h.pure w (by simp only [Rep])⟩
    · exact h.elim
  · rename_i t hc hd
    have hc' : ∀ c, t ≠ .c c := fun c e => hc c e
    exact ⟨v, .ty T.nm, _, .type T.nm, _, rfl, .ty _, dty_ty w r hd hc', kit_ty (isiB_kit t T hc'), h.pure w (by simp only [Rep])⟩
  · exact h.elim
theorem se_isi {cs : List Nat} {T : BT} {a : Expr} {ma : ME} {x : Str} {p p2 pos : Pos} (hcs : ∀ c ∈ cs, ClsI C c) (ha : SE C X a ma) (hK : X.K = C.K) (hg : Gl X "isinstance") (hm : X.mg "isinstance" = none) (hgT : Gl X x) (hmT : X.mg x = none) (hx : bootBuiltins x = some (.type T.nm)) (hn : x ≠ "__name__")
    (hdb : (x == ("__debug__" : Str)) = false) (hs : isStar a = false) : SE C X (.Call (.Name "isinstance" p) [a, .Name x p2] [] pos) (.call (un1 (isiM cs T)) (.cons ma .nil)) := fun W tk => by
  refine PEw (pe_callB call_isi hg hm PyProof.Rows.boot_isinstance (pa_cons (ha W tk) (pa_cons (pe_bltn (v := .ty T.nm) hgT hmT hx rfl hn hdb) pa_nil) (star_cons hs)) (by decide) (by decide) (star_cons hs) rfl) fun σ H Q ⟨r, S, hH, w, sr, h⟩ => ?_
  subst hH
  simp only [ev, evs] at h
  have h1 : PostE C S ((do let x ← ev ma r; isiM cs T x) S.mu) (fun c d H' => W c d σ H') Q := by
    have e : (do let xs ← (do let x ← ev ma r; let xs ← (pure [] : M (List D)); pure (x :: xs)); un1 (isiM cs T) xs : M D) = (do let x ← ev ma r; isiM cs T x) := by
      rw [M.bind_assoc]
      rfl
    rw [← e]
    exact h
  refine dnE_intro r w sr (h1.bind.imp fun v1 H1 ⟨S1, d1, e1, w1, st1, r1, z⟩ => ?_)
  subst e1
  show rIsi X.K [v1, .ty T.nm] S1.H Q
  rw [hK]
  exact isi_ok w1 hcs r1 z
end
end Fs

/-! FsP: built-in functions, by name. -/
namespace Fs
open PySem PySem.Spec PyProof.Rows L2
open Classical

section
variable {C : Ct} {X : Cx}
theorem co_len (hK : X.K = C.K) (hm : X.mg "len" = none) : CallOk1 C X "len" (un1 lenM) :=
  callOk_B call_lenA hm PySem.boot_len (fun _ => rfl) (by decide) (by decide) fun S ds vs W Q w rs h => by
    rw [hK]
    exact un1_ok (fun d v r h => len_ok w r h) rs h
theorem co_all (hc : X.calm = true) (hK : X.K = C.K) (hm : X.mg "all" = none) : CallOk1 C X "all" (un1 allM) :=
  callOk_B (cr_all hc) hm PyProof.Rows.boot_all (fun _ => rfl) (by decide) (by decide) fun S ds vs W Q w rs h => by
    rw [hK]
    exact un1_ok (fun d v r h => all_ok w r h) rs h
theorem co_any (hc : X.calm = true) (hK : X.K = C.K) (hm : X.mg "any" = none) : CallOk1 C X "any" (un1 anyM) :=
  callOk_B (cr_any hc) hm PyProof.Rows.boot_any (fun _ => rfl) (by decide) (by decide) fun S ds vs W Q w rs h => by
    rw [hK]
    exact un1_ok (fun d v r h => any_ok w r h) rs h
theorem co_sorted (hc : X.calm = true) (hK : X.K = C.K) (hm : X.mg "sorted" = none) : CallOk1 C X "sorted" (un1 sortedM) :=
  callOk_B (cr_sortA hc) hm PyProof.Rows.boot_sorted (fun _ => rfl) (by decide) (by decide) fun S ds vs W Q w rs h => by
    rw [hK]
    exact un1_ok (fun d v r h => sorted_ok w r h) rs h
theorem co_list (hc : X.calm = true) (hK : X.K = C.K) (hm : X.mg "list" = none) : CallOk1 C X "list" (un1 listM) :=
  callOk_T (cr_listA hc) hm PyProof.Rows.boot_list (by decide) (by decide) fun S ds vs W Q w rs h => by
    rw [hK]
    exact un1_ok (fun d v r h => list_ok w r h) rs h
theorem co_tuple (hK : X.K = C.K) (hm : X.mg "tuple" = none) : CallOk1 C X "tuple" (un1 tupleM) :=
  callOk_T call_tuple_of hm PyProof.Rows.boot_tuple (by decide) (by decide) fun S ds vs W Q w rs h => by
    rw [hK]
    exact un1_ok (fun d v r h => tuple_ok w r h) rs h
theorem co_int (hm : X.mg "int" = none) : CallOk1 C X "int" (un1 intM) :=
  callOk_T call_int1 hm PyProof.Rows.boot_int (by decide) (by decide) fun S ds vs W Q w rs h => by
    exact un1_ok (fun d v r h => int_ok w r h) rs h
/-- max, min of two ints -/
def bi2 (f : Int → Int → Int) : List D → M D
  | [.int i, .int j] => pure (.int (f i j))
  | _ => stuckM
theorem bi2_ok {S : Ws} {f : Int → Int → Int} {ds : List D} {vs : List V} {W : XK} {Q : VK} (w : Wf C S) (rs : Reps C S ds vs) (h : PostE C S (bi2 f ds S.mu) W Q) : ∃ i j, vs = [.int i, .int j] ∧ Q (.int (f i j)) S.H := by
  unfold bi2 at h
  split at h
  · rename_i i j
    obtain ⟨v1, vs1, e1, r1, v2, vs2, e2, r2, e3⟩ := rs
    rw [rep_int] at r1 r2
    subst r1 r2
    cases e2
    cases e1
    cases e3
    exact ⟨i, j, rfl, PostE.pure w h (rep_int.mpr rfl)⟩
  · exact h.elim
theorem co_max2 (hc : X.calm = true) (hm : X.mg "max" = none) : CallOk1 C X "max" (bi2 fun i j => if j > i then j else i) :=
  callOk_B (call_max2 hc) hm PyProof.Rows.boot_max (fun _ => rfl) (by decide) (by decide) fun S ds vs W Q w rs h => bi2_ok w rs h
end
end Fs

/-! FsQ: the rules as the printed proofs name them. -/
namespace Fs
open PySem PySem.Spec PyProof.Rows L2
open Classical

def visB (X : Cx) (x : Str) : Bool := match X.env.scope.names.lookup x with
  | some .local => true
  | some .cell => true
  | some .free => true
  | _ => false
def glB (X : Cx) (x : Str) : Bool := (match X.env.kindOf x with
  | some .globalImplicit => true
  | _ => false) && !(x == ("__debug__" : Str))
def varB (X : Cx) (i : Nat) (x : Str) : Bool := (match X.N[i]? with
  | some y => y == x
  | none => false) && visB X x && !(x == ("__debug__" : Str)) && !(x == ("__classdict__" : Str))
def setB (X : Cx) (i : Nat) (x : Str) : Bool := (match X.N[i]? with
  | some y => y == x
  | none => false) && (match X.env.scope.names.lookup x with
  | some .local => true
  | some .cell => X.fn x
  | _ => false)
section
variable {C : Ct} {X : Cx}
theorem str_beq {x y : Str} (h : (x == y) = true) : x = y := eq_of_beq h
theorem visB_ok {x : Str} (h : visB X x = true) : Vis X.env.scope x := by
  unfold visB at h
  split at h
  · rename_i e; exact .inl e
  · rename_i e; exact .inr (.inl e)
  · rename_i e; exact .inr (.inr e)
  · cases h
theorem glB_ok {x : Str} (h : glB X x = true) : Gl X x ∧ (x == ("__debug__" : Str)) = false := by
  unfold glB at h
  rw [Bool.and_eq_true] at h
  refine ⟨?_, by simpa using h.2⟩
  have h1 := h.1
  split at h1
  · rename_i e; exact e
  · cases h1
theorem ixB_ok {i : Nat} {x : Str} (h : (match X.N[i]? with
  | some y => y == x
  | none => false) = true) : X.N[i]? = some x := by
  split at h
  · rename_i y e; rw [e, str_beq h]
  · cases h
theorem sv {i : Nat} {x : Str} {pos : Pos} (h : varB X i x = true) : SE C X (.Name x pos) (.var i) := by
  unfold varB at h
  simp only [Bool.and_eq_true, Bool.not_eq_true'] at h
  exact se_var (ixB_ok h.1.1.1) (visB_ok h.1.1.2) h.1.2 h.2
theorem setB_ok {i : Nat} {x : Str} (h : setB X i x = true) : X.N[i]? = some x ∧ Loc X.env.scope x ∧ (X.fn x = true ∨ X.env.scope.names.lookup x = some .local) := by
  unfold setB at h
  rw [Bool.and_eq_true] at h
  have h2 := h.2
  refine ⟨ixB_ok h.1, ?_⟩
  split at h2
  · rename_i e; exact ⟨.inl e, .inr e⟩
  · rename_i e; exact ⟨.inr e, .inl h2⟩
  · cases h2
theorem sac {e : Expr} {es : List Expr} {me : ME} {mes : MEs} (he : SE C X e me) (h : isStar e = false) (hes : SA C X es mes) : SA C X (e :: es) (.cons me mes) := sa_cons he hes (star_cons h)
theorem tgn {i : Nat} {x : Str} {pos : Pos} (hN : X.N.Nodup) (h : setB X i x = true) : SG C X (.Name x pos) (.nm i) := sg_nm hN (setB_ok h).1 (setB_ok h).2.1 (setB_ok h).2.2
theorem nmc {x : Str} {i : Nat} {pos : Pos} {es : List Expr} {is : List Nat} (h : setB X i x = true) (t : Nms X es is) : Nms X (.Name x pos :: es) (i :: is) := .cons (setB_ok h).1 (setB_ok h).2.1 (setB_ok h).2.2 t
theorem sst {i : Nat} {x : Str} {e : Expr} {me : ME} {pos pos' : Pos} (hN : X.N.Nodup) (h : setB X i x = true) (he : SE C X e me) (hs : swapsWith e (some (.Name x pos')) pos.line X.env = pure false) :
    SS C X (.Assign [.Name x pos'] e pos) (.set (.nm i) me) := ss_set hN (setB_ok h).1 (setB_ok h).2.1 (setB_ok h).2.2 he hs
theorem sauA {i : Nat} {x : Str} {e : Expr} {me : ME} {pos pos' : Pos} (hN : X.N.Nodup) (h : setB X i x = true) (he : SE C X e me) :
    SS C X (.AugAssign (.Name x pos') .Add e pos) (.aug i .add me) := ss_augA hN (setB_ok h).1 (setB_ok h).2.1 (setB_ok h).2.2 he
theorem sauS {i : Nat} {x : Str} {e : Expr} {me : ME} {pos pos' : Pos} (hN : X.N.Nodup) (h : setB X i x = true) (he : SE C X e me) :
    SS C X (.AugAssign (.Name x pos') .Sub e pos) (.aug i .sub me) := ss_augS hN (setB_ok h).1 (setB_ok h).2.1 (setB_ok h).2.2 he
theorem scl {x : Str} {F : List D → M D} {e : Expr} {es : List Expr} {mes : MEs} {p pos : Pos} (hF : CallOk1 C X x F) (hg : glB X x = true) (hn : noStar (e :: es) = true) (hes : SA C X (e :: es) mes) : SE C X (.Call (.Name x p) (e :: es) [] pos) (.call F mes) :=
  se_call1 hF (glB_ok hg).1 hes hn
theorem scu {k j : Nat} {x : Str} {F : List D → M D} {e : Expr} {es : List Expr} {mes : MEs} {p pos : Pos} (u : UF C X.prog X.w X.mg X.base k x F) (hr : Room j X.A) (hk : k ≤ j) (hK : X.K = C.K) (hg : glB X x = true) (hn : noStar (e :: es) = true) (hes : SA C X (e :: es) mes) :
    SE C X (.Call (.Name x p) (e :: es) [] pos) (.call F mes) :=
  se_call1 (callOk_U u hK (hr.mono hk) (glB_ok hg).2) (glB_ok hg).1 hes hn
theorem scu0 {k j : Nat} {x : Str} {F : List D → M D} {p pos : Pos} (u : UF C X.prog X.w X.mg X.base k x F) (hr : Room j X.A) (hk : k ≤ j) (hK : X.K = C.K) (hg : glB X x = true) : SE C X (.Call (.Name x p) [] [] pos) (.call F .nil) :=
  se_call0 u hK (hr.mono hk) (glB_ok hg).1 (glB_ok hg).2
theorem sis {cs : List Nat} {T : BT} {a : Expr} {ma : ME} {x : Str} {p p2 pos : Pos} (hcs : ∀ c ∈ cs, ClsI C c) (hm : X.mg "isinstance" = none) (hmT : X.mg x = none) (hx : bootBuiltins x = some (.type T.nm)) (hK : X.K = C.K) (hg : (glB X "isinstance" && glB X x && !(x == ("__name__" : Str))) = true)
    (hs : isStar a = false) (ha : SE C X a ma) : SE C X (.Call (.Name "isinstance" p) [a, .Name x p2] [] pos) (.call (un1 (isiM cs T)) (.cons ma .nil)) := by
  simp only [Bool.and_eq_true, Bool.not_eq_true'] at hg
  refine se_isi hcs ha hK (glB_ok hg.1.1).1 hm (glB_ok hg.1.2).1 hmT hx (fun e => ?_) (glB_ok hg.1.2).2 hs
  rw [e] at hg
  have := hg.2
  simp at this
theorem sgl {x : Str} {d : D} {pos : Pos} (g : GV C X.mg x d) (hg : glB X x = true) : SE C X (.Name x pos) (.con d) := se_glob (glB_ok hg).1 g (glB_ok hg).2
theorem ir1 {tg a : Expr} {ma : ME} {p pos : Pos} (hm : X.mg "range" = none) (hg : glB X "range" = true) (h : isStar a = false) (ha : SE C X a ma) : SI C X tg (.Call (.Name "range" p) [a] [] pos) (.rng1 ma) := si_rng1 ha (glB_ok hg).1 hm (star_cons h)
theorem ir2 {tg a b : Expr} {ma mb : ME} {p pos : Pos} (hm : X.mg "range" = none) (hg : glB X "range" = true) (h : isStar a = false) (h' : isStar b = false) (ha : SE C X a ma) (hb : SE C X b mb) :
    SI C X tg (.Call (.Name "range" p) [a, b] [] pos) (.rng2 ma mb) := si_rng2 ha hb (glB_ok hg).1 hm (by rw [star_cons h, star_cons h']; rfl) (star_cons h')
theorem izp {a b : Expr} {elts : List Expr} {kk : Nat} {ma mb : ME} {p pos tpos : Pos} (hm : X.mg "zip" = none) (hK : X.K = C.K) (hg : glB X "zip" = true) (h : isStar a = false) (h' : isStar b = false) (ha : SE C X a ma) (hb : SE C X b mb) :
    SI C X (.Tuple elts kk tpos) (.Call (.Name "zip" p) [a, b] [] pos) (.zip ma mb) := si_zip ha hb hK (glB_ok hg).1 hm (star_cons h) (star_cons h') (star_any (es := [b]) (by simp [noStar, h']))
theorem ien {a : Expr} {elts : List Expr} {kk : Nat} {ma : ME} {p pos tpos : Pos} (hm : X.mg "enumerate" = none) (hK : X.K = C.K) (hg : glB X "enumerate" = true) (h : isStar a = false) (ha : SE C X a ma) :
    SI C X (.Tuple elts kk tpos) (.Call (.Name "enumerate" p) [a] [] pos) (.enm ma) := si_enm ha hK (glB_ok hg).1 hm (star_cons h)
theorem rm_u {k : Nat} {A : Around} (h : Room k A) : A.units + 65 < cLine := by have := h.un; omega
theorem rm_u1 {k : Nat} {A : Around} (h : Room k A) : A.units + 1 < cLine := by have := h.un; omega
end
end Fs

/-! FsR: the end. -/
namespace Fs
open PySem PySem.Spec PyProof.Rows L2
open Classical

theorem law_end {C : Ct} {F : List D → M D} (hF : ∀ ns : List Int, ns.length ≤ 63 → ∃ m, F [.frz (ns.map .int)] [] = .ok (.bl true) m) (H : Hp) (a : Addr) (ns : List Int) (hl : ns.length ≤ 63) (hO : Only H) (hS : SqL C.K H a (ns.map V.int)) :
    spM C 1 F [.ref a] H (fun v _ => v = .bl true) fun _ _ _ => False := by
  obtain ⟨m, e⟩ := hF ns hl
  refine ⟨rfl, ⟨[], [], [], H⟩, [.frz (ns.map .int)], rfl, ⟨rfl, fun n c a h => by simp at h, fun n k c d a h => by simp at h, fun a h => by simp at h, List.nodup_nil⟩, ?_, ?_⟩
  · refine Reps.cons ?_ Reps.nil
    simp only [Rep]
    refine ⟨a, ns.map V.int, rfl, ?_, by rw [List.length_map, sizeLine_eq]; omega, rep_ints ns⟩
    have nl : ¬ Ws.L ⟨[], [], [], H⟩ a := fun h => by
      rcases h with h | ⟨n, c, h, _⟩
      · simp at h
      · simp at h
    rcases hS with h | h
    · rcases h with h | ⟨o, h⟩
      · rcases hO a with h0 | ⟨o, xs, h0⟩
        · rw [h0] at h; cases h
        · rw [h0] at h; cases h
      · exact .inl ⟨o, h, nl⟩
    · exact .inr h
  · show PostE C _ (F [.frz (ns.map .int)] []) _ _
    rw [e]
    intro S' v _ _ _ rv
    rwa [rep_bl] at rv
theorem gv_int {C : Ct} {h : Heap} {mg : Str → Option Value} (X : C.K.In h) (G : h.Ns mainGlobals mg) {x : Str} {i : Int} (c : (He.Fa.int x i).ok C.K = true) : GV C mg x (.int i) := by
  obtain ⟨t, e⟩ := He.int_ok X G c
  exact ⟨_, .int i, e, ⟨t, rfl⟩, fun S => rep_int.mpr rfl⟩
theorem gv_str {C : Ct} {h : Heap} {mg : Str → Option Value} (X : C.K.In h) (G : h.Ns mainGlobals mg) {x z : Str} {y : List Char} (c : (He.Fa.str x z).ok C.K = true) (hy : toS y = z) (hl : y.length ≤ 1000) : GV C mg x (.str y) := by
  obtain ⟨t, e⟩ := He.str_ok X G c
  exact ⟨_, .str z, e, ⟨t, rfl⟩, fun S => rep_str.mpr ⟨by rw [hy], Nat.le_trans hl (by rw [sizeLine_eq]; decide)⟩⟩
/-- what a law's def lets out: nothing -/
def CXe : CXT := fun _ _ _ E _ _ => ∃ c d H', E c d H'
theorem fn_e {P : Program} {w : World} {K : PySem.W.Frag} {mg : Str → Option Value} {base : Heap} {k : Nat} {f : Addr} {fd : FuncData} {ps : List Str} {sp : Sp} (F : FnOk P w K mg base (L2.CX P w) k f fd ps sp) : FnOk P w K mg base CXe k f fd ps sp :=
  ⟨F.len, fun A outer s H args us vs Q E hr he hb hv hs => codeAny_mono (F.run A outer s H args us vs Q E hr he hb hv hs) fun r s' hq => by
    cases r with
    | error e =>
      obtain ⟨a, B, H', cls, d, _, _, _, _, _, _, _, z⟩ := hq
      exact ⟨cls, d, H', z⟩
    | ok fl => cases fl with
      | ret u => exact hq
      | _ => exact hq.elim⟩
theorem CXe_no {H : Hp} {s : Shared} {e : Value} {s' : Shared} (h : CXe [] H s (fun _ _ _ => False) e s') : False := by
  obtain ⟨_, _, _, z⟩ := h
  exact z
end Fs

/-! FsS: running the deep syntax by hand; the drawing of a law. -/
namespace Fs
open PySem PySem.Spec PyProof.Rows L2
open Classical

theorem M.bind_run {α β : Type} (x : M α) (f : α → M β) (m : Store) : (x >>= f) m = (match x m with
    | .ok a m' => f a m'
    | .exc c ks vs m' => .exc c ks vs m'
    | .stuck => .stuck) := rfl
theorem stuckM_ap {α : Type} (m : Store) : (stuckM : M α) m = .stuck := rfl
/-- evaluation steps -/
theorem M.ite_ap {α : Type} {c : Prop} [Decidable c] (x y : M α) (m : Store) : (if c then x else y) m = if c then x m else y m := by split <;> rfl
theorem log2_le {a : Int} {k : Nat} (h : a.natAbs < 2 ^ k) : a.natAbs.log2 ≤ k := by
  by_cases h0 : a.natAbs = 0
  · rw [h0]; simp
  · have := (Nat.log2_lt h0).mpr h
    omega
theorem atI_nat' {α : Type} {l : List α} {i : Int} {x : α} (h0 : 0 ≤ i) (h : l[i.toNat]? = some x) : atI l i = some x := by
  have hl : i.toNat < l.length := by
    rcases Nat.lt_or_ge i.toNat l.length with h1 | h1
    · exact h1
    · rw [List.getElem?_eq_none h1] at h; cases h
  unfold atI ixN
  rw [if_pos h0, if_pos (by omega)]
  exact h
/-! ### the bag -/
structure Kp where
  p1 : Int
  p2 : Int
  p3 : Int
  p4 : Int
  p5 : Int
  p6 : Int
  p7 : Int
structure Kp.Ok (k : Kp) : Prop where
  h1 : 0 ≤ k.p1 ∧ k.p1 < 2 ^ 40
  h2 : 0 < k.p2 ∧ k.p2 < 2 ^ 40
  h3 : 0 ≤ k.p3 ∧ k.p3 < 2 ^ 40
  h4 : 0 < k.p4 ∧ k.p4 < 2 ^ 40
  h5 : 0 ≤ k.p5 ∧ k.p5 < 2 ^ 40
  h6 : 0 ≤ k.p6 ∧ k.p6 < 2 ^ 40
  h7 : 0 < k.p7 ∧ k.p7 < 2 ^ 40
noncomputable def mPull (k : Kp) : MSs :=
  (.cons (.ite (.and (.cmp .eq (.idx (.var 0) (.con (.int (2)))) (.con (.int (0)))) (.cmp .lt (.idx (.var 0) (.con (.int (1)))) (.call (un1 lenM) (.cons (.idx (.var 0) (.con (.int (0)))) .nil)))) (.cons (.set (.nm 2) (.idx (.idx (.var 0) (.con (.int (0)))) (.idx (.var 0) (.con (.int (1)))))) (.cons (.setSub (.var 0) (.con (.int (1))) (.bin .add (.idx (.var 0) (.con (.int (1)))) (.con (.int (1))))) (.cons (.ite (.cmp .ge (.var 2) (.bin .pow (.con (.int (10))) (.con (.int (18))))) (.cons (.setSub (.var 0) (.con (.int (2))) (.var 2)) .nil) (.cons (.setSub (.var 0) (.con (.int (3))) (.bin .mod (.call (un1 intM) (.cons (.bin .add (.bin .add (.bin .mul (.idx (.var 0) (.con (.int (3)))) (.con (.int k.p1))) (.bin .mul (.bin .mod (.call (un1 intM) (.cons (.var 2) .nil)) (.con (.int k.p2))) (.con (.int k.p3)))) (.con (.int (19)))) .nil)) (.con (.int k.p4)))) .nil)) .nil))) .nil) (.cons (.ite (.cmp .gt (.idx (.var 0) (.con (.int (2)))) (.con (.int (0)))) (.cons (.set (.nm 3) (.bin .mod (.call (un1 intM) (.cons (.idx (.var 0) (.con (.int (2)))) .nil)) (.var 1))) (.cons (.setSub (.var 0) (.con (.int (2))) (.bin .fdv (.idx (.var 0) (.con (.int (2)))) (.var 1))) (.cons (.ret (.var 3)) .nil))) .nil) (.cons (.set (.nm 4) (.idx (.var 0) (.con (.int (3))))) (.cons (.setSub (.var 0) (.con (.int (3))) (.bin .mod (.call (un1 intM) (.cons (.bin .add (.bin .add (.bin .mul (.var 4) (.var 4)) (.bin .mul (.var 4) (.con (.int k.p5)))) (.con (.int k.p6))) .nil)) (.con (.int k.p4)))) (.cons (.ret (.bin .mod (.call (un1 intM) (.cons (.bin .add (.bin .fdv (.idx (.var 0) (.con (.int (3)))) (.con (.int (73)))) (.bin .mul (.bin .mod (.call (un1 intM) (.cons (.idx (.var 0) (.con (.int (3)))) .nil)) (.con (.int k.p7))) (.con (.int (59))))) .nil)) (.var 1))) .nil)))))
def Bag (l : List D) : Prop := ∃ (cs : List Int) (i b sa : Int), l = [.lst (cs.map .int), .int i, .int b, .int sa] ∧ 0 ≤ i ∧ 0 ≤ b ∧ 0 ≤ sa ∧ sa < 2 ^ 40
theorem ev_idx_obj {a b : ME} {r : Env} {m : Store} {n : Nat} {l : List D} {i : Int} {d : D} (ha : ev a r m = .ok (.obj n) m) (hm : m[n]? = some (.lst l)) (hb : ev b r m = .ok (.int i) m) (hd : atI l i = some d) : ev (.idx a b) r m = .ok d m := by
  simp only [ev, M.bind_run, ha, hb, idxM, readQ, readL, hm, hd]
theorem mul_ok {i j : Int} {m : Store} (h : i.natAbs.log2 + j.natAbs.log2 < 1000000) : binM .mul (.int i) (.int j) m = .ok (.int (i * j)) m := by
  simp only [binM, h, if_true]
theorem small_log {a : Int} (h0 : 0 ≤ a) (h : a < 2 ^ 200) : a.natAbs.log2 ≤ 200 := log2_le (by omega)
theorem bi_add (i j : Int) (m : Store) : binM .add (.int i) (.int j) m = .ok (.int (i + j)) m := rfl
theorem bi_sub (i j : Int) (m : Store) : binM .sub (.int i) (.int j) m = .ok (.int (i - j)) m := rfl
theorem bi_mul (i j : Int) (m : Store) : binM .mul (.int i) (.int j) m = if i.natAbs.log2 + j.natAbs.log2 < 1000000 then .ok (.int (i * j)) m else .stuck := rfl
theorem bi_mod (i j : Int) (m : Store) : binM .mod (.int i) (.int j) m = if 0 < j then .ok (.int (i % j)) m else .stuck := rfl
theorem bi_fdv (i j : Int) (m : Store) : binM .fdv (.int i) (.int j) m = if 0 < j ∧ j.natAbs.log2 < 9000 then .ok (.int (i / j)) m else .stuck := rfl
theorem bi_pow (i j : Int) (m : Store) : binM .pow (.int i) (.int j) m = if 0 ≤ j ∧ j ≤ 1000000 ∧ i.natAbs < 2 ^ 64 then .ok (.int (i ^ j.toNat)) m else .stuck := rfl
theorem bi_bor (i j : Int) (m : Store) : binM .bor (.int i) (.int j) m = .ok (.int (Builtin.bitOr i j)) m := rfl
theorem bi_band (i j : Int) (m : Store) : binM .band (.int i) (.int j) m = .ok (.int (Builtin.bitAnd i j)) m := rfl
theorem b_add (a b : D) (m : Store) : binM .add a b m = addM a b m := rfl
theorem log_lt {a b : Int} (h0 : 0 ≤ a) (h : a < 2 ^ 200) (h1 : 0 ≤ b) (h2 : b < 2 ^ 200) : a.natAbs.log2 + b.natAbs.log2 < 1000000 := by
  have := small_log h0 h
  have := small_log h1 h2
  omega
theorem pull_eq {k : Kp} (hk : k.Ok) {m : Store} {n : Nat} {l : List D} (hm : m[n]? = some (.lst l)) (hl : Bag l) {a : Int} (ha : 0 < a) (ha2 : a < 2 ^ 200) :
    ∃ (r : Int) (l' : List D), 0 ≤ r ∧ r < a ∧ Bag l' ∧ runF 2 5 (mPull k) [.obj n, .int a] m = .ok (.int r) (m.set n (.lst l')) := by
  obtain ⟨cs, i, b, sa, rfl, hi, hb, hs, hs2⟩ := hl
  obtain ⟨⟨p1a, p1b⟩, ⟨p2a, p2b⟩, ⟨p3a, p3b⟩, ⟨p4a, p4b⟩, ⟨p5a, p5b⟩, ⟨p6a, p6b⟩, ⟨p7a, p7b⟩⟩ := hk
  have hn : n < m.length := by
    rcases Nat.lt_or_ge n m.length with h1 | h1
    · exact h1
    · rw [List.getElem?_eq_none h1] at hm; cases hm
  have hset : ∀ c : Cell, (m.set n c)[n]? = some c := fun c => by simp [hn]
  have e18 : (10 : Int) ^ ((18 : Int).toNat) = 1000000000000000000 := by decide
  have hal : a.natAbs.log2 < 9000 := by have := small_log (by omega) ha2; omega
  have md : ∀ x : Int, 0 ≤ x % k.p4 ∧ x % k.p4 < 2 ^ 40 := fun x => ⟨Int.emod_nonneg _ (by omega), by have := Int.emod_lt_of_pos x p4a; omega⟩
  have md2 : ∀ x : Int, 0 ≤ x % k.p2 ∧ x % k.p2 < 2 ^ 40 := fun x => ⟨Int.emod_nonneg _ (by omega), by have := Int.emod_lt_of_pos x p2a; omega⟩
  have md7 : ∀ x : Int, 0 ≤ x % k.p7 ∧ x % k.p7 < 2 ^ 40 := fun x => ⟨Int.emod_nonneg _ (by omega), by have := Int.emod_lt_of_pos x p7a; omega⟩
  have g73 : Nat.log2 73 < 9000 := by decide
  by_cases c1 : b = 0 ∧ i < cs.length
  · obtain ⟨rfl, c2⟩ := c1
    have hx : i.toNat < cs.length := by omega
    have g : atI (cs.map D.int) i = some (.int cs[i.toNat]) := atI_nat' hi (by simp [hx])
    by_cases c3 : (1000000000000000000 : Int) ≤ cs[i.toNat]
    · have c4 : 0 < cs[i.toNat] := by omega
      refine ⟨cs[i.toNat] % a, [.lst (cs.map .int), .int (i + 1), .int (cs[i.toNat] / a), .int sa], Int.emod_nonneg _ (by omega), Int.emod_lt_of_pos _ ha, ⟨cs, _, _, _, rfl, by omega, Int.ediv_nonneg (by omega) (by omega), hs, hs2⟩, ?_⟩
      simp [runF, mPull, evSs, evS, ev, evs, evT, thenS, M.bind_run, M.ite_ap, varM, blM, truM, cmpM, eqM, deref, plain, dep, eqD, idxM, readQ, readL, un1, lenM, intM, bi_add, bi_mul, bi_mod, bi_fdv, bi_pow, setSubM, ixN, asgG, atI, hm, hset, c2, hi, e18, c3, ha, ha2, c4, hal]
    · have s0 := md (sa * k.p1 + cs[i.toNat] % k.p2 * k.p3 + 19)
      have l1 := log_lt hs (by omega) p1a (by omega)
      have l2 := log_lt (md2 cs[i.toNat]).1 (by have := (md2 cs[i.toNat]).2; omega) p3a (by omega)
      generalize es : (sa * k.p1 + cs[i.toNat] % k.p2 * k.p3 + 19) % k.p4 = sb at s0
      have l3 := log_lt s0.1 (by omega) s0.1 (by omega)
      have l4 := log_lt s0.1 (by omega) p5a (by omega)
      have s1 := md (sb * sb + sb * k.p5 + k.p6)
      generalize es1 : (sb * sb + sb * k.p5 + k.p6) % k.p4 = sc at s1
      have l5 : (sc % k.p7).natAbs.log2 + Nat.log2 59 < 1000000 := log_lt (md7 sc).1 (by have := (md7 sc).2; omega) (show (0 : Int) ≤ 59 by omega) (by omega)
      refine ⟨(sc / 73 + sc % k.p7 * 59) % a, [.lst (cs.map .int), .int (i + 1), .int 0, .int sc], Int.emod_nonneg _ (by omega), Int.emod_lt_of_pos _ ha, ⟨cs, _, _, _, rfl, by omega, by omega, s1⟩, ?_⟩
      simp [runF, mPull, evSs, evS, ev, evs, evT, thenS, M.bind_run, M.ite_ap, varM, blM, truM, cmpM, eqM, deref, plain, dep, eqD, idxM, readQ, readL, un1, lenM, intM, bi_add, bi_mul, bi_mod, bi_fdv, bi_pow, setSubM, ixN, asgG, atI, hm, hset, c2, hi, e18, c3, ha, ha2, hal, l1, l2, l3, l4, l5, es, es1, p2a, p4a, p7a, g73]
  · by_cases c2 : 0 < b
    · have c3 : ¬ b = 0 := by omega
      refine ⟨b % a, [.lst (cs.map .int), .int i, .int (b / a), .int sa], Int.emod_nonneg _ (by omega), Int.emod_lt_of_pos _ ha, ⟨cs, _, _, _, rfl, hi, Int.ediv_nonneg (by omega) (by omega), hs, hs2⟩, ?_⟩
      simp [runF, mPull, evSs, evS, ev, evs, evT, thenS, M.bind_run, M.ite_ap, varM, blM, truM, cmpM, eqM, deref, plain, dep, eqD, idxM, readQ, readL, un1, lenM, intM, bi_add, bi_mul, bi_mod, bi_fdv, bi_pow, setSubM, ixN, asgG, atI, hm, hset, c2, c3, hi, e18, ha, ha2, hal]
    · have c3 : b = 0 := by omega
      subst c3
      have c4 : ¬ i < cs.length := fun h => c1 ⟨rfl, h⟩
      have l3 := log_lt hs (by omega) hs (by omega)
      have l4 := log_lt hs (by omega) p5a (by omega)
      have s1 := md (sa * sa + sa * k.p5 + k.p6)
      generalize es1 : (sa * sa + sa * k.p5 + k.p6) % k.p4 = sc at s1
      have l5 : (sc % k.p7).natAbs.log2 + Nat.log2 59 < 1000000 := log_lt (md7 sc).1 (by have := (md7 sc).2; omega) (show (0 : Int) ≤ 59 by omega) (by omega)
      refine ⟨(sc / 73 + sc % k.p7 * 59) % a, [.lst (cs.map .int), .int i, .int 0, .int sc], Int.emod_nonneg _ (by omega), Int.emod_lt_of_pos _ ha, ⟨cs, _, _, _, rfl, by omega, by omega, s1⟩, ?_⟩
      simp [runF, mPull, evSs, evS, ev, evs, evT, thenS, M.bind_run, M.ite_ap, varM, blM, truM, cmpM, eqM, deref, plain, dep, eqD, idxM, readQ, readL, un1, lenM, intM, bi_add, bi_mul, bi_mod, bi_fdv, bi_pow, setSubM, ixN, asgG, atI, hm, hset, c4, hi, e18, ha, ha2, hal, l3, l4, l5, es1, p4a, p7a, g73]
end Fs

/-! FsT: rules for running the deep syntax. -/
namespace Fs
open PySem PySem.Spec PyProof.Rows L2
open Classical

/-! ### one construct each, at a state -/
section
variable {r : Env} {m : Store} {a b c : ME} {es : MEs} {t u : MT}
theorem x_var (i : Nat) : ev (.var i) r m = varM r i m := by simp only [ev]
theorem x_con (d : D) : ev (.con d) r m = .ok d m := by simp only [ev] <;> rfl
theorem x_bin (o : Bop) : ev (.bin o a b) r m = (ev a r >>= fun x => ev b r >>= fun y => binM o x y) m := by simp only [ev]
theorem x_neg : ev (.neg a) r m = (ev a r >>= negM) m := by simp only [ev] <;> rfl
theorem x_cmp (o : Cop) : ev (.cmp o a b) r m = (ev a r >>= fun x => ev b r >>= fun y => cmpM o x y >>= fun c => pure (.bl c)) m := by simp only [ev]
theorem x_cmp2 (o o' : Cop) : ev (.cmp2 o o' a b c) r m = (ev a r >>= fun x => ev b r >>= fun y => cmpM o x y >>= fun k => if k = true then (ev c r >>= fun z => cmpM o' y z >>= fun l => pure (.bl l)) else pure (.bl false)) m := by simp only [ev]
theorem x_and : ev (.and a b) r m = (ev a r >>= fun x => blM x >>= fun k => if k = true then ev b r else pure (.bl false)) m := by simp only [ev]
theorem x_or : ev (.or a b) r m = (ev a r >>= fun x => blM x >>= fun k => if k = true then pure (.bl true) else ev b r) m := by simp only [ev]
theorem x_not : ev (.not a) r m = (ev a r >>= fun x => blM x >>= fun k => pure (.bl (!k))) m := by simp only [ev]
theorem x_ite : ev (.ite t a b) r m = (evT t r >>= fun k => if k = true then ev a r else ev b r) m := by simp only [ev]
theorem x_tup : ev (.tup es) r m = (evs es r >>= fun xs => if xs.length ≤ sizeLine then pure (.tup xs) else stuckM) m := by simp only [ev]
theorem x_lst : ev (.lst es) r m = (evs es r >>= fun xs => if xs.length ≤ sizeLine then pure (.lst xs) else stuckM) m := by simp only [ev]
theorem x_new : ev (.new es) r m = (evs es r >>= fun xs => if xs.length ≤ sizeLine then newM xs else stuckM) m := by simp only [ev]
theorem x_idx : ev (.idx a b) r m = (ev a r >>= fun x => ev b r >>= fun y => idxM x y) m := by simp only [ev]
theorem x_slc (lo hi : MO) : ev (.slc a lo hi) r m = (ev a r >>= fun x => evO lo r >>= fun l => evO hi r >>= fun h => slcM x l h) m := by simp only [ev]
theorem x_call (F : List D → M D) : ev (.call F es) r m = (evs es r >>= F) m := by simp only [ev] <;> rfl
theorem x_meth (P : Store → D → Bool) (F : D → List D → M D) : ev (.meth P F a es) r m = (ev a r >>= fun x => chkM P x >>= fun _ => evs es r >>= fun xs => F x xs) m := by simp only [ev]
theorem x_attr (F : D → M D) : ev (.attr F a) r m = (ev a r >>= F) m := by simp only [ev] <;> rfl
theorem x_frz : ev (.frz a) r m = (ev a r >>= frzM) m := by simp only [ev] <;> rfl
theorem x_nil : evs .nil r m = .ok [] m := by simp only [evs] <;> rfl
theorem x_cons : evs (.cons a es) r m = (ev a r >>= fun x => evs es r >>= fun xs => pure (x :: xs)) m := by simp only [evs]
theorem x_no : evO .no r m = .ok none m := by simp only [evO] <;> rfl
theorem x_yes : evO (.yes a) r m = (ev a r >>= intO) m := by simp only [evO] <;> rfl
theorem t_val : evT (.val a) r m = (ev a r >>= truM) m := by simp only [evT] <;> rfl
theorem t_cmp (o : Cop) : evT (.cmp o a b) r m = (ev a r >>= fun x => ev b r >>= fun y => cmpM o x y) m := by simp only [evT]
theorem t_cmp2 (o o' : Cop) : evT (.cmp2 o o' a b c) r m = (ev a r >>= fun x => ev b r >>= fun y => cmpM o x y >>= fun k => if k = true then (ev c r >>= fun z => cmpM o' y z) else pure false) m := by simp only [evT]
theorem t_and : evT (.and t u) r m = (evT t r >>= fun k => if k = true then evT u r else pure false) m := by simp only [evT]
theorem t_or : evT (.or t u) r m = (evT t r >>= fun k => if k = true then pure true else evT u r) m := by simp only [evT]
theorem t_not : evT (.not t) r m = (evT t r >>= fun k => pure (!k)) m := by simp only [evT]
theorem i_val : evI (.val a) r m = (ev a r >>= itmM) m := by simp only [evI] <;> rfl
theorem i_rng1 : evI (.rng1 a) r m = (ev a r >>= rng1M) m := by simp only [evI] <;> rfl
theorem i_rng2 : evI (.rng2 a b) r m = (ev a r >>= fun x => ev b r >>= fun y => rng2M x y) m := by simp only [evI]
theorem i_enm : evI (.enm a) r m = (ev a r >>= enmM) m := by simp only [evI] <;> rfl
theorem i_zip : evI (.zip a b) r m = (ev a r >>= fun x => ev b r >>= fun y => zipM x y) m := by simp only [evI]
theorem c_no : evTO .no r m = .ok true m := by simp only [evTO] <;> rfl
theorem c_yes : evTO (.yes t) r m = evT t r m := by simp only [evTO]
theorem s_nil : evSs .nil r m = some (.nxt r, m) := by simp only [evSs]
theorem s_cons (s : MS) (ss : MSs) : evSs (.cons s ss) r m = (match evS s r m with
    | some (.nxt r', m') => evSs ss r' m'
    | o => o) := by simp only [evSs] <;> rfl
theorem s_exp : evS (.exp a) r m = thenS (ev a r) r m fun _ m' => some (.nxt r, m') := by simp only [evS]
theorem s_set (g : MG) : evS (.set g a) r m = thenS (ev a r) r m fun d m' => (asgG g d r).map fun r' => (.nxt r', m') := by simp only [evS]
theorem s_par (i j : Nat) : evS (.par i j a b) r m = thenS (ev a r >>= fun x => ev b r >>= fun y => pure (x, y)) r m fun p m' => some (.nxt ((r.set i (some p.1)).set j (some p.2)), m') := by simp only [evS]
theorem s_aug (i : Nat) (o : Bop) : evS (.aug i o a) r m = thenS (varM r i >>= fun x => ev a r >>= fun y => augM o x y) r m fun d m' => some (.nxt (r.set i (some d)), m') := by simp only [evS]
theorem s_ret : evS (.ret a) r m = thenS (ev a r) r m fun d m' => some (.ret d, m') := by simp only [evS]
theorem s_retN : evS .retN r m = some (.ret .non, m) := by simp only [evS]
theorem s_ite (p q : MSs) : evS (.ite t p q) r m = thenS (evT t r) r m fun k m' => if k = true then evSs p r m' else evSs q r m' := by simp only [evS]
theorem s_brk : evS .brk r m = some (.brk r, m) := by simp only [evS]
theorem s_cnt : evS .cnt r m = some (.cnt r, m) := by simp only [evS]
theorem s_pass : evS .pass r m = some (.nxt r, m) := by simp only [evS]
theorem s_setSub : evS (.setSub a b c) r m = thenS (ev c r >>= fun v => ev a r >>= fun x => ev b r >>= fun y => setSubM x y v) r m fun _ m' => some (.nxt r, m') := by simp only [evS]
theorem thenS_okE {α : Type} {x : M α} {k : α → Store → RS} {d : α} {m' : Store} (h : x m = .ok d m') : thenS x r m k = k d m' := by unfold thenS; rw [h]
end
/-- the semantic of un1 -/
theorem un1_ap (f : D → M D) (d : D) : un1 f [d] = f d := rfl
theorem un1m_ap (f : D → D → M D) (o d : D) : un1m f o [d] = f o d := rfl
theorem chkM_ap (P : Store → D → Bool) (d : D) (m : Store) : chkM P d m = if P m d = true then .ok () m else .stuck := rfl
/-! ### comprehensions -/
noncomputable def bodyC (own : List Nat) (g : MG) (c : MTO) (e : ME) (r : Env) (d : D) : M (Option D) := match asgG g d (wipeE r own) with
  | some r' => (do let k ← evTO c r'; if k = true then (do let y ← ev e r'; pure (some y)) else pure none)
  | none => stuckM
theorem x_comp {mu : Bool} {own : List Nat} {g : MG} {s : MI} {c : MTO} {e : ME} {r : Env} {m m1 m2 : Store} {t : Itm} {ys : List D} (hs : evI s r m = .ok t m1) (hc : compM t (bodyC own g c e r) t.ds m1 = .ok ys m2) :
    ev (.comp mu own g s c e) r m = if mu = true then newM ys m2 else .ok (.lst ys) m2 := by
  simp only [ev]
  rw [M.bind_run, hs]
  show ((compM t (bodyC own g c e r) t.ds >>= fun ys => if mu = true then newM ys else pure (.lst ys)) m1) = _
  rw [M.bind_run, hc]
  show (if mu = true then newM ys else pure (D.lst ys)) m2 = _
  rw [M.ite_ap]
  rfl
theorem x_compD {own : List Nat} {g : MG} {s : MI} {c : MTO} {e : ME} {r : Env} {m : Store} : ev (.comp false own g s c e) r m = (evI s r >>= fun t => compM t (bodyC own g c e r) t.ds >>= fun ys => pure (.lst ys)) m := by
  simp only [ev] <;> rfl
theorem ltT_one (a b : Char) : ltT [a] [b] = decide (a.toNat < b.toNat) := by
  unfold ltT
  simp only [List.map_cons, List.map_nil]
  congr 1
  simp [List.cons_lt_cons_iff]
theorem compM_n {t : Itm} {f : D → M (Option D)} {m : Store} : compM t f [] m = if t.ok m then .ok [] m else .stuck := rfl
theorem compM_c {t : Itm} {f : D → M (Option D)} {d : D} {ds : List D} {m : Store} : compM t f (d :: ds) m = if t.ok m then (match f d m with
      | .ok o m1 => (match compM t f ds m1 with
        | .ok r m2 => .ok (match o with | some y => y :: r | none => r) m2
        | _ => .stuck)
      | _ => .stuck) else .stuck := rfl
theorem compM_fm {t : Itm} (ht : t.lk = none) {f : D → M (Option D)} {h : D → Option D} {m : Store} : ∀ {ds : List D}, (∀ d ∈ ds, f d m = .ok (h d) m) → compM t f ds m = .ok (ds.filterMap h) m
  | [], _ => by
    have : t.ok m := by unfold Itm.ok; rw [ht]; trivial
    simp only [compM, this, if_true]; rfl
  | d :: ds, hf => by
    have ok : t.ok m := by unfold Itm.ok; rw [ht]; trivial
    have h1 := hf d (List.mem_cons_self ..)
    have h2 := compM_fm ht (f := f) (h := h) (m := m) (ds := ds) fun d hd => hf d (List.mem_cons_of_mem _ hd)
    simp only [compM, ok, if_true, h1, h2]
    cases e : h d with
    | none => rw [List.filterMap_cons_none e]
    | some y => rw [List.filterMap_cons_some e]
theorem compM_map {t : Itm} (ht : t.lk = none) {f : D → M (Option D)} {h : D → D} {m : Store} {ds : List D} (hf : ∀ d ∈ ds, f d m = .ok (some (h d)) m) : compM t f ds m = .ok (ds.map h) m := by
  rw [compM_fm ht (h := fun d => some (h d)) hf, List.filterMap_eq_map']
/-- with draws -/
theorem compM_dr {t : Itm} (ht : t.lk = none) {f : D → M (Option D)} (I : Store → Prop) (P : D → Prop) : ∀ {ds : List D} {m : Store}, I m → (∀ d ∈ ds, ∀ m, I m → ∃ y m', f d m = .ok (some y) m' ∧ I m' ∧ P y) →
    ∃ ys m', compM t f ds m = .ok ys m' ∧ I m' ∧ ys.length = ds.length ∧ ∀ y ∈ ys, P y
  | [], m, hi, _ => by
    have : t.ok m := by unfold Itm.ok; rw [ht]; trivial
    exact ⟨[], m, by simp only [compM, this, if_true], hi, rfl, fun y hy => by cases hy⟩
  | d :: ds, m, hi, hf => by
    have ok : t.ok m := by unfold Itm.ok; rw [ht]; trivial
    obtain ⟨y, m1, h1, i1, p1⟩ := hf d (List.mem_cons_self ..) m hi
    obtain ⟨ys, m2, h2, i2, l2, p2⟩ := compM_dr ht I P (ds := ds) i1 fun d hd => hf d (List.mem_cons_of_mem _ hd)
    refine ⟨y :: ys, m2, by simp only [compM, ok, if_true, h1, h2], i2, by simp [l2], fun z hz => ?_⟩
    rcases List.mem_cons.mp hz with rfl | hz
    · exact p1
    · exact p2 z hz
/-! ### for -/
/-- every turn goes on, or one ends the loop by a return -/
theorem forM_go {t : Itm} (ht : t.lk = none) {body : D → Env → Store → RS} (I : List D → Env → Store → Prop) : ∀ {ds : List D} {r : Env} {m : Store}, I ds r m →
    (∀ d ds r m, I (d :: ds) r m → ∃ r' m', (body d r m = some (.nxt r', m') ∨ body d r m = some (.cnt r', m')) ∧ I ds r' m') → ∃ r' m', forM t body ds r m = some (.nxt r', m') ∧ I [] r' m'
  | [], r, m, hi, _ => by
    have : t.ok m := by unfold Itm.ok; rw [ht]; trivial
    exact ⟨r, m, by simp only [forM, this, if_true], hi⟩
  | d :: ds, r, m, hi, hf => by
    have ok : t.ok m := by unfold Itm.ok; rw [ht]; trivial
    obtain ⟨r1, m1, h1, i1⟩ := hf d ds r m hi
    obtain ⟨r2, m2, h2, i2⟩ := forM_go ht I i1 hf
    refine ⟨r2, m2, ?_, i2⟩
    rcases h1 with h1 | h1
    · simp only [forM, ok, if_true, h1, h2]
    · simp only [forM, ok, if_true, h1, h2]
noncomputable def bodyF (g : MG) (b : MSs) (d : D) (r : Env) (m : Store) : RS := match asgG g d r with
  | some r' => evSs b r' m
  | none => none
theorem s_for {g : MG} {s : MI} {b : MSs} {r : Env} {m m1 : Store} {t : Itm} (hs : evI s r m = .ok t m1) : evS (.for_ g s b) r m = forM t (bodyF g b) t.ds r m1 := by
  simp only [evS]
  rw [thenS_okE hs]
  rfl
/-! ### all, any of computed lists -/
theorem blsO_map {α : Type} (f : α → Bool) : ∀ l : List α, blsO (l.map fun x => D.bl (f x)) = some (l.map f)
  | [] => rfl
  | x :: l => by simp only [List.map_cons, blsO, blsO_map f l]; rfl
theorem allM_map {α : Type} (f : α → Bool) (l : List α) (m : Store) : allM (.lst (l.map fun x => D.bl (f x))) m = .ok (.bl (l.all f)) m := by
  simp only [allM, readL, blsO_map]
  rw [List.all_map]
  rfl
theorem anyM_map {α : Type} (f : α → Bool) (l : List α) (m : Store) : anyM (.lst (l.map fun x => D.bl (f x))) m = .ok (.bl (l.any f)) m := by
  simp only [anyM, readL, blsO_map]
  rw [List.any_map]
  rfl
/-! ### the bag at a place; what a draw leaves -/
def BagAt (m : Store) (n : Nat) : Prop := ∃ l, m[n]? = some (.lst l) ∧ Bag l
structure Sim (n : Nat) (m m' : Store) : Prop where
  bag : BagAt m' n
  len : m.length ≤ m'.length
  same : ∀ i, i ≠ n → i < m.length → m'[i]? = m[i]?
theorem Sim.refl {n : Nat} {m : Store} (h : BagAt m n) : Sim n m m := ⟨h, Nat.le_refl _, fun _ _ _ => rfl⟩
theorem Sim.trans {n : Nat} {m m1 m2 : Store} (a : Sim n m m1) (b : Sim n m1 m2) : Sim n m m2 :=
  ⟨b.bag, Nat.le_trans a.len b.len, fun i h1 h2 => (b.same i h1 (Nat.lt_of_lt_of_le h2 a.len)).trans (a.same i h1 h2)⟩
theorem Sim.set {n : Nat} {m : Store} {l : List D} (h : n < m.length) (b : Bag l) : Sim n m (m.set n (.lst l)) :=
  ⟨⟨l, by simp [h], b⟩, by simp, fun i h1 _ => by rw [List.getElem?_set_ne (Ne.symm h1)]⟩
theorem BagAt.lt {n : Nat} {m : Store} (h : BagAt m n) : n < m.length := by
  obtain ⟨l, h, _⟩ := h
  rcases Nat.lt_or_ge n m.length with h1 | h1
  · exact h1
  · rw [List.getElem?_eq_none h1] at h; cases h
def Pull (F : List D → M D) : Prop := ∀ (m : Store) (n : Nat) (a : Int), BagAt m n → 0 < a → a < 2 ^ 200 → ∃ r m', F [.obj n, .int a] m = .ok (.int r) m' ∧ Sim n m m' ∧ 0 ≤ r ∧ r < a
theorem pull_ok {k : Kp} (hk : k.Ok) : Pull (runF 2 5 (mPull k)) := fun m n a hb ha ha2 => by
  have hn := hb.lt
  obtain ⟨l, hm, hl⟩ := hb
  obtain ⟨r, l', h0, h1, hl', e⟩ := pull_eq hk hm hl ha ha2
  exact ⟨r, _, e, Sim.set hn hl', h0, h1⟩
/-- the items of a thing drawn from -/
def itemsD : D → Option (List D)
  | .lst ds => some ds
  | .tup ds => some ds
  | .wtp ds => some ds
  | .str x => some (x.map fun c => .str [c])
  | _ => none
theorem itemsD_len {d : D} {ds : List D} (h : itemsD d = some ds) (m : Store) : lenM d m = .ok (.int ds.length) m := by
  cases d <;> simp_all [itemsD, lenM, readQ, readL]
  subst h; simp
theorem itemsD_idx {d : D} {ds : List D} (h : itemsD d = some ds) (m : Store) {i : Int} (h0 : 0 ≤ i) (h1 : i < ds.length) : idxM d (.int i) m = .ok (ds[i.toNat]'(by omega)) m := by
  have hx : i.toNat < ds.length := by omega
  have g : atI ds i = some ds[i.toNat] := atI_nat' h0 (by simp [hx])
  cases d with
  | lst es => cases h; simp only [idxM, readQ, readL, g]
  | tup es => cases h; simp only [idxM, readQ, readL, g]
  | wtp es => cases h; simp only [idxM, readQ, readL, g]
  | str x =>
    cases h
    have hy : i.toNat < x.length := by simpa using hx
    have g' : atI x i = some x[i.toNat] := atI_nat' h0 (by simp [hy])
    simp [idxM, readQ, readL, g']
  | _ => cases h
noncomputable def mOf (F : List D → M D) : MSs := (.cons (.ret (.idx (.var 1) (.call F (.cons (.var 0) (.cons (.call (un1 lenM) (.cons (.var 1) .nil)) .nil))))) .nil)
def OfOk (F : List D → M D) : Prop := ∀ (m : Store) (n : Nat) (d : D) (ds : List D), BagAt m n → itemsD d = some ds → ds ≠ [] → ds.length ≤ 100000 → ∃ e ∈ ds, ∃ m', F [.obj n, d] m = .ok e m' ∧ Sim n m m'
theorem of_ok {F : List D → M D} (hF : Pull F) : OfOk (runF 2 2 (mOf F)) := fun m n d ds hb hd h0 hl => by
  have hp : 0 < ds.length := List.length_pos_iff.mpr h0
  obtain ⟨r, m', e, s, r0, r1⟩ := hF m n ds.length hb (by omega) (by
    have : (ds.length : Int) ≤ 100000 := by omega
    have : (100000 : Int) < 2 ^ 200 := by decide
    omega)
  refine ⟨ds[r.toNat]'(by omega), List.getElem_mem _, m', ?_, s⟩
  simp [runF, mOf, s_cons, s_ret, x_idx, x_var, x_call, x_cons, x_nil, un1_ap, thenS, M.bind_run, varM, itemsD_len hd, e, itemsD_idx hd m' r0 r1]
end Fs

/-! FsU: what all laws share: the bag's making, the comparison. -/
namespace Fs
open PySem PySem.Spec PyProof.Rows L2
open Classical

noncomputable def mSame (cls : List Nat) (R : List D → M D) : MSs :=
  (.cons (.ite (.or (.val (.call (un1 (isiM cls .list)) (.cons (.var 1) .nil))) (.val (.call (un1 (isiM cls .tuple)) (.cons (.var 1) .nil)))) (.cons (.ite (.or (.cmp .ne (.call (un1 (isiM cls .list)) (.cons (.var 0) .nil)) (.call (un1 (isiM cls .list)) (.cons (.var 1) .nil))) (.cmp .ne (.call (un1 (isiM cls .tuple)) (.cons (.var 0) .nil)) (.call (un1 (isiM cls .tuple)) (.cons (.var 1) .nil)))) (.cons (.ret (.con (.bl false))) .nil) .nil) (.cons (.ret (.and (.cmp .eq (.call (un1 lenM) (.cons (.var 0) .nil)) (.call (un1 lenM) (.cons (.var 1) .nil))) (.call (un1 allM) (.cons (.comp false [2, 3] (.tp [2, 3]) (.zip (.var 0) (.var 1)) .no (.call R (.cons (.var 2) (.cons (.var 3) .nil)))) .nil)))) .nil)) .nil) (.cons (.ite (.or (.cmp .is (.var 1) (.con .non)) (.cmp .is (.var 0) (.con .non))) (.cons (.ret (.and (.cmp .is (.var 1) (.con .non)) (.cmp .is (.var 0) (.con .non)))) .nil) .nil) (.cons (.ite (.or (.cmp .ne (.call (un1 (isiM cls .bool)) (.cons (.var 0) .nil)) (.call (un1 (isiM cls .bool)) (.cons (.var 1) .nil))) (.cmp .ne (.call (un1 (isiM cls .int)) (.cons (.var 0) .nil)) (.call (un1 (isiM cls .int)) (.cons (.var 1) .nil)))) (.cons (.ret (.con (.bl false))) .nil) .nil) (.cons (.ret (.and (.cmp .eq (.call (un1 (isiM cls .str)) (.cons (.var 0) .nil)) (.call (un1 (isiM cls .str)) (.cons (.var 1) .nil))) (.cmp .eq (.var 0) (.var 1)))) .nil))))
noncomputable def ffSame (cls : List Nat) : Nat → List D → M D
  | 0 => fun _ => stuckM
  | n + 1 => runF 2 4 (mSame cls (ffSame cls n))
mutual
def okS : D → Bool
  | .non => true
  | .bl _ => true
  | .int _ => true
  | .str _ => true
  | .lst ds => okSs ds
  | .tup ds => okSs ds
  | _ => false
def okSs : List D → Bool
  | [] => true
  | d :: ds => okS d && okSs ds
end
theorem okSs_mem : ∀ {ds : List D} {d : D}, okSs ds = true → d ∈ ds → okS d = true
  | [], _, _, h => by cases h
  | e :: ds, d, hp, h => by
    simp only [okSs, Bool.and_eq_true] at hp
    rcases List.mem_cons.mp h with rfl | h
    · exact hp.1
    · exact okSs_mem hp.2 h
theorem okSs_of : ∀ {ds : List D}, (∀ d ∈ ds, okS d = true) → okSs ds = true
  | [], _ => rfl
  | e :: ds, h => by
    simp only [okSs, Bool.and_eq_true]
    exact ⟨h e (List.mem_cons_self ..), okSs_of fun d hd => h d (List.mem_cons_of_mem _ hd)⟩
theorem deps_mem : ∀ {ds : List D} {d : D}, d ∈ ds → dep d ≤ deps ds
  | [], _, h => by cases h
  | e :: ds, d, h => by
    simp only [deps]
    rcases List.mem_cons.mp h with rfl | h
    · omega
    · have := deps_mem (ds := ds) h; omega
theorem zip_self {α : Type} : ∀ l : List α, l.zip l = l.map fun x => (x, x)
  | [] => rfl
  | x :: l => by rw [List.zip_cons_cons, zip_self l]; rfl
theorem same_all {R : List D → M D} {ds : List D} {m : Store} {x : D} (ih : ∀ d ∈ ds, R [d, d] m = .ok (.bl true) m) (hz : zipM x x m = .ok ⟨ds.map fun d => D.tup [d, d], none⟩ m) :
    ev (.comp false [2, 3] (.tp [2, 3]) (.zip (.var 0) (.var 1)) .no (.call R (.cons (.var 2) (.cons (.var 3) .nil)))) [some x, some x, none, none] m = .ok (.lst (ds.map fun _ => .bl true)) m := by
  have hs : evI (.zip (.var 0) (.var 1)) [some x, some x, none, none] m = .ok ⟨ds.map fun d => D.tup [d, d], none⟩ m := by
    simp [i_zip, x_var, varM, M.bind_run, hz]
  have hc : compM ⟨ds.map fun d => D.tup [d, d], none⟩ (bodyC [2, 3] (.tp [2, 3]) .no (.call R (.cons (.var 2) (.cons (.var 3) .nil))) [some x, some x, none, none]) (ds.map fun d => D.tup [d, d]) m = .ok ((ds.map fun d => D.tup [d, d]).map fun _ => D.bl true) m := by
    refine compM_map rfl fun d hd => ?_
    obtain ⟨e, he, rfl⟩ := List.mem_map.mp hd
    simp [bodyC, asgG, wipeE, M.bind_run, c_no, x_call, x_cons, x_nil, x_var, varM, ih e he]
  rw [x_comp hs hc]
  simp
theorem all_true (ds : List D) (m : Store) : allM (.lst (ds.map fun _ => D.bl true)) m = .ok (.bl true) m := by
  rw [allM_map (fun _ => true)]
  simp
theorem same_refl (cls : List Nat) : ∀ (n : Nat) (d : D) (m : Store), okS d = true → dep d < n → ffSame cls n [d, d] m = .ok (.bl true) m
  | 0, d, m, _, h => by omega
  | n + 1, d, m, hp, hd => by
    cases d with
    | lst ds =>
      simp only [okS] at hp
      have ih : ∀ e ∈ ds, ffSame cls n [e, e] m = .ok (.bl true) m := fun e he => same_refl cls n e m (okSs_mem hp he) (by have := deps_mem he; simp only [dep] at hd; omega)
      have hc := same_all (x := .lst ds) ih (by simp [zipM, zip_self])
      simp [ffSame, runF, mSame, s_cons, s_ite, s_ret, s_nil, t_or, t_val, t_cmp, x_and, x_cmp, x_call, x_cons, x_nil, x_var, x_con, varM, thenS, M.bind_run, M.ite_ap, un1_ap, isiM, dty, isiB, truM, cmpM, eqM, deref, plain, dep, eqD, lenM, readQ, readL, blM, hc, all_true]
    | tup ds =>
      simp only [okS] at hp
      have ih : ∀ e ∈ ds, ffSame cls n [e, e] m = .ok (.bl true) m := fun e he => same_refl cls n e m (okSs_mem hp he) (by have := deps_mem he; simp only [dep] at hd; omega)
      have hc := same_all (x := .tup ds) ih (by simp [zipM, zip_self])
      simp [ffSame, runF, mSame, s_cons, s_ite, s_ret, s_nil, t_or, t_val, t_cmp, x_and, x_cmp, x_call, x_cons, x_nil, x_var, x_con, varM, thenS, M.bind_run, M.ite_ap, un1_ap, isiM, dty, isiB, truM, cmpM, eqM, deref, plain, dep, eqD, lenM, readQ, readL, blM, hc, all_true]
    | non => simp [ffSame, runF, mSame, s_cons, s_ite, s_ret, s_nil, t_or, t_val, t_cmp, x_and, x_cmp, x_call, x_cons, x_nil, x_var, x_con, varM, thenS, M.bind_run, M.ite_ap, un1_ap, isiM, dty, isiB, truM, cmpM, eqM, deref, plain, dep, eqD, isNonD, blM]
    | bl b => simp [ffSame, runF, mSame, s_cons, s_ite, s_ret, s_nil, t_or, t_val, t_cmp, x_and, x_cmp, x_call, x_cons, x_nil, x_var, x_con, varM, thenS, M.bind_run, M.ite_ap, un1_ap, isiM, dty, isiB, truM, cmpM, eqM, deref, plain, dep, eqD, isNonD, blM]
    | int i => simp [ffSame, runF, mSame, s_cons, s_ite, s_ret, s_nil, t_or, t_val, t_cmp, x_and, x_cmp, x_call, x_cons, x_nil, x_var, x_con, varM, thenS, M.bind_run, M.ite_ap, un1_ap, isiM, dty, isiB, truM, cmpM, eqM, deref, plain, dep, eqD, isNonD, blM]
    | str x => simp [ffSame, runF, mSame, s_cons, s_ite, s_ret, s_nil, t_or, t_val, t_cmp, x_and, x_cmp, x_call, x_cons, x_nil, x_var, x_con, varM, thenS, M.bind_run, M.ite_ap, un1_ap, isiM, dty, isiB, truM, cmpM, eqM, deref, plain, dep, eqD, isNonD, blM]
    | _ => cases hp
/-! ### the bag's making -/
noncomputable def mBag (c1 c2 c3 c4 : Int) : MSs :=
  (.cons (.set (.nm 1) (.con (.int c1))) (.cons (.for_ (.nm 2) (.val (.slc (.var 0) .no (.yes (.con (.int (63)))))) (.cons (.set (.nm 1) (.bin .mod (.call (un1 intM) (.cons (.bin .add (.bin .add (.bin .mul (.var 1) (.con (.int c2))) (.bin .mod (.call (un1 intM) (.cons (.var 2) .nil)) (.con (.int c3)))) (.con (.int (29)))) .nil)) (.con (.int c4)))) .nil)) (.cons (.ret (.new (.cons (.call (un1 listM) (.cons (.slc (.var 0) .no (.yes (.con (.int (63))))) .nil)) (.cons (.con (.int (0))) (.cons (.con (.int (0))) (.cons (.var 1) .nil)))))) .nil)))
theorem cutL_all {α : Type} (l : List α) (h : l.length ≤ 63) : cutL l none (some 63) = l := by
  refine cut_whole ⟨HT.sIx_none _ _, ?_⟩
  rw [show HT.sIx l.length l.length (some 63) = min 63 l.length from HT.sIx_nat l.length l.length 63]
  omega
theorem bag_ok {c1 c2 c3 c4 : Int} (h1 : 0 ≤ c1 ∧ c1 < 2 ^ 40) (h2 : 0 ≤ c2 ∧ c2 < 2 ^ 40) (h3 : 0 < c3 ∧ c3 < 2 ^ 40) (h4 : 0 < c4 ∧ c4 < 2 ^ 40) (ns : List Int) (hl : ns.length ≤ 63) (m : Store) :
    ∃ l, Bag l ∧ runF 1 3 (mBag c1 c2 c3 c4) [.frz (ns.map .int)] m = .ok (.obj m.length) (m ++ [.lst l]) := by
  have es : ∀ (r : Env), evI (.val (.slc (.var 0) .no (.yes (.con (.int (63)))))) (some (.frz (ns.map .int)) :: r) m = .ok ⟨ns.map .int, none⟩ m := fun r => by
    simp [i_val, x_slc, x_no, x_yes, x_var, x_con, varM, M.bind_run, intO, slcM, itmM, cutL_all (ns.map D.int) (by simpa using hl)]
  obtain ⟨r', m', ef, sa, x2, er, s0, s1, em⟩ := forM_go (t := ⟨ns.map .int, none⟩) rfl (body := bodyF (.nm 2) (.cons (.set (.nm 1) (.bin .mod (.call (un1 intM) (.cons (.bin .add (.bin .add (.bin .mul (.var 1) (.con (.int c2))) (.bin .mod (.call (un1 intM) (.cons (.var 2) .nil)) (.con (.int c3)))) (.con (.int (29)))) .nil)) (.con (.int c4)))) .nil))
    (fun ds r m1 => ∃ (sa : Int) (x2 : Option D), r = [some (.frz (ns.map .int)), some (.int sa), x2] ∧ 0 ≤ sa ∧ sa < 2 ^ 40 ∧ m1 = m ∧ ∃ is : List Int, ds = is.map .int)
    (ds := ns.map .int) (r := [some (.frz (ns.map .int)), some (.int c1), none]) (m := m) ⟨c1, none, rfl, h1.1, h1.2, rfl, ns, rfl⟩ (fun d ds r m1 ⟨sa, x2, er, s0, s1, em, is, eds⟩ => by
      cases is with
      | nil => cases eds
      | cons i is =>
        simp only [List.map_cons, List.cons.injEq] at eds
        obtain ⟨rfl, rfl⟩ := eds
        subst er em
        have l1 := log_lt s0 (by omega) h2.1 (by omega)
        refine ⟨_, m1, .inl ?_, (sa * c2 + i % c3 + 29) % c4, some (.int i), rfl, Int.emod_nonneg _ (by omega), by have := Int.emod_lt_of_pos (sa * c2 + i % c3 + 29) h4.1; omega, rfl, is, rfl⟩
        simp [bodyF, asgG, s_cons, s_nil, s_set, thenS, x_bin, x_call, x_cons, x_nil, x_var, x_con, varM, M.bind_run, un1_ap, intM, bi_add, bi_mul, bi_mod, l1, h3.1, h4.1])
  obtain ⟨em, _⟩ := em
  subst em er
  refine ⟨[.lst (ns.map .int), .int 0, .int 0, .int sa], ⟨ns, 0, 0, sa, rfl, by omega, by omega, s0, s1⟩, ?_⟩
  simp [runF, mBag, s_cons, s_set, s_for (es _), s_ret, thenS, x_con, asgG, ef, x_new, x_cons, x_nil, x_call, x_slc, x_no, x_yes, x_var, varM, M.bind_run, un1_ap, intO, slcM, cutL_all (ns.map D.int) (by simpa using hl), listM, readQ, readL, newM, M.ite_ap, sizeLine_eq]
end Fs

namespace LK01
open PySem PySem.Spec PyProof.Rows L2 Fs
open Classical
def top (i : Nat) : Stmt := PySem.Challenge.pw_forestep_k01_alphabets.main.body.getD i (.Pass ⟨0, 0, 0, 0⟩)
abbrev cls : List Nat := []
structure Bi (mg : Str → Option Value) : Prop where
  all : mg "all" = none
  any : mg "any" = none
  bool : mg "bool" = none
  int : mg "int" = none
  isinstance : mg "isinstance" = none
  len : mg "len" = none
  list : mg "list" = none
  range : mg "range" = none
  sorted : mg "sorted" = none
  str : mg "str" = none
  tuple : mg "tuple" = none
  zip : mg "zip" = none
def c_LETTERS : D := .str ['a', 'b', 'c', 'd', 'e', 'f', 'g', 'h', 'i', 'j', 'k', 'l', 'm', 'n', 'o', 'p', 'q', 'r', 's', 't', 'u', 'v', 'w', 'x', 'y', 'z']
def c_MOST_SIGNS : D := .int (3)
/-! ### is_alphabet -/
abbrev N_is_alphabet : List Str := ["value", "sign", "at"]
noncomputable def m_is_alphabet : MSs :=
  (.cons (.ite (.or (.not (.val (.call (un1 (isiM cls .str)) (.cons (.var 0) .nil)))) (.not (.cmp2 .le .le (.con (.int (1))) (.call (un1 lenM) (.cons (.var 0) .nil)) (.con c_MOST_SIGNS)))) (.cons (.ret (.con (.bl false))) .nil) .nil) (.cons (.ret (.and (.call (un1 allM) (.cons (.comp false [1] (.nm 1) (.val (.var 0)) .no (.cmp .in_ (.var 1) (.con c_LETTERS))) .nil)) (.call (un1 allM) (.cons (.comp false [2] (.nm 2) (.rng1 (.bin .sub (.call (un1 lenM) (.cons (.var 0) .nil)) (.con (.int (1))))) .no (.cmp .lt (.idx (.var 0) (.var 2)) (.idx (.var 0) (.bin .add (.var 2) (.con (.int (1))))))) .nil)))) .nil))
noncomputable def F_is_alphabet : List D → M D := runF 1 3 m_is_alphabet
theorem sc_is_alphabet : FnScope N_is_alphabet ["value"] (defScope (top 3)) := ⟨rfl, rfl, rfl, by decide +kernel, rfl, by decide +kernel, by decide +kernel⟩
section
variable {C : Ct} {P : Program} {w : World} {mg : Str → Option Value} {base : Heap}
theorem b_is_alphabet (B : Bi mg) (hcls : ∀ c ∈ cls, ClsI C c) (g_LETTERS : GV C mg "LETTERS" c_LETTERS) (g_MOST_SIGNS : GV C mg "MOST_SIGNS" c_MOST_SIGNS) {f : Addr} {cdv : Value} {A : Around} {outer : List PySem.Env} {s : Shared} {H : Hp} {E : XK} (hr : Room 0 (A.deeper (envOfC "is_alphabet" (defScope (top 3)) s.heap.objs.size f cdv))) :
    SSs C (cxOf (L2.CX P w) P w C.K mg base N_is_alphabet "is_alphabet" (defScope (top 3)) f cdv A outer s H E) (defBody (top 3)) m_is_alphabet := by
  have hu := rm_u hr
  have hu1 := rm_u1 hr
  have hN := sc_is_alphabet.nd
  exact (sss_cons (ss_if (st_sw (sw_or (st_not (st_val (sis (T := .str) hcls B.isinstance B.str boot_str rfl (by kernel_rfl) rfl (sv (i := 0) (by kernel_rfl))) rfl (fun _ => rfl))) (sw_one (st_not (st_cmp2 (o1 := .le) (o2 := .le) se_int (scl (co_len rfl B.len) (by kernel_rfl) rfl (sac (sv (i := 0) (by kernel_rfl)) rfl sa_nil)) (sgl g_MOST_SIGNS (by kernel_rfl)) rfl hu rfl))))) (sss_cons (ss_ret se_bl)
    sss_nil) sss_nil)
    (sss_cons (ss_ret (se_and (scl (co_all rfl rfl B.all) (by kernel_rfl) rfl (sac (se_comp rfl hN (si_val (sv (i := 0) (by kernel_rfl)) rfl) (own := [(("sign" : Str), 1)]) (g := (.nm 1)) (by kernel_rfl) (by decide) (fun _ _ _ _ _ => (tgn (i := 1) hN (by kernel_rfl))) (fun _ _ _ _ _ => rfl) (fun _ _ _ _ _ => (se_cmp (o := .in_) (sv (i := 1) (by kernel_rfl)) (sgl g_LETTERS (by kernel_rfl)) rfl hu rfl)) (fun _ => rfl)) rfl sa_nil)) (se_one (scl (co_all rfl rfl B.all) (by kernel_rfl) rfl (sac (se_comp rfl hN (ir1 B.range (by kernel_rfl) rfl (se_bin (o := .sub) (scl (co_len rfl B.len) (by kernel_rfl) rfl (sac (sv (i := 0) (by kernel_rfl)) rfl sa_nil)) se_int rfl)) (own := [(("at" : Str), 2)]) (g := (.nm 2)) (by kernel_rfl) (by decide) (fun _ _ _ _ _ => (tgn (i := 2) hN (by kernel_rfl))) (fun _ _ _ _ _ => rfl) (fun _ _ _ _ _ => (se_cmp (o := .lt) (se_idx (sv (i := 0) (by kernel_rfl)) (sv (i := 2) (by kernel_rfl)) rfl hu (fun _ _ => rfl)) (se_idx (sv (i := 0) (by kernel_rfl)) (se_bin (o := .add) (sv (i := 2) (by kernel_rfl)) se_int rfl) rfl hu (fun _ _ => rfl)) rfl hu rfl)) (fun _ => rfl)) rfl sa_nil)))))
    sss_nil))
theorem U_is_alphabet {f : Addr} {fd : FuncData} (B : Bi mg) (hcls : ∀ c ∈ cls, ClsI C c) (g_LETTERS : GV C mg "LETTERS" c_LETTERS) (g_MOST_SIGNS : GV C mg "MOST_SIGNS" c_MOST_SIGNS) (F : FunD C.K "is_alphabet" "is_alphabet" (defArgs (top 3)) (defBody (top 3)) (defScope (top 3)) [] [] f fd) (hg : mg "is_alphabet" = some (.ref f)) : UF C P w mg base 1 "is_alphabet" F_is_alphabet :=
  uf_of F hg (F.bindsN fun _ _ _ _ _ _ us hl => match us, hl with | [_], _ => rfl) sc_is_alphabet m_is_alphabet fun cdv A outer s H E hr => b_is_alphabet B hcls g_LETTERS g_MOST_SIGNS hr
end
/-! ### _law_bag -/
abbrev N_law_bag : List Str := ["_law_script", "_law_salt", "_law_cell"]
noncomputable def m_law_bag : MSs :=
  (.cons (.set (.nm 1) (.con (.int (3840)))) (.cons (.for_ (.nm 2) (.val (.slc (.var 0) .no (.yes (.con (.int (63)))))) (.cons (.set (.nm 1) (.bin .mod (.call (un1 intM) (.cons (.bin .add (.bin .add (.bin .mul (.var 1) (.con (.int (47629)))) (.bin .mod (.call (un1 intM) (.cons (.var 2) .nil)) (.con (.int (2147483489))))) (.con (.int (29)))) .nil)) (.con (.int (2147483629))))) .nil)) (.cons (.ret (.new (.cons (.call (un1 listM) (.cons (.slc (.var 0) .no (.yes (.con (.int (63))))) .nil)) (.cons (.con (.int (0))) (.cons (.con (.int (0))) (.cons (.var 1) .nil)))))) .nil)))
noncomputable def F_law_bag : List D → M D := runF 1 3 m_law_bag
theorem sc_law_bag : FnScope N_law_bag ["_law_script"] (defScope (top 5)) := ⟨rfl, rfl, rfl, by decide +kernel, rfl, by decide +kernel, by decide +kernel⟩
section
variable {C : Ct} {P : Program} {w : World} {mg : Str → Option Value} {base : Heap}
theorem b_law_bag (B : Bi mg) (hcls : ∀ c ∈ cls, ClsI C c) {f : Addr} {cdv : Value} {A : Around} {outer : List PySem.Env} {s : Shared} {H : Hp} {E : XK} (hr : Room 0 (A.deeper (envOfC "_law_bag" (defScope (top 5)) s.heap.objs.size f cdv))) :
    SSs C (cxOf (L2.CX P w) P w C.K mg base N_law_bag "_law_bag" (defScope (top 5)) f cdv A outer s H E) (defBody (top 5)) m_law_bag := by
  have hu := rm_u hr
  have hu1 := rm_u1 hr
  have hN := sc_law_bag.nd
  exact (sss_cons (sst (i := 1) hN (by kernel_rfl) se_int rfl)
    (sss_cons (ss_for (passes_of rfl) rfl (si_val (se_slc (sv (i := 0) (by kernel_rfl)) so_no (so_yes se_int) rfl) rfl) (tgn (i := 2) hN (by kernel_rfl)) (sss_cons (sst (i := 1) hN (by kernel_rfl) (se_bin (o := .mod) (scl (co_int B.int) (by kernel_rfl) rfl (sac (se_bin (o := .add) (se_bin (o := .add) (se_bin (o := .mul) (sv (i := 1) (by kernel_rfl)) se_int rfl) (se_bin (o := .mod) (scl (co_int B.int) (by kernel_rfl) rfl (sac (sv (i := 2) (by kernel_rfl)) rfl sa_nil)) se_int rfl) rfl) se_int rfl) rfl sa_nil)) se_int rfl) rfl)
    sss_nil) (fun _ => rfl))
    (sss_cons (ss_ret (se_new (sac (scl (co_list rfl rfl B.list) (by kernel_rfl) rfl (sac (se_slc (sv (i := 0) (by kernel_rfl)) so_no (so_yes se_int) rfl) rfl sa_nil)) rfl (sac se_int rfl (sac se_int rfl (sac (sv (i := 1) (by kernel_rfl)) rfl sa_nil))))))
    sss_nil)))
theorem U_law_bag {f : Addr} {fd : FuncData} (B : Bi mg) (hcls : ∀ c ∈ cls, ClsI C c) (F : FunD C.K "_law_bag" "_law_bag" (defArgs (top 5)) (defBody (top 5)) (defScope (top 5)) [] [] f fd) (hg : mg "_law_bag" = some (.ref f)) : UF C P w mg base 1 "_law_bag" F_law_bag :=
  uf_of F hg (F.bindsN fun _ _ _ _ _ _ us hl => match us, hl with | [_], _ => rfl) sc_law_bag m_law_bag fun cdv A outer s H E hr => b_law_bag B hcls hr
end
/-! ### _law_pull -/
abbrev N_law_pull : List Str := ["_law_bag_here", "_law_amount", "_law_cell", "_law_got", "_law_seed"]
noncomputable def m_law_pull : MSs :=
  (.cons (.ite (.and (.cmp .eq (.idx (.var 0) (.con (.int (2)))) (.con (.int (0)))) (.cmp .lt (.idx (.var 0) (.con (.int (1)))) (.call (un1 lenM) (.cons (.idx (.var 0) (.con (.int (0)))) .nil)))) (.cons (.set (.nm 2) (.idx (.idx (.var 0) (.con (.int (0)))) (.idx (.var 0) (.con (.int (1)))))) (.cons (.setSub (.var 0) (.con (.int (1))) (.bin .add (.idx (.var 0) (.con (.int (1)))) (.con (.int (1))))) (.cons (.ite (.cmp .ge (.var 2) (.bin .pow (.con (.int (10))) (.con (.int (18))))) (.cons (.setSub (.var 0) (.con (.int (2))) (.var 2)) .nil) (.cons (.setSub (.var 0) (.con (.int (3))) (.bin .mod (.call (un1 intM) (.cons (.bin .add (.bin .add (.bin .mul (.idx (.var 0) (.con (.int (3)))) (.con (.int (46349)))) (.bin .mul (.bin .mod (.call (un1 intM) (.cons (.var 2) .nil)) (.con (.int (2147483489)))) (.con (.int (1201))))) (.con (.int (19)))) .nil)) (.con (.int (2147483629))))) .nil)) .nil))) .nil) (.cons (.ite (.cmp .gt (.idx (.var 0) (.con (.int (2)))) (.con (.int (0)))) (.cons (.set (.nm 3) (.bin .mod (.call (un1 intM) (.cons (.idx (.var 0) (.con (.int (2)))) .nil)) (.var 1))) (.cons (.setSub (.var 0) (.con (.int (2))) (.bin .fdv (.idx (.var 0) (.con (.int (2)))) (.var 1))) (.cons (.ret (.var 3)) .nil))) .nil) (.cons (.set (.nm 4) (.idx (.var 0) (.con (.int (3))))) (.cons (.setSub (.var 0) (.con (.int (3))) (.bin .mod (.call (un1 intM) (.cons (.bin .add (.bin .add (.bin .mul (.var 4) (.var 4)) (.bin .mul (.var 4) (.con (.int (30011))))) (.con (.int (1300021)))) .nil)) (.con (.int (2147483629))))) (.cons (.ret (.bin .mod (.call (un1 intM) (.cons (.bin .add (.bin .fdv (.idx (.var 0) (.con (.int (3)))) (.con (.int (73)))) (.bin .mul (.bin .mod (.call (un1 intM) (.cons (.idx (.var 0) (.con (.int (3)))) .nil)) (.con (.int (8089)))) (.con (.int (59))))) .nil)) (.var 1))) .nil)))))
noncomputable def F_law_pull : List D → M D := runF 2 5 m_law_pull
theorem sc_law_pull : FnScope N_law_pull ["_law_bag_here", "_law_amount"] (defScope (top 6)) := ⟨rfl, rfl, rfl, by decide +kernel, rfl, by decide +kernel, by decide +kernel⟩
section
variable {C : Ct} {P : Program} {w : World} {mg : Str → Option Value} {base : Heap}
theorem b_law_pull (B : Bi mg) (hcls : ∀ c ∈ cls, ClsI C c) {f : Addr} {cdv : Value} {A : Around} {outer : List PySem.Env} {s : Shared} {H : Hp} {E : XK} (hr : Room 0 (A.deeper (envOfC "_law_pull" (defScope (top 6)) s.heap.objs.size f cdv))) :
    SSs C (cxOf (L2.CX P w) P w C.K mg base N_law_pull "_law_pull" (defScope (top 6)) f cdv A outer s H E) (defBody (top 6)) m_law_pull := by
  have hu := rm_u hr
  have hu1 := rm_u1 hr
  have hN := sc_law_pull.nd
  exact (sss_cons (ss_if (st_sw (sw_and (st_cmp (o := .eq) (se_idx (sv (i := 0) (by kernel_rfl)) se_int rfl hu (fun _ _ => rfl)) se_int rfl hu rfl) (sw_one (st_cmp (o := .lt) (se_idx (sv (i := 0) (by kernel_rfl)) se_int rfl hu (fun _ _ => rfl)) (scl (co_len rfl B.len) (by kernel_rfl) rfl (sac (se_idx (sv (i := 0) (by kernel_rfl)) se_int rfl hu (fun _ _ => rfl)) rfl sa_nil)) rfl hu rfl)))) (sss_cons (sst (i := 2) hN (by kernel_rfl) (se_idx (se_idx (sv (i := 0) (by kernel_rfl)) se_int rfl hu (fun _ _ => rfl)) (se_idx (sv (i := 0) (by kernel_rfl)) se_int rfl hu (fun _ _ => rfl)) rfl hu (fun _ _ => rfl)) rfl)
    (sss_cons (ss_setSub (sv (i := 0) (by kernel_rfl)) se_int (se_bin (o := .add) (se_idx (sv (i := 0) (by kernel_rfl)) se_int rfl hu (fun _ _ => rfl)) se_int rfl) hu1 (fun _ => rfl) rfl rfl)
    (sss_cons (ss_if (st_cmp (o := .ge) (sv (i := 2) (by kernel_rfl)) (se_bin (o := .pow) se_int se_int rfl) rfl hu rfl) (sss_cons (ss_setSub (sv (i := 0) (by kernel_rfl)) se_int (sv (i := 2) (by kernel_rfl)) hu1 (fun _ => rfl) rfl rfl)
    sss_nil) (sss_cons (ss_setSub (sv (i := 0) (by kernel_rfl)) se_int (se_bin (o := .mod) (scl (co_int B.int) (by kernel_rfl) rfl (sac (se_bin (o := .add) (se_bin (o := .add) (se_bin (o := .mul) (se_idx (sv (i := 0) (by kernel_rfl)) se_int rfl hu (fun _ _ => rfl)) se_int rfl) (se_bin (o := .mul) (se_bin (o := .mod) (scl (co_int B.int) (by kernel_rfl) rfl (sac (sv (i := 2) (by kernel_rfl)) rfl sa_nil)) se_int rfl) se_int rfl) rfl) se_int rfl) rfl sa_nil)) se_int rfl) hu1 (fun _ => rfl) rfl rfl)
    sss_nil))
    sss_nil))) sss_nil)
    (sss_cons (ss_if (st_cmp (o := .gt) (se_idx (sv (i := 0) (by kernel_rfl)) se_int rfl hu (fun _ _ => rfl)) se_int rfl hu rfl) (sss_cons (sst (i := 3) hN (by kernel_rfl) (se_bin (o := .mod) (scl (co_int B.int) (by kernel_rfl) rfl (sac (se_idx (sv (i := 0) (by kernel_rfl)) se_int rfl hu (fun _ _ => rfl)) rfl sa_nil)) (sv (i := 1) (by kernel_rfl)) rfl) rfl)
    (sss_cons (ss_setSub (sv (i := 0) (by kernel_rfl)) se_int (se_bin (o := .fdv) (se_idx (sv (i := 0) (by kernel_rfl)) se_int rfl hu (fun _ _ => rfl)) (sv (i := 1) (by kernel_rfl)) rfl) hu1 (fun _ => rfl) rfl rfl)
    (sss_cons (ss_ret (sv (i := 3) (by kernel_rfl)))
    sss_nil))) sss_nil)
    (sss_cons (sst (i := 4) hN (by kernel_rfl) (se_idx (sv (i := 0) (by kernel_rfl)) se_int rfl hu (fun _ _ => rfl)) rfl)
    (sss_cons (ss_setSub (sv (i := 0) (by kernel_rfl)) se_int (se_bin (o := .mod) (scl (co_int B.int) (by kernel_rfl) rfl (sac (se_bin (o := .add) (se_bin (o := .add) (se_bin (o := .mul) (sv (i := 4) (by kernel_rfl)) (sv (i := 4) (by kernel_rfl)) rfl) (se_bin (o := .mul) (sv (i := 4) (by kernel_rfl)) se_int rfl) rfl) se_int rfl) rfl sa_nil)) se_int rfl) hu1 (fun _ => rfl) rfl rfl)
    (sss_cons (ss_ret (se_bin (o := .mod) (scl (co_int B.int) (by kernel_rfl) rfl (sac (se_bin (o := .add) (se_bin (o := .fdv) (se_idx (sv (i := 0) (by kernel_rfl)) se_int rfl hu (fun _ _ => rfl)) se_int rfl) (se_bin (o := .mul) (se_bin (o := .mod) (scl (co_int B.int) (by kernel_rfl) rfl (sac (se_idx (sv (i := 0) (by kernel_rfl)) se_int rfl hu (fun _ _ => rfl)) rfl sa_nil)) se_int rfl) se_int rfl) rfl) rfl sa_nil)) (sv (i := 1) (by kernel_rfl)) rfl))
    sss_nil)))))
theorem U_law_pull {f : Addr} {fd : FuncData} (B : Bi mg) (hcls : ∀ c ∈ cls, ClsI C c) (F : FunD C.K "_law_pull" "_law_pull" (defArgs (top 6)) (defBody (top 6)) (defScope (top 6)) [] [] f fd) (hg : mg "_law_pull" = some (.ref f)) : UF C P w mg base 1 "_law_pull" F_law_pull :=
  uf_of F hg (F.bindsN fun _ _ _ _ _ _ us hl => match us, hl with | [_, _], _ => rfl) sc_law_pull m_law_pull fun cdv A outer s H E hr => b_law_pull B hcls hr
end
/-! ### _law_is_alphabet -/
abbrev N_law_is_alphabet : List Str := ["_law_value", "_law_letters", "_law_sign", "_law_at"]
noncomputable def m_law_is_alphabet : MSs :=
  (.cons (.set (.nm 1) (.con (.str ['a', 'b', 'c', 'd', 'e', 'f', 'g', 'h', 'i', 'j', 'k', 'l', 'm', 'n', 'o', 'p', 'q', 'r', 's', 't', 'u', 'v', 'w', 'x', 'y', 'z']))) (.cons (.ite (.or (.not (.val (.call (un1 (isiM cls .str)) (.cons (.var 0) .nil)))) (.or (.not (.cmp2 .le .le (.con (.int (1))) (.call (un1 lenM) (.cons (.var 0) .nil)) (.con (.int (3))))) (.val (.call (un1 anyM) (.cons (.comp false [2] (.nm 2) (.val (.var 0)) .no (.cmp .nin (.var 2) (.var 1))) .nil))))) (.cons (.ret (.con (.bl false))) .nil) .nil) (.cons (.ret (.and (.cmp .eq (.call (un1 listM) (.cons (.var 0) .nil)) (.call (un1 sortedM) (.cons (.var 0) .nil))) (.call (un1 allM) (.cons (.comp false [3] (.nm 3) (.rng1 (.bin .sub (.call (un1 lenM) (.cons (.var 0) .nil)) (.con (.int (1))))) .no (.cmp .ne (.idx (.var 0) (.var 3)) (.idx (.var 0) (.bin .add (.var 3) (.con (.int (1))))))) .nil)))) .nil)))
noncomputable def F_law_is_alphabet : List D → M D := runF 1 4 m_law_is_alphabet
theorem sc_law_is_alphabet : FnScope N_law_is_alphabet ["_law_value"] (defScope (top 9)) := ⟨rfl, rfl, rfl, by decide +kernel, rfl, by decide +kernel, by decide +kernel⟩
section
variable {C : Ct} {P : Program} {w : World} {mg : Str → Option Value} {base : Heap}
theorem b_law_is_alphabet (B : Bi mg) (hcls : ∀ c ∈ cls, ClsI C c) {f : Addr} {cdv : Value} {A : Around} {outer : List PySem.Env} {s : Shared} {H : Hp} {E : XK} (hr : Room 0 (A.deeper (envOfC "_law_is_alphabet" (defScope (top 9)) s.heap.objs.size f cdv))) :
    SSs C (cxOf (L2.CX P w) P w C.K mg base N_law_is_alphabet "_law_is_alphabet" (defScope (top 9)) f cdv A outer s H E) (defBody (top 9)) m_law_is_alphabet := by
  have hu := rm_u hr
  have hu1 := rm_u1 hr
  have hN := sc_law_is_alphabet.nd
  exact (sss_cons (sst (i := 1) hN (by kernel_rfl) (se_str (by kernel_rfl) (by decide)) rfl)
    (sss_cons (ss_if (st_sw (sw_or (st_not (st_val (sis (T := .str) hcls B.isinstance B.str boot_str rfl (by kernel_rfl) rfl (sv (i := 0) (by kernel_rfl))) rfl (fun _ => rfl))) (sw_or (st_not (st_cmp2 (o1 := .le) (o2 := .le) se_int (scl (co_len rfl B.len) (by kernel_rfl) rfl (sac (sv (i := 0) (by kernel_rfl)) rfl sa_nil)) se_int rfl hu rfl)) (sw_one (st_val (scl (co_any rfl rfl B.any) (by kernel_rfl) rfl (sac (se_comp rfl hN (si_val (sv (i := 0) (by kernel_rfl)) rfl) (own := [(("_law_sign" : Str), 2)]) (g := (.nm 2)) (by kernel_rfl) (by decide) (fun _ _ _ _ _ => (tgn (i := 2) hN (by kernel_rfl))) (fun _ _ _ _ _ => rfl) (fun _ _ _ _ _ => (se_cmp (o := .nin) (sv (i := 2) (by kernel_rfl)) (sv (i := 1) (by kernel_rfl)) rfl hu rfl)) (fun _ => rfl)) rfl sa_nil)) rfl (fun _ => rfl)))))) (sss_cons (ss_ret se_bl)
    sss_nil) sss_nil)
    (sss_cons (ss_ret (se_and (se_cmp (o := .eq) (scl (co_list rfl rfl B.list) (by kernel_rfl) rfl (sac (sv (i := 0) (by kernel_rfl)) rfl sa_nil)) (scl (co_sorted rfl rfl B.sorted) (by kernel_rfl) rfl (sac (sv (i := 0) (by kernel_rfl)) rfl sa_nil)) rfl hu rfl) (se_one (scl (co_all rfl rfl B.all) (by kernel_rfl) rfl (sac (se_comp rfl hN (ir1 B.range (by kernel_rfl) rfl (se_bin (o := .sub) (scl (co_len rfl B.len) (by kernel_rfl) rfl (sac (sv (i := 0) (by kernel_rfl)) rfl sa_nil)) se_int rfl)) (own := [(("_law_at" : Str), 3)]) (g := (.nm 3)) (by kernel_rfl) (by decide) (fun _ _ _ _ _ => (tgn (i := 3) hN (by kernel_rfl))) (fun _ _ _ _ _ => rfl) (fun _ _ _ _ _ => (se_cmp (o := .ne) (se_idx (sv (i := 0) (by kernel_rfl)) (sv (i := 3) (by kernel_rfl)) rfl hu (fun _ _ => rfl)) (se_idx (sv (i := 0) (by kernel_rfl)) (se_bin (o := .add) (sv (i := 3) (by kernel_rfl)) se_int rfl) rfl hu (fun _ _ => rfl)) rfl hu rfl)) (fun _ => rfl)) rfl sa_nil)))))
    sss_nil)))
theorem U_law_is_alphabet {f : Addr} {fd : FuncData} (B : Bi mg) (hcls : ∀ c ∈ cls, ClsI C c) (F : FunD C.K "_law_is_alphabet" "_law_is_alphabet" (defArgs (top 9)) (defBody (top 9)) (defScope (top 9)) [] [] f fd) (hg : mg "_law_is_alphabet" = some (.ref f)) : UF C P w mg base 1 "_law_is_alphabet" F_law_is_alphabet :=
  uf_of F hg (F.bindsN fun _ _ _ _ _ _ us hl => match us, hl with | [_], _ => rfl) sc_law_is_alphabet m_law_is_alphabet fun cdv A outer s H E hr => b_law_is_alphabet B hcls hr
end
/-! ### _law_of -/
abbrev N_law_of : List Str := ["_law_bag_here", "_law_things"]
noncomputable def m_law_of : MSs :=
  (.cons (.ret (.idx (.var 1) (.call F_law_pull (.cons (.var 0) (.cons (.call (un1 lenM) (.cons (.var 1) .nil)) .nil))))) .nil)
noncomputable def F_law_of : List D → M D := runF 2 2 m_law_of
theorem sc_law_of : FnScope N_law_of ["_law_bag_here", "_law_things"] (defScope (top 7)) := ⟨rfl, rfl, rfl, by decide +kernel, rfl, by decide +kernel, by decide +kernel⟩
section
variable {C : Ct} {P : Program} {w : World} {mg : Str → Option Value} {base : Heap}
theorem b_law_of (B : Bi mg) (hcls : ∀ c ∈ cls, ClsI C c) (u_law_pull : UF C P w mg base 1 "_law_pull" F_law_pull) {f : Addr} {cdv : Value} {A : Around} {outer : List PySem.Env} {s : Shared} {H : Hp} {E : XK} (hr : Room 1 (A.deeper (envOfC "_law_of" (defScope (top 7)) s.heap.objs.size f cdv))) :
    SSs C (cxOf (L2.CX P w) P w C.K mg base N_law_of "_law_of" (defScope (top 7)) f cdv A outer s H E) (defBody (top 7)) m_law_of := by
  have hu := rm_u hr
  have hu1 := rm_u1 hr
  have hN := sc_law_of.nd
  exact (sss_cons (ss_ret (se_idx (sv (i := 1) (by kernel_rfl)) (scu u_law_pull hr (by first | decide | omega) rfl (by kernel_rfl) rfl (sac (sv (i := 0) (by kernel_rfl)) rfl (sac (scl (co_len rfl B.len) (by kernel_rfl) rfl (sac (sv (i := 1) (by kernel_rfl)) rfl sa_nil)) rfl sa_nil))) rfl hu (fun _ _ => rfl)))
    sss_nil)
theorem U_law_of {f : Addr} {fd : FuncData} (B : Bi mg) (hcls : ∀ c ∈ cls, ClsI C c) (u_law_pull : UF C P w mg base 1 "_law_pull" F_law_pull) (F : FunD C.K "_law_of" "_law_of" (defArgs (top 7)) (defBody (top 7)) (defScope (top 7)) [] [] f fd) (hg : mg "_law_of" = some (.ref f)) : UF C P w mg base 2 "_law_of" F_law_of :=
  uf_of F hg (F.bindsN fun _ _ _ _ _ _ us hl => match us, hl with | [_, _], _ => rfl) sc_law_of m_law_of fun cdv A outer s H E hr => b_law_of B hcls u_law_pull hr
end
/-! ### _law_same -/
abbrev N_law_same : List Str := ["_law_found", "_law_due", "_law_one", "_law_other"]
noncomputable def m_law_same (R_law_same : List D → M D) : MSs :=
  (.cons (.ite (.or (.val (.call (un1 (isiM cls .list)) (.cons (.var 1) .nil))) (.val (.call (un1 (isiM cls .tuple)) (.cons (.var 1) .nil)))) (.cons (.ite (.or (.cmp .ne (.call (un1 (isiM cls .list)) (.cons (.var 0) .nil)) (.call (un1 (isiM cls .list)) (.cons (.var 1) .nil))) (.cmp .ne (.call (un1 (isiM cls .tuple)) (.cons (.var 0) .nil)) (.call (un1 (isiM cls .tuple)) (.cons (.var 1) .nil)))) (.cons (.ret (.con (.bl false))) .nil) .nil) (.cons (.ret (.and (.cmp .eq (.call (un1 lenM) (.cons (.var 0) .nil)) (.call (un1 lenM) (.cons (.var 1) .nil))) (.call (un1 allM) (.cons (.comp false [2, 3] (.tp [2, 3]) (.zip (.var 0) (.var 1)) .no (.call R_law_same (.cons (.var 2) (.cons (.var 3) .nil)))) .nil)))) .nil)) .nil) (.cons (.ite (.or (.cmp .is (.var 1) (.con .non)) (.cmp .is (.var 0) (.con .non))) (.cons (.ret (.and (.cmp .is (.var 1) (.con .non)) (.cmp .is (.var 0) (.con .non)))) .nil) .nil) (.cons (.ite (.or (.cmp .ne (.call (un1 (isiM cls .bool)) (.cons (.var 0) .nil)) (.call (un1 (isiM cls .bool)) (.cons (.var 1) .nil))) (.cmp .ne (.call (un1 (isiM cls .int)) (.cons (.var 0) .nil)) (.call (un1 (isiM cls .int)) (.cons (.var 1) .nil)))) (.cons (.ret (.con (.bl false))) .nil) .nil) (.cons (.ret (.and (.cmp .eq (.call (un1 (isiM cls .str)) (.cons (.var 0) .nil)) (.call (un1 (isiM cls .str)) (.cons (.var 1) .nil))) (.cmp .eq (.var 0) (.var 1)))) .nil))))
noncomputable def FF_law_same : Nat → List D → M D
  | 0 => fun _ => stuckM
  | n + 1 => runF 2 4 (m_law_same (FF_law_same n))
noncomputable def F_law_same : List D → M D := FF_law_same 6
theorem sc_law_same : FnScope N_law_same ["_law_found", "_law_due"] (defScope (top 8)) := ⟨rfl, rfl, rfl, by decide +kernel, rfl, by decide +kernel, by decide +kernel⟩
section
variable {C : Ct} {P : Program} {w : World} {mg : Str → Option Value} {base : Heap}
theorem b_law_same {k : Nat} (hk : 0 ≤ k) {R_law_same : List D → M D} (B : Bi mg) (hcls : ∀ c ∈ cls, ClsI C c) (u_law_same : UF C P w mg base k "_law_same" R_law_same) {f : Addr} {cdv : Value} {A : Around} {outer : List PySem.Env} {s : Shared} {H : Hp} {E : XK} (hr : Room k (A.deeper (envOfC "_law_same" (defScope (top 8)) s.heap.objs.size f cdv))) :
    SSs C (cxOf (L2.CX P w) P w C.K mg base N_law_same "_law_same" (defScope (top 8)) f cdv A outer s H E) (defBody (top 8)) (m_law_same R_law_same) := by
  have hu := rm_u hr
  have hu1 := rm_u1 hr
  have hN := sc_law_same.nd
  exact (sss_cons (ss_if (st_sw (sw_or (st_val (sis (T := .list) hcls B.isinstance B.list boot_list rfl (by kernel_rfl) rfl (sv (i := 1) (by kernel_rfl))) rfl (fun _ => rfl)) (sw_one (st_val (sis (T := .tuple) hcls B.isinstance B.tuple boot_tuple rfl (by kernel_rfl) rfl (sv (i := 1) (by kernel_rfl))) rfl (fun _ => rfl))))) (sss_cons (ss_if (st_sw (sw_or (st_cmp (o := .ne) (sis (T := .list) hcls B.isinstance B.list boot_list rfl (by kernel_rfl) rfl (sv (i := 0) (by kernel_rfl))) (sis (T := .list) hcls B.isinstance B.list boot_list rfl (by kernel_rfl) rfl (sv (i := 1) (by kernel_rfl))) rfl hu rfl) (sw_one (st_cmp (o := .ne) (sis (T := .tuple) hcls B.isinstance B.tuple boot_tuple rfl (by kernel_rfl) rfl (sv (i := 0) (by kernel_rfl))) (sis (T := .tuple) hcls B.isinstance B.tuple boot_tuple rfl (by kernel_rfl) rfl (sv (i := 1) (by kernel_rfl))) rfl hu rfl)))) (sss_cons (ss_ret se_bl)
    sss_nil) sss_nil)
    (sss_cons (ss_ret (se_and (se_cmp (o := .eq) (scl (co_len rfl B.len) (by kernel_rfl) rfl (sac (sv (i := 0) (by kernel_rfl)) rfl sa_nil)) (scl (co_len rfl B.len) (by kernel_rfl) rfl (sac (sv (i := 1) (by kernel_rfl)) rfl sa_nil)) rfl hu rfl) (se_one (scl (co_all rfl rfl B.all) (by kernel_rfl) rfl (sac (se_comp rfl hN (izp B.zip rfl (by kernel_rfl) rfl rfl (sv (i := 0) (by kernel_rfl)) (sv (i := 1) (by kernel_rfl))) (own := [(("_law_one" : Str), 2), (("_law_other" : Str), 3)]) (g := (.tp [2, 3])) (by kernel_rfl) (by decide) (fun _ _ _ _ _ => (sg_tp hN rfl rfl (nmc (i := 2) (by kernel_rfl) (nmc (i := 3) (by kernel_rfl) .nil)))) (fun _ _ _ _ _ => rfl) (fun _ _ _ _ _ => (scu u_law_same hr (by first | decide | omega) rfl (by kernel_rfl) rfl (sac (sv (i := 2) (by kernel_rfl)) rfl (sac (sv (i := 3) (by kernel_rfl)) rfl sa_nil)))) (fun _ => rfl)) rfl sa_nil)))))
    sss_nil)) sss_nil)
    (sss_cons (ss_if (st_sw (sw_or (st_cmp (o := .is) (sv (i := 1) (by kernel_rfl)) se_non rfl hu rfl) (sw_one (st_cmp (o := .is) (sv (i := 0) (by kernel_rfl)) se_non rfl hu rfl)))) (sss_cons (ss_ret (se_and (se_cmp (o := .is) (sv (i := 1) (by kernel_rfl)) se_non rfl hu rfl) (se_one (se_cmp (o := .is) (sv (i := 0) (by kernel_rfl)) se_non rfl hu rfl))))
    sss_nil) sss_nil)
    (sss_cons (ss_if (st_sw (sw_or (st_cmp (o := .ne) (sis (T := .bool) hcls B.isinstance B.bool boot_bool rfl (by kernel_rfl) rfl (sv (i := 0) (by kernel_rfl))) (sis (T := .bool) hcls B.isinstance B.bool boot_bool rfl (by kernel_rfl) rfl (sv (i := 1) (by kernel_rfl))) rfl hu rfl) (sw_one (st_cmp (o := .ne) (sis (T := .int) hcls B.isinstance B.int boot_int rfl (by kernel_rfl) rfl (sv (i := 0) (by kernel_rfl))) (sis (T := .int) hcls B.isinstance B.int boot_int rfl (by kernel_rfl) rfl (sv (i := 1) (by kernel_rfl))) rfl hu rfl)))) (sss_cons (ss_ret se_bl)
    sss_nil) sss_nil)
    (sss_cons (ss_ret (se_and (se_cmp (o := .eq) (sis (T := .str) hcls B.isinstance B.str boot_str rfl (by kernel_rfl) rfl (sv (i := 0) (by kernel_rfl))) (sis (T := .str) hcls B.isinstance B.str boot_str rfl (by kernel_rfl) rfl (sv (i := 1) (by kernel_rfl))) rfl hu rfl) (se_one (se_cmp (o := .eq) (sv (i := 0) (by kernel_rfl)) (sv (i := 1) (by kernel_rfl)) rfl hu rfl))))
    sss_nil))))
theorem uf_law_same {f : Addr} {fd : FuncData} (B : Bi mg) (hcls : ∀ c ∈ cls, ClsI C c) (F : FunD C.K "_law_same" "_law_same" (defArgs (top 8)) (defBody (top 8)) (defScope (top 8)) [] [] f fd) (hg : mg "_law_same" = some (.ref f)) : ∀ n : Nat, UF C P w mg base (0 + n) "_law_same" (FF_law_same n)
  | 0 => uf_stuck (ps := ["_law_found", "_law_due"]) F hg (F.bindsN fun _ _ _ _ _ _ us hl => match us, hl with | [_, _], _ => rfl)
  | n + 1 => uf_of F hg (F.bindsN fun _ _ _ _ _ _ us hl => match us, hl with | [_, _], _ => rfl) sc_law_same (m_law_same (FF_law_same n)) fun cdv A outer s H E hr => b_law_same (by omega) B hcls (uf_law_same B hcls F hg n) hr
theorem U_law_same {f : Addr} {fd : FuncData} (B : Bi mg) (hcls : ∀ c ∈ cls, ClsI C c) (F : FunD C.K "_law_same" "_law_same" (defArgs (top 8)) (defBody (top 8)) (defScope (top 8)) [] [] f fd) (hg : mg "_law_same" = some (.ref f)) : UF C P w mg base 6 "_law_same" F_law_same := uf_law_same B hcls F hg 6
end
/-! ### law -/
abbrev N_law : List Str := ["_law_script", "_law_bag_here", "_law_turn", "_law_word", "_law_some", "_law_value", "_law_k"]
noncomputable def m_law : MSs :=
  (.cons (.set (.nm 1) (.call F_law_bag (.cons (.var 0) .nil))) (.cons (.for_ (.nm 2) (.rng1 (.con (.int (12)))) (.cons (.set (.nm 3) (.meth isStrD (un1m joinM) (.con (.str [])) (.cons (.comp false [6] (.nm 6) (.rng1 (.call F_law_pull (.cons (.var 1) (.cons (.con (.int (5))) .nil)))) .no (.call F_law_of (.cons (.var 1) (.cons (.con (.str ['a', 'b', 'c', 'y', 'z'])) .nil)))) .nil))) (.cons (.set (.nm 4) (.lst (.cons (.var 3) (.cons (.meth isStrD (un1m joinM) (.con (.str [])) (.cons (.call (un1 sortedM) (.cons (.var 3) .nil)) .nil)) .nil)))) (.cons (.set (.nm 4) (.bin .add (.var 4) (.lst (.cons (.bin .add (.var 3) (.call F_law_of (.cons (.var 1) (.cons (.lst (.cons (.con (.str [])) (.cons (.con (.str ['A'])) (.cons (.con (.str [' '])) (.cons (.con (.str ['1'])) (.cons (.con (.str ['\n'])) .nil)))))) .nil)))) .nil)))) (.cons (.set (.nm 4) (.bin .add (.var 4) (.lst (.cons (.call F_law_of (.cons (.var 1) (.cons (.lst (.cons (.con .non) (.cons (.con (.int (3))) (.cons (.con (.bl true)) (.cons (.tup (.cons (.con (.str ['a'])) .nil)) (.cons (.lst (.cons (.con (.str ['a'])) (.cons (.con (.str ['b'])) .nil))) (.cons (.con (.str ['a', 'b', 'c', 'd'])) (.cons (.con (.str [])) (.cons (.con (.str ['z', 'z'])) (.cons (.con (.str ['a', 'z'])) (.cons (.con (.str ['z', 'a'])) .nil))))))))))) .nil))) .nil)))) (.cons (.for_ (.nm 5) (.val (.var 4)) (.cons (.ite (.not (.val (.call F_law_same (.cons (.call F_is_alphabet (.cons (.var 5) .nil)) (.cons (.call F_law_is_alphabet (.cons (.var 5) .nil)) .nil))))) (.cons (.ret (.con (.bl false))) .nil) .nil) .nil)) .nil)))))) (.cons (.ret (.cmp .eq (.comp false [5] (.nm 5) (.val (.lst (.cons (.con (.str ['a'])) (.cons (.con (.str ['a', 'b', 'z'])) (.cons (.con (.str ['b', 'a'])) (.cons (.con (.str ['a', 'a'])) (.cons (.con (.str ['a', 'b', 'c', 'd'])) (.cons (.con (.str ['z'])) .nil)))))))) .no (.call F_is_alphabet (.cons (.var 5) .nil))) (.lst (.cons (.con (.bl true)) (.cons (.con (.bl true)) (.cons (.con (.bl false)) (.cons (.con (.bl false)) (.cons (.con (.bl false)) (.cons (.con (.bl true)) .nil))))))))) .nil)))
noncomputable def F_law : List D → M D := runF 1 7 m_law
theorem sc_law : FnScope N_law ["_law_script"] (defScope (top 10)) := ⟨rfl, rfl, rfl, by decide +kernel, rfl, by decide +kernel, by decide +kernel⟩
section
variable {C : Ct} {P : Program} {w : World} {mg : Str → Option Value} {base : Heap}
theorem b_law (B : Bi mg) (hcls : ∀ c ∈ cls, ClsI C c) (u_law_bag : UF C P w mg base 1 "_law_bag" F_law_bag) (u_law_is_alphabet : UF C P w mg base 1 "_law_is_alphabet" F_law_is_alphabet) (u_law_of : UF C P w mg base 2 "_law_of" F_law_of) (u_law_pull : UF C P w mg base 1 "_law_pull" F_law_pull) (u_law_same : UF C P w mg base 6 "_law_same" F_law_same) (u_is_alphabet : UF C P w mg base 1 "is_alphabet" F_is_alphabet) {f : Addr} {cdv : Value} {A : Around} {outer : List PySem.Env} {s : Shared} {H : Hp} {E : XK} (hr : Room 6 (A.deeper (envOfC "law" (defScope (top 10)) s.heap.objs.size f cdv))) :
    SSs C (cxOf (L2.CX P w) P w C.K mg base N_law "law" (defScope (top 10)) f cdv A outer s H E) (defBody (top 10)) m_law := by
  have hu := rm_u hr
  have hu1 := rm_u1 hr
  have hN := sc_law.nd
  exact (sss_cons (sst (i := 1) hN (by kernel_rfl) (scu u_law_bag hr (by first | decide | omega) rfl (by kernel_rfl) rfl (sac (sv (i := 0) (by kernel_rfl)) rfl sa_nil)) rfl)
    (sss_cons (ss_for (passes_of rfl) rfl (ir1 B.range (by kernel_rfl) rfl se_int) (tgn (i := 2) hN (by kernel_rfl)) (sss_cons (sst (i := 3) hN (by kernel_rfl) (se_join (se_str (by kernel_rfl) (by decide)) (se_comp rfl hN (ir1 B.range (by kernel_rfl) rfl (scu u_law_pull hr (by first | decide | omega) rfl (by kernel_rfl) rfl (sac (sv (i := 1) (by kernel_rfl)) rfl (sac se_int rfl sa_nil)))) (own := [(("_law_k" : Str), 6)]) (g := (.nm 6)) (by kernel_rfl) (by decide) (fun _ _ _ _ _ => (tgn (i := 6) hN (by kernel_rfl))) (fun _ _ _ _ _ => rfl) (fun _ _ _ _ _ => (scu u_law_of hr (by first | decide | omega) rfl (by kernel_rfl) rfl (sac (sv (i := 1) (by kernel_rfl)) rfl (sac (se_str (by kernel_rfl) (by decide)) rfl sa_nil)))) (fun _ => rfl)) rfl rfl rfl rfl) rfl)
    (sss_cons (sst (i := 4) hN (by kernel_rfl) (se_lst (sac (sv (i := 3) (by kernel_rfl)) rfl (sac (se_join (se_str (by kernel_rfl) (by decide)) (scl (co_sorted rfl rfl B.sorted) (by kernel_rfl) rfl (sac (sv (i := 3) (by kernel_rfl)) rfl sa_nil)) rfl rfl rfl rfl) rfl sa_nil))) rfl)
    (sss_cons (sst (i := 4) hN (by kernel_rfl) (se_bin (o := .add) (sv (i := 4) (by kernel_rfl)) (se_lst (sac (se_bin (o := .add) (sv (i := 3) (by kernel_rfl)) (scu u_law_of hr (by first | decide | omega) rfl (by kernel_rfl) rfl (sac (sv (i := 1) (by kernel_rfl)) rfl (sac (se_lst (sac (se_str (by kernel_rfl) (by decide)) rfl (sac (se_str (by kernel_rfl) (by decide)) rfl (sac (se_str (by kernel_rfl) (by decide)) rfl (sac (se_str (by kernel_rfl) (by decide)) rfl (sac (se_str (by kernel_rfl) (by decide)) rfl sa_nil)))))) rfl sa_nil))) rfl) rfl sa_nil)) rfl) rfl)
    (sss_cons (sst (i := 4) hN (by kernel_rfl) (se_bin (o := .add) (sv (i := 4) (by kernel_rfl)) (se_lst (sac (scu u_law_of hr (by first | decide | omega) rfl (by kernel_rfl) rfl (sac (sv (i := 1) (by kernel_rfl)) rfl (sac (se_lst (sac se_non rfl (sac se_int rfl (sac se_bl rfl (sac (se_tup (sac (se_str (by kernel_rfl) (by decide)) rfl sa_nil)) rfl (sac (se_lst (sac (se_str (by kernel_rfl) (by decide)) rfl (sac (se_str (by kernel_rfl) (by decide)) rfl sa_nil))) rfl (sac (se_str (by kernel_rfl) (by decide)) rfl (sac (se_str (by kernel_rfl) (by decide)) rfl (sac (se_str (by kernel_rfl) (by decide)) rfl (sac (se_str (by kernel_rfl) (by decide)) rfl (sac (se_str (by kernel_rfl) (by decide)) rfl sa_nil))))))))))) rfl sa_nil))) rfl sa_nil)) rfl) rfl)
    (sss_cons (ss_for (passes_of rfl) rfl (si_val (sv (i := 4) (by kernel_rfl)) rfl) (tgn (i := 5) hN (by kernel_rfl)) (sss_cons (ss_if (st_not (st_val (scu u_law_same hr (by first | decide | omega) rfl (by kernel_rfl) rfl (sac (scu u_is_alphabet hr (by first | decide | omega) rfl (by kernel_rfl) rfl (sac (sv (i := 5) (by kernel_rfl)) rfl sa_nil)) rfl (sac (scu u_law_is_alphabet hr (by first | decide | omega) rfl (by kernel_rfl) rfl (sac (sv (i := 5) (by kernel_rfl)) rfl sa_nil)) rfl sa_nil))) rfl (fun _ => rfl))) (sss_cons (ss_ret se_bl)
    sss_nil) sss_nil)
    sss_nil) (fun _ => rfl))
    sss_nil))))) (fun _ => rfl))
    (sss_cons (ss_ret (se_cmp (o := .eq) (se_comp rfl hN (si_val (se_lst (sac (se_str (by kernel_rfl) (by decide)) rfl (sac (se_str (by kernel_rfl) (by decide)) rfl (sac (se_str (by kernel_rfl) (by decide)) rfl (sac (se_str (by kernel_rfl) (by decide)) rfl (sac (se_str (by kernel_rfl) (by decide)) rfl (sac (se_str (by kernel_rfl) (by decide)) rfl sa_nil))))))) rfl) (own := [(("_law_value" : Str), 5)]) (g := (.nm 5)) (by kernel_rfl) (by decide) (fun _ _ _ _ _ => (tgn (i := 5) hN (by kernel_rfl))) (fun _ _ _ _ _ => rfl) (fun _ _ _ _ _ => (scu u_is_alphabet hr (by first | decide | omega) rfl (by kernel_rfl) rfl (sac (sv (i := 5) (by kernel_rfl)) rfl sa_nil))) (fun _ => rfl)) (se_lst (sac se_bl rfl (sac se_bl rfl (sac se_bl rfl (sac se_bl rfl (sac se_bl rfl (sac se_bl rfl sa_nil))))))) rfl hu rfl))
    sss_nil)))
theorem U_law {f : Addr} {fd : FuncData} (B : Bi mg) (hcls : ∀ c ∈ cls, ClsI C c) (u_law_bag : UF C P w mg base 1 "_law_bag" F_law_bag) (u_law_is_alphabet : UF C P w mg base 1 "_law_is_alphabet" F_law_is_alphabet) (u_law_of : UF C P w mg base 2 "_law_of" F_law_of) (u_law_pull : UF C P w mg base 1 "_law_pull" F_law_pull) (u_law_same : UF C P w mg base 6 "_law_same" F_law_same) (u_is_alphabet : UF C P w mg base 1 "is_alphabet" F_is_alphabet) (F : FunD C.K "law" "law" (defArgs (top 10)) (defBody (top 10)) (defScope (top 10)) [] [] f fd) (hg : mg "law" = some (.ref f)) : UF C P w mg base 7 "law" F_law :=
  uf_of F hg (F.bindsN fun _ _ _ _ _ _ us hl => match us, hl with | [_], _ => rfl) sc_law m_law fun cdv A outer s H E hr => b_law B hcls u_law_bag u_law_is_alphabet u_law_of u_law_pull u_law_same u_is_alphabet hr
end
end LK01
namespace LK01
open Fs
open Classical
/-! ### the plain law -/
def lets : List Char := ['a', 'b', 'c', 'd', 'e', 'f', 'g', 'h', 'i', 'j', 'k', 'l', 'm', 'n', 'o', 'p', 'q', 'r', 's', 't', 'u', 'v', 'w', 'x', 'y', 'z']
theorem hlets : (['a', 'b', 'c', 'd', 'e', 'f', 'g', 'h', 'i', 'j', 'k', 'l', 'm', 'n', 'o', 'p', 'q', 'r', 's', 't', 'u', 'v', 'w', 'x', 'y', 'z'] : List Char) = lets := rfl
theorem cLet : c_LETTERS = .str lets := rfl
def isA : List Char → Bool
  | [a] => decide (a ∈ lets)
  | [a, b] => decide (a ∈ lets) && decide (b ∈ lets) && decide (a.toNat < b.toNat)
  | [a, b, c] => decide (a ∈ lets) && decide (b ∈ lets) && decide (c ∈ lets) && decide (a.toNat < b.toNat) && decide (b.toNat < c.toNat)
  | _ => false
theorem isa_str (x : List Char) (m : Store) : F_is_alphabet [.str x] m = .ok (.bl (isA x)) m := by
  match x with
  | [] => simp [F_is_alphabet, runF, m_is_alphabet, c_MOST_SIGNS, cLet, s_cons, s_nil, s_ite, s_ret, s_set, s_exp, t_or, t_and, t_not, t_val, t_cmp, t_cmp2, x_and, x_or, x_not, x_cmp, x_cmp2, x_call, x_cons, x_nil, x_var, x_con, x_idx, x_bin, x_lst, x_tup, x_compD, x_meth, x_slc, x_no, x_yes, i_rng1, i_rng2, i_val, i_zip, c_no, c_yes, varM, thenS, M.bind_run, M.ite_ap, un1_ap, un1m_ap, chkM_ap, isiM, dty, isiB, truM, cmpM, inM, eqM, deref, plain, plains, dep, deps, eqD, eqDs, isNonD, blM, lenM, intM, listM, idxM, L2.atI, L2.ixN, readQ, readL, rng1M, rngL, itmM, bodyC, asgG, wipeE, bi_add, bi_sub, bi_mul, bi_mod, bi_fdv, allM, anyM, blsO, compM_n, compM_c, Itm.ok, PySem.sizeLine_eq, isA]
  | [a] => by_cases h : a ∈ lets <;> simp [F_is_alphabet, runF, m_is_alphabet, c_MOST_SIGNS, cLet, s_cons, s_nil, s_ite, s_ret, s_set, s_exp, t_or, t_and, t_not, t_val, t_cmp, t_cmp2, x_and, x_or, x_not, x_cmp, x_cmp2, x_call, x_cons, x_nil, x_var, x_con, x_idx, x_bin, x_lst, x_tup, x_compD, x_meth, x_slc, x_no, x_yes, i_rng1, i_rng2, i_val, i_zip, c_no, c_yes, varM, thenS, M.bind_run, M.ite_ap, un1_ap, un1m_ap, chkM_ap, isiM, dty, isiB, truM, cmpM, inM, eqM, deref, plain, plains, dep, deps, eqD, eqDs, isNonD, blM, lenM, intM, listM, idxM, L2.atI, L2.ixN, readQ, readL, rng1M, rngL, itmM, bodyC, asgG, wipeE, bi_add, bi_sub, bi_mul, bi_mod, bi_fdv, allM, anyM, blsO, compM_n, compM_c, Itm.ok, PySem.sizeLine_eq, isA, h]
  | [a, b] => by_cases h : a ∈ lets <;> by_cases h1 : b ∈ lets <;> simp [F_is_alphabet, runF, m_is_alphabet, c_MOST_SIGNS, cLet, s_cons, s_nil, s_ite, s_ret, s_set, s_exp, t_or, t_and, t_not, t_val, t_cmp, t_cmp2, x_and, x_or, x_not, x_cmp, x_cmp2, x_call, x_cons, x_nil, x_var, x_con, x_idx, x_bin, x_lst, x_tup, x_compD, x_meth, x_slc, x_no, x_yes, i_rng1, i_rng2, i_val, i_zip, c_no, c_yes, varM, thenS, M.bind_run, M.ite_ap, un1_ap, un1m_ap, chkM_ap, isiM, dty, isiB, truM, cmpM, inM, eqM, deref, plain, plains, dep, deps, eqD, eqDs, isNonD, blM, lenM, intM, listM, idxM, L2.atI, L2.ixN, readQ, readL, rng1M, rngL, itmM, bodyC, asgG, wipeE, bi_add, bi_sub, bi_mul, bi_mod, bi_fdv, allM, anyM, blsO, compM_n, compM_c, Itm.ok, PySem.sizeLine_eq, isA, ltT_one, List.range_succ, h, h1]
  | [a, b, c] => by_cases h : a ∈ lets <;> by_cases h1 : b ∈ lets <;> by_cases h2 : c ∈ lets <;> simp [F_is_alphabet, runF, m_is_alphabet, c_MOST_SIGNS, cLet, s_cons, s_nil, s_ite, s_ret, s_set, s_exp, t_or, t_and, t_not, t_val, t_cmp, t_cmp2, x_and, x_or, x_not, x_cmp, x_cmp2, x_call, x_cons, x_nil, x_var, x_con, x_idx, x_bin, x_lst, x_tup, x_compD, x_meth, x_slc, x_no, x_yes, i_rng1, i_rng2, i_val, i_zip, c_no, c_yes, varM, thenS, M.bind_run, M.ite_ap, un1_ap, un1m_ap, chkM_ap, isiM, dty, isiB, truM, cmpM, inM, eqM, deref, plain, plains, dep, deps, eqD, eqDs, isNonD, blM, lenM, intM, listM, idxM, L2.atI, L2.ixN, readQ, readL, rng1M, rngL, itmM, bodyC, asgG, wipeE, bi_add, bi_sub, bi_mul, bi_mod, bi_fdv, allM, anyM, blsO, compM_n, compM_c, Itm.ok, PySem.sizeLine_eq, isA, ltT_one, List.range_succ, h, h1, h2]
  | a :: b :: c :: d :: r =>
    have h1 : (1 : Int) ≤ ↑r.length + 1 + 1 + 1 + 1 := by omega
    have h2 : ¬ ((r.length : Int) + 1 + 1 + 1 + 1 ≤ 3) := by omega
    simp [F_is_alphabet, runF, m_is_alphabet, c_MOST_SIGNS, cLet, s_cons, s_nil, s_ite, s_ret, s_set, s_exp, t_or, t_and, t_not, t_val, t_cmp, t_cmp2, x_and, x_or, x_not, x_cmp, x_cmp2, x_call, x_cons, x_nil, x_var, x_con, x_idx, x_bin, x_lst, x_tup, x_compD, x_meth, x_slc, x_no, x_yes, i_rng1, i_rng2, i_val, i_zip, c_no, c_yes, varM, thenS, M.bind_run, M.ite_ap, un1_ap, un1m_ap, chkM_ap, isiM, dty, isiB, truM, cmpM, inM, eqM, deref, plain, plains, dep, deps, eqD, eqDs, isNonD, blM, lenM, intM, listM, idxM, L2.atI, L2.ixN, readQ, readL, rng1M, rngL, itmM, bodyC, asgG, wipeE, bi_add, bi_sub, bi_mul, bi_mod, bi_fdv, allM, anyM, blsO, compM_n, compM_c, Itm.ok, PySem.sizeLine_eq, isA, h1, h2]
def notStr : D → Bool
  | .non => true
  | .bl _ => true
  | .int _ => true
  | .lst _ => true
  | .tup _ => true
  | _ => false
theorem isa_no {d : D} (h : notStr d = true) (m : Store) : F_is_alphabet [d] m = .ok (.bl false) m := by
  cases d <;> simp [notStr] at h <;> simp [F_is_alphabet, runF, m_is_alphabet, c_MOST_SIGNS, cLet, s_cons, s_nil, s_ite, s_ret, s_set, s_exp, t_or, t_and, t_not, t_val, t_cmp, t_cmp2, x_and, x_or, x_not, x_cmp, x_cmp2, x_call, x_cons, x_nil, x_var, x_con, x_idx, x_bin, x_lst, x_tup, x_compD, x_meth, x_slc, x_no, x_yes, i_rng1, i_rng2, i_val, i_zip, c_no, c_yes, varM, thenS, M.bind_run, M.ite_ap, un1_ap, un1m_ap, chkM_ap, isiM, dty, isiB, truM, cmpM, inM, eqM, deref, plain, plains, dep, deps, eqD, eqDs, isNonD, blM, lenM, intM, listM, idxM, L2.atI, L2.ixN, readQ, readL, rng1M, rngL, itmM, bodyC, asgG, wipeE, bi_add, bi_sub, bi_mul, bi_mod, bi_fdv, allM, anyM, blsO, compM_n, compM_c, Itm.ok, PySem.sizeLine_eq]
theorem lisa_no {d : D} (h : notStr d = true) (m : Store) : F_law_is_alphabet [d] m = .ok (.bl false) m := by
  cases d <;> simp [notStr] at h <;> simp [F_law_is_alphabet, runF, m_law_is_alphabet, hlets, s_cons, s_nil, s_ite, s_ret, s_set, s_exp, t_or, t_and, t_not, t_val, t_cmp, t_cmp2, x_and, x_or, x_not, x_cmp, x_cmp2, x_call, x_cons, x_nil, x_var, x_con, x_idx, x_bin, x_lst, x_tup, x_compD, x_meth, x_slc, x_no, x_yes, i_rng1, i_rng2, i_val, i_zip, c_no, c_yes, varM, thenS, M.bind_run, M.ite_ap, un1_ap, un1m_ap, chkM_ap, isiM, dty, isiB, truM, cmpM, inM, eqM, deref, plain, plains, dep, deps, eqD, eqDs, isNonD, blM, lenM, intM, listM, idxM, L2.atI, L2.ixN, readQ, readL, rng1M, rngL, itmM, bodyC, asgG, wipeE, bi_add, bi_sub, bi_mul, bi_mod, bi_fdv, allM, anyM, blsO, compM_n, compM_c, Itm.ok, PySem.sizeLine_eq]
theorem char_eq {a b : Char} : a = b ↔ a.toNat = b.toNat := by
  constructor
  · intro h; rw [h]
  · intro h; exact Char.ext (UInt32.toNat_inj.mp h)
theorem char_beq (a b : Char) : (a == b) = decide (a.toNat = b.toNat) := by
  rw [Bool.eq_iff_iff, beq_iff_eq, decide_eq_true_iff]
  exact char_eq
theorem tri (a b : Char) : (a.toNat < b.toNat ∧ ¬ b.toNat < a.toNat ∧ ¬ a.toNat = b.toNat ∧ ¬ b.toNat = a.toNat) ∨ (¬ a.toNat < b.toNat ∧ b.toNat < a.toNat ∧ ¬ a.toNat = b.toNat ∧ ¬ b.toNat = a.toNat) ∨ a = b := by
  rcases Nat.lt_trichotomy a.toNat b.toNat with h | h | h
  · exact .inl ⟨h, by omega, by omega, by omega⟩
  · exact .inr (.inr (char_eq.mpr h))
  · exact .inr (.inl ⟨by omega, h, by omega, by omega⟩)
theorem lisa_str (x : List Char) (m : Store) : F_law_is_alphabet [.str x] m = .ok (.bl (isA x)) m := by
  match x with
  | [] => simp [F_law_is_alphabet, runF, m_law_is_alphabet, hlets, s_cons, s_nil, s_ite, s_ret, s_set, s_exp, t_or, t_and, t_not, t_val, t_cmp, t_cmp2, x_and, x_or, x_not, x_cmp, x_cmp2, x_call, x_cons, x_nil, x_var, x_con, x_idx, x_bin, x_lst, x_tup, x_compD, x_meth, x_slc, x_no, x_yes, i_rng1, i_rng2, i_val, i_zip, c_no, c_yes, varM, thenS, M.bind_run, M.ite_ap, un1_ap, un1m_ap, chkM_ap, isiM, dty, isiB, truM, cmpM, inM, eqM, deref, plain, plains, dep, deps, eqD, eqDs, isNonD, blM, lenM, intM, listM, idxM, L2.atI, L2.ixN, readQ, readL, rng1M, rngL, itmM, bodyC, asgG, wipeE, bi_add, bi_sub, bi_mul, bi_mod, bi_fdv, allM, anyM, blsO, compM_n, compM_c, Itm.ok, PySem.sizeLine_eq, isA]
  | [a] => by_cases h : a ∈ lets <;> simp [F_law_is_alphabet, runF, m_law_is_alphabet, hlets, s_cons, s_nil, s_ite, s_ret, s_set, s_exp, t_or, t_and, t_not, t_val, t_cmp, t_cmp2, x_and, x_or, x_not, x_cmp, x_cmp2, x_call, x_cons, x_nil, x_var, x_con, x_idx, x_bin, x_lst, x_tup, x_compD, x_meth, x_slc, x_no, x_yes, i_rng1, i_rng2, i_val, i_zip, c_no, c_yes, varM, thenS, M.bind_run, M.ite_ap, un1_ap, un1m_ap, chkM_ap, isiM, dty, isiB, truM, cmpM, inM, eqM, deref, plain, plains, dep, deps, eqD, eqDs, isNonD, blM, lenM, intM, listM, idxM, L2.atI, L2.ixN, readQ, readL, rng1M, rngL, itmM, bodyC, asgG, wipeE, bi_add, bi_sub, bi_mul, bi_mod, bi_fdv, allM, anyM, blsO, compM_n, compM_c, Itm.ok, PySem.sizeLine_eq, isA, h, sortedM, sortT, insT, leT, ltT_one]
  | [a, b] =>
    by_cases h : a ∈ lets <;> by_cases h1 : b ∈ lets
    case pos =>
      by_cases h2 : b.toNat < a.toNat <;> by_cases h3 : a.toNat = b.toNat <;> simp [F_law_is_alphabet, runF, m_law_is_alphabet, hlets, s_cons, s_nil, s_ite, s_ret, s_set, s_exp, t_or, t_and, t_not, t_val, t_cmp, t_cmp2, x_and, x_or, x_not, x_cmp, x_cmp2, x_call, x_cons, x_nil, x_var, x_con, x_idx, x_bin, x_lst, x_tup, x_compD, x_meth, x_slc, x_no, x_yes, i_rng1, i_rng2, i_val, i_zip, c_no, c_yes, varM, thenS, M.bind_run, M.ite_ap, un1_ap, un1m_ap, chkM_ap, isiM, dty, isiB, truM, cmpM, inM, eqM, deref, plain, plains, dep, deps, eqD, eqDs, isNonD, blM, lenM, intM, listM, idxM, L2.atI, L2.ixN, readQ, readL, rng1M, rngL, itmM, bodyC, asgG, wipeE, bi_add, bi_sub, bi_mul, bi_mod, bi_fdv, allM, anyM, blsO, compM_n, compM_c, Itm.ok, PySem.sizeLine_eq, isA, h, h1, h2, h3, sortedM, sortT, insT, leT, ltT_one, List.range_succ, char_beq, char_eq] <;> omega
    all_goals simp [F_law_is_alphabet, runF, m_law_is_alphabet, hlets, s_cons, s_nil, s_ite, s_ret, s_set, s_exp, t_or, t_and, t_not, t_val, t_cmp, t_cmp2, x_and, x_or, x_not, x_cmp, x_cmp2, x_call, x_cons, x_nil, x_var, x_con, x_idx, x_bin, x_lst, x_tup, x_compD, x_meth, x_slc, x_no, x_yes, i_rng1, i_rng2, i_val, i_zip, c_no, c_yes, varM, thenS, M.bind_run, M.ite_ap, un1_ap, un1m_ap, chkM_ap, isiM, dty, isiB, truM, cmpM, inM, eqM, deref, plain, plains, dep, deps, eqD, eqDs, isNonD, blM, lenM, intM, listM, idxM, L2.atI, L2.ixN, readQ, readL, rng1M, rngL, itmM, bodyC, asgG, wipeE, bi_add, bi_sub, bi_mul, bi_mod, bi_fdv, allM, anyM, blsO, compM_n, compM_c, Itm.ok, PySem.sizeLine_eq, isA, h, h1]
  | [a, b, c] =>
    by_cases h : a ∈ lets <;> by_cases h1 : b ∈ lets <;> by_cases h4 : c ∈ lets
    case pos =>
      rcases tri a b with ⟨p1, p2, p3, p4⟩ | ⟨p1, p2, p3, p4⟩ | he1 <;> rcases tri b c with ⟨q1, q2, q3, q4⟩ | ⟨q1, q2, q3, q4⟩ | he2 <;> rcases tri a c with ⟨r1, r2, r3, r4⟩ | ⟨r1, r2, r3, r4⟩ | he3 <;> subst_vars <;> first | omega | simp [F_law_is_alphabet, runF, m_law_is_alphabet, hlets, s_cons, s_nil, s_ite, s_ret, s_set, s_exp, t_or, t_and, t_not, t_val, t_cmp, t_cmp2, x_and, x_or, x_not, x_cmp, x_cmp2, x_call, x_cons, x_nil, x_var, x_con, x_idx, x_bin, x_lst, x_tup, x_compD, x_meth, x_slc, x_no, x_yes, i_rng1, i_rng2, i_val, i_zip, c_no, c_yes, varM, thenS, M.bind_run, M.ite_ap, un1_ap, un1m_ap, chkM_ap, isiM, dty, isiB, truM, cmpM, inM, eqM, deref, plain, plains, dep, deps, eqD, eqDs, isNonD, blM, lenM, intM, listM, idxM, L2.atI, L2.ixN, readQ, readL, rng1M, rngL, itmM, bodyC, asgG, wipeE, bi_add, bi_sub, bi_mul, bi_mod, bi_fdv, allM, anyM, blsO, compM_n, compM_c, Itm.ok, PySem.sizeLine_eq, isA, sortedM, sortT, insT, leT, ltT_one, List.range_succ, char_beq, char_eq, *]
    all_goals simp [F_law_is_alphabet, runF, m_law_is_alphabet, hlets, s_cons, s_nil, s_ite, s_ret, s_set, s_exp, t_or, t_and, t_not, t_val, t_cmp, t_cmp2, x_and, x_or, x_not, x_cmp, x_cmp2, x_call, x_cons, x_nil, x_var, x_con, x_idx, x_bin, x_lst, x_tup, x_compD, x_meth, x_slc, x_no, x_yes, i_rng1, i_rng2, i_val, i_zip, c_no, c_yes, varM, thenS, M.bind_run, M.ite_ap, un1_ap, un1m_ap, chkM_ap, isiM, dty, isiB, truM, cmpM, inM, eqM, deref, plain, plains, dep, deps, eqD, eqDs, isNonD, blM, lenM, intM, listM, idxM, L2.atI, L2.ixN, readQ, readL, rng1M, rngL, itmM, bodyC, asgG, wipeE, bi_add, bi_sub, bi_mul, bi_mod, bi_fdv, allM, anyM, blsO, compM_n, compM_c, Itm.ok, PySem.sizeLine_eq, isA, h, h1, h4]
  | a :: b :: c :: d :: r =>
    have h1 : (1 : Int) ≤ ↑r.length + 1 + 1 + 1 + 1 := by omega
    have h2 : ¬ ((r.length : Int) + 1 + 1 + 1 + 1 ≤ 3) := by omega
    simp [F_law_is_alphabet, runF, m_law_is_alphabet, hlets, s_cons, s_nil, s_ite, s_ret, s_set, s_exp, t_or, t_and, t_not, t_val, t_cmp, t_cmp2, x_and, x_or, x_not, x_cmp, x_cmp2, x_call, x_cons, x_nil, x_var, x_con, x_idx, x_bin, x_lst, x_tup, x_compD, x_meth, x_slc, x_no, x_yes, i_rng1, i_rng2, i_val, i_zip, c_no, c_yes, varM, thenS, M.bind_run, M.ite_ap, un1_ap, un1m_ap, chkM_ap, isiM, dty, isiB, truM, cmpM, inM, eqM, deref, plain, plains, dep, deps, eqD, eqDs, isNonD, blM, lenM, intM, listM, idxM, L2.atI, L2.ixN, readQ, readL, rng1M, rngL, itmM, bodyC, asgG, wipeE, bi_add, bi_sub, bi_mul, bi_mod, bi_fdv, allM, anyM, blsO, compM_n, compM_c, Itm.ok, PySem.sizeLine_eq, isA, h1, h2]
theorem pull0 : Pull F_law_pull := pull_ok (k := ⟨46349, 2147483489, 1201, 2147483629, 30011, 1300021, 8089⟩) ⟨by decide, by decide, by decide, by decide, by decide, by decide, by decide⟩
theorem of0 : OfOk F_law_of := of_ok pull0
theorem bag0 (ns : List Int) (hl : ns.length ≤ 63) (m : Store) : ∃ l, Bag l ∧ F_law_bag [.frz (ns.map .int)] m = .ok (.obj m.length) (m ++ [.lst l]) := bag_ok (c1 := 3840) (c2 := 47629) (c3 := 2147483489) (c4 := 2147483629) (by decide) (by decide) (by decide) (by decide) ns hl m
theorem ffs : ∀ n, FF_law_same n = ffSame cls n
  | 0 => rfl
  | n + 1 => by
    have := ffs n
    show runF 2 4 (m_law_same (FF_law_same n)) = _
    rw [this]
    rfl
theorem same0 (d : D) (m : Store) (h : okS d = true) (hd : dep d < 6) : F_law_same [d, d] m = .ok (.bl true) m := by
  show FF_law_same 6 [d, d] m = _
  rw [ffs]
  exact same_refl cls 6 d m h hd

theorem strs_of : ∀ {ys : List D}, (∀ y ∈ ys, ∃ c : Char, y = .str [c]) → ∃ cs : List Char, ys = cs.map fun c => .str [c]
  | [], _ => ⟨[], rfl⟩
  | y :: ys, h => by
    obtain ⟨c, rfl⟩ := h y (List.mem_cons_self ..)
    obtain ⟨cs, rfl⟩ := strs_of fun z hz => h z (List.mem_cons_of_mem _ hz)
    exact ⟨c :: cs, rfl⟩
theorem strsO_map : ∀ l : List (List Char), strsO (l.map D.str) = some l
  | [] => rfl
  | x :: l => by simp only [List.map_cons, strsO, strsO_map l]; rfl
theorem glue_ones : ∀ cs : List Char, glue [] (cs.map fun c => [c]) = cs
  | [] => rfl
  | [c] => rfl
  | c :: d :: r => by
    have := glue_ones (d :: r)
    simp only [List.map_cons, glue] at this ⊢
    rw [this]; rfl
theorem join_ones (cs : List Char) (m : Store) (h : cs.length ≤ 1000) : joinM (.str []) (.lst (cs.map fun c => D.str [c])) m = .ok (.str cs) m := by
  have e : (cs.map fun c => D.str [c]) = (cs.map fun c => [c]).map D.str := by simp
  have l : ((cs.map fun c => [c]).map List.length).sum = cs.length := by
    clear h e
    induction cs with
    | nil => rfl
    | cons c cs ih => simp at ih ⊢; omega
  simp only [joinM, readQ, readL, e, strsO_map, glue_ones, l]
  rw [if_pos (by simp; omega)]
theorem sum_perm {l k : List (List Char)} (h : l.Perm k) : (l.map List.length).sum = (k.map List.length).sum := (h.map List.length).sum_nat
theorem join_sorted (x : List Char) (m : Store) (h : x.length ≤ 1000) : ∃ z, joinM (.str []) (.lst ((sortT (x.map fun c => [c])).map D.str)) m = .ok (.str z) m := by
  have l : ((sortT (x.map fun c => [c])).map List.length).sum = x.length := by
    rw [sum_perm (sortT_perm _)]
    clear h
    induction x with
    | nil => rfl
    | cons c cs ih => simp at ih ⊢; omega
  refine ⟨glue [] (sortT (x.map fun c => [c])), ?_⟩
  simp only [joinM, readQ, readL, strsO_map, l]
  rw [if_pos (by simp; omega)]
def Val (d : D) : Prop := notStr d = true ∨ ∃ x, d = .str x
theorem both {d : D} (h : Val d) (m : Store) : ∃ b, F_is_alphabet [d] m = .ok (.bl b) m ∧ F_law_is_alphabet [d] m = .ok (.bl b) m := by
  rcases h with h | ⟨x, rfl⟩
  · exact ⟨false, isa_no h m, lisa_no h m⟩
  · exact ⟨isA x, isa_str x m, lisa_str x m⟩
theorem law_true : ∀ ns : List Int, ns.length ≤ 63 → ∃ m, F_law [.frz (ns.map .int)] [] = .ok (.bl true) m := fun ns hl => by
  obtain ⟨l, hb, eb⟩ := bag0 ns hl []
  have hbag : BagAt [.lst l] 0 := ⟨l, rfl, hb⟩
  have es : ∀ (r : Env) (m : Store), evI (.rng1 (.con (.int (12)))) r m = .ok ⟨rngL 0 12, none⟩ m := fun r m => by simp [s_cons, s_nil, s_ite, s_ret, s_set, s_exp, t_or, t_and, t_not, t_val, t_cmp, t_cmp2, x_and, x_or, x_not, x_cmp, x_cmp2, x_call, x_cons, x_nil, x_var, x_con, x_idx, x_bin, x_lst, x_tup, x_compD, x_meth, x_slc, x_no, x_yes, i_rng1, i_rng2, i_val, i_zip, c_no, c_yes, varM, thenS, M.bind_run, M.ite_ap, un1_ap, un1m_ap, chkM_ap, isiM, dty, isiB, truM, cmpM, inM, eqM, deref, plain, plains, dep, deps, eqD, eqDs, isNonD, blM, lenM, intM, listM, idxM, L2.atI, L2.ixN, readQ, readL, rng1M, rngL, itmM, bodyC, asgG, wipeE, bi_add, bi_sub, bi_mul, bi_mod, bi_fdv, allM, anyM, blsO, compM_n, compM_c, Itm.ok, PySem.sizeLine_eq]
  obtain ⟨r', m', ef, x2, x3, x4, x5, x6, er, hb'⟩ := forM_go (t := ⟨rngL 0 12, none⟩) rfl (body := bodyF (.nm 2) (.cons (.set (.nm 3) (.meth isStrD (un1m joinM) (.con (.str [])) (.cons (.comp false [6] (.nm 6) (.rng1 (.call F_law_pull (.cons (.var 1) (.cons (.con (.int (5))) .nil)))) .no (.call F_law_of (.cons (.var 1) (.cons (.con (.str ['a', 'b', 'c', 'y', 'z'])) .nil)))) .nil))) (.cons (.set (.nm 4) (.lst (.cons (.var 3) (.cons (.meth isStrD (un1m joinM) (.con (.str [])) (.cons (.call (un1 sortedM) (.cons (.var 3) .nil)) .nil)) .nil)))) (.cons (.set (.nm 4) (.bin .add (.var 4) (.lst (.cons (.bin .add (.var 3) (.call F_law_of (.cons (.var 1) (.cons (.lst (.cons (.con (.str [])) (.cons (.con (.str ['A'])) (.cons (.con (.str [' '])) (.cons (.con (.str ['1'])) (.cons (.con (.str ['\n'])) .nil)))))) .nil)))) .nil)))) (.cons (.set (.nm 4) (.bin .add (.var 4) (.lst (.cons (.call F_law_of (.cons (.var 1) (.cons (.lst (.cons (.con .non) (.cons (.con (.int (3))) (.cons (.con (.bl true)) (.cons (.tup (.cons (.con (.str ['a'])) .nil)) (.cons (.lst (.cons (.con (.str ['a'])) (.cons (.con (.str ['b'])) .nil))) (.cons (.con (.str ['a', 'b', 'c', 'd'])) (.cons (.con (.str [])) (.cons (.con (.str ['z', 'z'])) (.cons (.con (.str ['a', 'z'])) (.cons (.con (.str ['z', 'a'])) .nil))))))))))) .nil))) .nil)))) (.cons (.for_ (.nm 5) (.val (.var 4)) (.cons (.ite (.not (.val (.call F_law_same (.cons (.call F_is_alphabet (.cons (.var 5) .nil)) (.cons (.call F_law_is_alphabet (.cons (.var 5) .nil)) .nil))))) (.cons (.ret (.con (.bl false))) .nil) .nil) .nil)) .nil))))))
    (fun ds r m1 => ∃ (x2 x3 x4 x5 x6 : Option D), r = [some (.frz (ns.map .int)), some (.obj 0), x2, x3, x4, x5, x6] ∧ BagAt m1 0)
    (ds := rngL 0 12) (r := [some (.frz (ns.map .int)), some (.obj 0), none, none, none, none, none]) (m := [.lst l]) ⟨_, _, _, _, _, rfl, hbag⟩ (fun d ds r m1 ⟨x2, x3, x4, x5, x6, er, hb1⟩ => by
      subst er
      -- the word
      obtain ⟨n1, m2, e1, s1, n0, n5⟩ := pull0 m1 0 5 hb1 (by omega) (by decide)
      have e2 : rng1M (.int n1) m2 = .ok ⟨rngL 0 n1.toNat, none⟩ m2 := by simp [rng1M, PySem.sizeLine_eq]; omega
      obtain ⟨ys, m3, e3, s3, l3, p3⟩ := compM_dr (t := ⟨rngL 0 n1.toNat, none⟩) rfl (f := bodyC [6] (.nm 6) .no (.call F_law_of (.cons (.var 1) (.cons (.con (.str ['a', 'b', 'c', 'y', 'z'])) .nil))) [some (.frz (ns.map .int)), some (.obj 0), some d, x3, x4, x5, x6]) (Sim 0 m2) (fun y => ∃ c : Char, y = .str [c]) (ds := rngL 0 n1.toNat) (Sim.refl s1.bag) (fun e he m s => by
        obtain ⟨y, hy, m4, e4, s4⟩ := of0 m 0 (.str ['a', 'b', 'c', 'y', 'z']) _ s.bag rfl (by simp) (by simp)
        refine ⟨y, m4, ?_, s.trans s4, ?_⟩
        · simp [s_cons, s_nil, s_ite, s_ret, s_set, s_exp, t_or, t_and, t_not, t_val, t_cmp, t_cmp2, x_and, x_or, x_not, x_cmp, x_cmp2, x_call, x_cons, x_nil, x_var, x_con, x_idx, x_bin, x_lst, x_tup, x_compD, x_meth, x_slc, x_no, x_yes, i_rng1, i_rng2, i_val, i_zip, c_no, c_yes, varM, thenS, M.bind_run, M.ite_ap, un1_ap, un1m_ap, chkM_ap, isiM, dty, isiB, truM, cmpM, inM, eqM, deref, plain, plains, dep, deps, eqD, eqDs, isNonD, blM, lenM, intM, listM, idxM, L2.atI, L2.ixN, readQ, readL, rng1M, rngL, itmM, bodyC, asgG, wipeE, bi_add, bi_sub, bi_mul, bi_mod, bi_fdv, allM, anyM, blsO, compM_n, compM_c, Itm.ok, PySem.sizeLine_eq, e4]
        · simp at hy
          rcases hy with rfl | rfl | rfl | rfl | rfl <;> exact ⟨_, rfl⟩)
      obtain ⟨cs, rfl⟩ := strs_of p3
      have lc : cs.length ≤ 4 := by
        rw [List.length_map] at l3
        rw [l3]
        simp [rngL]
        omega
      have e4 := join_ones cs m3 (by omega)
      obtain ⟨z, e5⟩ := join_sorted cs m3 (by omega)
      obtain ⟨w1, hw1, m5, e6, s6⟩ := of0 m3 0 (.lst [.str [], .str ['A'], .str [' '], .str ['1'], .str ['\n']]) _ s3.bag rfl (by simp) (by simp)
      obtain ⟨w2, hw2, m6, e7, s7⟩ := of0 m5 0 (.lst [.non, .int 3, .bl true, .tup [.str ['a']], .lst [.str ['a'], .str ['b']], .str ['a', 'b', 'c', 'd'], .str [], .str ['z', 'z'], .str ['a', 'z'], .str ['z', 'a']]) _ s6.bag rfl (by simp) (by simp)
      obtain ⟨w, hw, rfl⟩ : ∃ w : List Char, w.length ≤ 1 ∧ w1 = .str w := by
        simp at hw1
        rcases hw1 with rfl | rfl | rfl | rfl | rfl <;> exact ⟨_, by simp, rfl⟩
      have v2 : Val w2 := by
        simp at hw2
        rcases hw2 with rfl | rfl | rfl | rfl | rfl | rfl | rfl | rfl | rfl | rfl <;> first | exact .inl rfl | exact .inr ⟨_, rfl⟩
      have es2 : ∀ (r : Env) (m : Store) (q0 q1 q2 q3 : Option D) (vs : List D), evI (.val (.var 4)) (q0 :: q1 :: q2 :: q3 :: some (.lst vs) :: r) m = .ok ⟨vs, none⟩ m := fun r m q0 q1 q2 q3 vs => by simp [s_cons, s_nil, s_ite, s_ret, s_set, s_exp, t_or, t_and, t_not, t_val, t_cmp, t_cmp2, x_and, x_or, x_not, x_cmp, x_cmp2, x_call, x_cons, x_nil, x_var, x_con, x_idx, x_bin, x_lst, x_tup, x_compD, x_meth, x_slc, x_no, x_yes, i_rng1, i_rng2, i_val, i_zip, c_no, c_yes, varM, thenS, M.bind_run, M.ite_ap, un1_ap, un1m_ap, chkM_ap, isiM, dty, isiB, truM, cmpM, inM, eqM, deref, plain, plains, dep, deps, eqD, eqDs, isNonD, blM, lenM, intM, listM, idxM, L2.atI, L2.ixN, readQ, readL, itmM, asgG, wipeE, bi_add, bi_sub, bi_mul, bi_mod, bi_fdv, allM, anyM, blsO, Itm.ok, PySem.sizeLine_eq]
      obtain ⟨r7, m7, e8, x5', er7, em7, _⟩ := forM_go (t := ⟨[.str cs, .str z, .str (cs ++ w), w2], none⟩) rfl (body := bodyF (.nm 5) (.cons (.ite (.not (.val (.call F_law_same (.cons (.call F_is_alphabet (.cons (.var 5) .nil)) (.cons (.call F_law_is_alphabet (.cons (.var 5) .nil)) .nil))))) (.cons (.ret (.con (.bl false))) .nil) .nil) .nil))
        (fun ds r m => ∃ x5' : Option D, r = [some (.frz (ns.map .int)), some (.obj 0), some d, some (.str cs), some (.lst [.str cs, .str z, .str (cs ++ w), w2]), x5', x6] ∧ m = m6 ∧ ∀ d ∈ ds, Val d)
        (ds := [.str cs, .str z, .str (cs ++ w), w2]) (r := [some (.frz (ns.map .int)), some (.obj 0), some d, some (.str cs), some (.lst [.str cs, .str z, .str (cs ++ w), w2]), x5, x6]) (m := m6)
        ⟨x5, rfl, rfl, fun d hd => by simp at hd; rcases hd with rfl | rfl | rfl | rfl <;> first | exact .inr ⟨_, rfl⟩ | exact v2⟩
        (fun v ds r m ⟨x5', er, em, hv⟩ => by
          subst er em
          obtain ⟨b, b1, b2⟩ := both (hv v (List.mem_cons_self ..)) m
          refine ⟨_, m, .inl ?_, some v, rfl, rfl, fun d hd => hv d (List.mem_cons_of_mem _ hd)⟩
          simp [bodyF, s_cons, s_nil, s_ite, s_ret, s_set, s_exp, t_or, t_and, t_not, t_val, t_cmp, t_cmp2, x_and, x_or, x_not, x_cmp, x_cmp2, x_call, x_cons, x_nil, x_var, x_con, x_idx, x_bin, x_lst, x_tup, x_compD, x_meth, x_slc, x_no, x_yes, i_rng1, i_rng2, i_val, i_zip, c_no, c_yes, varM, thenS, M.bind_run, M.ite_ap, un1_ap, un1m_ap, chkM_ap, isiM, dty, isiB, truM, cmpM, inM, eqM, deref, plain, plains, dep, deps, eqD, eqDs, isNonD, blM, lenM, intM, listM, idxM, L2.atI, L2.ixN, readQ, readL, itmM, asgG, wipeE, bi_add, bi_sub, bi_mul, bi_mod, bi_fdv, allM, anyM, blsO, Itm.ok, PySem.sizeLine_eq, b1, b2, same0 (.bl b) m rfl (by simp [dep])])
      subst er7 em7
      refine ⟨_, m7, .inl ?_, some d, some (.str cs), some (.lst [.str cs, .str z, .str (cs ++ w), w2]), x5', x6, rfl, s7.bag⟩
      have sl : cs.length + w.length ≤ 16777216 := by omega
      simp [bodyF, s_cons, s_nil, s_ite, s_ret, s_set, s_exp, t_or, t_and, t_not, t_val, t_cmp, t_cmp2, x_and, x_or, x_not, x_cmp, x_cmp2, x_call, x_cons, x_nil, x_var, x_con, x_idx, x_bin, x_lst, x_tup, x_compD, x_meth, x_slc, x_no, x_yes, i_rng1, i_rng2, i_val, i_zip, c_no, c_yes, varM, thenS, M.bind_run, M.ite_ap, un1_ap, un1m_ap, chkM_ap, isiM, dty, isiB, truM, cmpM, inM, eqM, deref, plain, plains, dep, deps, eqD, eqDs, isNonD, blM, lenM, intM, listM, idxM, L2.atI, L2.ixN, readQ, readL, itmM, asgG, wipeE, bi_add, bi_sub, bi_mul, bi_mod, bi_fdv, allM, anyM, blsO, Itm.ok, PySem.sizeLine_eq, e1, e2, e3, e4, e5, e6, e7, sortedM, isStrD, b_add, addM, catM, sl, s_for (es2 _ _ _ _ _ _ _), e8])
  subst er
  have a1 : isA ['a'] = true := by decide
  have a2 : isA ['a', 'b', 'z'] = true := by decide
  have a3 : isA ['b', 'a'] = false := by decide
  have a4 : isA ['a', 'a'] = false := by decide
  have a5 : isA ['a', 'b', 'c', 'd'] = false := by decide
  have a6 : isA ['z'] = true := by decide
  refine ⟨m', ?_⟩
  simp [F_law, runF, m_law, s_cons, s_nil, s_ite, s_ret, s_set, s_exp, t_or, t_and, t_not, t_val, t_cmp, t_cmp2, x_and, x_or, x_not, x_cmp, x_cmp2, x_call, x_cons, x_nil, x_var, x_con, x_idx, x_bin, x_lst, x_tup, x_compD, x_meth, x_slc, x_no, x_yes, i_rng1, i_rng2, i_val, i_zip, c_no, c_yes, varM, thenS, M.bind_run, M.ite_ap, un1_ap, un1m_ap, chkM_ap, isiM, dty, isiB, truM, cmpM, inM, eqM, deref, plain, plains, dep, deps, eqD, eqDs, isNonD, blM, lenM, intM, listM, idxM, L2.atI, L2.ixN, readQ, readL, itmM, asgG, wipeE, bi_add, bi_sub, bi_mul, bi_mod, bi_fdv, allM, anyM, blsO, Itm.ok, PySem.sizeLine_eq, compM_n, compM_c, bodyC, eb, s_for (es _ _), ef, isa_str, a1, a2, a3, a4, a5, a6]
end LK01
namespace LK01
open PySem PySem.Spec PyProof.Rows L2 Fs
open Classical
def d_is_alphabet : He.DefD := ⟨("is_alphabet", none), "is_alphabet", "is_alphabet", defArgs (top 3), defBody (top 3), defScope (top 3), [], []⟩
def d_law_bag : He.DefD := ⟨("_law_bag", none), "_law_bag", "_law_bag", defArgs (top 5), defBody (top 5), defScope (top 5), [], []⟩
def d_law_pull : He.DefD := ⟨("_law_pull", none), "_law_pull", "_law_pull", defArgs (top 6), defBody (top 6), defScope (top 6), [], []⟩
def d_law_is_alphabet : He.DefD := ⟨("_law_is_alphabet", none), "_law_is_alphabet", "_law_is_alphabet", defArgs (top 9), defBody (top 9), defScope (top 9), [], []⟩
def d_law_of : He.DefD := ⟨("_law_of", none), "_law_of", "_law_of", defArgs (top 7), defBody (top 7), defScope (top 7), [], []⟩
def d_law_same : He.DefD := ⟨("_law_same", none), "_law_same", "_law_same", defArgs (top 8), defBody (top 8), defScope (top 8), [], []⟩
def d_law : He.DefD := ⟨("law", none), "law", "law", defArgs (top 10), defBody (top 10), defScope (top 10), [], []⟩
def fns : List He.DefD := [d_is_alphabet, d_law_bag, d_law_pull, d_law_is_alphabet, d_law_of, d_law_same, d_law]
def fas : List He.Fa := [.glo "is_alphabet", .glo "_law_bag", .glo "_law_pull", .glo "_law_is_alphabet", .glo "_law_of", .glo "_law_same", .glo "law", .free "all", .free "any", .free "bool", .free "int", .free "isinstance", .free "len", .free "list", .free "range", .free "sorted", .free "str", .free "tuple", .free "zip", .str "LETTERS" "abcdefghijklmnopqrstuvwxyz", .int "MOST_SIGNS" (3)]
abbrev R : PySem.W.OpenRow := PySem.W.OpenLaw.row PySem.Challenge.rw_forestep_k01_alphabets
abbrev hk : PySem.W.Hook := He.hookD 4 fas fns
def ob (s : PySem.W.SharedT) : He.AlD := He.obsDG 4 fas fns (HandSHeadRun.getT s)
theorem ob_eq (s : PySem.W.SharedT) : ob s = hk.obs s.abs := He.obsDG_eq (HandSHeadRun.getT_eq s)
def nms0 : List PySem.Str := [("LETTERS" : PySem.Str), ("MOST_SIGNS" : PySem.Str), ("is_alphabet" : PySem.Str), ("_law_bag" : PySem.Str), ("_law_pull" : PySem.Str), ("_law_of" : PySem.Str), ("_law_same" : PySem.Str), ("_law_is_alphabet" : PySem.Str)]
def nms : List PySem.Str := nms0
theorem run (w : World) : HandSHeadRun.RunEq R (PySem.W.view R.prog [10]) hk ob 4000 nms w := by
  intro os
  kernel_rfl
def nm : Nat → Str := fun _ => ""
theorem facts {P : Program} {w : World} {K : PySem.W.Frag} {h : Heap} {mg : Str → Option Value} {f : Addr} (X : K.In h) (G : h.Ns mainGlobals mg) (hfa : mg ("law" : Str) = some (.ref f)) (c : He.SaysD fas fns K) :
    ∃ fd : FuncData, (∀ (s : Shared) (v : Value), BindsTo s fd ⟨[v], []⟩ [("_law_script", v)]) ∧ ∀ base : Heap, K.In base → base.Ns mainGlobals mg → FnOk P w K mg base (L2.CX P w) 7 f fd ["_law_script"] (spM ⟨K, nm⟩ 1 F_law) := by
  obtain ⟨fd_is_alphabet, D_is_alphabet⟩ := c.def_ 0 (d := d_is_alphabet) rfl
  obtain ⟨fd_law_bag, D_law_bag⟩ := c.def_ 1 (d := d_law_bag) rfl
  obtain ⟨fd_law_pull, D_law_pull⟩ := c.def_ 2 (d := d_law_pull) rfl
  obtain ⟨fd_law_is_alphabet, D_law_is_alphabet⟩ := c.def_ 3 (d := d_law_is_alphabet) rfl
  obtain ⟨fd_law_of, D_law_of⟩ := c.def_ 4 (d := d_law_of) rfl
  obtain ⟨fd_law_same, D_law_same⟩ := c.def_ 5 (d := d_law_same) rfl
  obtain ⟨fd_law, D_law⟩ := c.def_ 6 (d := d_law) rfl
  have G_is_alphabet := He.glo_ok X G (c.fact 0 (f := .glo "is_alphabet") rfl)
  have G_law_bag := He.glo_ok X G (c.fact 1 (f := .glo "_law_bag") rfl)
  have G_law_pull := He.glo_ok X G (c.fact 2 (f := .glo "_law_pull") rfl)
  have G_law_is_alphabet := He.glo_ok X G (c.fact 3 (f := .glo "_law_is_alphabet") rfl)
  have G_law_of := He.glo_ok X G (c.fact 4 (f := .glo "_law_of") rfl)
  have G_law_same := He.glo_ok X G (c.fact 5 (f := .glo "_law_same") rfl)
  have G_law := He.glo_ok X G (c.fact 6 (f := .glo "law") rfl)
  cases hfa.symm.trans G_law
  have B : Bi mg := ⟨He.free_ok X G (c.fact 7 (f := .free "all") rfl), He.free_ok X G (c.fact 8 (f := .free "any") rfl), He.free_ok X G (c.fact 9 (f := .free "bool") rfl), He.free_ok X G (c.fact 10 (f := .free "int") rfl), He.free_ok X G (c.fact 11 (f := .free "isinstance") rfl), He.free_ok X G (c.fact 12 (f := .free "len") rfl), He.free_ok X G (c.fact 13 (f := .free "list") rfl), He.free_ok X G (c.fact 14 (f := .free "range") rfl), He.free_ok X G (c.fact 15 (f := .free "sorted") rfl), He.free_ok X G (c.fact 16 (f := .free "str") rfl), He.free_ok X G (c.fact 17 (f := .free "tuple") rfl), He.free_ok X G (c.fact 18 (f := .free "zip") rfl)⟩
  have hcls : ∀ c ∈ cls, ClsI ⟨K, nm⟩ c := fun c h => absurd h (by simp)
  have g_LETTERS : GV ⟨K, nm⟩ mg "LETTERS" c_LETTERS := gv_str X G (c.fact 19 (f := .str "LETTERS" "abcdefghijklmnopqrstuvwxyz") rfl) (by kernel_rfl) (by decide)
  have g_MOST_SIGNS : GV ⟨K, nm⟩ mg "MOST_SIGNS" c_MOST_SIGNS := gv_int X G (c.fact 20 (f := .int "MOST_SIGNS" (3)) rfl)
  refine ⟨fd_law, fun s v => (FunD.bindsA (ps := ["_law_script"]) D_law fun _ _ _ _ _ _ us hl => match us, hl with | [_], _ => rfl) s [v] rfl, fun base _ _ => ?_⟩
  have u_is_alphabet := U_is_alphabet (P := P) (w := w) (base := base) (C := ⟨K, nm⟩) B hcls g_LETTERS g_MOST_SIGNS D_is_alphabet G_is_alphabet
  have u_law_bag := U_law_bag (P := P) (w := w) (base := base) (C := ⟨K, nm⟩) B hcls D_law_bag G_law_bag
  have u_law_pull := U_law_pull (P := P) (w := w) (base := base) (C := ⟨K, nm⟩) B hcls D_law_pull G_law_pull
  have u_law_is_alphabet := U_law_is_alphabet (P := P) (w := w) (base := base) (C := ⟨K, nm⟩) B hcls D_law_is_alphabet G_law_is_alphabet
  have u_law_of := U_law_of (P := P) (w := w) (base := base) (C := ⟨K, nm⟩) B hcls u_law_pull D_law_of G_law_of
  have u_law_same := U_law_same (P := P) (w := w) (base := base) (C := ⟨K, nm⟩) B hcls D_law_same G_law_same
  exact fn_M D_law sc_law m_law fun cdv A outer s H E hr => b_law (C := ⟨K, nm⟩) B hcls u_law_bag u_law_is_alphabet u_law_of u_law_pull u_law_same u_is_alphabet hr
end LK01
open PySem PySem.W PySem.Calls PyProof.Rows
theorem PySem.Challenge.cw_forestep_k01_alphabets_holds : PySem.Challenge.rw_forestep_k01_alphabets.Holds := by
  w_on; o_law
  refine HandSHeadRun.head_any (r := OpenLaw.row PySem.Challenge.rw_forestep_k01_alphabets) (q := view (OpenLaw.row PySem.Challenge.rw_forestep_k01_alphabets).prog [10]) (H := LK01.hk) (ob := LK01.ob) (M := 4000) (loose := LK01.nms) (d := HandSHeadRun.topDef (OpenLaw.row PySem.Challenge.rw_forestep_k01_alphabets).prog 10) (kwd := []) LK01.ob_eq
    (by kernel_rfl) (fun s => by kernel_rfl) LK01.run (by kernel_rfl) (by kernel_rfl) (by kernel_rfl) (by rfl) (by first | assumption | decide +kernel) (by decide +kernel) ⟨rfl, rfl, rfl, rfl, rfl, by decide +kernel⟩ ?hw ?hc
  case hw => w_witness2
  case hc =>
    refine L2.walk_ofE (l := PySem.Challenge.rw_forestep_k01_alphabets) (n := 63) (k := 7) (x := "_law_script") (CX := Fs.CXe) rfl (by decide) (by kernel_rfl) ⟨rfl, by decide, by decide⟩ ?F (fun _ _ _ _ z => Fs.CXe_no z)
    intro w mg fa h Y G hmg0
    obtain ⟨K, KX, c⟩ := Y
    have hmg : mg ("law" : PySem.Str) = some (.ref fa) := by
      have e : (HandSHeadRun.topDef (OpenLaw.row PySem.Challenge.rw_forestep_k01_alphabets).prog 10).name = ("law" : PySem.Str) := by kernel_rfl
      rw [← e]
      exact hmg0
    obtain ⟨fd, hb, hF⟩ := LK01.facts (P := (PySem.Challenge.rw_forestep_k01_alphabets).prog) (w := w) KX G hmg c
    exact ⟨K, fd, Fs.spM ⟨K, LK01.nm⟩ 1 LK01.F_law, KX, hb, fun H a ns hl hO hS => Fs.law_end LK01.law_true H a ns hl hO hS, fun base h1 h2 => Fs.fn_e (hF base h1 h2)⟩
