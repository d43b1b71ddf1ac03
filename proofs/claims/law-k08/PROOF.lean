import PyProof.Rows.All
import Wide.All
import OpenK.AllK
import Wide.FinOn
import KE.KStateDown
import Lean
import HandS.ForMost
import HandS.Walk
import KE.GoesEnum
import HandS.ForExc
import HandS.Evl
import HandS.HeadHook2
import HandS.Lambda
import HandS.TupAny
import HandS.Wide
import HandS.IsInst
import HandS.Deep
import HandS.TupMul
import PyProof.StrBlock2
import HandS.Zip
import PyProof.ListStr
import PyProof.Rows.SortShellAny
import HandS.RaiseMore
import HandS.SortInts
import HandS.CallSlots
import PyProof.Rows.SeqCalls
import PyProof.Rows.SeqGen
import HandS.HeadEnd
import HandS.Head0
import HandS.Head1
import HandS.Head2
import HandS.HeadHook1
import HandS.HeadHook3
import HandS.HeadHook4
import HandS.Property
import OpenK.KOps
import KE.KCallOwn
import HandS.SetFor
import HandS.Strs
import HandS.FStr
import HandS.Style
import HandS.MakeKwOnly
import HandS.ClsMeth
import HandS.ExcInit
import KE.KExcSuper
import HandS.TryMany
import HandS.HotCalls
import HandS.ExcField
import HandS.HeadWalk
import KE.KDflt
import HandS.Star
import PyProof.Rows.StrRev
import PyProof.SliceStr2
import PySem.Challenge.RW_forestep_k08_roads
set_option Elab.async false
set_option linter.all false
set_option maxRecDepth 100000
set_option maxHeartbeats 0
/-! FhA: enumerate of tuples and of texts. -/
namespace Fh
open PySem PySem.Spec PyProof.Rows L2
open Classical
theorem meets_enumerate_new1 {v : Value} {o : Obj} {H : Heap → Prop} (B : Begins v o H) :
    Meets (Builtin.«enumerate.__new__» ⟨[.type "enumerate", v], []⟩) (fun _ R s => H s.heap ∧
      R (.ok (.ret (.ref (s.heap.push o).objs.size))) { s with heap := (s.heap.push o).push { cls := .type "enumerate", data := .fields #[.none, .bool false, .ref s.heap.objs.size, rawInt 0, .none, .none] } }) :=
  .of_wp fun prog w A R s h => by
    obtain ⟨hp, g, d, tk, os⟩ := s; obtain ⟨h1, h⟩ := h
    have hsub := sub_enumerate
    have q1 : ∀ {A' : Around} {E : Value → Shared → Prop} {Q : Value → Shared → Prop}, Q (.ref hp.objs.size) ⟨hp.push o, g, d, tk, os⟩ → wpAny (model prog w) A' (pyIter v) Q E ⟨hp, g, d, tk, os⟩ :=
      fun q => B.iter prog w _ _ ⟨hp, g, d, tk, os⟩ _ h1 q
    wp_walk using q1
    refine wpAny_stack_any fun st => wpAny_pure ?_
    split
    · rename_i c _ _ _ _ _
      cases (c == Value.type "enumerate")
      · wp_walk using q1
        exact ⟨_, rfl, h⟩
      · wp_walk using q1
        exact ⟨_, rfl, h⟩
    · wp_walk using q1
      exact ⟨_, rfl, h⟩
theorem call_enumerate1 {prog : Program} {w : World} {A : Around} {E : Value → Shared → Prop} {s : Shared} {v : Value} {o : Obj} {H : Heap → Prop} {Q : Value → Shared → Prop} (B : Begins v o H) (h1 : H s.heap)
    (h : ∀ h', IsEnum h' (s.heap.objs.size + 1) s.heap.objs.size 0 .none → h'.get? s.heap.objs.size = some o → h'.objs.size = s.heap.objs.size + 2 →
      (∀ b o, s.heap.get? b = some o → h'.get? b = some o) → Q (.ref (s.heap.objs.size + 1)) { s with heap := h' }) :
    wpAny (model prog w) A (call (.type "enumerate") [v]) Q E s := by
  refine callType_new F.called_enumerate (by decide) (F.typeCall_enumerate_1 _) (F.newCall_enumerate_1 _) (fun obj => F.args_object_init_2 obj _) F.entry_enumerate_new
    (meets_enumerate_new1 B) ⟨h1, ?_⟩
  have hz : (s.heap.push o).objs.size = s.heap.objs.size + 1 := Heap.size_push ..
  show _ ∧ _
  rw [hz]
  have he : IsEnum ((s.heap.push o).push { cls := .type "enumerate", data := .fields #[.none, .bool false, .ref s.heap.objs.size, rawInt 0, .none, .none] }) (s.heap.objs.size + 1) s.heap.objs.size 0 .none := by
    have := Heap.get?_push_size (s.heap.push o) (o := { cls := .type "enumerate", data := .fields #[.none, .bool false, .ref s.heap.objs.size, rawInt 0, .none, .none] }) rfl
    rw [hz] at this; exact this
  refine ⟨⟨_, he, rfl⟩, h _ he (Heap.get?_push_of_some _ (Heap.get?_push_size _ B.free)) (by rw [Heap.size_push, hz]) fun b o x => Heap.get?_push_of_some _ (Heap.get?_push_of_some _ x)⟩
def IteT (K : PySem.W.Frag) (a : Addr) : It :=
  ⟨fun i H => ∃ (xs : List V) (x : V), SqT K H a xs ∧ xs[i]? = some x, fun i H v H' => ∃ T x, v = .ref T ∧ H T = none ∧ H' = upd H T (.tup [.int (i : Nat), x]) ∧ ∀ xs, SqT K H a xs → xs[i]? = some x, fun i H => ∃ xs : List V, SqT K H a xs ∧ xs.length ≤ i⟩
def IteS (z : Str) : It :=
  ⟨fun i _ => i < z.cps.size, fun i H v H' => ∃ T c, v = .ref T ∧ H T = none ∧ H' = upd H T (.tup [.int (i : Nat), .str ⟨#[c]⟩]) ∧ z.cps[i]? = some c, fun i _ => i = z.cps.size⟩
theorem turn_enumT {P : Program} {w : World} {K : PySem.W.Frag} {elts : List Expr} {kk : Nat} {tpos : Pos} (a e it : Addr) :
    Turn P w K (.Tuple elts kk tpos) (IteT K a) [e, it] e (fun i h => (∃ old, IsEnum h e it ((i : Nat) : Int) old) ∧ h.IsTupleIter it a i ∧ e ≠ it ∧ a ≠ e ∧ a ≠ it) where
  mem := by simp
  obj := fun i h st b hb => by
    obtain ⟨⟨old, he⟩, ⟨o, ho, hc, hd⟩, _⟩ := st
    have e' : b = e ∨ b = it := by simpa using hb
    rcases e' with z | z
    · rw [z]; exact ⟨_, he, fun v q => nomatch q⟩
    · rw [z]; exact ⟨o, ho, fun v q => by rw [hd] at q; cases q⟩
  keep := fun i h h' st k => let ⟨⟨old, he⟩, hi, hne⟩ := st; ⟨⟨old, k e (by simp) _ he⟩, hi.at fun o q => k it (by simp) o q, hne⟩
  item := by
    intro X hP hw hK hc i pins s σ H E I hf st hg
    subst hP hw hK
    obtain ⟨⟨old, he⟩, hit, hne, hae, hai⟩ := st
    obtain ⟨xs, x, hq, hx⟩ := hg
    obtain ⟨its, rv, p, hz⟩ := I.tuple hq
    obtain ⟨u, hu, ru⟩ := rv.get hx
    have hel : e < s.heap.objs.size := Heap.lt_size he
    have hil : it < s.heap.objs.size := by obtain ⟨_, q, _⟩ := hit; exact Heap.lt_size q
    have hi : i < its.toArray.size := by
      have := (List.getElem?_eq_some_iff.mp hu).1
      simpa using this
    refine wpAny_pyNext_enum_itemC (Draws.tuple (A := X.A.in1) (I.ok.hd hc) it a hai its.toArray) he ⟨hit, p⟩ hi hne (by simp [hne, Ne.symm hae]) fun u' h' tk hx' ho hst' hT hsz hk => ?_
    obtain rfl : u' = u := by
      have : its[i]? = some u' := by simpa using hx'
      rw [hu] at this
      exact (Option.some.inj this).symm
    refine ⟨_, rfl, wpAny_letOwnedTupleGo_enum (s := { s with heap := h', toks := tk + 1 }) ho fun h'' he' sb => ?_⟩
    have hT2 : h''.get? s.heap.objs.size = some { cls := .type "tuple", data := .seq #[.int i tk, u'] } := (sb.2 _ (Nat.ne_of_gt hel)).trans hT
    have new : ObjOk X.prog X.w (upd H s.heap.objs.size (.tup [.int (i : Nat), x])) h'' s.heap.objs.size (.tup [.int (i : Nat), x]) :=
      ⟨by show 2 ≤ sizeLine; decide, [.int i tk, u'], .cons ⟨_, rfl⟩ (.cons ru .nil), ⟨_, hT2, rfl, _, rfl⟩⟩
    have I1 : Inv X pins σ (upd H s.heap.objs.size (.tup [.int (i : Nat), x])) { s with heap := h'', toks := tk + 1 } :=
      I.turnedNew (ch := [e, it]) (fun b ob hb q => (sb.2 b (fun z => hb (by simp [z]))).trans (hk b ob (fun z => hb (by simp [z])) (fun z => hb (by simp [z])) q)) hf (Nat.le_refl _) new
    refine ⟨.ref s.heap.objs.size, _, I1, rfl, ⟨_, x, rfl, I.hok.fresh (Nat.le_refl _), rfl, fun ys hy => by rw [I.tuple_inj hy hq]; exact hx⟩, ⟨⟨u', ?_⟩, hst'.1.at fun o q => (sb.2 it (Ne.symm hne)).trans q, hne, hae, hai⟩, fun b hb => ?_⟩
    · have e1 : ((i + 1 : Nat) : Int) = (i : Int) + 1 := by omega
      rw [e1]; exact he'
    · have hb' : b < s.heap.objs.size := by
        have e' : b = e ∨ b = it := by simpa using hb
        rcases e' with z | z
        · rw [z]; exact hel
        · rw [z]; exact hil
      rw [upd_ne (Nat.ne_of_lt hb')]
      exact (hf b hb).1
  done := by
    intro X hP hw hK hc i pins s σ H E I hf st hg
    subst hP hw hK
    obtain ⟨⟨old, he⟩, hit, hne, hae, hai⟩ := st
    obtain ⟨xs, hq, hx⟩ := hg
    obtain ⟨its, rv, p, hz⟩ := I.tuple hq
    obtain ⟨f0, f1, f2, f3, f4, f5⟩ := hf it (by simp)
    have hl := rv.length
    refine wpAny_pyNext_enum_endD (n := i) (P := fun _ _ => False) (St := fun j h => j = i ∧ h.IsTupleIter it a i ∧ IsTup h a its.toArray) (fp := [it, a]) ⟨fun j h st => ?_, fun j h h' st k => ?_, fun j s Q E hj st hQ => ?_, fun s Q E st hE => ?_⟩ he ⟨rfl, hit, p⟩ fun h' eb => ⟨rfl, I.turned (t' := s.toks) (fun b o hb q => eb b o hb q) f0 f1 f3 f4 f5⟩
    · obtain ⟨_, ⟨o, ho, _⟩, _⟩ := st
      exact ⟨o, ho⟩
    · exact ⟨st.1, st.2.1.at fun o q => k it (by simp) o q, (show Heap.IsTuple h a its.toArray from st.2.2).at fun o q => k a (by simp) o q⟩
    · exact absurd st.1 (Nat.ne_of_lt hj)
    · exact wpAny_nextOf_tuple_end (A := X.A.in1) (I.ok.hd hc) st.2.1 st.2.2 (by simp; omega) hE
  self := fun A i s Q E st h => let ⟨⟨_, he⟩, _⟩ := st; wpAny_pyIter_enum he h
theorem turn_enumS {P : Program} {w : World} {K : PySem.W.Frag} {elts : List Expr} {kk : Nat} {tpos : Pos} (z : Str) (t : Tok) (e it : Addr) :
    Turn P w K (.Tuple elts kk tpos) (IteS z) [e, it] e (fun i h => (∃ old, IsEnum h e it ((i : Nat) : Int) old) ∧ h.IsStrIter it (strIterType z) z t i ∧ e ≠ it) where
  mem := by simp
  obj := fun i h st b hb => by
    obtain ⟨⟨old, he⟩, ⟨o, ho, hc, hd⟩, _⟩ := st
    have e' : b = e ∨ b = it := by simpa using hb
    rcases e' with z | z
    · rw [z]; exact ⟨_, he, fun v q => nomatch q⟩
    · rw [z]; exact ⟨o, ho, fun v q => by rw [hd] at q; cases q⟩
  keep := fun i h h' st k => let ⟨⟨old, he⟩, hi, hne⟩ := st; ⟨⟨old, k e (by simp) _ he⟩, (let ⟨o, ho, r⟩ := hi; ⟨o, k it (by simp) o ho, r⟩), hne⟩
  item := by
    intro X hP hw hK hc i pins s σ H E I hf st hg
    subst hP hw hK
    obtain ⟨⟨old, he⟩, hit, hne⟩ := st
    have hi : i < z.cps.size := hg
    have hel : e < s.heap.objs.size := Heap.lt_size he
    have hil : it < s.heap.objs.size := by obtain ⟨_, q, _⟩ := hit; exact Heap.lt_size q
    refine wpAny_pyNext_enum_itemC (Draws.text (A := X.A.in1) (I.ok.hd hc) it z t) he hit hi hne (by simp [hne]) fun u' h' tk hx' ho hst' hT hsz hk => ?_
    obtain ⟨c, tu, hcz, rfl⟩ := hx'
    refine ⟨_, rfl, wpAny_letOwnedTupleGo_enum (s := { s with heap := h', toks := tk + 1 }) ho fun h'' he' sb => ?_⟩
    have hT2 : h''.get? s.heap.objs.size = some { cls := .type "tuple", data := .seq #[.int i tk, .str ⟨#[c]⟩ tu] } := (sb.2 _ (Nat.ne_of_gt hel)).trans hT
    have new : ObjOk X.prog X.w (upd H s.heap.objs.size (.tup [.int (i : Nat), .str ⟨#[c]⟩])) h'' s.heap.objs.size (.tup [.int (i : Nat), .str ⟨#[c]⟩]) :=
      ⟨by show 2 ≤ sizeLine; decide, [.int i tk, .str ⟨#[c]⟩ tu], .cons ⟨_, rfl⟩ (.cons ⟨_, rfl⟩ .nil), ⟨_, hT2, rfl, _, rfl⟩⟩
    have I1 : Inv X pins σ (upd H s.heap.objs.size (.tup [.int (i : Nat), .str ⟨#[c]⟩])) { s with heap := h'', toks := tk + 1 } :=
      I.turnedNew (ch := [e, it]) (fun b ob hb q => (sb.2 b (fun z => hb (by simp [z]))).trans (hk b ob (fun z => hb (by simp [z])) (fun z => hb (by simp [z])) q)) hf (Nat.le_refl _) new
    refine ⟨.ref s.heap.objs.size, _, I1, rfl, ⟨_, c, rfl, I.hok.fresh (Nat.le_refl _), rfl, hcz⟩, ⟨⟨.str ⟨#[c]⟩ tu, ?_⟩, (let ⟨o, ho, r⟩ := hst'; ⟨o, (sb.2 it (Ne.symm hne)).trans ho, r⟩), hne⟩, fun b hb => ?_⟩
    · have e1 : ((i + 1 : Nat) : Int) = (i : Int) + 1 := by omega
      rw [e1]; exact he'
    · have hb' : b < s.heap.objs.size := by
        have e' : b = e ∨ b = it := by simpa using hb
        rcases e' with z | z
        · rw [z]; exact hel
        · rw [z]; exact hil
      rw [upd_ne (Nat.ne_of_lt hb')]
      exact (hf b hb).1
  done := by
    intro X hP hw hK hc i pins s σ H E I hf st hg
    subst hP hw hK
    obtain ⟨⟨old, he⟩, hit, hne⟩ := st
    obtain rfl : i = z.cps.size := hg
    obtain ⟨f0, f1, f2, f3, f4, f5⟩ := hf it (by simp)
    exact wpAny_pyNext_enum_endD (Draws.text (A := X.A.in1) (I.ok.hd hc) it z t) he hit fun h' eb => ⟨rfl, I.turned (t' := s.toks) (fun b o hb q => eb b o hb q) f0 f1 f3 f4 f5⟩
  self := fun A i s Q E st h => let ⟨⟨_, he⟩, _⟩ := st; wpAny_pyIter_enum he h
def iEnumA (K : PySem.W.Frag) (ta : TA) : TI := fun σ H R => ta σ H fun vs H1 => (∃ a xs, vs = [.ref a] ∧ SqL K H1 a xs ∧ R (Ite K a) H1) ∨ (∃ a xs, vs = [.ref a] ∧ SqT K H1 a xs ∧ R (IteT K a) H1) ∨ ∃ z, vs = [.str z] ∧ R (IteS z) H1
theorem pi_enumA {X : Cx} {e : Expr} {ta : TA} {p pos tpos : Pos} {elts : List Expr} {kk : Nat} (hg : Gl X "enumerate") (hm : X.mg "enumerate" = none) (ha : PA X [e] ta) (hs : starEach [e] X.env = [(false, eval e X.env)]) :
    PI X (.Tuple elts kk tpos) (.Call (.Name "enumerate" p) [e] [] pos) (iEnumA X.K ta) := by
  refine ⟨fun pins s σ H R I h => ?_⟩
  refine Call_ (ld_blt I hg hm boot_enumerate (PyProof.Rows.callWith_type1 (thn (ha.run pos pins s σ H _ I h) fun us s1 ⟨vs, H1, I1, r1, q1⟩ => ?_) hs rfl))
  have fin : ∀ b, b ∈ [s1.heap.objs.size + 1, s1.heap.objs.size] → s1.heap.objs.size ≤ b := fun b hb => by
    have e' : b = s1.heap.objs.size + 1 ∨ b = s1.heap.objs.size := by simpa using hb
    rcases e' with z | z
    · rw [z]; exact Nat.le_add_right _ _
    · rw [z]; exact Nat.le_refl _
  rcases q1 with ⟨a, xs, ex, hq, q⟩ | ⟨a, xs, ex, hq, q⟩ | ⟨z, ex, q⟩
  · subst ex
    cases r1 with
    | cons r rr =>
      cases rr
      cases r
      obtain ⟨its, rv, p', hz⟩ := I1.list hq
      refine call_enumerate_list p'.isList fun h' he hit hsz hk => wpAny_pyIter_enum he ?_
      have I2 : Inv X pins σ H1 { s1 with heap := h' } := I1.kept (t' := s1.toks) hk
      exact ⟨s1.heap.objs.size + 1, [s1.heap.objs.size + 1, s1.heap.objs.size], _, _, H1, rfl, I2, turn_enum a (s1.heap.objs.size + 1) s1.heap.objs.size, ⟨⟨.none, he⟩, hit, Nat.succ_ne_self _⟩, fun b hb => I1.fpOk (fin b hb) (I1.hok.fresh (fin b hb)), q⟩
  · subst ex
    cases r1 with
    | cons r rr =>
      cases rr
      cases r
      obtain ⟨its, rv, p', hz⟩ := I1.tuple hq
      have hal : a < s1.heap.objs.size := by
        obtain ⟨o, ho, _⟩ := id p'
        exact Heap.lt_size ho
      refine call_enumerate1 (begins_tuple a its.toArray) p' fun h' he hit hsz hk => wpAny_pyIter_enum he ?_
      have I2 : Inv X pins σ H1 { s1 with heap := h' } := I1.kept (t' := s1.toks) hk
      exact ⟨s1.heap.objs.size + 1, [s1.heap.objs.size + 1, s1.heap.objs.size], _, _, H1, rfl, I2, turn_enumT a (s1.heap.objs.size + 1) s1.heap.objs.size, ⟨⟨.none, he⟩, ⟨_, hit, rfl, rfl⟩, Nat.succ_ne_self _, Nat.ne_of_lt (Nat.lt_succ_of_lt hal), Nat.ne_of_lt hal⟩, fun b hb => I1.fpOk (fin b hb) (I1.hok.fresh (fin b hb)), q⟩
  · subst ex
    cases r1 with
    | cons r rr =>
      cases rr
      obtain ⟨t, rfl⟩ := r
      refine call_enumerate1 (begins_text z t) trivial fun h' he hit hsz hk => wpAny_pyIter_enum he ?_
      have I2 : Inv X pins σ H1 { s1 with heap := h' } := I1.kept (t' := s1.toks) hk
      exact ⟨s1.heap.objs.size + 1, [s1.heap.objs.size + 1, s1.heap.objs.size], _, _, H1, rfl, I2, turn_enumS z t (s1.heap.objs.size + 1) s1.heap.objs.size, ⟨⟨.none, he⟩, ⟨_, hit, rfl, rfl⟩, Nat.succ_ne_self _⟩, fun b hb => I1.fpOk (fin b hb) (I1.hok.fresh (fin b hb)), q⟩
end Fh

/-! FsA: the data domain, the store of cells, the relation to the abstract heap of the hand layer. -/
namespace Fs
open PySem PySem.Spec PyProof.Rows L2

/-- a text as its signs -/
def toS (x : List Char) : Str := ⟨(x.map Char.toNat).toArray⟩

inductive D where
  | non
  | bl (b : Bool)
  | int (i : Int)
  | str (x : List Char)
  | lst (ds : List D)
  | tup (ds : List D)
  | frz (ds : List D)
  | wtp (ds : List D)
  | set (ds : List D)
  | dct (t : Bool) (ks vs : List D)
  | ins (c : Nat) (ks : List Nat) (vs : List D)
  | obj (n : Nat)
  | fn (k : Nat)
  deriving Inhabited

inductive Cell where
  | dead
  | lst (ds : List D)
  | dct (t : Bool) (ks vs : List D)
  | ins (c : Nat) (ks : List Nat) (vs : List D)
  /-- the k-th table of code objects -/
  | tab (k : Nat)
  deriving Inhabited
def Cell.live : Cell → Bool
  | .dead => false
  | _ => true

abbrev Store := List Cell
inductive R (α : Type) where
  | ok (a : α) (m : Store)
  | exc (c : Nat) (ks : List Nat) (vs : List D) (m : Store)
  | stuck
def M (α : Type) := Store → R α
instance : Monad M where
  pure a := fun m => .ok a m
  bind x f := fun m => match x m with
    | .ok a m' => f a m'
    | .exc c ks vs m' => .exc c ks vs m'
    | .stuck => .stuck
@[simp] theorem M.pure_ap {α : Type} (a : α) (m : Store) : (pure a : M α) m = .ok a m := rfl
theorem M.bind_ap {α β : Type} (x : M α) (f : α → M β) (m : Store) : (x >>= f) m = match x m with
    | .ok a m' => f a m'
    | .exc c ks vs m' => .exc c ks vs m'
    | .stuck => .stuck := rfl
theorem M.bind_ok {α β : Type} {x : M α} {f : α → M β} {m m' : Store} {a : α} (h : x m = .ok a m') : (x >>= f) m = f a m' := by
  rw [M.bind_ap, h]
theorem M.bind_exc {α β : Type} {x : M α} {f : α → M β} {m m' : Store} {c : Nat} {ks : List Nat} {vs : List D} (h : x m = .exc c ks vs m') : (x >>= f) m = .exc c ks vs m' := by
  rw [M.bind_ap, h]
@[simp] theorem M.pure_bind' {α β : Type} (a : α) (f : α → M β) : (pure a >>= f) = f a := rfl
def stuckM {α : Type} : M α := fun _ => .stuck
def excM {α : Type} (c : Nat) (ks : List Nat) (vs : List D) : M α := fun m => .exc c ks vs m
def optM {α : Type} : Option α → M α
  | some a => pure a
  | none => stuckM
@[simp] theorem optM_some {α : Type} (a : α) : optM (some a) = pure a := rfl
@[simp] theorem optM_none {α : Type} : optM (none : Option α) = stuckM := rfl
def getM : M Store := fun m => .ok m m
def putM (m : Store) : M Unit := fun _ => .ok () m

/-! ### the relation -/
structure Ws where
  ad : List Addr
  mu : Store
  ex : List Addr
  H : Hp
/-- a is a live cell's -/
def Ws.C (S : Ws) (a : Addr) : Prop := ∃ (n : Nat) (c : Cell), S.mu[n]? = some c ∧ c.live = true ∧ S.ad[n]? = some a
/-- a may change -/
def Ws.L (S : Ws) (a : Addr) : Prop := a ∈ S.ex ∨ S.C a
/-- a stands still -/
def Fx (S : Ws) (a : Addr) (o : HO) : Prop := S.H a = some o ∧ ¬ S.L a
structure Step0 (S S' : Ws) : Prop where
  keep : ∀ a o, S.H a = some o → ¬ S.L a → S'.H a = some o ∧ ¬ S'.L a
  pre : ∀ (n : Nat) (a : Addr), S.ad[n]? = some a → S'.ad[n]? = some a
structure Ct where
  K : PySem.W.Frag
  nm : Nat → Str
  /-- the tables of code objects: where they lie, whose codes they hold -/
  tb : Nat → Addr × Str
  /-- what stands for a function, an exception, or a value that is only handed on -/
  fr : Nat → Ws → V → Prop
  frm : ∀ (k : Nat) (S S' : Ws) (v : V), Step0 S S' → fr k S v → fr k S' v
  frr : ∀ (k : Nat) (S : Ws) (v : V), fr k S v → ∃ a, v = .ref a
/-- no tables, no functions -/
abbrev Ct.plain (K : PySem.W.Frag) (nm : Nat → Str) : Ct := ⟨K, nm, fun _ => (0, ""), fun _ _ _ => False, fun _ _ _ _ _ h => h, fun _ _ _ h => h.elim⟩
def dKey : D → Option Key
  | .int i => some (.inl i)
  | .str x => some (.inr (toS x))
  | _ => none
def dKeyT : D → Option (List Key)
  | .tup ds => ds.mapM dKey
  | _ => none
/-- a written list; a list that stands still from ahead -/
def WrL (K : PySem.W.Frag) (a : Addr) (xs : List V) : Prop :=
  ∃ (o : Obj) (its : Array Value) (n : Nat), K.lookup a = some o ∧ o.cls = .type "list" ∧ o.dict = none ∧ o.data = .seq its n ∧ its.size ≤ sizeLine ∧ Vals xs its.toList
def FzL (K : PySem.W.Frag) (S : Ws) (a : Addr) (vs : List V) : Prop := (∃ o, Fx S a (.frz o (.lst vs))) ∨ WrL K a vs ∨ Fx S a (.lst vs)
theorem FzL.seq {K : PySem.W.Frag} {S : Ws} {a : Addr} {vs : List V} (h : FzL K S a vs) : SqL K S.H a vs := by
  rcases h with ⟨o, f⟩ | h | f
  · exact .inl (.inr ⟨o, f.1⟩)
  · exact .inr h
  · exact .inl (.inl f.1)
/-- a written tuple -/
def WrT (K : PySem.W.Frag) (a : Addr) (xs : List V) : Prop :=
  ∃ (o : Obj) (its : Array Value) (n : Nat), K.lookup a = some o ∧ o.cls = .type "tuple" ∧ o.data = .seq its n ∧ its.size ≤ sizeLine ∧ Vals xs its.toList
variable (C : Ct)
mutual
def Rep (S : Ws) : D → V → Prop
  | .non, v => v = .non
  | .bl b, v => v = .bl b
  | .int i, v => v = .int i
  | .str x, v => v = .str (toS x) ∧ x.length ≤ sizeLine
  | .lst ds, v => ∃ a vs, v = .ref a ∧ Fx S a (.lst vs) ∧ ds.length ≤ sizeLine ∧ Reps S ds vs
  | .tup ds, v => ∃ a vs, v = .ref a ∧ Fx S a (.tup vs) ∧ ds.length ≤ sizeLine ∧ Reps S ds vs
  | .wtp ds, v => ∃ a vs, v = .ref a ∧ WrT C.K a vs ∧ ds.length ≤ sizeLine ∧ Reps S ds vs
  | .frz ds, v => ∃ a vs, v = .ref a ∧ FzL C.K S a vs ∧ ds.length ≤ sizeLine ∧ Reps S ds vs
  | .set _, _ => False
  | .dct t ks ds, v => ∃ a, v = .ref a ∧ (if t = true then ∃ kvs : List (List Key × V), Fx S a (.dT kvs) ∧ ks.map dKeyT = kvs.map (fun p => some p.1) ∧ Reps S ds (kvs.map (·.2))
      else ∃ kvs : List (Key × V), Fx S a (.dK kvs) ∧ ks.map dKey = kvs.map (fun p => some p.1) ∧ Reps S ds (kvs.map (·.2)))
  | .ins c ks ds, v => ∃ a dx fvs, v = .ref a ∧ Fx S a (.ins (He.ga C.K (C.nm c)) dx fvs) ∧ fvs.map (·.1) = ks.map C.nm ∧ Reps S ds (fvs.map (·.2))
  | .obj n, v => ∃ a, S.ad[n]? = some a ∧ v = .ref a
  | .fn k, v => C.fr k S v
def Reps (S : Ws) : List D → List V → Prop
  | [], vs => vs = []
  | d :: ds, vs => ∃ v vs', vs = v :: vs' ∧ Rep S d v ∧ Reps S ds vs'
end
structure Step (S S' : Ws) : Prop extends Step0 S S' where
  exs : S'.ex = S.ex
  exk : ∀ a ∈ S.ex, S'.H a = S.H a
theorem Step0.refl (S : Ws) : Step0 S S := ⟨fun _ _ h n => ⟨h, n⟩, fun _ _ h => h⟩
theorem Step0.trans {S S1 S2 : Ws} (a : Step0 S S1) (b : Step0 S1 S2) : Step0 S S2 :=
  ⟨fun x o h n => let ⟨h1, n1⟩ := a.keep x o h n; b.keep x o h1 n1, fun n x h => b.pre n x (a.pre n x h)⟩
theorem Step.refl (S : Ws) : Step S S := ⟨.refl S, rfl, fun _ _ => rfl⟩
theorem Step.trans {S S1 S2 : Ws} (a : Step S S1) (b : Step S1 S2) : Step S S2 := ⟨a.toStep0.trans b.toStep0, b.exs.trans a.exs, fun x h => (b.exk x (by rw [a.exs]; exact h)).trans (a.exk x h)⟩
theorem Step0.fx {S S' : Ws} (st : Step0 S S') {a : Addr} {o : HO} (h : Fx S a o) : Fx S' a o := st.keep a o h.1 h.2
theorem FzL.fx {K : PySem.W.Frag} {S S' : Ws} {a : Addr} {vs : List V} (h : FzL K S a vs) (st : Step0 S S') : FzL K S' a vs := by
  rcases h with ⟨o, f⟩ | h | f
  · exact .inl ⟨o, st.fx f⟩
  · exact .inr (.inl h)
  · exact .inr (.inr (st.fx f))
variable {C}
mutual
theorem Rep.mono0 {S S' : Ws} (st : Step0 S S') : ∀ {d : D} {v : V}, Rep C S d v → Rep C S' d v
  | .non, v, h => by simp only [Rep] at h ⊢; exact h
  | .bl b, v, h => by simp only [Rep] at h ⊢; exact h
  | .int b, v, h => by simp only [Rep] at h ⊢; exact h
  | .str b, v, h => by simp only [Rep] at h ⊢; exact h
  | .lst ds, v, h => by
    simp only [Rep] at h ⊢
    obtain ⟨a, vs, e, f, l, r⟩ := h
    exact ⟨a, vs, e, st.fx f, l, Reps.mono0 st r⟩
  | .tup ds, v, h => by
    simp only [Rep] at h ⊢
    obtain ⟨a, vs, e, f, l, r⟩ := h
    exact ⟨a, vs, e, st.fx f, l, Reps.mono0 st r⟩
  | .wtp ds, v, h => by
    simp only [Rep] at h ⊢
    obtain ⟨a, vs, e, f, l, r⟩ := h
    exact ⟨a, vs, e, f, l, Reps.mono0 st r⟩
  | .frz ds, v, h => by
    simp only [Rep] at h ⊢
    obtain ⟨a, vs, e, f, l, r⟩ := h
    exact ⟨a, vs, e, f.fx st, l, Reps.mono0 st r⟩
  | .set ds, v, h => by simp only [Rep] at h
  | .dct t ks ds, v, h => by
    simp only [Rep] at h ⊢
    obtain ⟨a, e, h⟩ := h
    refine ⟨a, e, ?_⟩
    split at h
    · rename_i ht; rw [if_pos ht]; obtain ⟨kvs, f, k, r⟩ := h; exact ⟨kvs, st.fx f, k, Reps.mono0 st r⟩
    · rename_i ht; rw [if_neg ht]; obtain ⟨kvs, f, k, r⟩ := h; exact ⟨kvs, st.fx f, k, Reps.mono0 st r⟩
  | .ins c ks ds, v, h => by
    simp only [Rep] at h ⊢
    obtain ⟨a, dx, fvs, e, f, k, r⟩ := h
    exact ⟨a, dx, fvs, e, st.fx f, k, Reps.mono0 st r⟩
  | .obj n, v, h => by
    simp only [Rep] at h ⊢
    obtain ⟨a, e, r⟩ := h
    exact ⟨a, st.pre _ _ e, r⟩
  | .fn k, v, h => by simp only [Rep] at h ⊢; exact C.frm k S S' v st h
theorem Reps.mono0 {S S' : Ws} (st : Step0 S S') : ∀ {ds : List D} {vs : List V}, Reps C S ds vs → Reps C S' ds vs
  | [], vs, h => by simp only [Reps] at h ⊢; exact h
  | d :: ds, vs, h => by
    simp only [Reps] at h ⊢
    obtain ⟨v, vs', e, r, t⟩ := h
    exact ⟨v, vs', e, Rep.mono0 st r, Reps.mono0 st t⟩
end
theorem Rep.mono {S S' : Ws} (st : Step S S') {d : D} {v : V} (h : Rep C S d v) : Rep C S' d v := Rep.mono0 st.toStep0 h
theorem Reps.mono {S S' : Ws} (st : Step S S') {d : List D} {v : List V} (h : Reps C S d v) : Reps C S' d v := Reps.mono0 st.toStep0 h
/-- the table at a: each code object that it tells bears the name q and stands still -/
def TabQ (S : Ws) (a : Addr) (q : Str) : Prop := ∃ ps : Array Value, S.H a = some (.tbl ps) ∧ TriplesOk ps.toList ∧ ∀ (pos : Pos) (cv : Value), codeAmong pos ps.toList = some cv → ∃ c, cv = .ref c ∧ Fx S c (LamX.CodeO c q)
def CellAt (C : Ct) (S : Ws) (a : Addr) : Cell → Prop
  | .dead => True
  | .tab k => a = (C.tb k).1 ∧ TabQ S a (C.tb k).2
  | .lst ds => ∃ vs, S.H a = some (.lst vs) ∧ ds.length ≤ sizeLine ∧ Reps C S ds vs
  | .dct t ks ds => if t = true then ∃ kvs : List (List Key × V), S.H a = some (.dT kvs) ∧ ks.map dKeyT = kvs.map (fun p => some p.1) ∧ Reps C S ds (kvs.map (·.2))
      else ∃ kvs : List (Key × V), S.H a = some (.dK kvs) ∧ ks.map dKey = kvs.map (fun p => some p.1) ∧ Reps C S ds (kvs.map (·.2))
  | .ins c ks ds => ∃ dx fvs, S.H a = some (.ins (He.ga C.K (C.nm c)) dx fvs) ∧ fvs.map (·.1) = ks.map C.nm ∧ Reps C S ds (fvs.map (·.2))
structure Wf (C : Ct) (S : Ws) : Prop where
  len : S.ad.length = S.mu.length
  cell : ∀ (n : Nat) (c : Cell) (a : Addr), S.mu[n]? = some c → S.ad[n]? = some a → CellAt C S a c
  inj : ∀ (n k : Nat) (c d : Cell) (a : Addr), S.mu[n]? = some c → c.live = true → S.ad[n]? = some a → S.mu[k]? = some d → d.live = true → S.ad[k]? = some a → n = k
  exh : ∀ a ∈ S.ex, (∃ o, S.H a = some o) ∧ ¬ S.C a
  exd : S.ex.Nodup
theorem CellAt.has {S : Ws} {a : Addr} {c : Cell} (h : CellAt C S a c) (l : c.live = true) : ∃ o, S.H a = some o := by
  cases c with
  | tab k => obtain ⟨_, _, e, _⟩ := h; exact ⟨_, e⟩
  | dead => cases l
  | lst ds => obtain ⟨vs, e, _⟩ := h; exact ⟨_, e⟩
  | dct t ks ds =>
    simp only [CellAt] at h
    split at h
    · obtain ⟨_, e, _⟩ := h; exact ⟨_, e⟩
    · obtain ⟨_, e, _⟩ := h; exact ⟨_, e⟩
  | ins c ks ds => obtain ⟨_, _, e, _⟩ := h; exact ⟨_, e⟩
theorem Wf.hasC {S : Ws} (w : Wf C S) {a : Addr} (h : S.C a) : ∃ o, S.H a = some o := by
  obtain ⟨n, c, e, l, i⟩ := h
  exact (w.cell n c a e i).has l
theorem Wf.has {S : Ws} (w : Wf C S) {a : Addr} (h : S.L a) : ∃ o, S.H a = some o := by
  rcases h with h | h
  · exact (w.exh a h).1
  · exact w.hasC h
theorem Wf.fresh {S : Ws} (w : Wf C S) {p : Addr} (h : S.H p = none) : ¬ S.L p := fun l => by
  obtain ⟨o, e⟩ := w.has l
  rw [h] at e; cases e
theorem CellAt.keep {S S' : Ws} (st : Step0 S S') {a : Addr} {c : Cell} (e : S'.H a = S.H a) (h : CellAt C S a c) : CellAt C S' a c := by
  cases c with
  | tab k =>
    obtain ⟨h0, ps, h1, h2, h3⟩ := h
    exact ⟨h0, ps, e.trans h1, h2, fun pos cv hc => let ⟨c, e1, e2⟩ := h3 pos cv hc; ⟨c, e1, st.fx e2⟩⟩
  | dead => trivial
  | lst ds => obtain ⟨vs, q, l, r⟩ := h; exact ⟨vs, e.trans q, l, r.mono0 st⟩
  | dct t ks ds =>
    simp only [CellAt] at h ⊢
    split at h
    · rename_i ht; rw [if_pos ht]; obtain ⟨x, q, k, r⟩ := h; exact ⟨x, e.trans q, k, r.mono0 st⟩
    · rename_i ht; rw [if_neg ht]; obtain ⟨x, q, k, r⟩ := h; exact ⟨x, e.trans q, k, r.mono0 st⟩
  | ins c ks ds => obtain ⟨dx, x, q, k, r⟩ := h; exact ⟨dx, x, e.trans q, k, r.mono0 st⟩
/-- a new object that stands still -/
abbrev Ws.new (S : Ws) (p : Addr) (o : HO) : Ws := ⟨S.ad, S.mu, S.ex, upd S.H p o⟩
theorem Step0.new {S : Ws} {p : Addr} {o : HO} (h : S.H p = none) : Step0 S (S.new p o) :=
  ⟨fun a u e n => ⟨by show upd S.H p o a = _; rw [upd_ne (ne_of_none e h)]; exact e, n⟩, fun _ _ e => e⟩
theorem Step.new {S : Ws} (w : Wf C S) {p : Addr} {o : HO} (h : S.H p = none) : Step S (S.new p o) :=
  ⟨Step0.new h, rfl, fun a ha => by
    obtain ⟨⟨u, hu⟩, _⟩ := w.exh a ha
    show upd S.H p o a = _
    rw [upd_ne (ne_of_none hu h)]⟩
theorem Wf.new {S : Ws} (w : Wf C S) {p : Addr} {o : HO} (h : S.H p = none) : Wf C (S.new p o) where
  len := w.len
  inj := w.inj
  exd := w.exd
  exh := fun a ha => by
    obtain ⟨⟨u, hu⟩, n⟩ := w.exh a ha
    exact ⟨⟨u, by show upd S.H p o a = _; rw [upd_ne (ne_of_none hu h)]; exact hu⟩, n⟩
  cell := fun n c a e i => by
    have q := w.cell n c a e i
    cases l : c.live with
    | false =>
      cases c with
      | dead => trivial
      | _ => cases l
    | true =>
      obtain ⟨u, hu⟩ := q.has l
      exact q.keep (Step0.new h) (by show upd S.H p o a = _; rw [upd_ne (ne_of_none hu h)])
theorem Fx.new {S : Ws} (w : Wf C S) {p : Addr} {o : HO} (h : S.H p = none) : Fx (S.new p o) p o := ⟨upd_same, w.fresh h⟩
/-- a new cell -/
abbrev Ws.cell (S : Ws) (p : Addr) (o : HO) (c : Cell) : Ws := ⟨S.ad ++ [p], S.mu ++ [c], S.ex, upd S.H p o⟩
theorem C_cell {S : Ws} (w : Wf C S) {p a : Addr} {o : HO} {c : Cell} (h : (S.cell p o c).C a) : S.C a ∨ a = p := by
  obtain ⟨n, d, e, l, i⟩ := h
  rcases Nat.lt_or_ge n S.mu.length with q | q
  · have q' : n < S.ad.length := by rw [w.len]; exact q
    rw [List.getElem?_append_left q] at e
    rw [List.getElem?_append_left q'] at i
    exact .inl ⟨n, d, e, l, i⟩
  · have q' : S.ad.length ≤ n := by rw [w.len]; exact q
    rw [List.getElem?_append_right q'] at i
    cases k : n - S.ad.length with
    | zero => rw [k] at i; simp at i; exact .inr i.symm
    | succ m => rw [k] at i; simp at i
theorem L_cell {S : Ws} (w : Wf C S) {p a : Addr} {o : HO} {c : Cell} (h : (S.cell p o c).L a) : S.L a ∨ a = p := by
  rcases h with h | h
  · exact .inl (.inl h)
  · exact (C_cell w h).imp .inr id
theorem Step.cell {S : Ws} (w : Wf C S) {p : Addr} {o : HO} {c : Cell} (h : S.H p = none) : Step S (S.cell p o c) :=
  ⟨⟨fun a u e n => ⟨by show upd S.H p o a = _; rw [upd_ne (ne_of_none e h)]; exact e, fun l => (L_cell w l).elim n fun z => by rw [z, h] at e; cases e⟩,
   fun n a e => by
    have := (List.getElem?_eq_some_iff.mp e).1
    show (S.ad ++ [p])[n]? = _
    rw [List.getElem?_append_left this]; exact e⟩, rfl, fun a ha => by
    obtain ⟨⟨u, hu⟩, _⟩ := w.exh a ha
    show upd S.H p o a = _
    rw [upd_ne (ne_of_none hu h)]⟩
theorem Wf.cell' {S : Ws} (w : Wf C S) {p : Addr} {o : HO} {c : Cell} (h : S.H p = none) (hc : CellAt C (S.cell p o c) p c) : Wf C (S.cell p o c) where
  len := by simp [w.len]
  exd := w.exd
  exh := fun a ha => by
    obtain ⟨⟨u, hu⟩, n⟩ := w.exh a ha
    refine ⟨⟨u, by show upd S.H p o a = _; rw [upd_ne (ne_of_none hu h)]; exact hu⟩, fun q => (C_cell w q).elim n fun z => ?_⟩
    rw [z, h] at hu; cases hu
  inj := by
    have key : ∀ (n : Nat) (d : Cell) (a : Addr), (S.mu ++ [c])[n]? = some d → (S.ad ++ [p])[n]? = some a → (S.mu[n]? = some d ∧ S.ad[n]? = some a) ∨ (n = S.mu.length ∧ a = p) := by
      intro n d a e i
      rcases Nat.lt_or_ge n S.mu.length with q | q
      · have q' : n < S.ad.length := by rw [w.len]; exact q
        rw [List.getElem?_append_left q] at e
        rw [List.getElem?_append_left q'] at i
        exact .inl ⟨e, i⟩
      · have q' : S.ad.length ≤ n := by rw [w.len]; exact q
        rw [List.getElem?_append_right q'] at i
        cases k : n - S.ad.length with
        | zero => rw [k] at i; simp at i; rw [w.len] at k q'; exact .inr ⟨by omega, i.symm⟩
        | succ m => rw [k] at i; simp at i
    intro n k c1 c2 a e1 l1 i1 e2 l2 i2
    rcases key n c1 a e1 i1 with ⟨x1, y1⟩ | ⟨x1, y1⟩ <;> rcases key k c2 a e2 i2 with ⟨x2, y2⟩ | ⟨x2, y2⟩
    · exact w.inj n k c1 c2 a x1 l1 y1 x2 l2 y2
    · subst y2; exact absurd (.inr ⟨n, c1, x1, l1, y1⟩) (w.fresh h)
    · subst y1; exact absurd (.inr ⟨k, c2, x2, l2, y2⟩) (w.fresh h)
    · rw [x1, x2]
  cell := fun n d a e i => by
    rcases Nat.lt_or_ge n S.mu.length with q | q
    · have q' : n < S.ad.length := by rw [w.len]; exact q
      have e' : S.mu[n]? = some d := by rw [← List.getElem?_append_left q (l₂ := [c])]; exact e
      have i' : S.ad[n]? = some a := by rw [← List.getElem?_append_left q' (l₂ := [p])]; exact i
      have z := w.cell n d a e' i'
      cases l : d.live with
      | false =>
        cases d with
        | dead => trivial
        | _ => cases l
      | true =>
        obtain ⟨u, hu⟩ := z.has l
        exact z.keep (Step.cell w h).toStep0 (by show upd S.H p o a = _; rw [upd_ne (ne_of_none hu h)])
    · have q' : S.ad.length ≤ n := by rw [w.len]; exact q
      have e' : (S.mu ++ [c])[n]? = some d := e
      have i' : (S.ad ++ [p])[n]? = some a := i
      rw [List.getElem?_append_right q'] at i'
      rw [List.getElem?_append_right q] at e'
      cases k : n - S.ad.length with
      | zero =>
        rw [k] at i'; rw [w.len] at k; rw [k] at e'
        simp at i' e'
        subst i'; subst e'
        exact hc
      | succ m => rw [k] at i'; simp at i'
/-- a cell is written, or given up -/
abbrev Ws.put (S : Ws) (n : Nat) (a : Addr) (o : HO) (c : Cell) : Ws := ⟨S.ad, S.mu.set n c, S.ex, upd S.H a o⟩
theorem C_put {S : Ws} {n : Nat} {a b : Addr} {o : HO} {c d : Cell} (hd : S.mu[n]? = some d) (l : d.live = true) (h : (S.put n a o c).C b) : S.C b := by
  obtain ⟨k, d', e, l', i⟩ := h
  by_cases q : k = n
  · subst q; exact ⟨k, d, hd, l, i⟩
  · have e' : (S.mu.set n c)[k]? = some d' := e
    rw [List.getElem?_set_ne (Ne.symm q)] at e'
    exact ⟨k, d', e', l', i⟩
theorem L_put {S : Ws} {n : Nat} {a b : Addr} {o : HO} {c d : Cell} (hd : S.mu[n]? = some d) (l : d.live = true) (h : (S.put n a o c).L b) : S.L b := h.imp id (C_put hd l)
theorem Step.put {S : Ws} (w : Wf C S) {n : Nat} {a : Addr} {o : HO} {c d : Cell} (hd : S.mu[n]? = some d) (l : d.live = true) (ha : S.ad[n]? = some a) : Step S (S.put n a o c) :=
  ⟨⟨fun b u e nl => ⟨by
      show upd S.H a o b = _
      rw [upd_ne (fun z => nl (by rw [z]; exact .inr ⟨n, d, hd, l, ha⟩))]; exact e, fun z => nl (L_put hd l z)⟩, fun _ _ e => e⟩, rfl, fun b hb => by
    show upd S.H a o b = _
    rw [upd_ne (fun z => (w.exh b hb).2 (by rw [z]; exact ⟨n, d, hd, l, ha⟩))]⟩
theorem Wf.put {S : Ws} (w : Wf C S) {n : Nat} {a : Addr} {o : HO} {c d : Cell} (hd : S.mu[n]? = some d) (l : d.live = true) (ha : S.ad[n]? = some a)
    (hc : CellAt C (S.put n a o c) a c) : Wf C (S.put n a o c) where
  len := by simp [w.len]
  exd := w.exd
  exh := fun b hb => by
    obtain ⟨⟨u, hu⟩, k⟩ := w.exh b hb
    refine ⟨⟨u, ?_⟩, fun q => k (C_put hd l q)⟩
    show upd S.H a o b = _
    rw [upd_ne (fun z => k (by rw [z]; exact ⟨n, d, hd, l, ha⟩))]; exact hu
  inj := by
    have key : ∀ (k : Nat) (e : Cell) (b : Addr), (S.mu.set n c)[k]? = some e → e.live = true → S.ad[k]? = some b → ∃ e' : Cell, S.mu[k]? = some e' ∧ e'.live = true := by
      intro k e b h1 h2 h3
      by_cases q : k = n
      · subst q; exact ⟨d, hd, l⟩
      · rw [List.getElem?_set_ne (Ne.symm q)] at h1; exact ⟨e, h1, h2⟩
    intro k j c1 c2 b e1 l1 i1 e2 l2 i2
    obtain ⟨d1, x1, y1⟩ := key k c1 b e1 l1 i1
    obtain ⟨d2, x2, y2⟩ := key j c2 b e2 l2 i2
    exact w.inj k j d1 d2 b x1 y1 i1 x2 y2 i2
  cell := fun k e b h1 h2 => by
    by_cases q : k = n
    · subst q
      have h1' : (S.mu.set k c)[k]? = some e := h1
      rw [List.getElem?_set_self (List.getElem?_eq_some_iff.mp hd).1] at h1'
      have h2' : S.ad[k]? = some b := h2
      rw [ha] at h2'
      cases h1'; cases h2'
      exact hc
    · have h1' : (S.mu.set n c)[k]? = some e := h1
      rw [List.getElem?_set_ne (Ne.symm q)] at h1'
      have z := w.cell k e b h1' h2
      cases le : e.live with
      | false =>
        cases e with
        | dead => trivial
        | _ => cases le
      | true =>
        refine z.keep (Step.put w hd l ha).toStep0 ?_
        show upd S.H a o b = _
        rw [upd_ne (fun y => q (w.inj k n e d a h1' le (by rw [← y]; exact h2) hd l ha))]
/-- a cell is given up: its object stands still from now on -/
abbrev Ws.drop (S : Ws) (n : Nat) : Ws := ⟨S.ad, S.mu.set n .dead, S.ex, S.H⟩
theorem C_drop {S : Ws} {n : Nat} {b : Addr} (h : (S.drop n).C b) : S.C b := by
  obtain ⟨k, d', e, l', i⟩ := h
  by_cases q : k = n
  · subst q
    have e' : (S.mu.set k Cell.dead)[k]? = some d' := e
    by_cases z : k < S.mu.length
    · rw [List.getElem?_set_self z] at e'; cases e'; cases l'
    · rw [List.getElem?_eq_none (by simp; omega)] at e'; cases e'
  · have e' : (S.mu.set n Cell.dead)[k]? = some d' := e
    rw [List.getElem?_set_ne (Ne.symm q)] at e'
    exact ⟨k, d', e', l', i⟩
theorem L_drop {S : Ws} {n : Nat} {b : Addr} (h : (S.drop n).L b) : S.L b := h.imp id C_drop
theorem drop_notL {S : Ws} (w : Wf C S) {n : Nat} {a : Addr} {d : Cell} (hd : S.mu[n]? = some d) (l : d.live = true) (ha : S.ad[n]? = some a) : ¬ (S.drop n).L a := fun h => by
  rcases h with h | h
  · exact (w.exh a h).2 ⟨n, d, hd, l, ha⟩
  obtain ⟨k, d', e, l', i⟩ := h
  by_cases q : k = n
  · subst q
    have e' : (S.mu.set k Cell.dead)[k]? = some d' := e
    rw [List.getElem?_set_self (List.getElem?_eq_some_iff.mp hd).1] at e'; cases e'; cases l'
  · have e' : (S.mu.set n Cell.dead)[k]? = some d' := e
    rw [List.getElem?_set_ne (Ne.symm q)] at e'
    exact q (w.inj k n d' d a e' l' i hd l ha)
theorem Step.drop {S : Ws} {n : Nat} : Step S (S.drop n) := ⟨⟨fun _ _ e nl => ⟨e, fun z => nl (L_drop z)⟩, fun _ _ e => e⟩, rfl, fun _ _ => rfl⟩
theorem Wf.drop {S : Ws} (w : Wf C S) {n : Nat} : Wf C (S.drop n) where
  len := by simp [w.len]
  exd := w.exd
  exh := fun b hb => ⟨(w.exh b hb).1, fun q => (w.exh b hb).2 (C_drop q)⟩
  inj := by
    have key : ∀ (k : Nat) (e : Cell), (S.mu.set n Cell.dead)[k]? = some e → e.live = true → S.mu[k]? = some e := by
      intro k e h1 h2
      by_cases q : k = n
      · subst q
        by_cases z : k < S.mu.length
        · rw [List.getElem?_set_self z] at h1; cases h1; cases h2
        · rw [List.getElem?_eq_none (by simp; omega)] at h1; cases h1
      · rw [List.getElem?_set_ne (Ne.symm q)] at h1; exact h1
    intro k j c1 c2 b e1 l1 i1 e2 l2 i2
    exact w.inj k j c1 c2 b (key k c1 e1 l1) l1 i1 (key j c2 e2 l2) l2 i2
  cell := fun k e b h1 h2 => by
    by_cases q : k = n
    · subst q
      have h1' : (S.mu.set k Cell.dead)[k]? = some e := h1
      by_cases z : k < S.mu.length
      · rw [List.getElem?_set_self z] at h1'; cases h1'; trivial
      · rw [List.getElem?_eq_none (by simp; omega)] at h1'; cases h1'
    · have h1' : (S.mu.set n Cell.dead)[k]? = some e := h1
      rw [List.getElem?_set_ne (Ne.symm q)] at h1'
      exact (w.cell k e b h1' h2).keep Step.drop.toStep0 rfl

/-- an object that changes, outside the store (a comprehension's list) -/
abbrev Ws.push (S : Ws) (p : Addr) (o : HO) : Ws := ⟨S.ad, S.mu, p :: S.ex, upd S.H p o⟩
theorem Step0.push {S : Ws} {p : Addr} {o : HO} (h : S.H p = none) : Step0 S (S.push p o) :=
  ⟨fun a u e n => ⟨by show upd S.H p o a = _; rw [upd_ne (ne_of_none e h)]; exact e, fun z => by
    rcases z with z | z
    · rcases List.mem_cons.mp z with z | z
      · rw [z, h] at e; cases e
      · exact n (.inl z)
    · exact n (.inr z)⟩, fun _ _ e => e⟩
theorem Wf.push {S : Ws} (w : Wf C S) {p : Addr} {o : HO} (h : S.H p = none) : Wf C (S.push p o) where
  len := w.len
  inj := w.inj
  exd := List.nodup_cons.mpr ⟨fun z => w.fresh h (.inl z), w.exd⟩
  exh := fun a ha => by
    rcases List.mem_cons.mp ha with z | z
    · subst z; exact ⟨⟨o, upd_same⟩, fun q => w.fresh h (.inr q)⟩
    · obtain ⟨⟨u, hu⟩, n⟩ := w.exh a z
      exact ⟨⟨u, by show upd S.H p o a = _; rw [upd_ne (ne_of_none hu h)]; exact hu⟩, n⟩
  cell := fun n c a e i => by
    have q := w.cell n c a e i
    cases l : c.live with
    | false =>
      cases c with
      | dead => trivial
      | _ => cases l
    | true =>
      obtain ⟨u, hu⟩ := q.has l
      exact q.keep (Step0.push h) (by show upd S.H p o a = _; rw [upd_ne (ne_of_none hu h)])
abbrev Ws.at (S : Ws) (p : Addr) (o : HO) : Ws := ⟨S.ad, S.mu, S.ex, upd S.H p o⟩
theorem Step0.at {S : Ws} {p : Addr} {o : HO} (h : p ∈ S.ex) : Step0 S (S.at p o) :=
  ⟨fun a u e n => ⟨by show upd S.H p o a = _; rw [upd_ne (fun z => n (by rw [z]; exact .inl h))]; exact e, n⟩, fun _ _ e => e⟩
theorem Wf.at {S : Ws} (w : Wf C S) {p : Addr} {o : HO} (h : p ∈ S.ex) : Wf C (S.at p o) where
  len := w.len
  inj := w.inj
  exd := w.exd
  exh := fun a ha => by
    refine ⟨?_, (w.exh a ha).2⟩
    by_cases z : a = p
    · subst z; exact ⟨o, upd_same⟩
    · obtain ⟨u, hu⟩ := (w.exh a ha).1
      exact ⟨u, by show upd S.H p o a = _; rw [upd_ne z]; exact hu⟩
  cell := fun n c a e i => by
    have q := w.cell n c a e i
    cases l : c.live with
    | false =>
      cases c with
      | dead => trivial
      | _ => cases l
    | true =>
      exact q.keep (Step0.at h) (by
        show upd S.H p o a = _
        rw [upd_ne (fun z => (w.exh p h).2 (by rw [← z]; exact ⟨n, c, e, l, i⟩))])
abbrev Ws.pop (S : Ws) (ex : List Addr) : Ws := ⟨S.ad, S.mu, ex, S.H⟩
theorem Step0.pop {S : Ws} {ex : List Addr} (h : ∀ a ∈ ex, a ∈ S.ex) : Step0 S (S.pop ex) := ⟨fun a u e n => ⟨e, fun z => n (z.imp (h a) id)⟩, fun _ _ e => e⟩
theorem Wf.pop {S : Ws} (w : Wf C S) {ex : List Addr} {p : Addr} (h : S.ex = p :: ex) : Wf C (S.pop ex) where
  len := w.len
  inj := w.inj
  exd := by have := w.exd; rw [h] at this; exact (List.nodup_cons.mp this).2
  exh := fun a ha => w.exh a (by rw [h]; exact List.mem_cons_of_mem _ ha)
  cell := fun n c a e i => (w.cell n c a e i).keep (Step0.pop fun b hb => by rw [h]; exact List.mem_cons_of_mem _ hb) rfl
theorem pop_notL {S : Ws} (w : Wf C S) {ex : List Addr} {p : Addr} (h : S.ex = p :: ex) : ¬ (S.pop ex).L p := fun z => by
  rcases z with z | z
  · have := w.exd; rw [h] at this; exact (List.nodup_cons.mp this).1 z
  · exact (w.exh p (by rw [h]; exact List.mem_cons_self)).2 z

/-! ### lists of data -/
theorem Reps.len {S : Ws} : ∀ {ds : List D} {vs : List V}, Reps C S ds vs → ds.length = vs.length
  | [], vs, h => by simp only [Reps] at h; rw [h]; rfl
  | d :: ds, vs, h => by
    simp only [Reps] at h
    obtain ⟨v, vs', e, _, t⟩ := h
    rw [e, List.length_cons, List.length_cons, Reps.len t]
theorem Reps.nil {S : Ws} : Reps C S [] [] := by simp only [Reps]
theorem Reps.cons {S : Ws} {d : D} {v : V} {ds : List D} {vs : List V} (h : Rep C S d v) (t : Reps C S ds vs) : Reps C S (d :: ds) (v :: vs) := by
  simp only [Reps]; exact ⟨v, vs, rfl, h, t⟩
theorem Reps.append {S : Ws} : ∀ {ds es : List D} {vs us : List V}, Reps C S ds vs → Reps C S es us → Reps C S (ds ++ es) (vs ++ us)
  | [], es, vs, us, h, t => by simp only [Reps] at h; rw [h]; exact t
  | d :: ds, es, vs, us, h, t => by
    simp only [Reps] at h
    obtain ⟨v, vs', e, r, q⟩ := h
    rw [e]; exact Reps.cons r (Reps.append q t)
theorem Reps.get {S : Ws} : ∀ {ds : List D} {vs : List V} {i : Nat} {d : D}, Reps C S ds vs → ds[i]? = some d → ∃ v, vs[i]? = some v ∧ Rep C S d v
  | [], vs, i, d, h, e => by simp at e
  | x :: ds, vs, 0, d, h, e => by
    simp only [Reps] at h
    obtain ⟨v, vs', e', r, _⟩ := h
    simp at e; subst e; subst e'
    exact ⟨v, rfl, r⟩
  | x :: ds, vs, i + 1, d, h, e => by
    simp only [Reps] at h
    obtain ⟨v, vs', e', _, t⟩ := h
    subst e'
    obtain ⟨u, h1, h2⟩ := Reps.get (i := i) t (by simpa using e)
    exact ⟨u, by simpa using h1, h2⟩
theorem Reps.get' {S : Ws} : ∀ {ds : List D} {vs : List V} {i : Nat} {v : V}, Reps C S ds vs → vs[i]? = some v → ∃ d, ds[i]? = some d ∧ Rep C S d v
  | [], vs, i, v, h, e => by simp only [Reps] at h; rw [h] at e; simp at e
  | x :: ds, vs, 0, v, h, e => by
    simp only [Reps] at h
    obtain ⟨u, vs', e', r, _⟩ := h
    subst e'; simp at e; subst e
    exact ⟨x, rfl, r⟩
  | x :: ds, vs, i + 1, v, h, e => by
    simp only [Reps] at h
    obtain ⟨u, vs', e', _, t⟩ := h
    subst e'
    obtain ⟨d, h1, h2⟩ := Reps.get' (i := i) t (by simpa using e)
    exact ⟨d, by simpa using h1, h2⟩
theorem Reps.take {S : Ws} : ∀ {ds : List D} {vs : List V} (n : Nat), Reps C S ds vs → Reps C S (ds.take n) (vs.take n)
  | ds, vs, 0, _ => by simp only [List.take_zero]; exact Reps.nil
  | [], vs, n + 1, h => by simp only [Reps] at h; rw [h]; simp only [List.take_nil]; exact Reps.nil
  | d :: ds, vs, n + 1, h => by
    simp only [Reps] at h
    obtain ⟨v, vs', e, r, t⟩ := h
    subst e; exact Reps.cons r (Reps.take n t)
theorem Reps.drop {S : Ws} : ∀ {ds : List D} {vs : List V} (n : Nat), Reps C S ds vs → Reps C S (ds.drop n) (vs.drop n)
  | ds, vs, 0, h => h
  | [], vs, n + 1, h => by simp only [Reps] at h; rw [h]; simp only [List.drop_nil]; exact Reps.nil
  | d :: ds, vs, n + 1, h => by
    simp only [Reps] at h
    obtain ⟨v, vs', e, r, t⟩ := h
    subst e; exact Reps.drop n t
theorem Reps.set {S : Ws} {d : D} {v : V} (r : Rep C S d v) : ∀ {ds : List D} {vs : List V} (n : Nat), Reps C S ds vs → Reps C S (ds.set n d) (vs.set n v)
  | [], vs, n, h => by simp only [Reps] at h; rw [h]; simp only [List.set_nil]; exact Reps.nil
  | x :: ds, vs, 0, h => by
    simp only [Reps] at h
    obtain ⟨u, vs', e, _, t⟩ := h
    subst e; exact Reps.cons r t
  | x :: ds, vs, n + 1, h => by
    simp only [Reps] at h
    obtain ⟨u, vs', e, q, t⟩ := h
    subst e; exact Reps.cons q (Reps.set r n t)

/-! ### slots -/
abbrev Env := List (Option D)
structure SRep (C : Ct) (S : Ws) (r : Env) (σ : L2.St) : Prop where
  len : r.length = σ.length
  at_ : ∀ (i : Nat) (d : D), r[i]? = some (some d) → ∃ v, σ[i]? = some (some v) ∧ Rep C S d v
theorem SRep.mono {S S' : Ws} (st : Step S S') {r : Env} {σ : L2.St} (h : SRep C S r σ) : SRep C S' r σ :=
  ⟨h.len, fun i d e => let ⟨v, a, b⟩ := h.at_ i d e; ⟨v, a, b.mono st⟩⟩
theorem SRep.set {S : Ws} {r : Env} {σ : L2.St} (h : SRep C S r σ) {i : Nat} {d : D} {v : V} (q : Rep C S d v) : SRep C S (r.set i (some d)) (σ.set i (some v)) :=
  ⟨by simp [h.len], fun j e hj => by
    by_cases z : i = j
    · subst z
      by_cases l : i < r.length
      · rw [List.getElem?_set_self l] at hj
        cases hj
        exact ⟨v, by rw [List.getElem?_set_self (by rw [← h.len]; exact l)], q⟩
      · rw [List.getElem?_eq_none (by simp; omega)] at hj; cases hj
    · rw [List.getElem?_set_ne z] at hj
      obtain ⟨u, a, b⟩ := h.at_ j e hj
      exact ⟨u, by rw [List.getElem?_set_ne z]; exact a, b⟩⟩

/-! ### what is wanted behind an evaluation -/
def ExcAt (C : Ct) (S : Ws) (ks : List Nat) (ds : List D) (dx : Addr) : Prop := ∃ fvs : List (Str × V), Fx S dx (.xd fvs) ∧ fvs.map (·.1) = ks.map C.nm ∧ Reps C S ds (fvs.map (·.2))
def PostE (C : Ct) (S : Ws) (r : R D) (W : XK) (Q : VK) : Prop :=
  match r with
  | .ok d m => ∀ S' v, S'.mu = m → Wf C S' → Step S S' → Rep C S' d v → Q v S'.H
  | .exc c ks ds m => ∀ S' dx, S'.mu = m → Wf C S' → Step S S' → ExcAt C S' ks ds dx → W (.ref (He.ga C.K (C.nm c))) (some dx) S'.H
  | .stuck => False
theorem PostE.step {S S' : Ws} (st : Step S S') {r : R D} {W : XK} {Q : VK} (h : PostE C S r W Q) : PostE C S' r W Q := by
  cases r with
  | ok d m => exact fun S2 v e w s r => h S2 v e w (st.trans s) r
  | exc c ks ds m => exact fun S2 v e w s r => h S2 v e w (st.trans s) r
  | stuck => exact h
theorem PostE.imp {S : Ws} {r : R D} {W : XK} {Q Q' : VK} (h : PostE C S r W Q) (k : ∀ v H, Q v H → Q' v H) : PostE C S r W Q' := by
  cases r with
  | ok d m => exact fun S2 v e w s r => k _ _ (h S2 v e w s r)
  | exc c ks ds m => exact h
  | stuck => exact h
/-- the same of lists of values -/
def PostA (C : Ct) (S : Ws) (r : R (List D)) (W : XK) (Q : List V → Hp → Prop) : Prop :=
  match r with
  | .ok ds m => ∀ S' vs, S'.mu = m → Wf C S' → Step S S' → Reps C S' ds vs → Q vs S'.H
  | .exc c ks ds m => ∀ S' dx, S'.mu = m → Wf C S' → Step S S' → ExcAt C S' ks ds dx → W (.ref (He.ga C.K (C.nm c))) (some dx) S'.H
  | .stuck => False
def PostT (C : Ct) (S : Ws) (r : R Bool) (W : XK) (Q : Bool → Hp → Prop) : Prop :=
  match r with
  | .ok b m => ∀ S', S'.mu = m → Wf C S' → Step S S' → Q b S'.H
  | .exc c ks ds m => ∀ S' dx, S'.mu = m → Wf C S' → Step S S' → ExcAt C S' ks ds dx → W (.ref (He.ga C.K (C.nm c))) (some dx) S'.H
  | .stuck => False
/-- one evaluation behind another -/
theorem PostE.bind {S : Ws} {x : M D} {g : D → M D} {W : XK} {Q : VK} (h : PostE C S ((x >>= g) S.mu) W Q) :
    PostE C S (x S.mu) W (fun v H' => ∃ S' d, S'.H = H' ∧ Wf C S' ∧ Step S S' ∧ Rep C S' d v ∧ PostE C S' (g d S'.mu) W Q) := by
  rw [M.bind_ap] at h
  cases e : x S.mu with
  | ok d m =>
    rw [e] at h
    intro S' v em w st r
    subst em
    exact ⟨S', d, rfl, w, st, r, h.step st⟩
  | exc c ks ds m => rw [e] at h; exact h
  | stuck => rw [e] at h; exact h
theorem PostE.bindT {S : Ws} {x : M Bool} {g : Bool → M D} {W : XK} {Q : VK} (h : PostE C S ((x >>= g) S.mu) W Q) :
    PostT C S (x S.mu) W (fun b H' => ∃ S', S'.H = H' ∧ Wf C S' ∧ Step S S' ∧ PostE C S' (g b S'.mu) W Q) := by
  rw [M.bind_ap] at h
  cases e : x S.mu with
  | ok d m =>
    rw [e] at h
    intro S' em w st
    subst em
    exact ⟨S', rfl, w, st, h.step st⟩
  | exc c ks ds m => rw [e] at h; exact h
  | stuck => rw [e] at h; exact h
theorem PostE.bindA {S : Ws} {x : M (List D)} {g : List D → M D} {W : XK} {Q : VK} (h : PostE C S ((x >>= g) S.mu) W Q) :
    PostA C S (x S.mu) W (fun vs H' => ∃ S' ds, S'.H = H' ∧ Wf C S' ∧ Step S S' ∧ Reps C S' ds vs ∧ PostE C S' (g ds S'.mu) W Q) := by
  rw [M.bind_ap] at h
  cases e : x S.mu with
  | ok d m =>
    rw [e] at h
    intro S' v em w st r
    subst em
    exact ⟨S', d, rfl, w, st, r, h.step st⟩
  | exc c ks ds m => rw [e] at h; exact h
  | stuck => rw [e] at h; exact h
theorem PostT.step {S S' : Ws} (st : Step S S') {r : R Bool} {W : XK} {Q : Bool → Hp → Prop} (h : PostT C S r W Q) : PostT C S' r W Q := by
  cases r with
  | ok d m => exact fun S2 e w s => h S2 e w (st.trans s)
  | exc c ks ds m => exact fun S2 v e w s r => h S2 v e w (st.trans s) r
  | stuck => exact h
theorem PostA.step {S S' : Ws} (st : Step S S') {r : R (List D)} {W : XK} {Q : List V → Hp → Prop} (h : PostA C S r W Q) : PostA C S' r W Q := by
  cases r with
  | ok d m => exact fun S2 v e w s r => h S2 v e w (st.trans s) r
  | exc c ks ds m => exact fun S2 v e w s r => h S2 v e w (st.trans s) r
  | stuck => exact h
theorem PostT.bind {S : Ws} {x : M D} {g : D → M Bool} {W : XK} {Q : Bool → Hp → Prop} (h : PostT C S ((x >>= g) S.mu) W Q) :
    PostE C S (x S.mu) W (fun v H' => ∃ S' d, S'.H = H' ∧ Wf C S' ∧ Step S S' ∧ Rep C S' d v ∧ PostT C S' (g d S'.mu) W Q) := by
  rw [M.bind_ap] at h
  cases e : x S.mu with
  | ok d m =>
    rw [e] at h
    intro S' v em w st r
    subst em
    exact ⟨S', d, rfl, w, st, r, h.step st⟩
  | exc c ks ds m => rw [e] at h; exact h
  | stuck => rw [e] at h; exact h
theorem PostT.bindT {S : Ws} {x : M Bool} {g : Bool → M Bool} {W : XK} {Q : Bool → Hp → Prop} (h : PostT C S ((x >>= g) S.mu) W Q) :
    PostT C S (x S.mu) W (fun b H' => ∃ S', S'.H = H' ∧ Wf C S' ∧ Step S S' ∧ PostT C S' (g b S'.mu) W Q) := by
  rw [M.bind_ap] at h
  cases e : x S.mu with
  | ok d m =>
    rw [e] at h
    intro S' em w st
    subst em
    exact ⟨S', rfl, w, st, h.step st⟩
  | exc c ks ds m => rw [e] at h; exact h
  | stuck => rw [e] at h; exact h
theorem PostA.bind {S : Ws} {x : M D} {g : D → M (List D)} {W : XK} {Q : List V → Hp → Prop} (h : PostA C S ((x >>= g) S.mu) W Q) :
    PostE C S (x S.mu) W (fun v H' => ∃ S' d, S'.H = H' ∧ Wf C S' ∧ Step S S' ∧ Rep C S' d v ∧ PostA C S' (g d S'.mu) W Q) := by
  rw [M.bind_ap] at h
  cases e : x S.mu with
  | ok d m =>
    rw [e] at h
    intro S' v em w st r
    subst em
    exact ⟨S', d, rfl, w, st, r, h.step st⟩
  | exc c ks ds m => rw [e] at h; exact h
  | stuck => rw [e] at h; exact h
theorem PostA.bindA {S : Ws} {x : M (List D)} {g : List D → M (List D)} {W : XK} {Q : List V → Hp → Prop} (h : PostA C S ((x >>= g) S.mu) W Q) :
    PostA C S (x S.mu) W (fun vs H' => ∃ S' ds, S'.H = H' ∧ Wf C S' ∧ Step S S' ∧ Reps C S' ds vs ∧ PostA C S' (g ds S'.mu) W Q) := by
  rw [M.bind_ap] at h
  cases e : x S.mu with
  | ok d m =>
    rw [e] at h
    intro S' v em w st r
    subst em
    exact ⟨S', d, rfl, w, st, r, h.step st⟩
  | exc c ks ds m => rw [e] at h; exact h
  | stuck => rw [e] at h; exact h
theorem PostE.pure {S : Ws} (w : Wf C S) {d : D} {v : V} {W : XK} {Q : VK} (h : PostE C S (.ok d S.mu) W Q) (r : Rep C S d v) : Q v S.H := h S v rfl w (Step.refl S) r
/-- a new object that stands still is the value -/
theorem PostE.new {S : Ws} (w : Wf C S) {d : D} {p : Addr} {o : HO} {W : XK} {Q : VK} (h : PostE C S (.ok d S.mu) W Q) (hp : S.H p = none) (r : Fx (S.new p o) p o → Rep C (S.new p o) d (.ref p)) : Q (.ref p) (upd S.H p o) :=
  h (S.new p o) _ rfl (w.new hp) (Step.new w hp) (r (Fx.new w hp))

/-! ### the readings -/
def dnE (C : Ct) (f : Env → M D) (W : WX) : TE := fun σ H Q => ∃ r S, S.H = H ∧ Wf C S ∧ SRep C S r σ ∧ PostE C S (f r S.mu) (fun c d H' => W c d σ H') Q
def dnT (C : Ct) (f : Env → M Bool) (W : WX) : TT := fun σ H Q => ∃ r S, S.H = H ∧ Wf C S ∧ SRep C S r σ ∧ PostT C S (f r S.mu) (fun c d H' => W c d σ H') Q
def dnA (C : Ct) (f : Env → M (List D)) (W : WX) : TA := fun σ H Q => ∃ r S, S.H = H ∧ Wf C S ∧ SRep C S r σ ∧ PostA C S (f r S.mu) (fun c d H' => W c d σ H') Q
theorem PEw {X : Cx} {e : PySem.Expr} {t t' : TE} (h : PE X e t) (k : ∀ σ H Q, t' σ H Q → t σ H Q) : PE X e t' := ⟨fun pins s σ H Q I q => h.run pins s σ H Q I (k σ H Q q)⟩
theorem PTw {X : Cx} {e : PySem.Expr} {t t' : TT} (h : PT X e t) (k : ∀ σ H Q, t' σ H Q → t σ H Q) : PT X e t' := ⟨fun pins s σ H Q I q => h.run pins s σ H Q I (k σ H Q q)⟩
theorem PWw {X : Cx} {e : PySem.Expr} {t t' : TT} (h : PW X e t) (k : ∀ σ H Q, t' σ H Q → t σ H Q) : PW X e t' := ⟨fun wh pins s σ H Q I q => h.run wh pins s σ H Q I (k σ H Q q)⟩
theorem PAw {X : Cx} {e : List PySem.Expr} {t t' : TA} (h : PA X e t) (k : ∀ σ H Q, t' σ H Q → t σ H Q) : PA X e t' := ⟨fun pos pins s σ H Q I q => h.run pos pins s σ H Q I (k σ H Q q)⟩
theorem PSw {X : Cx} {e : PySem.Stmt} {t t' : TS} (h : PS X e t) (k : ∀ D σ H, t' D σ H → t D σ H) : PS X e t' := ⟨fun pins s σ H D I q => h.run pins s σ H D I (k D σ H q)⟩
theorem PSsw {X : Cx} {e : List PySem.Stmt} {t t' : TS} (h : PSs X e t) (k : ∀ D σ H, t' D σ H → t D σ H) : PSs X e t' := ⟨fun pins s σ H D I q => h.run pins s σ H D I (k D σ H q)⟩
end Fs

/-! FsB: operators on data, each with its lemma to the hand layer's reading by values. -/
namespace Fs
open PySem PySem.Spec PyProof.Rows L2

theorem toS_len (x : List Char) : (toS x).length = x.length := by
  show ((x.map Char.toNat).toArray).size = x.length
  simp
theorem toS_cps (x : List Char) : (toS x).cps.toList = x.map Char.toNat := by simp [toS]
theorem toS_app (x y : List Char) : toS x ++ toS y = toS (x ++ y) := by
  show (⟨(x.map Char.toNat).toArray ++ (y.map Char.toNat).toArray⟩ : Str) = ⟨((x ++ y).map Char.toNat).toArray⟩
  simp
theorem chr_inj {a b : Char} (h : a.toNat = b.toNat) : a = b := Char.ext (UInt32.toNat_inj.mp h)
theorem map_chr_inj : ∀ {x y : List Char}, x.map Char.toNat = y.map Char.toNat → x = y
  | [], [], _ => rfl
  | [], _ :: _, h => by simp at h
  | _ :: _, [], h => by simp at h
  | a :: x, b :: y, h => by
    simp only [List.map_cons, List.cons.injEq] at h
    rw [chr_inj h.1, map_chr_inj h.2]
theorem toS_inj {x y : List Char} (h : toS x = toS y) : x = y := by
  have e : (toS x).cps.toList = (toS y).cps.toList := by rw [h]
  rw [toS_cps, toS_cps] at e
  exact map_chr_inj e
theorem small16 {n : Nat} (h : n ≤ 16) : n ≤ sizeLine := Nat.le_trans h (by decide)

/-! ### reading lists -/
def readL (m : Store) : D → Option (List D)
  | .lst ds => some ds
  | .obj n => match m[n]? with
    | some (.lst ds) => some ds
    | _ => none
  | _ => none
def readQ (m : Store) : D → Option (List D)
  | .tup ds => some ds
  | .wtp ds => some ds
  | d => readL m d
section
variable {C : Ct} {S : Ws}
theorem readL_rep (w : Wf C S) {d : D} {v : V} {ds : List D} (h : readL S.mu d = some ds) (r : Rep C S d v) : ∃ a vs, v = .ref a ∧ S.H a = some (.lst vs) ∧ ds.length ≤ sizeLine ∧ Reps C S ds vs := by
  cases d with
  | lst es =>
    simp only [readL, Option.some.injEq] at h
    subst h
    simp only [Rep] at r
    obtain ⟨a, vs, e, f, l, q⟩ := r
    exact ⟨a, vs, e, f.1, l, q⟩
  | obj n =>
    simp only [readL] at h
    simp only [Rep] at r
    obtain ⟨a, ha, e⟩ := r
    cases q : S.mu[n]? with
    | none => rw [q] at h; cases h
    | some c =>
      rw [q] at h
      cases c with
      | lst es =>
        simp only [Option.some.injEq] at h
        subst h
        obtain ⟨vs, h1, l, h2⟩ := w.cell n _ a q ha
        exact ⟨a, vs, e, h1, l, h2⟩
      | _ => cases h
  | _ => simp [readL] at h
theorem rep_tup {ds : List D} {v : V} (r : Rep C S (.tup ds) v) : ∃ a vs, v = .ref a ∧ SqT C.K S.H a vs ∧ ds.length ≤ sizeLine ∧ Reps C S ds vs := by
  simp only [Rep] at r
  obtain ⟨a, vs, e, f, l, q⟩ := r
  exact ⟨a, vs, e, .inl (.inl f.1), l, q⟩
theorem rep_wtp {ds : List D} {v : V} (r : Rep C S (.wtp ds) v) : ∃ a vs, v = .ref a ∧ SqT C.K S.H a vs ∧ ds.length ≤ sizeLine ∧ Reps C S ds vs := by
  simp only [Rep] at r
  obtain ⟨a, vs, e, f, l, q⟩ := r
  exact ⟨a, vs, e, .inr f, l, q⟩
theorem readQ_rep (w : Wf C S) {d : D} {v : V} {ds : List D} (h : readQ S.mu d = some ds) (r : Rep C S d v) : ∃ a vs, v = .ref a ∧ (SqL C.K S.H a vs ∨ SqT C.K S.H a vs) ∧ ds.length ≤ sizeLine ∧ Reps C S ds vs := by
  cases d with
  | tup es =>
    simp only [readQ, Option.some.injEq] at h
    subst h
    obtain ⟨a, vs, e, f, l, q⟩ := rep_tup r
    exact ⟨a, vs, e, .inr f, l, q⟩
  | wtp es =>
    simp only [readQ, Option.some.injEq] at h
    subst h
    obtain ⟨a, vs, e, f, l, q⟩ := rep_wtp r
    exact ⟨a, vs, e, .inr f, l, q⟩
  | _ =>
    simp only [readQ] at h
    obtain ⟨a, vs, e, f, l, q⟩ := readL_rep w h r
    exact ⟨a, vs, e, .inl (SqL.of f), l, q⟩
theorem rep_int {i : Int} {v : V} : Rep C S (.int i) v ↔ v = .int i := by simp only [Rep]
theorem rep_bl {i : Bool} {v : V} : Rep C S (.bl i) v ↔ v = .bl i := by simp only [Rep]
theorem rep_non {v : V} : Rep C S .non v ↔ v = .non := by simp only [Rep]
theorem rep_str {x : List Char} {v : V} : Rep C S (.str x) v ↔ v = .str (toS x) ∧ x.length ≤ sizeLine := by simp only [Rep]
theorem rep_lst {ds : List D} {v : V} : Rep C S (.lst ds) v ↔ ∃ a vs, v = .ref a ∧ Fx S a (.lst vs) ∧ ds.length ≤ sizeLine ∧ Reps C S ds vs := by simp only [Rep]
theorem rep_lst_new {p : Addr} {vs : List V} {ds : List D} (f : Fx S p (.lst vs)) (l : ds.length ≤ sizeLine) (r : Reps C S ds vs) : Rep C S (.lst ds) (.ref p) := by
  simp only [Rep]; exact ⟨p, vs, rfl, f, l, r⟩
theorem rep_tup_new {p : Addr} {vs : List V} {ds : List D} (f : Fx S p (.tup vs)) (l : ds.length ≤ sizeLine) (r : Reps C S ds vs) : Rep C S (.tup ds) (.ref p) := by
  simp only [Rep]; exact ⟨p, vs, rfl, f, l, r⟩
/-- the end: a new list, a new tuple -/
theorem PostE.newL (w : Wf C S) {ds : List D} {vs : List V} {p : Addr} {W : XK} {Q : VK} (h : PostE C S (.ok (.lst ds) S.mu) W Q) (hp : S.H p = none) (l : ds.length ≤ sizeLine) (r : Reps C S ds vs) : Q (.ref p) (upd S.H p (.lst vs)) :=
  h.new w hp fun f => rep_lst_new f l (r.mono (Step.new w hp))
theorem PostE.newT (w : Wf C S) {ds : List D} {vs : List V} {p : Addr} {W : XK} {Q : VK} (h : PostE C S (.ok (.tup ds) S.mu) W Q) (hp : S.H p = none) (l : ds.length ≤ sizeLine) (r : Reps C S ds vs) : Q (.ref p) (upd S.H p (.tup vs)) :=
  h.new w hp fun f => rep_tup_new f l (r.mono (Step.new w hp))
/-- the end: a new cell -/
theorem PostE.newCell (w : Wf C S) {ds : List D} {vs : List V} {p : Addr} {W : XK} {Q : VK} (h : PostE C S (.ok (.obj S.mu.length) (S.mu ++ [.lst ds])) W Q) (hp : S.H p = none) (l : ds.length ≤ sizeLine) (r : Reps C S ds vs) : Q (.ref p) (upd S.H p (.lst vs)) := by
  have st := Step.cell (o := .lst vs) (c := .lst ds) w hp
  refine h (S.cell p (.lst vs) (.lst ds)) _ rfl (w.cell' hp ⟨vs, upd_same, l, r.mono st⟩) st ?_
  simp only [Rep]
  refine ⟨p, ?_, rfl⟩
  show (S.ad ++ [p])[S.mu.length]? = _
  rw [← w.len]; simp
end

/-! ### binary operators -/
inductive Bop where
  | add | sub | mul | mod | fdv | pow | shl | bor | band
  deriving DecidableEq
def Bop.op : Bop → Operator
  | .add => .Add | .sub => .Sub | .mul => .Mult | .mod => .Mod | .fdv => .FloorDiv | .pow => .Pow | .shl => .LShift | .bor => .BitOr | .band => .BitAnd

/-- the operator of two lists | two tuples, else stuck -/
def catM (a b : D) : M D := fun m =>
  match a, b with
  | .tup x, .tup y => if x.length + y.length ≤ sizeLine then .ok (.tup (x ++ y)) m else .stuck
  | a, b => match readL m a, readL m b with
    | some x, some y => if x.length + y.length ≤ sizeLine then .ok (.lst (x ++ y)) m else .stuck
    | _, _ => .stuck
def addM (a b : D) : M D := fun m =>
  match a, b with
  | .int i, .int j => .ok (.int (i + j)) m
  | .str x, .str y => if x.length + y.length ≤ sizeLine then .ok (.str (x ++ y)) m else .stuck
  | a, b => catM a b m
def rAddA (K : PySem.W.Frag) : R2 := fun x y H Q =>
  (∃ i j, x = .int i ∧ y = .int j ∧ Q (.int (i + j)) H) ∨ (∃ i j, x = .str i ∧ y = .str j ∧ i.length + j.length ≤ sizeLine ∧ Q (.str (i ++ j)) H) ∨ rCatA K x y H Q ∨ rCat x y H Q
theorem op_addA {X : Cx} : OpR X (binaryOp .Add) (rAddA X.K) := op_add.or (op_add_str.or (op_catA.or op_cat))
section
variable {C : Ct} {S : Ws} {a b : D} {x y : V} {W : XK} {Q : VK}
theorem cat_ok (w : Wf C S) (ra : Rep C S a x) (rb : Rep C S b y) (h : PostE C S (catM a b S.mu) W Q) : rCatA C.K x y S.H Q ∨ rCat x y S.H Q := by
  unfold catM at h
  split at h
  · rename_i x1 y1
    split at h
    · rename_i hl
      left
      obtain ⟨a1, vs1, e1, f1, l1, q1⟩ := rep_tup ra
      obtain ⟨a2, vs2, e2, f2, l2, q2⟩ := rep_tup rb
      subst e1; subst e2
      refine ⟨a1, a2, vs1, vs2, rfl, rfl, f1, f2, by rw [← q1.len, ← q2.len]; exact hl, fun z => ?_, fun z1 z2 => ?_, fun z1 z2 p hp => ?_⟩
      · have e : x1 = [] := by
          have := q1.len; rw [z] at this; exact List.length_eq_zero_iff.mp this
        subst e
        exact h S _ rfl w (Step.refl S) rb
      · have e : y1 = [] := by
          have := q2.len; rw [z2] at this; exact List.length_eq_zero_iff.mp this
        subst e
        refine h S _ rfl w (Step.refl S) ?_
        rw [List.append_nil]; exact ra
      · exact h.newT w hp (by rw [List.length_append]; exact hl) (q1.append q2)
    · exact h.elim
  · split at h
    · rename_i x1 y1 h1 h2
      split at h
      · rename_i hl
        right
        obtain ⟨a1, vs1, e1, f1, l1, q1⟩ := readL_rep w h1 ra
        obtain ⟨a2, vs2, e2, f2, l2, q2⟩ := readL_rep w h2 rb
        subst e1; subst e2
        exact ⟨a1, a2, vs1, vs2, rfl, rfl, f1, f2, by rw [← q1.len, ← q2.len]; exact hl, fun p hp => h.newL w hp (by rw [List.length_append]; exact hl) (q1.append q2)⟩
      · exact h.elim
    · exact h.elim
theorem add_ok (w : Wf C S) (ra : Rep C S a x) (rb : Rep C S b y) (h : PostE C S (addM a b S.mu) W Q) : rAddA C.K x y S.H Q := by
  unfold addM at h
  split at h
  · rename_i i j
    rw [rep_int] at ra rb
    exact .inl ⟨i, j, ra, rb, h.pure w (rep_int.mpr rfl)⟩
  · rename_i i j
    split at h
    · rename_i hl
      rw [rep_str] at ra rb
      refine .inr (.inl ⟨_, _, ra.1, rb.1, ?_, ?_⟩)
      · rw [toS_len, toS_len]; exact hl
      · rw [toS_app]; exact h.pure w (rep_str.mpr ⟨rfl, by rw [List.length_append]; exact hl⟩)
    · exact h.elim
  · rcases cat_ok w ra rb h with z | z
    · exact .inr (.inr (.inl z))
    · exact .inr (.inr (.inr z))
end
end Fs

/-! FsC: further operators, comparisons, subscripts, slices, truth, length. -/
namespace Fs
open PySem PySem.Spec PyProof.Rows L2

/-! ### data as the library tells it -/
mutual
def toP : D → PyData
  | .non => .none
  | .bl b => .bool b
  | .int i => .int i
  | .str x => .str (toS x)
  | .lst ds => .list (toPs ds)
  | .tup ds => .tuple (toPs ds)
  | .wtp ds => .tuple (toPs ds)
  | _ => .dict []
def toPs : List D → List PyData
  | [] => []
  | d :: ds => toP d :: toPs ds
end
/- data without objects, dicts, sets -/
mutual
def plain : D → Bool
  | .non => true
  | .bl b => true
  | .int i => true
  | .str x => true
  | .lst ds => plains ds
  | .tup ds => plains ds
  | .wtp ds => plains ds
  | _ => false
def plains : List D → Bool
  | [] => true
  | d :: ds => plain d && plains ds
end
mutual
def dep : D → Nat
  | .lst ds => deps ds + 1
  | .tup ds => deps ds + 1
  | .wtp ds => deps ds + 1
  | _ => 0
def deps : List D → Nat
  | [] => 0
  | d :: ds => max (dep d) (deps ds)
end
/- == of data -/
mutual
def eqD : D → D → Bool
  | .non, .non => true
  | .bl a, .bl b => a == b
  | .bl a, .int j => (if a then 1 else 0) == j
  | .int i, .bl b => i == (if b then 1 else 0)
  | .int i, .int j => i == j
  | .str x, .str y => x == y
  | .lst xs, .lst ys => eqDs xs ys
  | .tup xs, .tup ys => eqDs xs ys
  | .tup xs, .wtp ys => eqDs xs ys
  | .wtp xs, .tup ys => eqDs xs ys
  | .wtp xs, .wtp ys => eqDs xs ys
  | _, _ => false
def eqDs : List D → List D → Bool
  | [], [] => true
  | x :: xs, y :: ys => eqD x y && eqDs xs ys
  | _, _ => false
end
theorem toS_beq (x y : List Char) : (toS x == toS y) = (x == y) := by
  by_cases h : x = y
  · subst h; simp
  · have : ¬ toS x = toS y := fun e => h (toS_inj e)
    rw [beq_eq_false_iff_ne.mpr h, beq_eq_false_iff_ne.mpr this]
mutual
theorem eqD_toP : ∀ {a b : D}, plain a = true → plain b = true → PyData.eqv (toP a) (toP b) = eqD a b
  | .non, b, h, k => by cases b <;> simp_all [plain, toP, PyData.eqv, eqD]
  | .bl x, b, h, k => by cases b <;> simp_all [plain, toP, PyData.eqv, eqD]
  | .int x, b, h, k => by cases b <;> simp_all [plain, toP, PyData.eqv, eqD]
  | .str x, b, h, k => by cases b <;> simp_all [plain, toP, PyData.eqv, eqD, toS_beq]
  | .lst x, b, h, k => by
    simp only [plain] at h
    cases b with
    | lst y => simp only [plain] at k; simp only [toP, PyData.eqv, eqD]; exact eqDs_toP h k
    | _ => simp_all [plain, toP, PyData.eqv, eqD]
  | .tup x, b, h, k => by
    simp only [plain] at h
    cases b with
    | tup y => simp only [plain] at k; simp only [toP, PyData.eqv, eqD]; exact eqDs_toP h k
    | wtp y => simp only [plain] at k; simp only [toP, PyData.eqv, eqD]; exact eqDs_toP h k
    | _ => simp_all [plain, toP, PyData.eqv, eqD]
  | .wtp x, b, h, k => by
    simp only [plain] at h
    cases b with
    | tup y => simp only [plain] at k; simp only [toP, PyData.eqv, eqD]; exact eqDs_toP h k
    | wtp y => simp only [plain] at k; simp only [toP, PyData.eqv, eqD]; exact eqDs_toP h k
    | _ => simp_all [plain, toP, PyData.eqv, eqD]
  | .frz _, b, h, k => by simp [plain] at h
  | .set _, b, h, k => by simp [plain] at h
  | .dct _ _ _, b, h, k => by simp [plain] at h
  | .ins _ _ _, b, h, k => by simp [plain] at h
  | .obj _, b, h, k => by simp [plain] at h
  | .fn _, b, h, k => by simp [plain] at h
theorem eqDs_toP : ∀ {a b : List D}, plains a = true → plains b = true → PyData.eqvAll (toPs a) (toPs b) = eqDs a b
  | [], [], _, _ => by simp [toPs, PyData.eqvAll, eqDs]
  | [], _ :: _, _, _ => by simp [toPs, PyData.eqvAll, eqDs]
  | _ :: _, [], _, _ => by simp [toPs, PyData.eqvAll, eqDs]
  | x :: xs, y :: ys, h, k => by
    simp only [plains, Bool.and_eq_true] at h k
    simp only [toPs, PyData.eqvAll, eqDs]
    rw [eqD_toP h.1 k.1, eqDs_toP h.2 k.2]
end
theorem strOk_toS (x : List Char) : PyData.strOk (toS x) = true := by
  simp only [PyData.strOk, toS, List.all_toArray, List.all_map, List.all_eq_true, Function.comp, decide_eq_true_eq]
  intro c _
  have h := c.valid
  unfold UInt32.isValidChar Nat.isValidChar at h
  have e : c.toNat = c.val.toNat := rfl
  omega
mutual
theorem lay_toP : ∀ {a : D}, plain a = true → (toP a).canLay0 = true
  | .non, h => by simp [toP, PyData.canLay0]
  | .bl x, h => by simp [toP, PyData.canLay0]
  | .int x, h => by simp [toP, PyData.canLay0]
  | .str x, h => by simp only [toP, PyData.canLay0]; exact strOk_toS x
  | .lst x, h => by simp only [plain] at h; simp only [toP, PyData.canLay0]; exact lay_toPs h
  | .tup x, h => by simp only [plain] at h; simp only [toP, PyData.canLay0]; exact lay_toPs h
  | .wtp x, h => by simp only [plain] at h; simp only [toP, PyData.canLay0]; exact lay_toPs h
  | .frz _, h => by simp [plain] at h
  | .set _, h => by simp [plain] at h
  | .dct _ _ _, h => by simp [plain] at h
  | .ins _ _ _, h => by simp [plain] at h
  | .obj _, h => by simp [plain] at h
  | .fn _, h => by simp [plain] at h
theorem lay_toPs : ∀ {a : List D}, plains a = true → PyData.canLayAll0 (toPs a) = true
  | [], _ => by simp [toPs, PyData.canLayAll0]
  | x :: xs, h => by
    simp only [plains, Bool.and_eq_true] at h
    simp only [toPs, PyData.canLayAll0, Bool.and_eq_true]
    exact ⟨lay_toP h.1, lay_toPs h.2⟩
end
mutual
theorem dep_toP : ∀ {a : D}, plain a = true → (toP a).depth = dep a
  | .non, h => by simp [toP, PyData.depth, dep]
  | .bl x, h => by simp [toP, PyData.depth, dep]
  | .int x, h => by simp [toP, PyData.depth, dep]
  | .str x, h => by simp [toP, PyData.depth, dep]
  | .lst x, h => by simp only [plain] at h; simp only [toP, PyData.depth, dep]; rw [dep_toPs h]; try omega
  | .tup x, h => by simp only [plain] at h; simp only [toP, PyData.depth, dep]; rw [dep_toPs h]; try omega
  | .wtp x, h => by simp only [plain] at h; simp only [toP, PyData.depth, dep]; rw [dep_toPs h]; try omega
  | .frz _, h => by simp [plain] at h
  | .set _, h => by simp [plain] at h
  | .dct _ _ _, h => by simp [plain] at h
  | .ins _ _ _, h => by simp [plain] at h
  | .obj _, h => by simp [plain] at h
  | .fn _, h => by simp [plain] at h
theorem dep_toPs : ∀ {a : List D}, plains a = true → PyData.depthAll (toPs a) = deps a
  | [], _ => by simp [toPs, PyData.depthAll, deps]
  | x :: xs, h => by
    simp only [plains, Bool.and_eq_true] at h
    simp only [toPs, PyData.depthAll, deps]
    rw [dep_toP h.1, dep_toPs h.2]
end
theorem shaped_toP {a : D} (h : plain a = true) (k : dep a ≤ 64) : SeqAt.shaped (toP a) = true := by
  unfold SeqAt.shaped
  rw [lay_toP h, dep_toP h]
  simpa using k
section
variable {C : Ct} {S : Ws}
mutual
theorem Rep.dp : ∀ {d : D} {v : V}, plain d = true → Rep C S d v → Dp C.K S.H v (toP d)
  | .non, v, h, r => by simp only [Rep] at r; subst r; simp only [toP]; exact .non
  | .bl x, v, h, r => by simp only [Rep] at r; subst r; simp only [toP]; exact .bl x
  | .int x, v, h, r => by simp only [Rep] at r; subst r; simp only [toP]; exact .int x
  | .str x, v, h, r => by simp only [Rep] at r; rw [r.1]; simp only [toP]; exact .str _
  | .lst ds, v, h, r => by
    simp only [plain] at h
    simp only [Rep] at r
    obtain ⟨a, vs, e, f, l, q⟩ := r
    subst e; simp only [toP]
    exact .lst (SqL.of f.1) (Reps.dp h q)
  | .tup ds, v, h, r => by
    simp only [plain] at h
    obtain ⟨a, vs, e, f, l, q⟩ := rep_tup r
    subst e; simp only [toP]
    exact .tup f (Reps.dp h q)
  | .wtp ds, v, h, r => by
    simp only [plain] at h
    obtain ⟨a, vs, e, f, l, q⟩ := rep_wtp r
    subst e; simp only [toP]
    exact .tup f (Reps.dp h q)
  | .frz _, _, h, _ => by simp [plain] at h
  | .set _, _, h, _ => by simp [plain] at h
  | .dct _ _ _, _, h, _ => by simp [plain] at h
  | .ins _ _ _, _, h, _ => by simp [plain] at h
  | .obj _, _, h, _ => by simp [plain] at h
  | .fn _, _, h, _ => by simp [plain] at h
theorem Reps.dp : ∀ {ds : List D} {vs : List V}, plains ds = true → Reps C S ds vs → DpAll C.K S.H vs (toPs ds)
  | [], vs, h, r => by simp only [Reps] at r; subst r; simp only [toPs]; exact .nil
  | d :: ds, vs, h, r => by
    simp only [Reps] at r
    obtain ⟨v, vs', e, r1, r2⟩ := r
    subst e
    simp only [plains, Bool.and_eq_true] at h
    simp only [toPs]
    exact .cons (Rep.dp h.1 r1) (Reps.dp h.2 r2)
end
end
/-- a mutable list read as it stands -/
def deref (m : Store) : D → D
  | .obj n => match m[n]? with
    | some (.lst ds) => .lst ds
    | _ => .obj n
  | d => d
section
variable {C : Ct} {S : Ws}
theorem deref_dp (w : Wf C S) {d : D} {v : V} (h : plain (deref S.mu d) = true) (r : Rep C S d v) : Dp C.K S.H v (toP (deref S.mu d)) := by
  cases d with
  | obj n =>
    have r0 := r
    simp only [Rep] at r
    obtain ⟨a, ha, e⟩ := r
    simp only [deref] at h ⊢
    cases q : S.mu[n]? with
    | none => rw [q] at h; simp [plain] at h
    | some c =>
      rw [q] at h
      cases c with
      | lst ds =>
        simp only [plain] at h ⊢
        obtain ⟨vs, h1, l, h2⟩ := w.cell n _ a q ha
        subst e
        simp only [toP]
        exact .lst (SqL.of h1) (Reps.dp h h2)
      | _ => simp [plain] at h
  | _ => exact Rep.dp h r
end
def flatD : D → Bool
  | .non => true
  | .bl _ => true
  | .int _ => true
  | .str _ => true
  | _ => false
theorem flat_rep {C : Ct} {S : Ws} {d : D} {v : V} (h : flatD d = true) (r : Rep C S d v) : flatV v = true := by
  cases d <;> simp_all [flatD, Rep, flatV]
theorem flat_eq {C : Ct} {S : Ws} {d e : D} {v u : V} (h : flatD d = true) (k : flatD e = true) (r : Rep C S d v) (q : Rep C S e u) : eqV v u = eqD d e := by
  cases d <;> cases e <;> simp_all [flatD, Rep, eqV, eqD, toS_beq]
theorem flats_rep {C : Ct} {S : Ws} : ∀ {ds : List D} {vs : List V}, ds.all flatD = true → Reps C S ds vs → vs.all flatV = true
  | [], vs, h, r => by simp only [Reps] at r; subst r; rfl
  | d :: ds, vs, h, r => by
    simp only [Reps] at r
    obtain ⟨v, vs', e, r1, r2⟩ := r
    subst e
    simp only [List.all_cons, Bool.and_eq_true] at h ⊢
    exact ⟨flat_rep h.1 r1, flats_rep h.2 r2⟩
theorem flats_in {C : Ct} {S : Ws} {d : D} {v : V} (k : flatD d = true) (q : Rep C S d v) : ∀ {ds : List D} {vs : List V}, ds.all flatD = true → Reps C S ds vs → inV v vs = ds.any fun e => eqD e d
  | [], vs, h, r => by simp only [Reps] at r; subst r; rfl
  | e :: ds, vs, h, r => by
    simp only [Reps] at r
    obtain ⟨u, vs', z, r1, r2⟩ := r
    subst z
    simp only [List.all_cons, Bool.and_eq_true] at h
    have ih := flats_in k q h.2 r2
    unfold inV at ih ⊢
    rw [List.any_cons, List.any_cons, ih, flat_eq h.1 k r1 q]
theorem toPs_any {d : D} (k : plain d = true) : ∀ {ds : List D}, plains ds = true → (toPs ds).any (fun z => PyData.eqv z (toP d)) = ds.any fun e => eqD e d
  | [], _ => rfl
  | e :: ds, h => by
    simp only [plains, Bool.and_eq_true] at h
    simp only [toPs, List.any_cons]
    rw [eqD_toP h.1 k, toPs_any k h.2]

/-! ### comparisons -/
inductive Cop where
  | eq | ne | lt | le | gt | ge | is | isnt | in_ | nin
  deriving DecidableEq
def Cop.op : Cop → CmpOp
  | .eq => .Eq | .ne => .NotEq | .lt => .Lt | .le => .LtE | .gt => .Gt | .ge => .GtE | .is => .Is | .isnt => .IsNot | .in_ => .In | .nin => .NotIn
/-- order of texts -/
def ltT (x y : List Char) : Bool := decide (x.map Char.toNat < y.map Char.toNat)
def isNonD : D → Bool
  | .non => true
  | _ => false
def eqM (a b : D) : M Bool := fun m =>
  let a := deref m a; let b := deref m b
  if plain a = true ∧ plain b = true ∧ dep a ≤ 64 ∧ dep b ≤ 64 then .ok (eqD a b) m else .stuck
def keyK (ks : List D) : List (Option Key) := ks.map dKey
/-- the place of a key -/
def findK (ks : List D) (d : D) : Option Nat := match dKey d with
  | some k => (ks.map dKey).idxOf? (some k)
  | none => none
def inM (a b : D) : M Bool := fun m =>
  match b with
  | .str y => match a with
    | .str [c] => .ok (decide (c ∈ y)) m
    | _ => .stuck
  | .tup ds => if flatD a = true ∧ ds.all flatD = true then .ok (ds.any fun e => eqD e a) m else .stuck
  | .wtp ds => if flatD a = true ∧ ds.all flatD = true then .ok (ds.any fun e => eqD e a) m else .stuck
  | b => match readL m b with
    | some ds => if plain a = true ∧ plains ds = true ∧ dep a ≤ 64 ∧ deps ds < 64 then .ok (ds.any fun e => eqD e a) m else .stuck
    | none => .stuck
def cmpM (o : Cop) (a b : D) : M Bool := fun m =>
  match o with
  | .eq => eqM a b m
  | .ne => match eqM a b m with
    | .ok c m' => .ok (!c) m'
    | _ => .stuck
  | .in_ => inM a b m
  | .nin => match inM a b m with
    | .ok c m' => .ok (!c) m'
    | _ => .stuck
  | .is => match b with
    | .non => .ok (isNonD a) m
    | _ => .stuck
  | .isnt => match b with
    | .non => .ok (!isNonD a) m
    | _ => .stuck
  | .lt => match a, b with
    | .int i, .int j => .ok (decide (i < j)) m
    | .str x, .str y => .ok (ltT x y) m
    | _, _ => .stuck
  | .le => match a, b with
    | .int i, .int j => .ok (decide (i ≤ j)) m
    | .str x, .str y => .ok (!ltT y x) m
    | _, _ => .stuck
  | .gt => match a, b with
    | .int i, .int j => .ok (decide (j < i)) m
    | .str x, .str y => .ok (ltT y x) m
    | _, _ => .stuck
  | .ge => match a, b with
    | .int i, .int j => .ok (decide (j ≤ i)) m
    | .str x, .str y => .ok (!ltT x y) m
    | _, _ => .stuck
def rCmp (K : PySem.W.Frag) (o : Cop) : R2 :=
  match o with
  | .eq => rEqD K
  | .ne => rNeD K
  | .is => fun x y H Q => y = .non ∧ Q (.bl (decide (x = .non))) H
  | .isnt => fun x y H Q => y = .non ∧ Q (.bl (!decide (x = .non))) H
  | .lt => fun x y H Q => rI0 (fun i j => .bl (decide (i < j))) x y H Q ∨ (∃ i j, x = .str i ∧ y = .str j ∧ Q (.bl (decide (i.cps.toList < j.cps.toList))) H)
  | .le => fun x y H Q => rI0 (fun i j => .bl (decide (i ≤ j))) x y H Q ∨ (∃ i j, x = .str i ∧ y = .str j ∧ Q (.bl (!decide (j.cps.toList < i.cps.toList))) H)
  | .gt => fun x y H Q => rI0 (fun i j => .bl (decide (j < i))) x y H Q ∨ (∃ i j, x = .str i ∧ y = .str j ∧ Q (.bl (decide (j.cps.toList < i.cps.toList))) H)
  | .ge => fun x y H Q => rI0 (fun i j => .bl (decide (j ≤ i))) x y H Q ∨ (∃ i j, x = .str i ∧ y = .str j ∧ Q (.bl (!decide (i.cps.toList < j.cps.toList))) H)
  | .in_ => fun x y H Q => (∃ (c : Nat) (z : Str), x = .str ⟨#[c]⟩ ∧ y = .str z ∧ Q (.bl (decide (c ∈ z.cps.toList))) H) ∨ rIn K false x y H Q ∨ rInD K x y H Q
  | .nin => fun x y H Q => (∃ (c : Nat) (z : Str), x = .str ⟨#[c]⟩ ∧ y = .str z ∧ Q (.bl (!decide (c ∈ z.cps.toList))) H) ∨ rIn K true x y H Q ∨ rNotInD K x y H Q
theorem op_cmpA {X : Cx} (hu : X.A.units + 65 < cLine) (o : Cop) : OpR X (compareOp o.op) (rCmp X.K o) := by
  have hu' : X.A.units + 64 < cLine := by omega
  cases o with
  | eq => exact op_eqD hu'
  | ne => exact op_neD hu'
  | is => exact op_isN
  | isnt => exact op_notN
  | lt => exact op_lt.or op_lt_str
  | le => exact op_le.or op_le_str
  | gt => exact op_gt.or op_gt_str
  | ge => exact op_ge.or op_ge_str
  | in_ => exact op_in_sign.or (op_in_seq.or (op_inD hu))
  | nin => exact op_notIn_sign.or (op_notIn_seq.or (op_notInD hu))
/-- a truth value and a heap as a value's post -/
def bQ (Q : Bool → Hp → Prop) : VK := fun v H => ∃ k, v = .bl k ∧ Q k H
section
variable {C : Ct} {S : Ws} {a b : D} {x y : V} {W : XK} {Q : Bool → Hp → Prop}
theorem PostT.pure (w : Wf C S) {k : Bool} (h : PostT C S (.ok k S.mu) W Q) : Q k S.H := h S rfl w (Step.refl S)
theorem eq_core (w : Wf C S) (ra : Rep C S a x) (rb : Rep C S b y) {Q' : Bool → Hp → Prop} (h : ∀ c, eqM a b S.mu = .ok c S.mu → Q' c S.H) (hs : eqM a b S.mu ≠ .stuck) :
    ∃ d e, Dp C.K S.H x d ∧ Dp C.K S.H y e ∧ SeqAt.shaped d = true ∧ SeqAt.shaped e = true ∧ Q' (PyData.eqv d e) S.H := by
  unfold eqM at h hs
  simp only at h hs
  split at hs
  · rename_i z
    obtain ⟨p1, p2, d1, d2⟩ := z
    refine ⟨_, _, deref_dp w p1 ra, deref_dp w p2 rb, shaped_toP p1 d1, shaped_toP p2 d2, ?_⟩
    rw [eqD_toP p1 p2]
    exact h _ (if_pos ⟨p1, p2, d1, d2⟩)
  · exact absurd rfl hs
theorem eqM_ok (a b : D) (m : Store) : eqM a b m = .stuck ∨ ∃ c, eqM a b m = .ok c m := by
  unfold eqM
  simp only
  split
  · exact .inr ⟨_, rfl⟩
  · exact .inl rfl
theorem in_core (w : Wf C S) (ra : Rep C S a x) (rb : Rep C S b y) {Qb : Bool → Hp → Prop} {neg : Bool} (h : ∀ c, inM a b S.mu = .ok c S.mu → Qb (if neg then !c else c) S.H) (hs : inM a b S.mu ≠ .stuck) :
    (∃ (c : Nat) (z : Str), x = .str ⟨#[c]⟩ ∧ y = .str z ∧ Qb (if neg then !decide (c ∈ z.cps.toList) else decide (c ∈ z.cps.toList)) S.H) ∨ rIn C.K neg x y S.H (bQ Qb) ∨
      (∃ d ds, Dp C.K S.H x d ∧ Dp C.K S.H y (.list ds) ∧ SeqAt.shaped d = true ∧ SeqAt.shaped (.list ds) = true ∧ Qb (if neg then !ds.any fun z => PyData.eqv z d else ds.any fun z => PyData.eqv z d) S.H) := by
  unfold inM at h hs
  split at hs
  · rename_i y1
    split at hs
    · rename_i c
      left
      rw [rep_str] at ra rb
      refine ⟨c.toNat, toS y1, ?_, rb.1, ?_⟩
      · rw [ra.1]; simp [toS]
      · have e : decide (c.toNat ∈ (toS y1).cps.toList) = decide (c ∈ y1) := by
          rw [toS_cps]
          refine decide_eq_decide.mpr ⟨fun q => ?_, fun q => List.mem_map.mpr ⟨c, q, rfl⟩⟩
          obtain ⟨c', h1, h2⟩ := List.mem_map.mp q
          rw [← chr_inj h2]; exact h1
        rw [e]
        exact h _ rfl
    · exact absurd rfl hs
  · rename_i ds
    split at hs
    · rename_i z
      right; left
      obtain ⟨p, vs, e, f, l, q⟩ := rep_tup rb
      refine ⟨p, vs, e, .inr f, flat_rep z.1 ra, flats_rep z.2 q, _, rfl, ?_⟩
      rw [flats_in z.1 ra z.2 q]
      exact h _ (if_pos z)
    · exact absurd rfl hs
  · rename_i ds
    split at hs
    · rename_i z
      right; left
      obtain ⟨p, vs, e, f, l, q⟩ := rep_wtp rb
      refine ⟨p, vs, e, .inr f, flat_rep z.1 ra, flats_rep z.2 q, _, rfl, ?_⟩
      rw [flats_in z.1 ra z.2 q]
      exact h _ (if_pos z)
    · exact absurd rfl hs
  · split at hs
    · rename_i ds hd
      split at hs
      · rename_i z
        right; right
        obtain ⟨p, vs, e, f, l, q⟩ := readL_rep w hd rb
        obtain ⟨p1, p2, d1, d2⟩ := z
        subst e
        refine ⟨toP a, toPs ds, Rep.dp p1 ra, .lst (SqL.of f) (Reps.dp p2 q), shaped_toP p1 d1, ?_, ?_⟩
        · have : SeqAt.shaped (toP (.lst ds)) = true := shaped_toP (by simp only [plain]; exact p2) (by simp only [dep]; omega)
          simpa only [toP] using this
        · rw [toPs_any p1 p2]
          have := h (ds.any fun e => eqD e a) (by simp only [hd]; exact if_pos ⟨p1, p2, d1, d2⟩)
          exact this
      · exact absurd rfl hs
    · exact absurd rfl hs
theorem inM_ok (a b : D) (m : Store) : inM a b m = .stuck ∨ ∃ c, inM a b m = .ok c m := by
  unfold inM
  split
  · split
    · exact .inr ⟨_, rfl⟩
    · exact .inl rfl
  · split
    · exact .inr ⟨_, rfl⟩
    · exact .inl rfl
  · split
    · exact .inr ⟨_, rfl⟩
    · exact .inl rfl
  · split
    · split
      · exact .inr ⟨_, rfl⟩
      · exact .inl rfl
    · exact .inl rfl
theorem rep_isN {a : D} {x : V} (ra : Rep C S a x) : decide (x = .non) = isNonD a := by
  cases a <;> simp only [Rep] at ra <;> first
    | (obtain ⟨_, e⟩ := C.frr _ _ _ ra; subst e; rfl)
    | (subst ra; rfl)
    | (rw [ra.1]; rfl)
    | (obtain ⟨_, _, _, e, _⟩ := ra; subst e; rfl)
    | (obtain ⟨_, _, e, _⟩ := ra; subst e; rfl)
    | (obtain ⟨_, _, e⟩ := ra; subst e; rfl)
    | (obtain ⟨_, e, _⟩ := ra; subst e; rfl)
theorem cmp_ok {o : Cop} (w : Wf C S) (ra : Rep C S a x) (rb : Rep C S b y) (h : PostT C S (cmpM o a b S.mu) W Q) : rCmp C.K o x y S.H (bQ Q) := by
  cases o with
  | eq =>
    simp only [cmpM] at h
    rcases eqM_ok a b S.mu with e | ⟨c, e⟩
    · rw [e] at h; exact h.elim
    · obtain ⟨d, e', h1, h2, h3, h4, h5⟩ := eq_core w ra rb (Q' := Q) (fun c' e' => by rw [e'] at h; exact h.pure w) (by rw [e]; intro z; cases z)
      exact ⟨d, e', h1, h2, h3, h4, _, rfl, h5⟩
  | ne =>
    simp only [cmpM] at h
    rcases eqM_ok a b S.mu with e | ⟨c, e⟩
    · rw [e] at h; exact h.elim
    · obtain ⟨d, e', h1, h2, h3, h4, h5⟩ := eq_core w ra rb (Q' := fun k H => Q (!k) H) (fun c' e' => by rw [e'] at h; exact h.pure w) (by rw [e]; intro z; cases z)
      exact ⟨d, e', h1, h2, h3, h4, _, rfl, h5⟩
  | in_ =>
    simp only [cmpM] at h
    rcases inM_ok a b S.mu with e | ⟨c, e⟩
    · rw [e] at h; exact h.elim
    · rcases in_core w ra rb (Qb := Q) (neg := false) (fun c' e' => by rw [e'] at h; exact h.pure w) (by rw [e]; intro z; cases z) with ⟨c, z, e1, e2, q⟩ | q | ⟨d, ds, h1, h2, h3, h4, h5⟩
      · exact .inl ⟨c, z, e1, e2, _, rfl, q⟩
      · exact .inr (.inl q)
      · exact .inr (.inr ⟨d, ds, h1, h2, h3, h4, _, rfl, h5⟩)
  | nin =>
    simp only [cmpM] at h
    rcases inM_ok a b S.mu with e | ⟨c, e⟩
    · rw [e] at h; exact h.elim
    · rcases in_core w ra rb (Qb := Q) (neg := true) (fun c' e' => by rw [e'] at h; exact h.pure w) (by rw [e]; intro z; cases z) with ⟨c, z, e1, e2, q⟩ | q | ⟨d, ds, h1, h2, h3, h4, h5⟩
      · exact .inl ⟨c, z, e1, e2, _, rfl, q⟩
      · exact .inr (.inl q)
      · exact .inr (.inr ⟨d, ds, h1, h2, h3, h4, _, rfl, h5⟩)
  | is =>
    simp only [cmpM] at h
    split at h
    · rw [rep_non] at rb
      refine ⟨rb, _, rfl, ?_⟩
      rw [rep_isN ra]
      exact h.pure w
    · exact h.elim
  | isnt =>
    simp only [cmpM] at h
    split at h
    · rw [rep_non] at rb
      refine ⟨rb, _, rfl, ?_⟩
      rw [rep_isN ra]
      exact h.pure w
    · exact h.elim
  | lt =>
    simp only [cmpM] at h
    split at h
    · rw [rep_int] at ra rb; exact .inl ⟨_, _, ra, rb, _, rfl, h.pure w⟩
    · rw [rep_str] at ra rb; exact .inr ⟨_, _, ra.1, rb.1, _, rfl, by rw [toS_cps, toS_cps]; exact h.pure w⟩
    · exact h.elim
  | le =>
    simp only [cmpM] at h
    split at h
    · rw [rep_int] at ra rb; exact .inl ⟨_, _, ra, rb, _, rfl, h.pure w⟩
    · rw [rep_str] at ra rb; exact .inr ⟨_, _, ra.1, rb.1, _, rfl, by rw [toS_cps, toS_cps]; exact h.pure w⟩
    · exact h.elim
  | gt =>
    simp only [cmpM] at h
    split at h
    · rw [rep_int] at ra rb; exact .inl ⟨_, _, ra, rb, _, rfl, h.pure w⟩
    · rw [rep_str] at ra rb; exact .inr ⟨_, _, ra.1, rb.1, _, rfl, by rw [toS_cps, toS_cps]; exact h.pure w⟩
    · exact h.elim
  | ge =>
    simp only [cmpM] at h
    split at h
    · rw [rep_int] at ra rb; exact .inl ⟨_, _, ra, rb, _, rfl, h.pure w⟩
    · rw [rep_str] at ra rb; exact .inr ⟨_, _, ra.1, rb.1, _, rfl, by rw [toS_cps, toS_cps]; exact h.pure w⟩
    · exact h.elim
end
end Fs

/-! FsD: the other binary operators, minus, subscripts, slices, truth, length. -/
namespace Fs
open PySem PySem.Spec PyProof.Rows L2

/-- a list so many times -/
def repL {α : Type} (n : Nat) (x : List α) : List α := (List.replicate n x).flatten
theorem repL_len {α : Type} (n : Nat) (x : List α) : (repL n x).length = n * x.length := by
  unfold repL; simp
theorem repL_succ {α : Type} (n : Nat) (x : List α) : repL (n + 1) x = x ++ repL n x := by
  unfold repL; simp [List.replicate_succ]
theorem repL_zero {α : Type} (x : List α) : repL 0 x = [] := rfl
theorem foldl_app {α : Type} (x : Array α) : ∀ (n : Nat) (b : Array α), ((List.replicate n x).foldl (· ++ ·) b).toList = b.toList ++ repL n x.toList
  | 0, b => by simp [repL]
  | n + 1, b => by rw [List.replicate_succ, List.foldl_cons, foldl_app x n, repL_succ]; simp
theorem toS_mul (x : List Char) (j : Int) : Txt.mul (toS x) j = toS (repL j.toNat x) := by
  have mp : ∀ n : Nat, repL n (x.map Char.toNat) = (repL n x).map Char.toNat := fun n => by
    induction n with
    | zero => rfl
    | succ n ih => rw [repL_succ, repL_succ, ih, List.map_append]
  unfold Txt.mul
  by_cases h1 : j < 1
  · rw [if_pos h1, show j.toNat = 0 by omega]; rfl
  · rw [if_neg h1]
    by_cases h2 : (j == 1 || (toS x).length == 0) = true
    · rw [if_pos h2]
      rw [Bool.or_eq_true, beq_iff_eq, beq_iff_eq] at h2
      rcases h2 with h2 | h2
      · subst h2
        show _ = toS (repL 1 x)
        simp [repL]
      · have : x = [] := by
          have e : (toS x).length = x.length := by simp [toS, Str.length]
          rw [e] at h2
          exact List.length_eq_zero_iff.mp h2
        subst this
        have : repL j.toNat ([] : List Char) = [] := List.length_eq_zero_iff.mp (by rw [repL_len]; simp)
        rw [this]
    · rw [if_neg h2]
      show (⟨(List.replicate j.toNat (toS x).cps).foldl (· ++ ·) #[]⟩ : Str) = toS _
      have : (List.replicate j.toNat (toS x).cps).foldl (· ++ ·) #[] = ((repL j.toNat x).map Char.toNat).toArray := by
        apply Array.ext'
        rw [foldl_app, toS_cps, mp]
        simp
      rw [this]
      rfl
def rMulS : R2 := fun x y H Q => ∃ (z : List Char) (j : Int), x = .str (toS z) ∧ y = .int j ∧ (j < 2 ^ 62 ∧ -(2 ^ 62) ≤ j ∧ z.length * j.toNat ≤ 16777216) ∧ Q (.str (toS (repL j.toNat z))) H
theorem op_mulS {X : Cx} : OpR X (binaryOp .Mult) rMulS := by
  intro pins s σ H x y v u Q I rx ry ⟨z, j, ex, ey, ⟨h1, h2, h3⟩, q⟩
  subst ex ey
  obtain ⟨t, rfl⟩ := rx
  obtain ⟨k, rfl⟩ := ry
  have len : (toS z).length = z.length := toS_len z
  refine SB.mul ⟨by simp; omega, fun a b c => ?_, fun a b => ?_⟩ fun t' k' => ?_
  · rw [len] at c
    have hj : 0 < j := by omega
    have : (z.length : Int) * j ≤ 2 ^ 63 - 1 := by
      have e : ((z.length * j.toNat : Nat) : Int) = (z.length : Int) * j := by
        rw [Int.natCast_mul, Int.toNat_of_nonneg (by omega)]
      rw [← e]; omega
    exact absurd ((Int.le_ediv_iff_mul_le hj).mpr this) (by omega)
  · rw [len]
    simp only [Builtin.Str.tooLong, sizeLine_eq]
    simp; omega
  · rw [toS_mul]
    exact ⟨.str (toS (repL j.toNat z)), H, I.tok _, ⟨t', rfl⟩, q⟩
def binM (o : Bop) (a b : D) : M D :=
  match o with
  | .add => addM a b
  | .sub => fun m => match a, b with
    | .int i, .int j => .ok (.int (i - j)) m
    | _, _ => .stuck
  | .mul => fun m => match a, b with
    | .int i, .int j => if i.natAbs.log2 + j.natAbs.log2 < 1000000 then .ok (.int (i * j)) m else .stuck
    | .str x, .int j => if j < 2 ^ 62 ∧ -(2 ^ 62) ≤ j ∧ x.length * j.toNat ≤ 16777216 then .ok (.str (repL j.toNat x)) m else .stuck
    | .tup x, .int j => if 2 ≤ j ∧ j ≤ 1000 ∧ 0 < x.length ∧ x.length ≤ 1000 then .ok (.tup (repL j.toNat x)) m else .stuck
    | a, .int j => (match readL m a with
      | some ds => if j < 2 ^ 62 ∧ -(2 ^ 62) ≤ j ∧ ds.length * j.toNat ≤ 16777216 then .ok (.lst (repL j.toNat ds)) m else .stuck
      | none => .stuck)
    | _, _ => .stuck
  | .mod => fun m => match a, b with
    | .int i, .int j => if 0 < j then .ok (.int (i % j)) m else .stuck
    | _, _ => .stuck
  | .fdv => fun m => match a, b with
    | .int i, .int j => if 0 < j ∧ j.natAbs.log2 < 9000 then .ok (.int (i / j)) m else .stuck
    | _, _ => .stuck
  | .pow => fun m => match a, b with
    | .int i, .int j => if 0 ≤ j ∧ j ≤ 1000000 ∧ i.natAbs < 2 ^ 64 then .ok (.int (i ^ j.toNat)) m else .stuck
    | _, _ => .stuck
  | .shl => fun m => match a, b with
    | .int i, .int j => if 0 ≤ j ∧ j ≤ 1000000 ∧ i.natAbs < 2 ^ 64 then .ok (.int (i * 2 ^ j.toNat)) m else .stuck
    | _, _ => .stuck
  | .bor => fun m => match a, b with
    | .int i, .int j => .ok (.int (Builtin.bitOr i j)) m
    | _, _ => .stuck
  | .band => fun m => match a, b with
    | .int i, .int j => .ok (.int (Builtin.bitAnd i j)) m
    | _, _ => .stuck
def rBin (K : PySem.W.Frag) (o : Bop) : R2 :=
  match o with
  | .add => rAddA K
  | .sub => rI0 fun i j => .int (i - j)
  | .mul => fun x y H Q => rI CMulW (fun i j => .int (i * j)) x y H Q ∨ rMulS x y H Q ∨ rRepT K x y H Q ∨ rRep x y H Q
  | .mod => rI (fun _ j => 0 < j) fun i j => .int (i % j)
  | .fdv => rI CDivW fun i j => .int (i / j)
  | .pow => rI CPow fun i j => .int (i ^ j.toNat)
  | .shl => rI CPow fun i j => .int (i * 2 ^ j.toNat)
  | .bor => rI0 fun i j => .int (Builtin.bitOr i j)
  | .band => rI0 fun i j => .int (Builtin.bitAnd i j)
theorem op_binA {X : Cx} (o : Bop) : OpR X (binaryOp o.op) (rBin X.K o) := by
  cases o with
  | add => exact op_addA
  | sub => exact op_sub
  | mul => exact op_mulW.or (op_mulS.or (op_repT.or op_rep))
  | mod => exact op_mod
  | fdv => exact op_fdivW
  | pow => exact op_pow
  | shl => exact op_shl
  | bor => exact op_or
  | band => exact op_and
section
variable {C : Ct} {S : Ws} {a b : D} {x y : V} {W : XK} {Q : VK}
theorem Reps.rep {ds : List D} {vs : List V} (q : Reps C S ds vs) : ∀ n : Nat, Reps C S (repL n ds) (repL n vs)
  | 0 => Reps.nil
  | n + 1 => by rw [repL_succ, repL_succ]; exact q.append (Reps.rep q n)
theorem bin_ok {o : Bop} (w : Wf C S) (ra : Rep C S a x) (rb : Rep C S b y) (h : PostE C S (binM o a b S.mu) W Q) : rBin C.K o x y S.H Q := by
  cases o with
  | add => exact add_ok w ra rb h
  | sub =>
    simp only [binM] at h
    split at h
    · rw [rep_int] at ra rb; exact ⟨_, _, ra, rb, h.pure w (rep_int.mpr rfl)⟩
    · exact h.elim
  | mul =>
    simp only [binM] at h
    split at h
    · split at h
      · rename_i c
        rw [rep_int] at ra rb; exact .inl ⟨_, _, ra, rb, c, h.pure w (rep_int.mpr rfl)⟩
      · exact h.elim
    · split at h
      · rename_i z j c
        rw [rep_str] at ra
        rw [rep_int] at rb
        exact .inr (.inl ⟨z, j, ra.1, rb, c, h.pure w (rep_str.mpr ⟨rfl, by rw [repL_len, sizeLine_eq, Nat.mul_comm]; exact c.2.2⟩)⟩)
      · exact h.elim
    · split at h
      · rename_i z j c
        rw [rep_int] at rb
        obtain ⟨p, vs, e, f, l, q⟩ := rep_tup ra
        refine .inr (.inr (.inl ⟨p, j, vs, e, rb, f, fun z => ?_, c.1, c.2.1, by rw [← q.len]; exact c.2.2.2, fun p hp => ?_⟩))
        · have := q.len
          rw [z] at this
          have := c.2.2.1
          simp_all
        · refine h.newT w hp ?_ (q.rep j.toNat)
          rw [repL_len, sizeLine_eq]
          have h1 := c.2.1
          have h2 := c.2.2.2
          have h3 : j.toNat ≤ 1000 := by omega
          exact Nat.le_trans (Nat.mul_le_mul h3 h2) (by decide)
      · exact h.elim
    · split at h
      · rename_i ds hd
        split at h
        · rename_i c
          rw [rep_int] at rb
          obtain ⟨p, vs, e, f, l, q⟩ := readL_rep w hd ra
          refine .inr (.inr (.inr ⟨p, _, vs, e, rb, f, by omega, by omega, by rw [← q.len, sizeLine_eq]; exact c.2.2, fun p hp => ?_⟩))
          exact h.newL w hp (by rw [repL_len, sizeLine_eq, Nat.mul_comm]; exact c.2.2) (q.rep _)
        · exact h.elim
      · exact h.elim
    · exact h.elim
  | mod =>
    simp only [binM] at h
    split at h
    · split at h
      · rename_i c
        rw [rep_int] at ra rb; exact ⟨_, _, ra, rb, c, h.pure w (rep_int.mpr rfl)⟩
      · exact h.elim
    · exact h.elim
  | fdv =>
    simp only [binM] at h
    split at h
    · split at h
      · rename_i c
        rw [rep_int] at ra rb; exact ⟨_, _, ra, rb, c, h.pure w (rep_int.mpr rfl)⟩
      · exact h.elim
    · exact h.elim
  | pow =>
    simp only [binM] at h
    split at h
    · split at h
      · rename_i c
        rw [rep_int] at ra rb; exact ⟨_, _, ra, rb, c, h.pure w (rep_int.mpr rfl)⟩
      · exact h.elim
    · exact h.elim
  | shl =>
    simp only [binM] at h
    split at h
    · split at h
      · rename_i c
        rw [rep_int] at ra rb; exact ⟨_, _, ra, rb, c, h.pure w (rep_int.mpr rfl)⟩
      · exact h.elim
    · exact h.elim
  | bor =>
    simp only [binM] at h
    split at h
    · rw [rep_int] at ra rb; exact ⟨_, _, ra, rb, h.pure w (rep_int.mpr rfl)⟩
    · exact h.elim
  | band =>
    simp only [binM] at h
    split at h
    · rw [rep_int] at ra rb; exact ⟨_, _, ra, rb, h.pure w (rep_int.mpr rfl)⟩
    · exact h.elim
end
/-! ### minus -/
def negM (a : D) : M D := fun m => match a with
  | .int i => .ok (.int (-i)) m
  | _ => .stuck
theorem neg_ok {C : Ct} {S : Ws} {a : D} {x : V} {W : XK} {Q : VK} (w : Wf C S) (ra : Rep C S a x) (h : PostE C S (negM a S.mu) W Q) : rU (fun i => .int (-i)) x S.H Q := by
  unfold negM at h
  split at h
  · rw [rep_int] at ra; exact ⟨_, ra, h.pure w (rep_int.mpr rfl)⟩
  · exact h.elim

/-! ### dicts: the place of a key -/
def idxK {κ : Type} [DecidableEq κ] (k : κ) : List (Option κ) → Option Nat
  | [] => none
  | o :: r => if o = some k then some 0 else (idxK k r).map (· + 1)
theorem idxK_lt {κ : Type} [DecidableEq κ] {k : κ} : ∀ {l : List (Option κ)} {i : Nat}, idxK k l = some i → i < l.length
  | [], i, h => by simp [idxK] at h
  | o :: r, i, h => by
    simp only [idxK] at h
    split at h
    · simp only [Option.some.injEq] at h; subst h; simp
    · obtain ⟨j, h1, h2⟩ := Option.map_eq_some_iff.mp h
      have := idxK_lt h1
      simp only [List.length_cons]; omega
/-- the place of a key: none: the key is of another kind; some none: it is not there -/
def lookD (t : Bool) (ks : List D) (d : D) : Option (Option Nat) :=
  if t = true then (match d with
    | .tup _ => (dKeyT d).map fun k => idxK k (ks.map dKeyT)
    | _ => none)
  else (dKey d).map fun k => idxK k (ks.map dKey)
/-- the values with k's replaced -/
def putV {κ : Type} [DecidableEq κ] (k : κ) (e : D) : List (Option κ) → List D → List D
  | o :: ks, v :: vs => (if o = some k then e else v) :: putV k e ks vs
  | _, vs => vs
def putD (t : Bool) (ks vs : List D) (i e : D) : List D :=
  if t = true then (match dKeyT i with
    | some k => putV k e (ks.map dKeyT) vs
    | none => vs)
  else (match dKey i with
    | some k => putV k e (ks.map dKey) vs
    | none => vs)
theorem valV_idx {κ : Type} [DecidableEq κ] : ∀ (kvs : List (κ × V)) (k : κ), valV kvs k = (idxK k (kvs.map fun p => some p.1)).bind fun i => (kvs.map (·.2))[i]?
  | [], k => by simp [valV, idxK]
  | p :: r, k => by
    by_cases e : p.1 = k
    · rw [valV_pos e]
      simp [idxK, e]
    · rw [valV_neg e, valV_idx r k]
      have e2 : ¬ (some p.1 = some k) := by simpa using e
      simp only [List.map_cons, idxK, if_neg e2]
      cases q : idxK k (r.map fun p => some p.1) with
      | none => simp
      | some i => simp
theorem kV_rep {C : Ct} {S : Ws} {d : D} {v : V} {k : Key} (h : dKey d = some k) (r : Rep C S d v) : v = kV k := by
  cases d <;> simp_all [dKey, Rep]
  · subst h; rfl
  · subst h; rfl
theorem kVs_rep {C : Ct} {S : Ws} : ∀ {ds : List D} {vs : List V} {k : List Key}, ds.mapM dKey = some k → Reps C S ds vs → vs = k.map kV
  | [], vs, k, h, r => by
    simp only [Reps] at r
    simp at h; subst h; subst r; rfl
  | d :: ds, vs, k, h, r => by
    simp only [Reps] at r
    obtain ⟨v, vs', e, r1, r2⟩ := r
    subst e
    simp only [List.mapM_cons, Option.pure_def, Option.bind_eq_bind, Option.bind_eq_some_iff, Option.some.injEq] at h
    obtain ⟨k1, h1, k2, h2, h3⟩ := h
    subst h3
    rw [kV_rep h1 r1, kVs_rep h2 r2]
    rfl
/-- what a dict tells of a key: none: the key is of another kind; some none: it is not there -/
structure DctAt (C : Ct) (S : Ws) (a : Addr) (t : Bool) (ks vs : List D) : Prop where
  at_ : if t = true then ∃ kvs : List (List Key × V), S.H a = some (.dT kvs) ∧ ks.map dKeyT = kvs.map (fun p => some p.1) ∧ Reps C S vs (kvs.map (·.2))
      else ∃ kvs : List (Key × V), S.H a = some (.dK kvs) ∧ ks.map dKey = kvs.map (fun p => some p.1) ∧ Reps C S vs (kvs.map (·.2))
theorem DctAt.get {C : Ct} {S : Ws} {a : Addr} {t : Bool} {ks vs : List D} (h : DctAt C S a t ks vs) {d : D} {y : V} {o : Option Nat} (hk : lookD t ks d = some o) (r : Rep C S d y) :
    ∃ z : Option V, DGet S.H a y z ∧ (o = none → z = none) ∧ (∀ i, o = some i → ∃ e v, vs[i]? = some e ∧ z = some v ∧ Rep C S e v) := by
  have at_ := h.at_
  cases t with
  | true =>
    simp only [if_true] at at_
    obtain ⟨kvs, h1, h2, h3⟩ := at_
    simp only [lookD, if_true] at hk
    split at hk
    · rename_i ds
      obtain ⟨k, k1, k2⟩ := Option.map_eq_some_iff.mp hk
      simp only [Rep] at r
      obtain ⟨b, us, e, f, l, q⟩ := r
      subst e
      have e := kVs_rep (by simpa only [dKeyT] using k1) q
      subst e
      refine ⟨valV kvs k, DGet.t h1 f.1, fun z => ?_, fun i z => ?_⟩
      · rw [valV_idx, ← h2, k2, z]; rfl
      · have hv := valV_idx kvs k
        rw [← h2, k2, z] at hv
        have hi : i < vs.length := by
          have hlt := idxK_lt (k2.trans z)
          have e1 : (ks.map dKeyT).length = (kvs.map (·.2)).length := by rw [h2]; simp
          rw [h3.len, ← e1]; exact hlt
        obtain ⟨v, g1, g2⟩ := h3.get (List.getElem?_eq_getElem hi)
        exact ⟨_, v, List.getElem?_eq_getElem hi, hv.trans g1, g2⟩
    · cases hk
  | false =>
    simp only [Bool.false_eq_true, if_false] at at_
    obtain ⟨kvs, h1, h2, h3⟩ := at_
    simp only [lookD, Bool.false_eq_true, if_false] at hk
    obtain ⟨k, k1, k2⟩ := Option.map_eq_some_iff.mp hk
    have e := kV_rep k1 r
    subst e
    refine ⟨valV kvs k, DGet.k h1, fun z => ?_, fun i z => ?_⟩
    · rw [valV_idx, ← h2, k2, z]; rfl
    · have hv := valV_idx kvs k
      rw [← h2, k2, z] at hv
      have hi : i < vs.length := by
        have hlt := idxK_lt (k2.trans z)
        have e1 : (ks.map dKey).length = (kvs.map (·.2)).length := by rw [h2]; simp
        rw [h3.len, ← e1]; exact hlt
      obtain ⟨v, g1, g2⟩ := h3.get (List.getElem?_eq_getElem hi)
      exact ⟨_, v, List.getElem?_eq_getElem hi, hv.trans g1, g2⟩
end Fs

/-! FsE: subscripts, slices, truth, length. -/
namespace Fs
open PySem PySem.Spec PyProof.Rows L2

def readDct (m : Store) : D → Option (Bool × List D × List D)
  | .dct t ks vs => some (t, ks, vs)
  | .obj n => match m[n]? with
    | some (.dct t ks vs) => some (t, ks, vs)
    | _ => none
  | _ => none
section
variable {C : Ct} {S : Ws}
theorem readDct_rep (w : Wf C S) {d : D} {v : V} {t : Bool} {ks vs : List D} (h : readDct S.mu d = some (t, ks, vs)) (r : Rep C S d v) : ∃ a, v = .ref a ∧ DctAt C S a t ks vs := by
  cases d with
  | dct t' ks' vs' =>
    simp only [readDct, Option.some.injEq, Prod.mk.injEq] at h
    obtain ⟨rfl, rfl, rfl⟩ := h
    simp only [Rep] at r
    obtain ⟨a, e, r⟩ := r
    refine ⟨a, e, ⟨?_⟩⟩
    split at r
    · rename_i ht; rw [if_pos ht]; obtain ⟨kvs, f, k, q⟩ := r; exact ⟨kvs, f.1, k, q⟩
    · rename_i ht; rw [if_neg ht]; obtain ⟨kvs, f, k, q⟩ := r; exact ⟨kvs, f.1, k, q⟩
  | obj n =>
    simp only [readDct] at h
    simp only [Rep] at r
    obtain ⟨a, ha, e⟩ := r
    cases q : S.mu[n]? with
    | none => rw [q] at h; cases h
    | some c =>
      rw [q] at h
      cases c with
      | dct t' ks' vs' =>
        simp only [Option.some.injEq, Prod.mk.injEq] at h
        obtain ⟨rfl, rfl, rfl⟩ := h
        exact ⟨a, e, ⟨w.cell n _ a q ha⟩⟩
      | _ => cases h
  | _ => simp [readDct] at h
end
/-! ### a[b] -/
def idxM (a b : D) : M D := fun m =>
  match readQ m a with
  | some ds => match b with
    | .int i => match atI ds i with
      | some d => .ok d m
      | none => .stuck
    | _ => .stuck
  | none => match a with
    | .str x => match b with
      | .int i => match atI x i with
        | some c => .ok (.str [c]) m
        | none => .stuck
      | _ => .stuck
    | a => match readDct m a with
      | some (t, ks, vs) => match lookD t ks b with
        | some (some i) => match vs[i]? with
          | some d => .ok d m
          | none => .stuck
        | _ => .stuck
      | none => .stuck
def rIxD : R2 := fun x y H Q => ∃ a v, x = .ref a ∧ DGet H a y (some v) ∧ Q v H
theorem ix_dict {X : Cx} (hu : X.A.units + 1 < cLine) : IxR X rIxD := by
  intro value slice pins s σ H x y v u Q I rx ry h hs
  obtain ⟨a, z, rfl, g, q⟩ := h
  obtain rfl : v = Value.ref a := rx
  exact tail_any (dict_typeIs I g) PySem.F.slot_dict_getitem.lookup (d_getItem hu I g ry fun w' s3 I3 rw' => ⟨z, H, I3, rw', q⟩) hs
def rIxA (K : PySem.W.Frag) : R2 := fun x y H Q => rIxL K x y H Q ∨ rIxT K x y H Q ∨ rIxS x y H Q ∨ rIxD x y H Q
theorem ix_all {X : Cx} (hu : X.A.units + 1 < cLine) : IxR X (rIxA X.K) := ix_list.or (ix_tup.or (ix_str.or (ix_dict hu)))
theorem atI_map {α β : Type} (f : α → β) (xs : List α) (i : Int) : atI (xs.map f) i = (atI xs i).map f := by
  unfold atI
  rw [List.length_map]
  cases ixN xs.length i with
  | none => rfl
  | some j => simp
section
variable {C : Ct} {S : Ws} {a b : D} {x y : V} {W : XK} {Q : VK}
theorem Reps.atI {ds : List D} {vs : List V} (r : Reps C S ds vs) {i : Int} {d : D} (h : L2.atI ds i = some d) : ∃ v, L2.atI vs i = some v ∧ Rep C S d v := by
  unfold L2.atI at h ⊢
  rw [r.len] at h
  cases e : ixN vs.length i with
  | none => rw [e] at h; cases h
  | some j =>
    rw [e] at h
    exact r.get h
theorem idx_ok (w : Wf C S) (ra : Rep C S a x) (rb : Rep C S b y) (h : PostE C S (idxM a b S.mu) W Q) : rIxA C.K x y S.H Q := by
  unfold idxM at h
  split at h
  · rename_i ds hd
    split at h
    · rename_i i
      split at h
      · rename_i d he
        obtain ⟨p, vs, e, f, l, q⟩ := readQ_rep w hd ra
        obtain ⟨v, h1, h2⟩ := q.atI he
        rw [rep_int] at rb
        rcases f with f | f
        · exact .inl ⟨p, vs, i, v, e, rb, f, h1, h.pure w h2⟩
        · exact .inr (.inl ⟨p, vs, i, v, e, rb, f, h1, h.pure w h2⟩)
      · exact h.elim
    · exact h.elim
  · split at h
    · rename_i z hz
      split at h
      · rename_i i
        split at h
        · rename_i c hc
          rw [rep_str] at ra
          rw [rep_int] at rb
          refine .inr (.inr (.inl ⟨toS z, i, c.toNat, ra.1, rb, by rw [toS_len]; exact ra.2, ?_, ?_⟩))
          · rw [toS_cps, atI_map, hc]; rfl
          · refine h.pure w (rep_str.mpr ⟨?_, small16 (by simp)⟩)
            simp [toS]
        · exact h.elim
      · exact h.elim
    · split at h
      · rename_i t ks vs hd
        split at h
        · rename_i i hk
          split at h
          · rename_i d he
            obtain ⟨p, e, g⟩ := readDct_rep w hd ra
            obtain ⟨z, g1, g2, g3⟩ := g.get hk rb
            obtain ⟨e', v, h1, h2, h3⟩ := g3 i rfl
            rw [he] at h1; cases h1; subst h2
            exact .inr (.inr (.inr ⟨p, v, e, g1, h.pure w h3⟩))
          · exact h.elim
        · exact h.elim
      · exact h.elim
end
/-! ### a[lo:hi] -/
def cutL {α : Type} (xs : List α) (lo hi : Option Int) : List α := (xs.drop (HT.sIx xs.length 0 lo)).take (HT.sIx xs.length xs.length hi - HT.sIx xs.length 0 lo)
theorem cutL_len {α : Type} (xs : List α) (lo hi : Option Int) : (cutL xs lo hi).length ≤ xs.length := by
  unfold cutL; rw [List.length_take, List.length_drop]; omega
def slcM (a : D) (lo hi : Option Int) : M D := fun m =>
  match a with
  | .str x => .ok (.str (cutL x lo hi)) m
  | .tup ds => .ok (.tup (cutL ds lo hi)) m
  | .frz ds => .ok (.lst (cutL ds lo hi)) m
  | a => match readL m a with
    | some ds => .ok (.lst (cutL ds lo hi)) m
    | none => .stuck
def rSlAll (K : PySem.W.Frag) : V → Option Int → Option Int → Hp → VK → Prop := fun x lo hi H Q => rSlL K x lo hi H Q ∨ rSlA K x lo hi H Q ∨ rSlS x lo hi H Q
theorem sl_all {X : Cx} : SlR X (rSlAll X.K) := sl_list.or (sl_tupA.or sl_str)
section
variable {C : Ct} {S : Ws} {a b : D} {x y : V} {W : XK} {Q : VK}
theorem Reps.cut {ds : List D} {vs : List V} (r : Reps C S ds vs) (lo hi : Option Int) : Reps C S (cutL ds lo hi) (cutV vs lo hi) := by
  unfold cutL cutV
  rw [r.len]
  exact (r.drop _).take _
theorem cut_whole {α : Type} {xs : List α} {lo hi : Option Int} (h : HT.sIx xs.length 0 lo = 0 ∧ HT.sIx xs.length xs.length hi = xs.length) : cutL xs lo hi = xs := by
  unfold cutL; rw [h.1, h.2]; simp
theorem slc_ok {lo hi : Option Int} (w : Wf C S) (ra : Rep C S a x) (h : PostE C S (slcM a lo hi S.mu) W Q) : rSlAll C.K x lo hi S.H Q := by
  unfold slcM at h
  split at h
  · rename_i z
    rw [rep_str] at ra
    refine .inr (.inr ⟨toS z, ra.1, by rw [toS_len]; exact ra.2, ?_⟩)
    have e : cutS (toS z) lo hi = toS (cutL z lo hi) := by
      unfold cutS cutL toS
      simp only [PySem.Str.length, List.size_toArray, List.length_map, List.map_take, List.map_drop]
    rw [e]
    exact h.pure w (rep_str.mpr ⟨rfl, Nat.le_trans (cutL_len _ _ _) ra.2⟩)
  · rename_i ds
    right; left
    have ra' := ra
    obtain ⟨p, vs, e, f, l, q⟩ := rep_tup ra
    refine ⟨p, vs, e, f, fun z => ?_, fun z p hp => h.newT w hp (Nat.le_trans (cutL_len _ _ _) l) (q.cut _ _)⟩
    rw [← q.len] at z
    rw [cut_whole z] at h
    subst e
    exact h.pure w ra'
  · rename_i ds
    left
    simp only [Rep] at ra
    obtain ⟨p, vs, e, f, l, q⟩ := ra
    exact ⟨p, vs, e, f.seq, fun p hp => h.newL w hp (Nat.le_trans (cutL_len _ _ _) l) (q.cut _ _)⟩
  · split at h
    · rename_i ds hd
      left
      obtain ⟨p, vs, e, f, l, q⟩ := readL_rep w hd ra
      exact ⟨p, vs, e, SqL.of f, fun p hp => h.newL w hp (Nat.le_trans (cutL_len _ _ _) l) (q.cut _ _)⟩
    · exact h.elim
end
/-! ### truth -/
def truM (a : D) : M Bool := fun m =>
  match a with
  | .non => .ok false m
  | .bl b => .ok b m
  | .int i => .ok (i != 0) m
  | .str x => .ok (!x.isEmpty) m
  | a => match readQ m a with
    | some ds => .ok (!ds.isEmpty) m
    | none => match readDct m a with
      | some (false, ks, vs) => .ok (!ks.isEmpty) m
      | _ => .stuck
theorem Reps.isEmpty {C : Ct} {S : Ws} {ds : List D} {vs : List V} (r : Reps C S ds vs) : ds.isEmpty = vs.isEmpty := by
  have := r.len
  cases ds <;> cases vs <;> simp_all
theorem tru_okM {C : Ct} {S : Ws} {a : D} {x : V} {W : XK} {Q : Bool → Hp → Prop} (w : Wf C S) (ra : Rep C S a x) (h : PostT C S (truM a S.mu) W Q) : ∃ k, TruV C.K x S.H k ∧ Q k S.H := by
  unfold truM at h
  split at h
  · rw [rep_non] at ra; subst ra; exact ⟨false, rfl, h.pure w⟩
  · rw [rep_bl] at ra; subst ra; exact ⟨_, rfl, h.pure w⟩
  · rw [rep_int] at ra; subst ra; exact ⟨_, rfl, h.pure w⟩
  · rename_i z
    rw [rep_str] at ra; rw [ra.1]
    refine ⟨_, ⟨by rw [toS_len]; exact ra.2, ?_⟩, h.pure w⟩
    rw [toS_len]; cases z <;> simp
    omega
  · split at h
    · rename_i ds hd
      obtain ⟨p, vs, e, f, l, q⟩ := readQ_rep w hd ra
      subst e
      refine ⟨_, ?_, h.pure w⟩
      rw [q.isEmpty]
      rcases f with f | f
      · exact .inl ⟨vs, f, rfl⟩
      · exact .inr (.inl ⟨vs, f, rfl⟩)
    · split at h
      · rename_i ks vs hd
        obtain ⟨p, e, g⟩ := readDct_rep w hd ra
        subst e
        have := g.at_
        simp only [Bool.false_eq_true, if_false] at this
        obtain ⟨kvs, h1, h2, h3⟩ := this
        refine ⟨_, .inr (.inr ⟨kvs, h1, rfl⟩), ?_⟩
        have e : kvs.isEmpty = ks.isEmpty := by
          have : (ks.map dKey).length = (kvs.map fun p => some p.1).length := by rw [h2]
          cases ks <;> cases kvs <;> simp_all
        rw [e]; exact h.pure w
      · exact h.elim
/-! ### len -/
def lenM (a : D) : M D := fun m =>
  match a with
  | .str x => .ok (.int x.length) m
  | .frz ds => .ok (.int ds.length) m
  | a => match readQ m a with
    | some ds => .ok (.int ds.length) m
    | none => match readDct m a with
      | some (false, ks, vs) => .ok (.int ks.length) m
      | _ => .stuck
def rLenA (K : PySem.W.Frag) : List V → Hp → VK → Prop := fun xs H Q => (∃ x n, xs = [x] ∧ LenV K x H n ∧ Q (.int n) H) ∨ (∃ a kvs, xs = [V.ref a] ∧ H a = some (.dK kvs) ∧ Q (.int kvs.length) H)
theorem call_lenA {X : Cx} : CallR X (.builtin "len") (rLenA X.K) := call_len.or call_lenD
theorem len_ok {C : Ct} {S : Ws} {a : D} {x : V} {W : XK} {Q : VK} (w : Wf C S) (ra : Rep C S a x) (h : PostE C S (lenM a S.mu) W Q) : rLenA C.K [x] S.H Q := by
  unfold lenM at h
  split at h
  · rename_i z
    rw [rep_str] at ra; rw [ra.1]
    exact .inl ⟨_, z.length, rfl, ⟨by rw [toS_len]; exact ra.2, (toS_len z).symm⟩, h.pure w (rep_int.mpr rfl)⟩
  · rename_i ds
    simp only [Rep] at ra
    obtain ⟨p, vs, e, f, l, q⟩ := ra
    subst e
    exact .inl ⟨_, ds.length, rfl, .inl ⟨vs, f.seq, q.len⟩, h.pure w (rep_int.mpr rfl)⟩
  · split at h
    · rename_i ds hd
      obtain ⟨p, vs, e, f, l, q⟩ := readQ_rep w hd ra
      subst e
      rcases f with f | f
      · exact .inl ⟨_, ds.length, rfl, .inl ⟨vs, f, q.len⟩, h.pure w (rep_int.mpr rfl)⟩
      · exact .inl ⟨_, ds.length, rfl, .inr ⟨vs, f, q.len⟩, h.pure w (rep_int.mpr rfl)⟩
    · split at h
      · rename_i ks vs hd
        obtain ⟨p, e, g⟩ := readDct_rep w hd ra
        subst e
        have := g.at_
        simp only [Bool.false_eq_true, if_false] at this
        obtain ⟨kvs, h1, h2, h3⟩ := this
        refine .inr ⟨p, kvs, rfl, h1, ?_⟩
        have e : kvs.length = ks.length := by
          have : (ks.map dKey).length = (kvs.map fun p => some p.1).length := by rw [h2]
          simpa using this.symm
        rw [e]; exact h.pure w (rep_int.mpr rfl)
      · exact h.elim
end Fs

/-! FsF: the deep syntax and its evaluator. -/
namespace Fs
open PySem PySem.Spec PyProof.Rows L2
open Classical

inductive MG where
  | nm (i : Nat)
  | tp (is : List Nat)
mutual
inductive ME where
  | var (i : Nat)
  | con (d : D)
  | bin (o : Bop) (a b : ME)
  | neg (a : ME)
  | cmp (o : Cop) (a b : ME)
  | cmp2 (o1 o2 : Cop) (a b c : ME)
  | and (a b : ME)
  | or (a b : ME)
  | not (a : ME)
  | ite (c : MT) (a b : ME)
  | tup (es : MEs)
  | lst (es : MEs)
  | new (es : MEs)
  | idx (a b : ME)
  | slc (a : ME) (lo hi : MO)
  | call (F : List D → M D) (es : MEs)
  | meth (P : Store → D → Bool) (F : D → List D → M D) (o : ME) (es : MEs)
  | attr (F : D → M D) (o : ME)
  /-- what G makes of e's answer -/
  | tryx (G : Store → R D → R D) (e : ME)
  | comp (mu : Bool) (own : List Nat) (g : MG) (s : MI) (c : MTO) (e : ME)
  | comp2 (mu : Bool) (own own1 : List Nat) (g : MG) (s : MI) (c : MTO) (g1 : MG) (s1 : MI) (c1 : MTO) (e : ME)
  | frz (a : ME)
  /-- a lambda of the frame is called: e tells which, G what is made of its answer -/
  | fnx (G : R D → R D) (bs : MEs) (e : ME)
inductive MEs where
  | nil
  | cons (e : ME) (es : MEs)
inductive MO where
  | no
  | yes (e : ME)
inductive MT where
  | val (e : ME)
  | cmp (o : Cop) (a b : ME)
  | cmp2 (o1 o2 : Cop) (a b c : ME)
  | and (a b : MT)
  | or (a b : MT)
  | not (a : MT)
inductive MTO where
  | no
  | yes (c : MT)
inductive MI where
  | val (e : ME)
  | rng1 (a : ME)
  | rng2 (a b : ME)
  | enm (a : ME)
  | zip (a b : ME)
  | items (a : ME)
end
mutual
inductive MS where
  | exp (e : ME)
  | set (g : MG) (e : ME)
  | par (i j : Nat) (a b : ME)
  | aug (i : Nat) (o : Bop) (e : ME)
  | ret (e : ME)
  | retN
  | ite (c : MT) (a b : MSs)
  | for_ (g : MG) (s : MI) (b : MSs)
  | while_ (fuel : Nat) (c : MT) (b : MSs)
  | brk
  | cnt
  | pass
  | never
  | raise (F : List D → M D) (es : MEs)
  | setSub (o i e : ME)
  | setAt (F : D → D → M Unit) (o e : ME)
inductive MSs where
  | nil
  | cons (s : MS) (ss : MSs)
end

/-! ### the pieces -/
def eqT : D → M D → M D := fun _ x => x
def asgG (g : MG) (d : D) (r : Env) : Option Env :=
  match g with
  | .nm i => some (r.set i (some d))
  | .tp is => match d with
    | .tup ds => if ds.length = is.length then some ((is.zip ds).foldl (fun r p => r.set p.1 (some p.2)) r) else none
    | .wtp ds => if ds.length = is.length then some ((is.zip ds).foldl (fun r p => r.set p.1 (some p.2)) r) else none
    | _ => none
/-- what a for walks: the items; the cell that must stay as it is -/
structure Itm where
  ds : List D
  lk : Option (Nat × List D)
def Itm.ok (t : Itm) (m : Store) : Prop := match t.lk with
  | none => True
  | some p => m[p.1]? = some (.lst p.2)
def itmM (d : D) : M Itm := fun m =>
  match d with
  | .str x => .ok ⟨x.map fun c => .str [c], none⟩ m
  | .lst ds => .ok ⟨ds, none⟩ m
  | .tup ds => .ok ⟨ds, none⟩ m
  | .wtp ds => .ok ⟨ds, none⟩ m
  | .frz ds => .ok ⟨ds, none⟩ m
  | .obj n => match m[n]? with
    | some (.lst ds) => .ok ⟨ds, some (n, ds)⟩ m
    | _ => .stuck
  | _ => .stuck
def rngL (lo : Int) (n : Nat) : List D := (List.range n).map fun (i : Nat) => .int (lo + (i : Int))
def rng1M (d : D) : M Itm := fun m => match d with
  | .int j => if -(2 ^ 62) ≤ j ∧ j < 2 ^ 62 ∧ j.toNat ≤ sizeLine then .ok ⟨rngL 0 j.toNat, none⟩ m else .stuck
  | _ => .stuck
def rng2M (c d : D) : M Itm := fun m => match c, d with
  | .int i, .int j => if -(2 ^ 62) ≤ i ∧ i < 2 ^ 62 ∧ -(2 ^ 62) ≤ j ∧ j < 2 ^ 62 ∧ (j - i).toNat ≤ sizeLine then .ok ⟨rngL i (j - i).toNat, none⟩ m else .stuck
  | _, _ => .stuck
def enL : Nat → List D → List D
  | _, [] => []
  | i, d :: ds => .tup [.int i, d] :: enL (i + 1) ds
def enmM (d : D) : M Itm := fun m => match d with
  | .lst ds => .ok ⟨enL 0 ds, none⟩ m
  | .tup ds => .ok ⟨enL 0 ds, none⟩ m
  | .wtp ds => .ok ⟨enL 0 ds, none⟩ m
  | .str x => .ok ⟨enL 0 (x.map fun c => .str [c]), none⟩ m
  | .obj n => match m[n]? with
    | some (.lst ds) => .ok ⟨enL 0 ds, some (n, ds)⟩ m
    | _ => .stuck
  | _ => .stuck
def zipM (c d : D) : M Itm := fun m => match c, d with
  | .lst xs, .lst ys => .ok ⟨(xs.zip ys).map fun p => .tup [p.1, p.2], none⟩ m
  | .tup xs, .tup ys => .ok ⟨(xs.zip ys).map fun p => .tup [p.1, p.2], none⟩ m
  | _, _ => .stuck
/-- flow of a statement -/
inductive Fl where
  | nxt (r : Env)
  | ret (d : D)
  | brk (r : Env)
  | cnt (r : Env)
  | exc (c : Nat) (ks : List Nat) (vs : List D) (r : Env)
abbrev RS := Option (Fl × Store)
noncomputable def forM (t : Itm) (body : D → Env → Store → RS) : List D → Env → Store → RS
  | [], r, m => if t.ok m then some (.nxt r, m) else none
  | d :: ds, r, m => if t.ok m then (match body d r m with
      | some (.nxt r', m') => forM t body ds r' m'
      | some (.cnt r', m') => forM t body ds r' m'
      | some (.brk r', m') => some (.nxt r', m')
      | o => o) else none
def whileM (c : Env → M Bool) (body : Env → Store → RS) : Nat → Env → Store → RS
  | 0, _, _ => none
  | n + 1, r, m => match c r m with
    | .ok true m1 => (match body r m1 with
      | some (.nxt r', m') => whileM c body n r' m'
      | some (.cnt r', m') => whileM c body n r' m'
      | some (.brk r', m') => some (.nxt r', m')
      | o => o)
    | .ok false m1 => some (.nxt r, m1)
    | .exc k ks vs m1 => some (.exc k ks vs r, m1)
    | .stuck => none
/-- the items of lists, one behind another -/
def flatD1 : List D → List D
  | [] => []
  | .lst l :: ds => l ++ flatD1 ds
  | _ :: ds => flatD1 ds
noncomputable def compM (t : Itm) (f : D → M (Option D)) : List D → M (List D)
  | [] => fun m => if t.ok m then .ok [] m else .stuck
  | d :: ds => fun m => if t.ok m then (match f d m with
      | .ok o m1 => (match compM t f ds m1 with
        | .ok r m2 => .ok (match o with | some y => y :: r | none => r) m2
        | _ => .stuck)
      | _ => .stuck) else .stuck
def newM (ds : List D) : M D := fun m => .ok (.obj m.length) (m ++ [.lst ds])
/-- the cell is given up -/
def frzM (d : D) : M D := fun m => match d with
  | .obj n => match m[n]? with
    | some (.lst ds) => .ok (.lst ds) (m.set n .dead)
    | some (.dct t ks vs) => .ok (.dct t ks vs) (m.set n .dead)
    | some (.ins c ks vs) => .ok (.ins c ks vs) (m.set n .dead)
    | _ => .stuck
  | d => .ok d m
def intO (d : D) : M (Option Int) := fun m => match d with
  | .int i => .ok (some i) m
  | _ => .stuck
def blM (d : D) : M Bool := fun m => match d with
  | .bl b => .ok b m
  | _ => .stuck
def varM (r : Env) (i : Nat) : M D := fun m => match r[i]? with
  | some (some d) => .ok d m
  | _ => .stuck
def wipeE (r : Env) : List Nat → Env
  | [] => r
  | v :: vs => (wipeE r vs).set v none
/-- a method's receiver is of the right kind -/
def chkM (P : Store → D → Bool) (d : D) : M Unit := fun m => if P m d = true then .ok () m else .stuck
def itL (xs : List D) (p : Bool) : M (List D) := fun m => if p = true then .ok xs m else .stuck

/-! ### the evaluator -/
mutual
noncomputable def ev : ME → Env → M D
  | .var i, r => varM r i
  | .con d, _ => pure d
  | .bin o a b, r => do let x ← ev a r; let y ← ev b r; binM o x y
  | .neg a, r => do let x ← ev a r; negM x
  | .cmp o a b, r => do let x ← ev a r; let y ← ev b r; let c ← cmpM o x y; pure (.bl c)
  | .cmp2 o1 o2 a b c, r => do
    let x ← ev a r; let y ← ev b r; let k ← cmpM o1 x y
    if k = true then (do let z ← ev c r; let l ← cmpM o2 y z; pure (.bl l)) else pure (.bl false)
  | .and a b, r => do let x ← ev a r; let k ← blM x; if k = true then ev b r else pure (.bl false)
  | .or a b, r => do let x ← ev a r; let k ← blM x; if k = true then pure (.bl true) else ev b r
  | .not a, r => do let x ← ev a r; let k ← blM x; pure (.bl (!k))
  | .ite c a b, r => do let k ← evT c r; if k = true then ev a r else ev b r
  | .tup es, r => do let xs ← evs es r; if xs.length ≤ sizeLine then pure (.tup xs) else stuckM
  | .lst es, r => do let xs ← evs es r; if xs.length ≤ sizeLine then pure (.lst xs) else stuckM
  | .new es, r => do let xs ← evs es r; if xs.length ≤ sizeLine then newM xs else stuckM
  | .idx a b, r => do let x ← ev a r; let y ← ev b r; idxM x y
  | .slc a lo hi, r => do let x ← ev a r; let l ← evO lo r; let h ← evO hi r; slcM x l h
  | .call F es, r => do let xs ← evs es r; F xs
  | .meth P F o es, r => do let x ← ev o r; let _ ← chkM P x; let xs ← evs es r; F x xs
  | .attr F o, r => do let x ← ev o r; F x
  | .tryx G e, r => fun m => G m (ev e r m)
  | .comp mu own g s c e, r => do
    let t ← evI s r
    let ys ← compM t (fun d => match asgG g d (wipeE r own) with
      | some r' => (do let k ← evTO c r'; if k = true then (do let y ← ev e r'; pure (some y)) else pure none)
      | none => stuckM) t.ds
    if mu = true then newM ys else pure (.lst ys)
  | .comp2 mu own own1 g s c g1 s1 c1 e, r => do
    let t ← evI s r
    let yss ← compM t (fun d => match asgG g d (wipeE r own) with
      | some r' => (do
        let k ← evTO c r'
        if k = true then (do
          let t1 ← evI s1 r'
          let ys ← compM t1 (fun d1 => match asgG g1 d1 (wipeE r' own1) with
            | some r2 => (do let k1 ← evTO c1 r2; if k1 = true then (do let y ← ev e r2; pure (some y)) else pure none)
            | none => stuckM) t1.ds
          pure (some (.lst ys))) else pure none)
      | none => stuckM) t.ds
    if (flatD1 yss).length ≤ sizeLine then (if mu = true then newM (flatD1 yss) else pure (.lst (flatD1 yss))) else stuckM
  | .frz a, r => do let x ← ev a r; frzM x
  | .fnx G bs e, r => do
    let x ← ev e r
    match x with
    | .fn k => fun m => G (evn bs k r m)
    | _ => stuckM
noncomputable def evn : MEs → Nat → Env → M D
  | .nil, _, _ => stuckM
  | .cons e _, 0, r => ev e r
  | .cons _ es, k + 1, r => evn es k r
noncomputable def evs : MEs → Env → M (List D)
  | .nil, _ => pure []
  | .cons e es, r => do let x ← ev e r; let xs ← evs es r; pure (x :: xs)
noncomputable def evO : MO → Env → M (Option Int)
  | .no, _ => pure none
  | .yes e, r => do let x ← ev e r; intO x
noncomputable def evT : MT → Env → M Bool
  | .val e, r => do let x ← ev e r; truM x
  | .cmp o a b, r => do let x ← ev a r; let y ← ev b r; cmpM o x y
  | .cmp2 o1 o2 a b c, r => do
    let x ← ev a r; let y ← ev b r; let k ← cmpM o1 x y
    if k = true then (do let z ← ev c r; cmpM o2 y z) else pure false
  | .and a b, r => do let k ← evT a r; if k = true then evT b r else pure false
  | .or a b, r => do let k ← evT a r; if k = true then pure true else evT b r
  | .not a, r => do let k ← evT a r; pure (!k)
noncomputable def evTO : MTO → Env → M Bool
  | .no, _ => pure true
  | .yes c, r => evT c r
noncomputable def evI : MI → Env → M Itm
  | .val e, r => do let x ← ev e r; itmM x
  | .rng1 a, r => do let x ← ev a r; rng1M x
  | .rng2 a b, r => do let x ← ev a r; let y ← ev b r; rng2M x y
  | .enm a, r => do let x ← ev a r; enmM x
  | .zip a b, r => do let x ← ev a r; let y ← ev b r; zipM x y
  | .items a, _ => stuckM
end
/-- an expression's end within a statement -/
def thenS {α : Type} (x : M α) (r : Env) (m : Store) (k : α → Store → RS) : RS := match x m with
  | .ok a m' => k a m'
  | .exc c ks vs m' => some (.exc c ks vs r, m')
  | .stuck => none
/-- in-place operators on names -/
def augM (o : Bop) (a b : D) : M D := fun m => match o with
  | .add => match a, b with
    | .int i, .int j => .ok (.int (i + j)) m
    | .str x, .str y => if x.length + y.length ≤ sizeLine then .ok (.str (x ++ y)) m else .stuck
    | _, _ => .stuck
  | .sub => match a, b with
    | .int i, .int j => .ok (.int (i - j)) m
    | _, _ => .stuck
  | _ => .stuck
def setSubM (o i e : D) : M Unit := fun m => match o with
  | .obj n => match m[n]? with
    | some (.lst ds) => match i with
      | .int k => match ixN ds.length k with
        | some j => .ok () (m.set n (.lst (ds.set j e)))
        | none => .stuck
      | _ => .stuck
    | some (.dct t ks vs) => match lookD t ks i with
      | some (some j) => if ks.length < sizeLine then .ok () (m.set n (.dct t ks (putD t ks vs i e))) else .stuck
      | some none => if ks.length < sizeLine then .ok () (m.set n (.dct t (ks ++ [i]) (vs ++ [e]))) else .stuck
      | none => .stuck
    | _ => .stuck
  | _ => .stuck
mutual
noncomputable def evS : MS → Env → Store → RS
  | .exp e, r, m => thenS (ev e r) r m fun _ m' => some (.nxt r, m')
  | .set g e, r, m => thenS (ev e r) r m fun d m' => (asgG g d r).map fun r' => (.nxt r', m')
  | .par i j a b, r, m => thenS (do let x ← ev a r; let y ← ev b r; pure (x, y)) r m fun p m' => some (.nxt ((r.set i (some p.1)).set j (some p.2)), m')
  | .aug i o e, r, m => thenS (do let x ← varM r i; let y ← ev e r; augM o x y) r m fun d m' => some (.nxt (r.set i (some d)), m')
  | .ret e, r, m => thenS (ev e r) r m fun d m' => some (.ret d, m')
  | .retN, _, m => some (.ret .non, m)
  | .ite c a b, r, m => thenS (evT c r) r m fun k m' => if k = true then evSs a r m' else evSs b r m'
  | .for_ g s b, r, m => thenS (evI s r) r m fun t m' => forM t (fun d r m => match asgG g d r with
      | some r' => evSs b r' m
      | none => none) t.ds r m'
  | .while_ n c b, r, m => whileM (evT c) (evSs b) n r m
  | .brk, r, m => some (.brk r, m)
  | .cnt, r, m => some (.cnt r, m)
  | .pass, r, m => some (.nxt r, m)
  | .never, _, _ => none
  | .raise F es, r, m => thenS (do let xs ← evs es r; F xs) r m fun _ _ => none
  | .setSub o i e, r, m => thenS (do let v ← ev e r; let x ← ev o r; let y ← ev i r; setSubM x y v) r m fun _ m' => some (.nxt r, m')
  | .setAt F o e, r, m => thenS (do let v ← ev e r; let x ← ev o r; F x v) r m fun _ m' => some (.nxt r, m')
noncomputable def evSs : MSs → Env → Store → RS
  | .nil, r, m => some (.nxt r, m)
  | .cons s ss, r, m => match evS s r m with
    | some (.nxt r', m') => evSs ss r' m'
    | o => o
end
/-- a def's run: np parameters of n names -/
noncomputable def runF (np n : Nat) (b : MSs) (ds : List D) : M D := fun m =>
  if ds.length = np then (match evSs b (ds.map some ++ List.replicate (n - np) none) m with
    | some (.nxt _, m') => .ok .non m'
    | some (.ret d, m') => .ok d m'
    | some (.exc c ks vs _, m') => .exc c ks vs m'
    | _ => .stuck) else .stuck
end Fs

/-! FsG: the evaluator against the hand layer's rules: expressions. -/
namespace Fs
open PySem PySem.Spec PyProof.Rows L2

/-- the judgements -/
def SE (C : Ct) (X : Cx) (e : Expr) (m : ME) : Prop := ∀ W, Takes X W → PE X e (dnE C (ev m) W)
def SA (C : Ct) (X : Cx) (es : List Expr) (m : MEs) : Prop := ∀ W, Takes X W → PA X es (dnA C (evs m) W)
def ST (C : Ct) (X : Cx) (e : Expr) (m : MT) : Prop := ∀ W, Takes X W → PT X e (dnT C (evT m) W)
def SW (C : Ct) (X : Cx) (e : Expr) (m : MT) : Prop := ∀ W, Takes X W → PW X e (dnT C (evT m) W)
section
variable {C : Ct} {X : Cx}
theorem dnE_intro {f : Env → M D} {W : WX} {σ : L2.St} {S : Ws} {Q : VK} (r : Env) (w : Wf C S) (sr : SRep C S r σ) (h : PostE C S (f r S.mu) (fun c d H' => W c d σ H') Q) : dnE C f W σ S.H Q := ⟨r, S, rfl, w, sr, h⟩
theorem dnT_intro {f : Env → M Bool} {W : WX} {σ : L2.St} {S : Ws} {Q : Bool → Hp → Prop} (r : Env) (w : Wf C S) (sr : SRep C S r σ) (h : PostT C S (f r S.mu) (fun c d H' => W c d σ H') Q) : dnT C f W σ S.H Q := ⟨r, S, rfl, w, sr, h⟩
theorem dnA_intro {f : Env → M (List D)} {W : WX} {σ : L2.St} {S : Ws} {Q : List V → Hp → Prop} (r : Env) (w : Wf C S) (sr : SRep C S r σ) (h : PostA C S (f r S.mu) (fun c d H' => W c d σ H') Q) : dnA C f W σ S.H Q := ⟨r, S, rfl, w, sr, h⟩

theorem se_var {i : Nat} {x : Str} {pos : Pos} (hN : X.N[i]? = some x) (hv : Vis X.env.scope x) (hd : (x == ("__debug__" : Str)) = false) (hcd : (x == ("__classdict__" : Str)) = false) : SE C X (.Name x pos) (.var i) := fun W tk =>
  PEw (pe_var hN hv hd hcd) fun σ H Q ⟨r, S, hH, w, sr, h⟩ => by
    subst hH
    simp only [ev, varM] at h
    split at h
    · rename_i d hi
      obtain ⟨v, h1, h2⟩ := sr.at_ i d hi
      exact ⟨v, h1, h.pure w h2⟩
    · exact h.elim
/-- a constant | a global constant: te the reading of it -/
theorem se_con {e : Expr} {d : D} {v : V} (he : PE X e (tC v)) (hr : ∀ S, Rep C S d v) : SE C X e (.con d) := fun W tk =>
  PEw he fun σ H Q ⟨r, S, hH, w, sr, h⟩ => by
    subst hH
    simp only [ev] at h
    exact h.pure w (hr S)
theorem dn_op {r2 : R2} {ma mb : ME} {g : D → D → M D} {W : WX} (hr : ∀ (S : Ws) d1 d2 v1 v2 (W : XK) (Q : VK), Wf C S → Rep C S d1 v1 → Rep C S d2 v2 → PostE C S (g d1 d2 S.mu) W Q → r2 v1 v2 S.H Q) :
    ∀ σ H Q, dnE C (fun r => do let x ← ev ma r; let y ← ev mb r; g x y) W σ H Q → tOp r2 (dnE C (ev ma) W) (dnE C (ev mb) W) σ H Q := fun σ H Q ⟨r, S, hH, w, sr, h⟩ => by
  subst hH
  refine dnE_intro r w sr (h.bind.imp fun v1 H1 q1 => ?_)
  obtain ⟨S1, d1, e1, w1, st1, r1, h1⟩ := q1
  subst e1
  refine dnE_intro r w1 (sr.mono st1) (h1.bind.imp fun v2 H2 q2 => ?_)
  obtain ⟨S2, d2, e2, w2, st2, r2', h2⟩ := q2
  subst e2
  exact hr S2 d1 d2 v1 v2 _ Q w2 (r1.mono st2) r2' h2
theorem se_bin {o : Bop} {a b : Expr} {ma mb : ME} {pos : Pos} (ha : SE C X a ma) (hb : SE C X b mb) (hK : X.K = C.K) : SE C X (.BinOp a o.op b pos) (.bin o ma mb) := fun W tk => by
  refine PEw (pe_op (op_binA o) (ha W tk) (hb W tk)) (t' := dnE C (ev (.bin o ma mb)) W) ?_
  rw [hK]
  simp only [ev]
  exact dn_op fun S d1 d2 v1 v2 W Q w r1 r2 h => bin_ok w r1 r2 h
theorem se_neg {a : Expr} {ma : ME} {pos : Pos} (ha : SE C X a ma) : SE C X (.UnaryOp .USub a pos) (.neg ma) := fun W tk =>
  PEw (pe_un un_neg (ha W tk)) fun σ H Q ⟨r, S, hH, w, sr, h⟩ => by
    subst hH
    simp only [ev] at h
    refine dnE_intro r w sr (h.bind.imp fun v1 H1 q1 => ?_)
    obtain ⟨S1, d1, e1, w1, st1, r1, h1⟩ := q1
    subst e1
    exact neg_ok w1 r1 h1
theorem cmp_toE {S : Ws} {x : M Bool} {W : XK} {Q : VK} (h : PostE C S ((do let c ← x; pure (.bl c) : M D) S.mu) W Q) : PostT C S (x S.mu) W (fun b H => Q (.bl b) H) := by
  have h' := h.bindT
  cases e : x S.mu with
  | ok b m =>
    rw [e] at h'
    intro S' em w st
    obtain ⟨S2, e2, w2, st2, h2⟩ := h' S' em w st
    rw [← e2]
    exact h2.pure w2 (rep_bl.mpr rfl)
  | exc c ks vs m => rw [e] at h'; exact h'
  | stuck => rw [e] at h'; exact h'
theorem se_cmp {o : Cop} {a b : Expr} {ma mb : ME} {pos : Pos} (ha : SE C X a ma) (hb : SE C X b mb) (hK : X.K = C.K) (hu : X.A.units + 65 < cLine) (hm : behindInMarks o.op b = false) : SE C X (.Compare a [o.op] [b] pos) (.cmp o ma mb) := fun W tk => by
  refine PEw (pe_cmpR (op_cmpA hu o) (ha W tk) (hb W tk) hm) (t' := dnE C (ev (.cmp o ma mb)) W) ?_
  rw [hK]
  simp only [ev]
  refine dn_op fun S d1 d2 v1 v2 W Q w r1 r2 h => ?_
  have q := cmp_ok w r1 r2 (cmp_toE h)
  have e : bQ (fun b H => Q (.bl b) H) = fun v H => ∃ k, v = .bl k ∧ Q v H := by
    funext v H
    exact propext ⟨fun ⟨k, e, h⟩ => ⟨k, e, by rw [e]; exact h⟩, fun ⟨k, e, h⟩ => ⟨k, e, by show Q (.bl k) H; rw [← e]; exact h⟩⟩
  rw [e] at q
  cases o with
  | eq => obtain ⟨d, e', a1, a2, a3, a4, k, _, a5⟩ := q; exact ⟨d, e', a1, a2, a3, a4, a5⟩
  | ne => obtain ⟨d, e', a1, a2, a3, a4, k, _, a5⟩ := q; exact ⟨d, e', a1, a2, a3, a4, a5⟩
  | is => obtain ⟨a1, k, _, a2⟩ := q; exact ⟨a1, a2⟩
  | isnt => obtain ⟨a1, k, _, a2⟩ := q; exact ⟨a1, a2⟩
  | lt =>
    rcases q with ⟨i, j, a1, a2, k, _, a3⟩ | ⟨i, j, a1, a2, k, _, a3⟩
    · exact .inl ⟨i, j, a1, a2, a3⟩
    · exact .inr ⟨i, j, a1, a2, a3⟩
  | le =>
    rcases q with ⟨i, j, a1, a2, k, _, a3⟩ | ⟨i, j, a1, a2, k, _, a3⟩
    · exact .inl ⟨i, j, a1, a2, a3⟩
    · exact .inr ⟨i, j, a1, a2, a3⟩
  | gt =>
    rcases q with ⟨i, j, a1, a2, k, _, a3⟩ | ⟨i, j, a1, a2, k, _, a3⟩
    · exact .inl ⟨i, j, a1, a2, a3⟩
    · exact .inr ⟨i, j, a1, a2, a3⟩
  | ge =>
    rcases q with ⟨i, j, a1, a2, k, _, a3⟩ | ⟨i, j, a1, a2, k, _, a3⟩
    · exact .inl ⟨i, j, a1, a2, a3⟩
    · exact .inr ⟨i, j, a1, a2, a3⟩
  | in_ =>
    rcases q with ⟨c, z, a1, a2, k, _, a3⟩ | ⟨p, xs, a1, a2, a3, a4, k, _, a5⟩ | ⟨d, ds, a1, a2, a3, a4, k, _, a5⟩
    · exact .inl ⟨c, z, a1, a2, a3⟩
    · exact .inr (.inl ⟨p, xs, a1, a2, a3, a4, a5⟩)
    · exact .inr (.inr ⟨d, ds, a1, a2, a3, a4, a5⟩)
  | nin =>
    rcases q with ⟨c, z, a1, a2, k, _, a3⟩ | ⟨p, xs, a1, a2, a3, a4, k, _, a5⟩ | ⟨d, ds, a1, a2, a3, a4, k, _, a5⟩
    · exact .inl ⟨c, z, a1, a2, a3⟩
    · exact .inr (.inl ⟨p, xs, a1, a2, a3, a4, a5⟩)
    · exact .inr (.inr ⟨d, ds, a1, a2, a3, a4, a5⟩)
/-- the comparison as a test -/
theorem st_cmp {o : Cop} {a b : Expr} {ma mb : ME} {pos : Pos} (ha : SE C X a ma) (hb : SE C X b mb) (hK : X.K = C.K) (hu : X.A.units + 65 < cLine) (hm : behindInMarks o.op b = false) : ST C X (.Compare a [o.op] [b] pos) (.cmp o ma mb) := fun W tk => by
  refine PTw (pt_cmpR (op_cmpA hu o) (ha W tk) (hb W tk) hm) (t' := dnT C (evT (.cmp o ma mb)) W) ?_
  rw [hK]
  intro σ H Q ⟨r, S, hH, w, sr, h⟩
  subst hH
  simp only [evT] at h
  refine dnE_intro r w sr (h.bind.imp fun v1 H1 q1 => ?_)
  obtain ⟨S1, d1, e1, w1, st1, r1, h1⟩ := q1
  subst e1
  refine dnE_intro r w1 (sr.mono st1) (h1.bind.imp fun v2 H2 q2 => ?_)
  obtain ⟨S2, d2, e2, w2, st2, r2', h2⟩ := q2
  subst e2
  exact cmp_ok w2 (r1.mono st2) r2' h2
/-- the two comparisons of a chain -/
theorem chain_ok {o1 o2 : Cop} {ma mb mc : ME} {W : WX} {σ : L2.St} {r : Env} {S : Ws} {Q : Bool → Hp → Prop} (w : Wf C S) (sr : SRep C S r σ)
    (h : PostT C S ((do let x ← ev ma r; let y ← ev mb r; let k ← cmpM o1 x y; if k = true then (do let z ← ev mc r; cmpM o2 y z) else pure false : M Bool) S.mu) (fun c d H' => W c d σ H') Q) :
    tChain (rCmp C.K o1) (rCmp C.K o2) (dnE C (ev ma) W) (dnE C (ev mb) W) (dnE C (ev mc) W) σ S.H (bQ Q) := by
  refine dnE_intro r w sr (h.bind.imp fun v1 H1 q1 => ?_)
  obtain ⟨S1, d1, e1, w1, st1, r1, h1⟩ := q1
  subst e1
  refine dnE_intro r w1 (sr.mono st1) (h1.bind.imp fun v2 H2 q2 => ?_)
  obtain ⟨S2, d2, e2, w2, st2, r2', h2⟩ := q2
  subst e2
  have sr2 := (sr.mono st1).mono st2
  refine cmp_ok w2 (r1.mono st2) r2' (W := fun c d H' => W c d σ H') ?_
  have h3 := h2.bindT
  cases e : cmpM o1 d1 d2 S2.mu with
  | stuck => rw [e] at h3; exact h3
  | exc c ks vs m => rw [e] at h3; exact h3
  | ok k m =>
    rw [e] at h3
    intro S3 em w3 st3
    obtain ⟨S3', e3, w3', st3', h4⟩ := h3 S3 em w3 st3
    rw [← e3]
    cases k with
    | false =>
      rw [if_neg Bool.false_ne_true]
      rw [if_neg Bool.false_ne_true] at h4
      exact ⟨_, rfl, h4.pure w3'⟩
    | true =>
      rw [if_pos rfl]
      rw [if_pos rfl] at h4
      refine dnE_intro r w3' (sr2.mono st3') (h4.bind.imp fun v4 H4 q4 => ?_)
      obtain ⟨S4, d4, e4, w4, st4, r4, h5⟩ := q4
      subst e4
      exact cmp_ok w4 ((r2'.mono st3').mono st4) r4 h5
theorem tChain_mono {r r' : R2} {ta tb tc : TE} {σ : L2.St} {H : Hp} {Q Q' : VK} (hq : ∀ v H, Q v H → Q' v H) (hr : ∀ x y H Q Q', (∀ v H, Q v H → Q' v H) → r x y H Q → r x y H Q') (hr' : ∀ x y H Q Q', (∀ v H, Q v H → Q' v H) → r' x y H Q → r' x y H Q')
    (ha : ∀ σ H Q Q', (∀ v H, Q v H → Q' v H) → ta σ H Q → ta σ H Q') (hb : ∀ σ H Q Q', (∀ v H, Q v H → Q' v H) → tb σ H Q → tb σ H Q') (hc : ∀ σ H Q Q', (∀ v H, Q v H → Q' v H) → tc σ H Q → tc σ H Q')
    (h : tChain r r' ta tb tc σ H Q) : tChain r r' ta tb tc σ H Q' := by
  refine ha _ _ _ _ (fun v1 H1 q1 => hb _ _ _ _ (fun v2 H2 q2 => hr _ _ _ _ _ (fun v3 H3 q3 => ?_) q2) q1) h
  obtain ⟨k, e, q⟩ := q3
  refine ⟨k, e, ?_⟩
  split at q
  · rename_i z; rw [if_pos z]; exact hc _ _ _ _ (fun v4 H4 q4 => hr' _ _ _ _ _ hq q4) q
  · rename_i z; rw [if_neg z]; exact hq _ _ q
theorem dnE_mono {f : Env → M D} {W : WX} : ∀ σ H (Q Q' : VK), (∀ v H, Q v H → Q' v H) → dnE C f W σ H Q → dnE C f W σ H Q' := fun σ H Q Q' k ⟨r, S, hH, w, sr, h⟩ => ⟨r, S, hH, w, sr, h.imp k⟩
theorem rCmp_mono {K : PySem.W.Frag} {o : Cop} : ∀ x y H (Q Q' : VK), (∀ v H, Q v H → Q' v H) → rCmp K o x y H Q → rCmp K o x y H Q' := fun x y H Q Q' k q => by
  cases o with
  | eq => obtain ⟨d, e', a1, a2, a3, a4, a5⟩ := q; exact ⟨d, e', a1, a2, a3, a4, k _ _ a5⟩
  | ne => obtain ⟨d, e', a1, a2, a3, a4, a5⟩ := q; exact ⟨d, e', a1, a2, a3, a4, k _ _ a5⟩
  | is => obtain ⟨a1, a2⟩ := q; exact ⟨a1, k _ _ a2⟩
  | isnt => obtain ⟨a1, a2⟩ := q; exact ⟨a1, k _ _ a2⟩
  | lt =>
    rcases q with ⟨i, j, a1, a2, a3⟩ | ⟨i, j, a1, a2, a3⟩
    · exact .inl ⟨i, j, a1, a2, k _ _ a3⟩
    · exact .inr ⟨i, j, a1, a2, k _ _ a3⟩
  | le =>
    rcases q with ⟨i, j, a1, a2, a3⟩ | ⟨i, j, a1, a2, a3⟩
    · exact .inl ⟨i, j, a1, a2, k _ _ a3⟩
    · exact .inr ⟨i, j, a1, a2, k _ _ a3⟩
  | gt =>
    rcases q with ⟨i, j, a1, a2, a3⟩ | ⟨i, j, a1, a2, a3⟩
    · exact .inl ⟨i, j, a1, a2, k _ _ a3⟩
    · exact .inr ⟨i, j, a1, a2, k _ _ a3⟩
  | ge =>
    rcases q with ⟨i, j, a1, a2, a3⟩ | ⟨i, j, a1, a2, a3⟩
    · exact .inl ⟨i, j, a1, a2, k _ _ a3⟩
    · exact .inr ⟨i, j, a1, a2, k _ _ a3⟩
  | in_ =>
    rcases q with ⟨c, z, a1, a2, a3⟩ | ⟨p, xs, a1, a2, a3, a4, a5⟩ | ⟨d, ds, a1, a2, a3, a4, a5⟩
    · exact .inl ⟨c, z, a1, a2, k _ _ a3⟩
    · exact .inr (.inl ⟨p, xs, a1, a2, a3, a4, k _ _ a5⟩)
    · exact .inr (.inr ⟨d, ds, a1, a2, a3, a4, k _ _ a5⟩)
  | nin =>
    rcases q with ⟨c, z, a1, a2, a3⟩ | ⟨p, xs, a1, a2, a3, a4, a5⟩ | ⟨d, ds, a1, a2, a3, a4, a5⟩
    · exact .inl ⟨c, z, a1, a2, k _ _ a3⟩
    · exact .inr (.inl ⟨p, xs, a1, a2, a3, a4, k _ _ a5⟩)
    · exact .inr (.inr ⟨d, ds, a1, a2, a3, a4, k _ _ a5⟩)
theorem M.bind_assoc {α β γ : Type} (x : M α) (f : α → M β) (g : β → M γ) : ((x >>= f) >>= g) = (x >>= fun a => f a >>= g) := by
  funext m
  simp only [M.bind_ap]
  cases x m <;> rfl
theorem M.bind_ite {α β : Type} {c : Prop} [Decidable c] (x y : M α) (f : α → M β) : ((if c then x else y) >>= f) = if c then x >>= f else y >>= f := by split <;> rfl
theorem st_cmp2 {o1 o2 : Cop} {a b c : Expr} {ma mb mc : ME} {pos : Pos} (ha : SE C X a ma) (hb : SE C X b mb) (hc : SE C X c mc) (hK : X.K = C.K) (hu : X.A.units + 65 < cLine) (hm : lastMarks [o1.op, o2.op] [b, c] = false) :
    ST C X (.Compare a [o1.op, o2.op] [b, c] pos) (.cmp2 o1 o2 ma mb mc) := fun W tk => by
  refine PTw (pt_chain (op_cmpA hu o1) (op_cmpA hu o2) (ha W tk) (hb W tk) (hc W tk) hm) (t' := dnT C (evT (.cmp2 o1 o2 ma mb mc)) W) ?_
  rw [hK]
  intro σ H Q ⟨r, S, hH, w, sr, h⟩
  subst hH
  simp only [evT] at h
  exact chain_ok w sr h
theorem se_cmp2 {o1 o2 : Cop} {a b c : Expr} {ma mb mc : ME} {pos : Pos} (ha : SE C X a ma) (hb : SE C X b mb) (hc : SE C X c mc) (hK : X.K = C.K) (hu : X.A.units + 65 < cLine) (hm : lastMarks [o1.op, o2.op] [b, c] = false) :
    SE C X (.Compare a [o1.op, o2.op] [b, c] pos) (.cmp2 o1 o2 ma mb mc) := fun W tk => by
  refine PEw (pe_chain (op_cmpA hu o1) (op_cmpA hu o2) (ha W tk) (hb W tk) (hc W tk) hm) (t' := dnE C (ev (.cmp2 o1 o2 ma mb mc)) W) ?_
  rw [hK]
  intro σ H Q ⟨r, S, hH, w, sr, h⟩
  subst hH
  have e : ev (.cmp2 o1 o2 ma mb mc) r = (do let q ← evT (.cmp2 o1 o2 ma mb mc) r; pure (.bl q) : M D) := by
    simp only [ev, evT, M.bind_assoc, M.bind_ite]
    rfl
  rw [e] at h
  have h' := cmp_toE h
  simp only [evT] at h'
  refine tChain_mono ?_ rCmp_mono rCmp_mono dnE_mono dnE_mono dnE_mono (chain_ok w sr h')
  intro v H ⟨k, e, q⟩
  rw [e]; exact q

/-! ### and, or, not, if -/
theorem blM_ok {S : Ws} {d : D} {v : V} {W : XK} {Q : Bool → Hp → Prop} (w : Wf C S) (r : Rep C S d v) (h : PostT C S (blM d S.mu) W Q) : ∃ c, v = .bl c ∧ Q c S.H := by
  unfold blM at h
  split at h
  · rw [rep_bl] at r; exact ⟨_, r, h.pure w⟩
  · exact h.elim
theorem se_one {op : BoolOp} {a : Expr} {ma : ME} {pos : Pos} (ha : SE C X a ma) : SE C X (.BoolOp op [a] pos) ma := fun W tk => pe_one (ha W tk)
theorem se_and {a b : Expr} {rest : List Expr} {ma mb : ME} {pos : Pos} (ha : SE C X a ma) (hb : SE C X (.BoolOp .And (b :: rest) pos) mb) : SE C X (.BoolOp .And (a :: b :: rest) pos) (.and ma mb) := fun W tk =>
  PEw (pe_and (ha W tk) (hb W tk)) fun σ H Q ⟨r, S, hH, w, sr, h⟩ => by
    subst hH
    simp only [ev] at h
    refine dnE_intro r w sr (h.bind.imp fun v1 H1 q1 => ?_)
    obtain ⟨S1, d1, e1, w1, st1, r1, h1⟩ := q1
    subst e1
    refine (blM_ok w1 r1 h1.bindT).imp fun c q => ⟨q.1, ?_⟩
    obtain ⟨S2, e2, w2, st2, h2⟩ := q.2
    rw [← e2]
    split
    · rename_i z; rw [if_pos z] at h2; exact dnE_intro r w2 ((sr.mono st1).mono st2) h2
    · rename_i z; rw [if_neg z] at h2; exact h2.pure w2 (rep_bl.mpr rfl)
theorem se_or {a b : Expr} {rest : List Expr} {ma mb : ME} {pos : Pos} (ha : SE C X a ma) (hb : SE C X (.BoolOp .Or (b :: rest) pos) mb) : SE C X (.BoolOp .Or (a :: b :: rest) pos) (.or ma mb) := fun W tk =>
  PEw (pe_or (ha W tk) (hb W tk)) fun σ H Q ⟨r, S, hH, w, sr, h⟩ => by
    subst hH
    simp only [ev] at h
    refine dnE_intro r w sr (h.bind.imp fun v1 H1 q1 => ?_)
    obtain ⟨S1, d1, e1, w1, st1, r1, h1⟩ := q1
    subst e1
    refine (blM_ok w1 r1 h1.bindT).imp fun c q => ⟨q.1, ?_⟩
    obtain ⟨S2, e2, w2, st2, h2⟩ := q.2
    rw [← e2]
    split
    · rename_i z; rw [if_pos z] at h2; exact h2.pure w2 (rep_bl.mpr rfl)
    · rename_i z; rw [if_neg z] at h2; exact dnE_intro r w2 ((sr.mono st1).mono st2) h2
theorem se_not {a : Expr} {ma : ME} {pos : Pos} (ha : SE C X a ma) : SE C X (.UnaryOp .Not a pos) (.not ma) := fun W tk =>
  PEw (pe_not (ha W tk)) fun σ H Q ⟨r, S, hH, w, sr, h⟩ => by
    subst hH
    simp only [ev] at h
    refine dnE_intro r w sr (h.bind.imp fun v1 H1 q1 => ?_)
    obtain ⟨S1, d1, e1, w1, st1, r1, h1⟩ := q1
    subst e1
    refine (blM_ok w1 r1 h1.bindT).imp fun c q => ⟨q.1, ?_⟩
    obtain ⟨S2, e2, w2, st2, h2⟩ := q.2
    rw [← e2]
    exact h2.pure w2 (rep_bl.mpr rfl)
theorem PostT.imp {S : Ws} {r : R Bool} {W : XK} {Q Q' : Bool → Hp → Prop} (h : PostT C S r W Q) (k : ∀ v H, Q v H → Q' v H) : PostT C S r W Q' := by
  cases r with
  | ok d m => exact fun S2 e w s => k _ _ (h S2 e w s)
  | exc c ks ds m => exact h
  | stuck => exact h
theorem PostA.imp {S : Ws} {r : R (List D)} {W : XK} {Q Q' : List V → Hp → Prop} (h : PostA C S r W Q) (k : ∀ v H, Q v H → Q' v H) : PostA C S r W Q' := by
  cases r with
  | ok d m => exact fun S2 v e w s r => k _ _ (h S2 v e w s r)
  | exc c ks ds m => exact h
  | stuck => exact h
theorem st_val {a : Expr} {ma : ME} (ha : SE C X a ma) (hK : X.K = C.K) (he : ∀ whole, isTrue a X.env whole = (do let v ← whole; standAt a.pos; holding [v] (truthy v))) : ST C X a (.val ma) := fun W tk => by
  refine PTw (pt_truth (ha W tk) he) (t' := dnT C (evT (.val ma)) W) ?_
  rw [hK]
  intro σ H Q ⟨r, S, hH, w, sr, h⟩
  subst hH
  simp only [evT] at h
  refine dnE_intro r w sr (h.bind.imp fun v1 H1 q1 => ?_)
  obtain ⟨S1, d1, e1, w1, st1, r1, h1⟩ := q1
  subst e1
  exact tru_okM w1 r1 h1
theorem sw_one {op : BoolOp} {a : Expr} {ma : MT} {pos : Pos} (ha : ST C X a ma) : SW C X (.BoolOp op [a] pos) ma := fun W tk => match op with
  | .And => pw_and1 (ha W tk)
  | .Or => pw_or1 (ha W tk)
theorem sw_and {a b : Expr} {rest : List Expr} {ma mb : MT} {pos : Pos} (ha : ST C X a ma) (hb : SW C X (.BoolOp .And (b :: rest) pos) mb) : SW C X (.BoolOp .And (a :: b :: rest) pos) (.and ma mb) := fun W tk =>
  PWw (pw_and (ha W tk) (hb W tk)) fun σ H Q ⟨r, S, hH, w, sr, h⟩ => by
    subst hH
    simp only [evT] at h
    refine dnT_intro r w sr (h.bindT.imp fun c H1 q1 => ?_)
    obtain ⟨S1, e1, w1, st1, h1⟩ := q1
    subst e1
    split
    · rename_i z; rw [if_pos z] at h1; exact dnT_intro r w1 (sr.mono st1) h1
    · rename_i z; rw [if_neg z] at h1; exact h1.pure w1
theorem sw_or {a b : Expr} {rest : List Expr} {ma mb : MT} {pos : Pos} (ha : ST C X a ma) (hb : SW C X (.BoolOp .Or (b :: rest) pos) mb) : SW C X (.BoolOp .Or (a :: b :: rest) pos) (.or ma mb) := fun W tk =>
  PWw (pw_or (ha W tk) (hb W tk)) fun σ H Q ⟨r, S, hH, w, sr, h⟩ => by
    subst hH
    simp only [evT] at h
    refine dnT_intro r w sr (h.bindT.imp fun c H1 q1 => ?_)
    obtain ⟨S1, e1, w1, st1, h1⟩ := q1
    subst e1
    split
    · rename_i z; rw [if_pos z] at h1; exact h1.pure w1
    · rename_i z; rw [if_neg z] at h1; exact dnT_intro r w1 (sr.mono st1) h1
theorem st_sw {a : Expr} {ma : MT} (ha : SW C X a ma) : ST C X a ma := fun W tk => (ha W tk).pt
theorem st_not {a : Expr} {ma : MT} {pos : Pos} (ha : ST C X a ma) : ST C X (.UnaryOp .Not a pos) (.not ma) := fun W tk =>
  PTw (pt_not (ha W tk)) fun σ H Q ⟨r, S, hH, w, sr, h⟩ => by
    subst hH
    simp only [evT] at h
    refine dnT_intro r w sr (h.bindT.imp fun c H1 q1 => ?_)
    obtain ⟨S1, e1, w1, st1, h1⟩ := q1
    subst e1
    exact h1.pure w1
theorem se_ite {c a b : Expr} {mc : MT} {ma mb : ME} {pos : Pos} (hc : ST C X c mc) (ha : SE C X a ma) (hb : SE C X b mb) : SE C X (.IfExp c a b pos) (.ite mc ma mb) := fun W tk =>
  PEw (pe_ifExp (hc W tk) (ha W tk) (hb W tk)) fun σ H Q ⟨r, S, hH, w, sr, h⟩ => by
    subst hH
    simp only [ev] at h
    refine dnT_intro r w sr (h.bindT.imp fun c H1 q1 => ?_)
    obtain ⟨S1, e1, w1, st1, h1⟩ := q1
    subst e1
    split
    · rename_i z; rw [if_pos z] at h1; exact dnE_intro r w1 (sr.mono st1) h1
    · rename_i z; rw [if_neg z] at h1; exact dnE_intro r w1 (sr.mono st1) h1

/-! ### lists of arguments, tuples, lists -/
theorem sa_nil : SA C X [] .nil := fun W tk => PAw pa_nil fun σ H Q ⟨r, S, hH, w, sr, h⟩ => by
  subst hH
  simp only [evs] at h
  exact h S [] rfl w (Step.refl S) Reps.nil
theorem sa_cons {e : Expr} {es : List Expr} {me : ME} {mes : MEs} (he : SE C X e me) (hes : SA C X es mes) (hs : starEach (e :: es) X.env = (false, eval e X.env) :: starEach es X.env) : SA C X (e :: es) (.cons me mes) := fun W tk =>
  PAw (pa_cons (he W tk) (hes W tk) hs) fun σ H Q ⟨r, S, hH, w, sr, h⟩ => by
    subst hH
    simp only [evs] at h
    refine dnE_intro r w sr (h.bind.imp fun v1 H1 q1 => ?_)
    obtain ⟨S1, d1, e1, w1, st1, r1, h1⟩ := q1
    subst e1
    refine dnA_intro r w1 (sr.mono st1) (h1.bindA.imp fun vs H2 q2 => ?_)
    obtain ⟨S2, ds, e2, w2, st2, r2, h2⟩ := q2
    subst e2
    exact h2 S2 _ rfl w2 (Step.refl S2) (Reps.cons (r1.mono st2) r2)
theorem se_tup {es : List Expr} {mes : MEs} {k : Nat} {pos : Pos} (h : SA C X es mes) : SE C X (.Tuple es k pos) (.tup mes) := fun W tk =>
  PEw (pe_tup (h W tk)) fun σ H Q ⟨r, S, hH, w, sr, h⟩ => by
    subst hH
    simp only [ev] at h
    refine dnA_intro r w sr (h.bindA.imp fun vs H1 q1 => ?_)
    obtain ⟨S1, ds, e1, w1, st1, r1, h1⟩ := q1
    subst e1
    split at h1
    · rename_i hl
      exact ⟨by rw [← r1.len]; exact hl, fun p hp => h1.newT w1 hp hl r1⟩
    · exact h1.elim
theorem se_lst {es : List Expr} {mes : MEs} {pos : Pos} (h : SA C X es mes) : SE C X (.List es pos) (.lst mes) := fun W tk =>
  PEw (pe_lst (h W tk)) fun σ H Q ⟨r, S, hH, w, sr, h⟩ => by
    subst hH
    simp only [ev] at h
    refine dnA_intro r w sr (h.bindA.imp fun vs H1 q1 => ?_)
    obtain ⟨S1, ds, e1, w1, st1, r1, h1⟩ := q1
    subst e1
    split at h1
    · rename_i hl
      exact ⟨by rw [← r1.len]; exact hl, fun p hp => h1.newL w1 hp hl r1⟩
    · exact h1.elim
theorem se_new {es : List Expr} {mes : MEs} {pos : Pos} (h : SA C X es mes) : SE C X (.List es pos) (.new mes) := fun W tk =>
  PEw (pe_lst (h W tk)) fun σ H Q ⟨r, S, hH, w, sr, h⟩ => by
    subst hH
    simp only [ev] at h
    refine dnA_intro r w sr (h.bindA.imp fun vs H1 q1 => ?_)
    obtain ⟨S1, ds, e1, w1, st1, r1, h1⟩ := q1
    subst e1
    split at h1
    · rename_i hl
      exact ⟨by rw [← r1.len]; exact hl, fun p hp => PostE.newCell w1 h1 hp hl r1⟩
    · exact h1.elim
/-! ### subscripts -/
theorem se_idx {a b : Expr} {ma mb : ME} {pos : Pos} (ha : SE C X a ma) (hb : SE C X b mb) (hK : X.K = C.K) (hu : X.A.units + 65 < cLine) (hs : PlainIx b) : SE C X (.Subscript a b pos) (.idx ma mb) := fun W tk => by
  refine PEw (pe_ix (ix_all (by omega)) (ha W tk) (hb W tk) hs) (t' := dnE C (ev (.idx ma mb)) W) ?_
  rw [hK]
  simp only [ev]
  exact dn_op fun S d1 d2 v1 v2 W Q w r1 r2 h => idx_ok w r1 r2 h
def SO (C : Ct) (X : Cx) (e : Option Expr) (m : MO) : Prop := ∀ W, Takes X W → PO X e (fun σ H Q => ∃ r S, S.H = H ∧ Wf C S ∧ SRep C S r σ ∧ (match evO m r S.mu with
  | .ok o m' => ∀ S', S'.mu = m' → Wf C S' → Step S S' → Q o S'.H
  | .exc c ks ds m' => ∀ S' dx, S'.mu = m' → Wf C S' → Step S S' → ExcAt C S' ks ds dx → W (.ref (He.ga C.K (C.nm c))) (some dx) σ S'.H
  | .stuck => False))
theorem POw {e : Option Expr} {t t' : TO} (h : PO X e t) (k : ∀ σ H Q, t' σ H Q → t σ H Q) : PO X e t' := ⟨fun pins s σ H Q I q => h.run pins s σ H Q I (k σ H Q q)⟩
theorem so_no : SO C X none .no := fun W tk => POw po_none fun σ H Q ⟨r, S, hH, w, sr, h⟩ => by
  subst hH
  simp only [evO] at h
  exact h S rfl w (Step.refl S)
theorem so_yes {e : Expr} {me : ME} (he : SE C X e me) : SO C X (some e) (.yes me) := fun W tk => POw (po_some (he W tk)) fun σ H Q ⟨r, S, hH, w, sr, h⟩ => by
  subst hH
  simp only [evO, M.bind_ap] at h
  refine dnE_intro r w sr ?_
  cases e : ev me r S.mu with
  | stuck => rw [e] at h; exact h
  | exc c ks vs m => rw [e] at h; exact h
  | ok d m =>
    rw [e] at h
    intro S' v em w' st q
    subst em
    simp only [intO] at h
    cases d with
    | int i => rw [rep_int] at q; exact ⟨i, q, h S' rfl w' st⟩
    | _ => exact h.elim
theorem se_slc {a : Expr} {lo hi : Option Expr} {ma : ME} {ml mh : MO} {p2 pos : Pos} (ha : SE C X a ma) (hl : SO C X lo ml) (hh : SO C X hi mh) (hK : X.K = C.K) : SE C X (.Subscript a (.Slice lo hi none p2) pos) (.slc ma ml mh) := fun W tk => by
  refine PEw (pe_slice sl_all (ha W tk) (hl W tk) (hh W tk)) (t' := dnE C (ev (.slc ma ml mh)) W) ?_
  rw [hK]
  intro σ H Q ⟨r, S, hH, w, sr, h⟩
  subst hH
  simp only [ev] at h
  refine dnE_intro r w sr (h.bind.imp fun v1 H1 q1 => ?_)
  obtain ⟨S1, d1, e1, w1, st1, r1, h1⟩ := q1
  subst e1
  refine ⟨r, S1, rfl, w1, sr.mono st1, ?_⟩
  rw [M.bind_ap] at h1
  cases e : evO ml r S1.mu with
  | stuck => rw [e] at h1; exact h1
  | exc c ks vs m => rw [e] at h1; exact h1
  | ok o1 m =>
    rw [e] at h1
    intro S2 em2 w2 st2
    subst em2
    refine ⟨r, S2, rfl, w2, (sr.mono st1).mono st2, ?_⟩
    replace h1 : PostE C S1 ((do let h ← evO mh r; slcM d1 o1 h : M D) S2.mu) _ _ := h1
    have h2 := h1.step st2
    rw [M.bind_ap] at h2
    cases e' : evO mh r S2.mu with
    | stuck => rw [e'] at h2; exact h2
    | exc c ks vs m => rw [e'] at h2; exact h2
    | ok o2 m =>
      rw [e'] at h2
      intro S3 em3 w3 st3
      subst em3
      exact slc_ok w3 ((r1.mono st2).mono st3) (h2.step st3)
end
end Fs

/-! FsH: what is walked; comprehensions; calls. -/
namespace Fs
open PySem PySem.Spec PyProof.Rows L2
open Classical

/-! ### what is walked -/
structure SrcOk (C : Ct) (S0 : Ws) (J : It) (t : Itm) : Prop where
  len : t.ds.length ≤ sizeLine
  ex : ∃ (G : Hp → Prop) (Y : Nat → Hp → V → Hp → Prop), Walk J t.ds.length G Y ∧ (∀ S, Wf C S → Step0 S0 S → t.ok S.mu → G S.H) ∧
    (∀ (i : Nat) (x : V) (S : Ws) (H' : Hp), i < t.ds.length → Wf C S → Step0 S0 S → t.ok S.mu → Y i S.H x H' → ∃ (S' : Ws) (d : D), S'.H = H' ∧ S'.mu = S.mu ∧ Wf C S' ∧ Step S S' ∧ t.ds[i]? = some d ∧ Rep C S' d x)
def PostI (C : Ct) (S : Ws) (r : R Itm) (W : XK) (Rq : It → Hp → Prop) : Prop :=
  match r with
  | .ok t m => ∀ S' J, S'.mu = m → Wf C S' → Step S S' → SrcOk C S' J t → Rq J S'.H
  | .exc c ks ds m => ∀ S' dx, S'.mu = m → Wf C S' → Step S S' → ExcAt C S' ks ds dx → W (.ref (He.ga C.K (C.nm c))) (some dx) S'.H
  | .stuck => False
def dnI (C : Ct) (f : Env → M Itm) (W : WX) : TI := fun σ H Rq => ∃ r S, S.H = H ∧ Wf C S ∧ SRep C S r σ ∧ PostI C S (f r S.mu) (fun c d H' => W c d σ H') Rq
def SI (C : Ct) (X : Cx) (tg e : Expr) (m : MI) : Prop := ∀ W, Takes X W → PI X tg e (dnI C (evI m) W)
section
variable {C : Ct} {X : Cx}
theorem PIw {tg e : Expr} {t t' : TI} (h : PI X tg e t) (k : ∀ σ H Q, t' σ H Q → t σ H Q) : PI X tg e t' := ⟨fun pins s σ H Q I q => h.run pins s σ H Q I (k σ H Q q)⟩
theorem PostI.step {S S' : Ws} (st : Step S S') {r : R Itm} {W : XK} {Rq : It → Hp → Prop} (h : PostI C S r W Rq) : PostI C S' r W Rq := by
  cases r with
  | ok d m => exact fun S2 v e w s r => h S2 v e w (st.trans s) r
  | exc c ks ds m => exact fun S2 v e w s r => h S2 v e w (st.trans s) r
  | stuck => exact h
theorem PostI.bind {S : Ws} {x : M D} {g : D → M Itm} {W : XK} {Rq : It → Hp → Prop} (h : PostI C S ((x >>= g) S.mu) W Rq) :
    PostE C S (x S.mu) W (fun v H' => ∃ S' d, S'.H = H' ∧ Wf C S' ∧ Step S S' ∧ Rep C S' d v ∧ PostI C S' (g d S'.mu) W Rq) := by
  rw [M.bind_ap] at h
  cases e : x S.mu with
  | ok d m =>
    rw [e] at h
    intro S' v em w st r
    subst em
    exact ⟨S', d, rfl, w, st, r, h.step st⟩
  | exc c ks ds m => rw [e] at h; exact h
  | stuck => rw [e] at h; exact h
/-- a list, a tuple or a text -/
theorem pi_any {tg e : Expr} {te : TE} (he : PE X e te) : PI X tg e (fun σ H R => te σ H fun x H1 =>
    (∃ a, x = .ref a ∧ (∃ xs, SqL X.K H1 a xs) ∧ R (Itl X.K a) H1) ∨ (∃ a, x = .ref a ∧ (∃ xs, SqT X.K H1 a xs) ∧ R (Itt X.K a) H1) ∨ (∃ z, x = .str z ∧ R (Its z) H1)) := by
  refine ⟨fun pins s σ H R I h => ?_⟩
  refine thn (he.run pins s σ H _ I h) fun v s1 ⟨x, H1, I1, r1, q⟩ => ?_
  rcases q with ⟨a, e, ⟨xs, hq⟩, q⟩ | ⟨a, e, ⟨xs, hq⟩, q⟩ | ⟨z, ex, q⟩
  · subst e
    cases r1
    obtain ⟨its, rv, p, hz⟩ := I1.list hq
    exact wpAny_pyIter_list p.isList (pi_one (tk := s1.toks) I1 _ (turn_list a _) ⟨_, Heap.get?_push_size _ rfl, rfl, rfl⟩ q)
  · subst e
    cases r1
    obtain ⟨its, rv, p, hz⟩ := I1.tuple hq
    exact wpAny_pyIter_tuple (show s1.heap.IsTuple a its.toArray from p) (pi_one (tk := s1.toks) I1 _ (turn_tuple a _) ⟨_, Heap.get?_push_size _ rfl, rfl, rfl⟩ q)
  · subst ex
    obtain ⟨t, rfl⟩ := r1
    cases ha : z.cps.all (· < 128)
    · exact wpAny_pyIter_wide ha (pi_one (tk := s1.toks) I1 _ (turn_str _ z t "str_iterator" (.inr rfl)) ⟨_, Heap.get?_push_size _ rfl, rfl, rfl⟩ q)
    · exact wpAny_pyIter_ascii ha (pi_one (tk := s1.toks) I1 _ (turn_str _ z t "str_ascii_iterator" (.inl rfl)) ⟨_, Heap.get?_push_size _ rfl, rfl, rfl⟩ q)
theorem yat_same {S : Ws} {ds : List D} {vs : List V} {i : Nat} {x : V} {H' : Hp} (w : Wf C S) (rs : Reps C S ds vs) (y : H' = S.H ∧ vs[i]? = some x) : ∃ (S' : Ws) (d : D), S'.H = H' ∧ S'.mu = S.mu ∧ Wf C S' ∧ Step S S' ∧ ds[i]? = some d ∧ Rep C S' d x := by
  obtain ⟨d, h1, h2⟩ := rs.get' y.2
  exact ⟨S, d, y.1.symm, rfl, w, Step.refl S, h1, h2⟩
theorem src_list {S0 : Ws} {a : Addr} {ds : List D} {vs : List V} (f : Fx S0 a (.lst vs)) (l : ds.length ≤ sizeLine) (r : Reps C S0 ds vs) : SrcOk C S0 (Itl C.K a) ⟨ds, none⟩ := by
  refine ⟨l, _, _, (show Walk (Itl C.K a) ds.length _ _ from by rw [r.len]; exact walk_list), fun S w st _ => SqL.of (st.fx f).1, fun i x S H' hi w st _ y => ?_⟩
  exact yat_same w (r.mono0 st) y
theorem src_tup {S0 : Ws} {a : Addr} {ds : List D} {vs : List V} (f : Fx S0 a (.tup vs)) (l : ds.length ≤ sizeLine) (r : Reps C S0 ds vs) : SrcOk C S0 (Itt C.K a) ⟨ds, none⟩ := by
  refine ⟨l, _, _, (show Walk (Itt C.K a) ds.length _ _ from by rw [r.len]; exact walk_tup), fun S w st _ => SqT.of (st.fx f).1, fun i x S H' hi w st _ y => ?_⟩
  exact yat_same w (r.mono0 st) y
theorem src_wtp {S0 : Ws} {a : Addr} {ds : List D} {vs : List V} (f : WrT C.K a vs) (l : ds.length ≤ sizeLine) (r : Reps C S0 ds vs) : SrcOk C S0 (Itt C.K a) ⟨ds, none⟩ := by
  refine ⟨l, _, _, (show Walk (Itt C.K a) ds.length _ _ from by rw [r.len]; exact walk_tup), fun S w st _ => (Or.inr f : SqT C.K S.H a vs), fun i x S H' hi w st _ y => ?_⟩
  exact yat_same w (r.mono0 st) y
theorem src_frz {S0 : Ws} {a : Addr} {ds : List D} {vs : List V} (f : FzL C.K S0 a vs) (l : ds.length ≤ sizeLine) (r : Reps C S0 ds vs) : SrcOk C S0 (Itl C.K a) ⟨ds, none⟩ := by
  refine ⟨l, _, _, (show Walk (Itl C.K a) ds.length _ _ from by rw [r.len]; exact walk_list), fun S w st _ => (f.fx st).seq, fun i x S H' hi w st _ y => ?_⟩
  exact yat_same w (r.mono0 st) y
theorem src_str {S0 : Ws} {z : List Char} (l : z.length ≤ sizeLine) : SrcOk C S0 (Its (toS z)) ⟨z.map fun c => .str [c], none⟩ := by
  refine ⟨by simpa using l, _, _, (show Walk (Its (toS z)) (z.map fun c => D.str [c]).length _ _ from by
    have e : (z.map fun c => D.str [c]).length = (toS z).cps.size := by simp [toS]
    rw [e]; exact walk_str), fun S w st _ => trivial, fun i x S H' hi w st _ y => ?_⟩
  obtain ⟨e, c, hc, hx⟩ := y
  have hi' : i < z.length := by simpa using hi
  refine ⟨S, .str [z[i]], e.symm, rfl, w, Step.refl S, by simp [hi'], ?_⟩
  rw [rep_str]
  refine ⟨?_, small16 (by simp)⟩
  have : (z.map Char.toNat)[i]? = some c := by
    have : (toS z).cps[i]? = ((toS z).cps.toList)[i]? := by simp
    rw [← toS_cps, ← this]; exact hc
  rw [List.getElem?_map, List.getElem?_eq_getElem hi'] at this
  simp at this
  rw [hx, ← this]
  simp [toS]
theorem src_rng {S0 : Ws} {lo : Int} {n : Nat} (l : n ≤ sizeLine) : SrcOk C S0 (Itr lo n) ⟨rngL lo n, none⟩ := by
  refine ⟨by simpa [rngL] using l, _, _, (show Walk (Itr lo n) (rngL lo n).length _ _ from by
    have e : (rngL lo n).length = n := by simp [rngL]
    rw [e]; exact walk_range), fun S w st _ => trivial, fun i x S H' hi w st _ y => ?_⟩
  have hi' : i < n := by simpa [rngL] using hi
  exact ⟨S, .int (lo + (i : Int)), y.1.symm, rfl, w, Step.refl S, by simp [rngL, hi'], by rw [y.2]; exact rep_int.mpr rfl⟩
theorem src_obj {S0 : Ws} (w0 : Wf C S0) {n : Nat} {a : Addr} {ds : List D} (hm : S0.mu[n]? = some (.lst ds)) (ha : S0.ad[n]? = some a) : SrcOk C S0 (Itl C.K a) ⟨ds, some (n, ds)⟩ := by
  have hlen : ds.length ≤ sizeLine := by obtain ⟨_, _, l, _⟩ := w0.cell n _ a hm ha; exact l
  have key : ∀ S, Wf C S → Step0 S0 S → (Itm.mk ds (some (n, ds))).ok S.mu → ∃ vs, S.H a = some (.lst vs) ∧ Reps C S ds vs := by
    intro S w st ok
    obtain ⟨vs, h1, _, h2⟩ := w.cell n _ a ok (st.pre n a ha)
    exact ⟨vs, h1, h2⟩
  refine ⟨hlen, fun H => ∃ vs, H a = some (.lst vs) ∧ vs.length = ds.length, fun i H x H' => H' = H ∧ ∀ vs, H a = some (.lst vs) → vs[i]? = some x, ⟨fun i H hi g => ?_, fun H g => ?_, fun i H x H' hi g y => ?_⟩, fun S w st ok => ?_, fun i x S H' hi w st ok y => ?_⟩
  · obtain ⟨vs, g1, g2⟩ := g
    have : i < vs.length := by rw [g2]; exact hi
    exact ⟨vs, vs[i], SqL.of g1, by simp [this]⟩
  · obtain ⟨vs, g1, g2⟩ := g
    exact ⟨vs, SqL.of g1, by rw [g2]; exact Nat.le_refl _⟩
  · exact ⟨y.1, fun vs e => y.2 vs (SqL.of e)⟩
  · obtain ⟨vs, h1, h2⟩ := key S w st ok
    exact ⟨vs, h1, h2.len.symm⟩
  · obtain ⟨vs, h1, h2⟩ := key S w st ok
    exact yat_same w h2 ⟨y.1, y.2 vs h1⟩
theorem itm_ok {S : Ws} {d : D} {x : V} {W : XK} {Rq : It → Hp → Prop} (w : Wf C S) (ra : Rep C S d x) (h : PostI C S (itmM d S.mu) W Rq) :
    (∃ a, x = .ref a ∧ (∃ xs, SqL C.K S.H a xs) ∧ Rq (Itl C.K a) S.H) ∨ (∃ a, x = .ref a ∧ (∃ xs, SqT C.K S.H a xs) ∧ Rq (Itt C.K a) S.H) ∨ (∃ z, x = .str z ∧ Rq (Its z) S.H) := by
  unfold itmM at h
  split at h
  · rw [rep_str] at ra
    exact .inr (.inr ⟨_, ra.1, h S _ rfl w (Step.refl S) (src_str ra.2)⟩)
  · rw [rep_lst] at ra
    obtain ⟨a, vs, e, f, l, r⟩ := ra
    exact .inl ⟨a, e, ⟨vs, SqL.of f.1⟩, h S _ rfl w (Step.refl S) (src_list f l r)⟩
  · simp only [Rep] at ra
    obtain ⟨a, vs, e, f, l, r⟩ := ra
    exact .inr (.inl ⟨a, e, ⟨vs, SqT.of f.1⟩, h S _ rfl w (Step.refl S) (src_tup f l r)⟩)
  · simp only [Rep] at ra
    obtain ⟨a, vs, e, f, l, r⟩ := ra
    exact .inr (.inl ⟨a, e, ⟨vs, .inr f⟩, h S _ rfl w (Step.refl S) (src_wtp f l r)⟩)
  · simp only [Rep] at ra
    obtain ⟨a, vs, e, f, l, r⟩ := ra
    exact .inl ⟨a, e, ⟨vs, f.seq⟩, h S _ rfl w (Step.refl S) (src_frz f l r)⟩
  · simp only [Rep] at ra
    obtain ⟨a, ha, e⟩ := ra
    split at h
    · rename_i ds hm
      obtain ⟨vs, h1, _, h2⟩ := w.cell _ _ a hm ha
      exact .inl ⟨a, e, ⟨vs, SqL.of h1⟩, h S _ rfl w (Step.refl S) (src_obj w hm ha)⟩
    · exact h.elim
  · exact h.elim
theorem si_val {tg e : Expr} {me : ME} (he : SE C X e me) (hK : X.K = C.K) : SI C X tg e (.val me) := fun W tk => by
  refine PIw (pi_any (he W tk)) ?_
  rw [hK]
  intro σ H Rq ⟨r, S, hH, w, sr, h⟩
  subst hH
  simp only [evI] at h
  refine dnE_intro r w sr (h.bind.imp fun v1 H1 q1 => ?_)
  obtain ⟨S1, d1, e1, w1, st1, r1, h1⟩ := q1
  subst e1
  exact itm_ok w1 r1 h1
theorem si_rng1 {tg a : Expr} {ma : ME} {p pos : Pos} (ha : SE C X a ma) (hg : Gl X "range") (hm : X.mg "range" = none) (hs : starEach [a] X.env = [(false, eval a X.env)]) : SI C X tg (.Call (.Name "range" p) [a] [] pos) (.rng1 ma) := fun W tk => by
  refine PIw (pi_range1 hg hm (pa_cons (ha W tk) pa_nil hs) hs) ?_
  intro σ H Rq ⟨r, S, hH, w, sr, h⟩
  subst hH
  simp only [evI] at h
  refine dnE_intro r w sr (h.bind.imp fun v1 H1 q1 => ?_)
  obtain ⟨S1, d1, e1, w1, st1, r1, h1⟩ := q1
  subst e1
  unfold rng1M at h1
  split at h1
  · rename_i j
    split at h1
    · rename_i c
      rw [rep_int] at r1
      exact ⟨j, by rw [r1], c.1, c.2.1, h1 S1 _ rfl w1 (Step.refl S1) (src_rng c.2.2)⟩
    · exact h1.elim
  · exact h1.elim
theorem si_rng2 {tg a b : Expr} {ma mb : ME} {p pos : Pos} (ha : SE C X a ma) (hb : SE C X b mb) (hg : Gl X "range") (hm : X.mg "range" = none) (hs : starEach [a, b] X.env = [(false, eval a X.env), (false, eval b X.env)]) (hs2 : starEach [b] X.env = [(false, eval b X.env)]) :
    SI C X tg (.Call (.Name "range" p) [a, b] [] pos) (.rng2 ma mb) := fun W tk => by
  refine PIw (pi_range2 hg hm (pa_cons (ha W tk) (pa_cons (hb W tk) pa_nil hs2) (by rw [hs, hs2])) hs hs2) ?_
  intro σ H Rq ⟨r, S, hH, w, sr, h⟩
  subst hH
  simp only [evI] at h
  refine dnE_intro r w sr (h.bind.imp fun v1 H1 q1 => ?_)
  obtain ⟨S1, d1, e1, w1, st1, r1, h1⟩ := q1
  subst e1
  refine dnE_intro r w1 (sr.mono st1) (h1.bind.imp fun v2 H2 q2 => ?_)
  obtain ⟨S2, d2, e2, w2, st2, r2, h2⟩ := q2
  subst e2
  have r1' := r1.mono st2
  unfold rng2M at h2
  split at h2
  · rename_i i j
    split at h2
    · rename_i c
      rw [rep_int] at r1' r2
      exact ⟨i, j, by rw [r1', r2], ⟨c.1, c.2.1, c.2.2.1, c.2.2.2.1⟩, h2 S2 _ rfl w2 (Step.refl S2) (src_rng c.2.2.2.2)⟩
    · exact h2.elim
  · exact h2.elim
/-- a new pair of two data -/
theorem pair_new {S : Ws} {d e : D} {x y : V} {T : Addr} {H' : Hp} (w : Wf C S) (hT : S.H T = none) (hH : H' = upd S.H T (.tup [x, y])) (r1 : Rep C S d x) (r2 : Rep C S e y) :
    ∃ S' : Ws, S'.H = H' ∧ S'.mu = S.mu ∧ Wf C S' ∧ Step S S' ∧ Rep C S' (.tup [d, e]) (.ref T) := by
  refine ⟨S.new T (.tup [x, y]), hH.symm, rfl, w.new hT, Step.new w hT, rep_tup_new (Fx.new w hT) (small16 (by simp)) ?_⟩
  exact Reps.cons (r1.mono (Step.new w hT)) (Reps.cons (r2.mono (Step.new w hT)) Reps.nil)
theorem src_zip {S0 : Ws} {a b : Addr} {xs ys : List D} {vs us : List V} (f : Fx S0 a (.lst vs)) (g : Fx S0 b (.lst us)) (l : xs.length ≤ sizeLine) (r1 : Reps C S0 xs vs) (r2 : Reps C S0 ys us) :
    SrcOk C S0 (Itz C.K a b) ⟨(xs.zip ys).map fun p => .tup [p.1, p.2], none⟩ := by
  refine ⟨by simp only [List.length_map, List.length_zip]; omega, _, _, (show Walk (Itz C.K a b) _ _ _ from walk_zip (xs := vs) (ys := us) (by simp [r1.len, r2.len])), fun S w st _ => ⟨SqL.of (st.fx f).1, SqL.of (st.fx g).1⟩, fun i x S H' hi w st _ y => ?_⟩
  obtain ⟨T, x1, y1, e, hT, hH, h1, h2⟩ := y
  obtain ⟨d, k1, k2⟩ := (r1.mono0 st).get' h1
  obtain ⟨d', l1, l2⟩ := (r2.mono0 st).get' h2
  obtain ⟨S', z1, z2, z3, z4, z5⟩ := pair_new w hT hH k2 l2
  refine ⟨S', .tup [d, d'], z1, z2, z3, z4, ?_, by rw [e]; exact z5⟩
  simp [List.getElem?_map, List.zip, List.getElem?_zipWith, k1, l1]
theorem si_zip {a b : Expr} {elts : List Expr} {kk : Nat} {ma mb : ME} {p pos tpos : Pos} (ha : SE C X a ma) (hb : SE C X b mb) (hK : X.K = C.K) (hg : Gl X "zip") (hm : X.mg "zip" = none) (hs : starEach [a, b] X.env = (false, eval a X.env) :: starEach [b] X.env) (hs2 : starEach [b] X.env = (false, eval b X.env) :: starEach [] X.env)
    (hpl : (backTo pos (starEach [b] X.env)).any (·.1) = false) : SI C X (.Tuple elts kk tpos) (.Call (.Name "zip" p) [a, b] [] pos) (.zip ma mb) := fun W tk => by
  refine PIw (RZ.pi_zipA hg hm (pa_cons (ha W tk) (pa_cons (hb W tk) pa_nil hs2) hs) hs hpl) ?_
  rw [hK]
  intro σ H Rq ⟨r, S, hH, w, sr, h⟩
  subst hH
  simp only [evI] at h
  refine dnE_intro r w sr (h.bind.imp fun v1 H1 q1 => ?_)
  obtain ⟨S1, d1, e1, w1, st1, r1, h1⟩ := q1
  subst e1
  refine dnE_intro r w1 (sr.mono st1) (h1.bind.imp fun v2 H2 q2 => ?_)
  obtain ⟨S2, d2, e2, w2, st2, r2, h2⟩ := q2
  subst e2
  have r1' := r1.mono st2
  unfold zipM at h2
  split at h2
  · rename_i xs ys
    rw [rep_lst] at r1' r2
    obtain ⟨a1, vs, e1, f1, l1, q1⟩ := r1'
    obtain ⟨b1, us, e2, f2, l2, q2⟩ := r2
    exact ⟨a1, b1, vs, us, by rw [e1, e2], .inl ⟨SqL.of f1.1, SqL.of f2.1, h2 S2 _ rfl w2 (Step.refl S2) (src_zip f1 f2 l1 q1 q2)⟩⟩
  · rename_i xs ys
    simp only [Rep] at r1' r2
    obtain ⟨a1, vs, e1, f1, l1, q1⟩ := r1'
    obtain ⟨b1, us, e2, f2, l2, q2⟩ := r2
    refine ⟨a1, b1, vs, us, by rw [e1, e2], .inr ⟨SqT.of f1.1, SqT.of f2.1, h2 S2 _ rfl w2 (Step.refl S2) ⟨by simp only [List.length_map, List.length_zip]; omega, ?_⟩⟩⟩
    have hn : ((xs.zip ys).map fun p => D.tup [p.1, p.2]).length = min vs.length us.length := by simp [q1.len, q2.len]
    refine ⟨fun H => SqT C.K H a1 vs ∧ SqT C.K H b1 us, YPair (fun i => vs[i]?) (fun i => us[i]?), ⟨fun i H hi g => ?_, fun H g => ?_, fun i H x H' hi g y => ?_⟩, fun S w st _ => ⟨SqT.of (st.fx f1).1, SqT.of (st.fx f2).1⟩, fun i x S H' hi w st _ y => ?_⟩
    · have h1 : i < vs.length := by simp only at hi; omega
      have h2 : i < us.length := by simp only at hi; omega
      exact ⟨vs, us, vs[i], us[i], g.1, g.2, by simp [h1], by simp [h2]⟩
    · exact ⟨vs, us, g.1, g.2, by simp only; omega⟩
    · obtain ⟨T, x1, y1, e, hT, hH, k1, k2⟩ := y
      exact ⟨T, x1, y1, e, hT, hH, k1 vs g.1, k2 us g.2⟩
    · obtain ⟨T, x1, y1, e, hT, hH, h1, h2⟩ := y
      obtain ⟨d, k1, k2⟩ := (q1.mono0 st).get' h1
      obtain ⟨d', l1, l2⟩ := (q2.mono0 st).get' h2
      obtain ⟨S', z1, z2, z3, z4, z5⟩ := pair_new w hT hH k2 l2
      refine ⟨S', .tup [d, d'], z1, z2, z3, z4, ?_, by rw [e]; exact z5⟩
      simp [List.getElem?_map, List.zip, List.getElem?_zipWith, k1, l1]
  · exact h2.elim
theorem enL_get : ∀ (ds : List D) (k i : Nat), (enL k ds)[i]? = ds[i]?.map fun d => .tup [.int (k + i : Nat), d]
  | [], k, i => by simp [enL]
  | d :: ds, k, 0 => by simp [enL]
  | d :: ds, k, i + 1 => by
    simp only [enL, List.getElem?_cons_succ, enL_get ds (k + 1) i]
    congr 1
    funext d
    rw [show k + 1 + i = k + (i + 1) by omega]
theorem enL_len : ∀ (ds : List D) (k : Nat), (enL k ds).length = ds.length
  | [], k => rfl
  | d :: ds, k => by simp [enL, enL_len ds (k + 1)]
theorem src_enL {S0 : Ws} {a : Addr} {ds : List D} {vs : List V} (l : ds.length ≤ sizeLine) (r : Reps C S0 ds vs) (f : ∀ S, Step0 S0 S → SqL C.K S.H a vs) : SrcOk C S0 (Ite C.K a) ⟨enL 0 ds, none⟩ := by
  refine ⟨by rw [enL_len]; exact l, _, _, (show Walk (Ite C.K a) (enL 0 ds).length _ _ from by rw [enL_len, r.len]; exact walk_enum), fun S w st _ => f S st, fun i x S H' hi w st _ y => ?_⟩
  obtain ⟨T, x1, y1, e, hT, hH, h1, h2⟩ := y
  obtain ⟨d, k1, k2⟩ := (r.mono0 st).get' h2
  simp only [Option.some.injEq] at h1
  obtain ⟨S', z1, z2, z3, z4, z5⟩ := pair_new (d := .int (i : Nat)) w hT hH (by rw [← h1]; exact rep_int.mpr rfl) k2
  refine ⟨S', .tup [.int (i : Nat), d], z1, z2, z3, z4, ?_, by rw [e]; exact z5⟩
  show (enL 0 ds)[i]? = _
  rw [enL_get, k1]; simp
theorem src_enT {S0 : Ws} {a : Addr} {ds : List D} {vs : List V} (l : ds.length ≤ sizeLine) (r : Reps C S0 ds vs) (f : ∀ S, Step0 S0 S → SqT C.K S.H a vs) : SrcOk C S0 (Fh.IteT C.K a) ⟨enL 0 ds, none⟩ := by
  refine ⟨by rw [enL_len]; exact l, fun H => SqT C.K H a vs, fun i H x H' => ∃ T y, x = .ref T ∧ H T = none ∧ H' = upd H T (.tup [.int (i : Nat), y]) ∧ vs[i]? = some y, ⟨fun i H hi g => ?_, fun H g => ?_, fun i H x H' hi g y => ?_⟩, fun S w st _ => f S st, fun i x S H' hi w st _ y => ?_⟩
  · have h1 : i < vs.length := by rw [← r.len, ← enL_len ds 0]; exact hi
    exact ⟨vs, vs[i], g, by simp [h1]⟩
  · exact ⟨vs, g, by rw [← r.len, ← enL_len ds 0]; exact Nat.le_refl _⟩
  · obtain ⟨T, y, e, hT, hH, h1⟩ := y
    exact ⟨T, y, e, hT, hH, h1 vs g⟩
  · obtain ⟨T, y1, e, hT, hH, h2⟩ := y
    obtain ⟨d, k1, k2⟩ := (r.mono0 st).get' h2
    obtain ⟨S', z1, z2, z3, z4, z5⟩ := pair_new (d := .int (i : Nat)) w hT hH (rep_int.mpr rfl) k2
    refine ⟨S', .tup [.int (i : Nat), d], z1, z2, z3, z4, ?_, by rw [e]; exact z5⟩
    show (enL 0 ds)[i]? = _
    rw [enL_get, k1]; simp
theorem src_enS {S0 : Ws} {z : List Char} (l : z.length ≤ sizeLine) : SrcOk C S0 (Fh.IteS (toS z)) ⟨enL 0 (z.map fun c => .str [c]), none⟩ := by
  have hl : (enL 0 (z.map fun c => D.str [c])).length = z.length := by rw [enL_len]; simp
  have hs : (toS z).cps.size = z.length := by simp [toS]
  refine ⟨by rw [hl]; exact l, fun H => True, fun i H x H' => ∃ T c, x = .ref T ∧ H T = none ∧ H' = upd H T (.tup [.int (i : Nat), .str ⟨#[c]⟩]) ∧ (toS z).cps[i]? = some c, ⟨fun i H hi g => ?_, fun H g => ?_, fun i H x H' hi g y => y⟩, fun S w st _ => trivial, fun i x S H' hi w st _ y => ?_⟩
  · show i < (toS z).cps.size
    rw [hs, ← hl]; exact hi
  · show _ = (toS z).cps.size
    rw [hs, ← hl]
  · obtain ⟨T, c, e, hT, hH, hc⟩ := y
    have hi' : i < z.length := by rw [← hl]; exact hi
    have : (z.map Char.toNat)[i]? = some c := by
      have : (toS z).cps[i]? = ((toS z).cps.toList)[i]? := by simp
      rw [← toS_cps, ← this]; exact hc
    rw [List.getElem?_map, List.getElem?_eq_getElem hi'] at this
    simp at this
    obtain ⟨S', z1, z2, z3, z4, z5⟩ := pair_new (d := .int (i : Nat)) (e := .str [z[i]]) w hT hH (rep_int.mpr rfl) (by rw [rep_str, ← this]; exact ⟨by simp [toS], small16 (by simp)⟩)
    refine ⟨S', .tup [.int (i : Nat), .str [z[i]]], z1, z2, z3, z4, ?_, by rw [e]; exact z5⟩
    show (enL 0 (z.map fun c => D.str [c]))[i]? = _
    rw [enL_get]; simp [hi']
theorem src_enO {S0 : Ws} (w0 : Wf C S0) {n : Nat} {a : Addr} {ds : List D} (hm : S0.mu[n]? = some (.lst ds)) (ha : S0.ad[n]? = some a) : SrcOk C S0 (Ite C.K a) ⟨enL 0 ds, some (n, ds)⟩ := by
  have hlen : ds.length ≤ sizeLine := by obtain ⟨_, _, l, _⟩ := w0.cell n _ a hm ha; exact l
  have key : ∀ S, Wf C S → Step0 S0 S → (Itm.mk (enL 0 ds) (some (n, ds))).ok S.mu → ∃ vs, S.H a = some (.lst vs) ∧ Reps C S ds vs := by
    intro S w st ok
    obtain ⟨vs, h1, _, h2⟩ := w.cell n _ a ok (st.pre n a ha)
    exact ⟨vs, h1, h2⟩
  refine ⟨by rw [enL_len]; exact hlen, fun H => ∃ vs, H a = some (.lst vs) ∧ vs.length = ds.length, fun i H x H' => ∃ T y, x = .ref T ∧ H T = none ∧ H' = upd H T (.tup [.int (i : Nat), y]) ∧ ∀ vs, H a = some (.lst vs) → vs[i]? = some y, ⟨fun i H hi g => ?_, fun H g => ?_, fun i H x H' hi g y => ?_⟩, fun S w st ok => ?_, fun i x S H' hi w st ok y => ?_⟩
  · obtain ⟨vs, g1, g2⟩ := g
    have : i < vs.length := by rw [g2, ← enL_len ds 0]; exact hi
    exact ⟨vs, vs[i], SqL.of g1, by simp [this]⟩
  · obtain ⟨vs, g1, g2⟩ := g
    exact ⟨vs, SqL.of g1, by rw [g2, ← enL_len ds 0]; exact Nat.le_refl _⟩
  · obtain ⟨T, y, e, hT, hH, h1⟩ := y
    exact ⟨T, y, e, hT, hH, fun vs g => h1 vs (SqL.of g)⟩
  · obtain ⟨vs, h1, h2⟩ := key S w st ok
    exact ⟨vs, h1, h2.len.symm⟩
  · obtain ⟨vs, h1, h2⟩ := key S w st ok
    obtain ⟨T, y1, e, hT, hH, hy⟩ := y
    obtain ⟨d, k1, k2⟩ := h2.get' (hy vs h1)
    obtain ⟨S', z1, z2, z3, z4, z5⟩ := pair_new (d := .int (i : Nat)) w hT hH (rep_int.mpr rfl) k2
    refine ⟨S', .tup [.int (i : Nat), d], z1, z2, z3, z4, ?_, by rw [e]; exact z5⟩
    show (enL 0 ds)[i]? = _
    rw [enL_get, k1]; simp
theorem si_enm {a : Expr} {elts : List Expr} {kk : Nat} {ma : ME} {p pos tpos : Pos} (ha : SE C X a ma) (hK : X.K = C.K) (hg : Gl X "enumerate") (hm : X.mg "enumerate" = none) (hs : starEach [a] X.env = [(false, eval a X.env)]) :
    SI C X (.Tuple elts kk tpos) (.Call (.Name "enumerate" p) [a] [] pos) (.enm ma) := fun W tk => by
  refine PIw (Fh.pi_enumA hg hm (pa_cons (ha W tk) pa_nil hs) hs) ?_
  rw [hK]
  intro σ H Rq ⟨r, S, hH, w, sr, h⟩
  subst hH
  simp only [evI] at h
  refine dnE_intro r w sr (h.bind.imp fun v1 H1 q1 => ?_)
  obtain ⟨S1, d1, e1, w1, st1, r1, h1⟩ := q1
  subst e1
  unfold enmM at h1
  split at h1
  · rename_i ds
    rw [rep_lst] at r1
    obtain ⟨a1, vs, e1, f1, l1, q1⟩ := r1
    exact .inl ⟨a1, vs, by rw [e1], SqL.of f1.1, h1 S1 _ rfl w1 (Step.refl S1) (src_enL l1 q1 fun S st => SqL.of (st.fx f1).1)⟩
  · rename_i ds
    simp only [Rep] at r1
    obtain ⟨a1, vs, e1, f1, l1, q1⟩ := r1
    exact .inr (.inl ⟨a1, vs, by rw [e1], SqT.of f1.1, h1 S1 _ rfl w1 (Step.refl S1) (src_enT l1 q1 fun S st => SqT.of (st.fx f1).1)⟩)
  · rename_i ds
    simp only [Rep] at r1
    obtain ⟨a1, vs, e1, f1, l1, q1⟩ := r1
    exact .inr (.inl ⟨a1, vs, by rw [e1], .inr f1, h1 S1 _ rfl w1 (Step.refl S1) (src_enT l1 q1 fun S st => (Or.inr f1 : SqT C.K S.H a1 vs))⟩)
  · rw [rep_str] at r1
    exact .inr (.inr ⟨_, by rw [r1.1], h1 S1 _ rfl w1 (Step.refl S1) (src_enS r1.2)⟩)
  · simp only [Rep] at r1
    obtain ⟨a1, ha1, e⟩ := r1
    split at h1
    · rename_i ds hm
      obtain ⟨vs, k1, _, k2⟩ := w1.cell _ _ a1 hm ha1
      exact .inl ⟨a1, vs, by rw [e], SqL.of k1, h1 S1 _ rfl w1 (Step.refl S1) (src_enO w1 hm ha1)⟩
    · exact h1.elim
  · exact h1.elim
end
end Fs

/-! FsI: targets, comprehensions. -/
namespace Fs
open PySem PySem.Spec PyProof.Rows L2
open Classical

def MG.slots : MG → List Nat
  | .nm i => [i]
  | .tp is => is
/-- a target's reading -/
def dnG (C : Ct) (g : MG) : TG := fun v σ H Q => ∃ d r S, S.H = H ∧ Wf C S ∧ SRep C S r σ ∧ Rep C S d v ∧ (match asgG g d r with
  | some r' => ∀ σ', SRep C S r' σ' → σ'.length = σ.length → (∀ j, j ∉ g.slots → σ'[j]? = σ[j]?) → Q σ' H
  | none => False)
def SG (C : Ct) (X : Cx) (tg : Expr) (g : MG) : Prop := PG X tg (dnG C g)
theorem PGw {X : Cx} {tg : Expr} {t t' : TG} (h : PG X tg t) (k : ∀ v σ H Q, t' v σ H Q → t v σ H Q) : PG X tg t' := ⟨fun pins s σ H v u Q I r q => h.run pins s σ H v u Q I r (k v σ H Q q)⟩
section
variable {C : Ct} {X : Cx}
theorem sg_nm {i : Nat} {x : Str} {pos : Pos} (hN : X.N.Nodup) (hi : X.N[i]? = some x) (hx : Loc X.env.scope x) (hf : X.fn x = true ∨ X.env.scope.names.lookup x = some .local) : SG C X (.Name x pos) (.nm i) :=
  PGw (pg_name hN hi hx hf) fun v σ H Q ⟨d, r, S, hH, w, sr, rd, h⟩ => by
    subst hH
    exact h _ (sr.set rd) (by simp) fun j hj => by
      simp only [MG.slots, List.mem_singleton] at hj
      exact List.getElem?_set_ne (Ne.symm hj)
/-- names in a row -/
def gNms : List Nat → TGs
  | [] => gNil
  | i :: is => gCons (gName i) (gNms is)
inductive Nms (X : Cx) : List Expr → List Nat → Prop where
  | nil : Nms X [] []
  | cons {x : Str} {i : Nat} {pos : Pos} {es : List Expr} {is : List Nat} (hi : X.N[i]? = some x) (hx : Loc X.env.scope x) (hf : X.fn x = true ∨ X.env.scope.names.lookup x = some .local) (t : Nms X es is) : Nms X (.Name x pos :: es) (i :: is)
theorem Nms.pgs (hN : X.N.Nodup) : ∀ {es : List Expr} {is : List Nat}, Nms X es is → PGs X es (gNms is)
  | _, _, .nil => pgs_nil
  | _, _, .cons hi hx hf t => pgs_cons (pg_name hN hi hx hf) (Nms.pgs hN t) rfl
theorem Nms.len {es : List Expr} {is : List Nat} (h : Nms X es is) : es.length = is.length ∧ (assignEach es X.env).length = is.length ∧ (assignEach es X.env).findIdx? (·.1) = none := by
  induction h with
  | nil => exact ⟨rfl, rfl, rfl⟩
  | @cons x i pos es is hi hx hf t ih =>
    refine ⟨by simp [ih.1], ?_, ?_⟩
    · show ((false, assign (.Name x pos) X.env) :: assignEach es X.env).length = _
      simp [ih.2.1]
    · show ((false, assign (.Name x pos) X.env) :: assignEach es X.env).findIdx? (·.1) = none
      simp [List.findIdx?_cons, ih.2.2]
def setsE (r : Env) : List Nat → List D → Env
  | i :: is, d :: ds => setsE (r.set i (some d)) is ds
  | _, _ => r
theorem setsE_fold : ∀ (is : List Nat) (ds : List D) (r : Env), (is.zip ds).foldl (fun r p => r.set p.1 (some p.2)) r = setsE r is ds
  | [], _, _ => by simp [setsE]
  | _ :: _, [], _ => by simp [setsE]
  | i :: is, d :: ds, r => by simp [setsE, setsE_fold is ds]
theorem gNms_ok {S : Ws} {Q : L2.St → Hp → Prop} : ∀ {is : List Nat} {ds : List D} {vs : List V} {r : Env} {σ : L2.St}, SRep C S r σ → Reps C S ds vs → ds.length = is.length →
    (∀ σ', SRep C S (setsE r is ds) σ' → σ'.length = σ.length → (∀ j, j ∉ is → σ'[j]? = σ[j]?) → Q σ' S.H) → gNms is vs σ S.H Q
  | [], ds, vs, r, σ, sr, rs, hl, h => by
    have e : ds = [] := List.length_eq_zero_iff.mp hl
    subst e
    simp only [Reps] at rs
    exact ⟨rs, h σ sr rfl fun _ _ => rfl⟩
  | i :: is, [], vs, r, σ, sr, rs, hl, h => by simp at hl
  | i :: is, d :: ds, vs, r, σ, sr, rs, hl, h => by
    simp only [Reps] at rs
    obtain ⟨v, vs', e, r1, r2⟩ := rs
    refine ⟨v, vs', e, gNms_ok (sr.set r1) r2 (by simpa using hl) fun σ' s1 s2 s3 => h σ' s1 (by simpa using s2) fun j hj => ?_⟩
    rw [s3 j (fun z => hj (List.mem_cons_of_mem _ z)), List.getElem?_set_ne (fun z => hj (by rw [z]; exact List.mem_cons_self))]
theorem sg_tp {es : List Expr} {is : List Nat} {k : Nat} {pos : Pos} (hN : X.N.Nodup) (hc : X.calm = true) (hK : X.K = C.K) (h : Nms X es is) : SG C X (.Tuple es k pos) (.tp is) := by
  refine PGw (pg_tup hc (h.pgs hN) h.len.2.1 h.len.2.2) ?_
  rw [hK]
  intro v σ H Q ⟨d, r, S, hH, w, sr, rd, h⟩
  subst hH
  have go : ∀ (ds : List D) (a : Addr) (vs : List V), v = .ref a → SqT C.K S.H a vs → Reps C S ds vs → (match (if ds.length = is.length then some ((is.zip ds).foldl (fun r p => r.set p.1 (some p.2)) r) else none : Option Env) with
      | some r' => ∀ σ', SRep C S r' σ' → σ'.length = σ.length → (∀ j, j ∉ is → σ'[j]? = σ[j]?) → Q σ' S.H
      | none => False) → gTup C.K is.length (gNms is) v σ S.H Q := by
    intro ds a vs e f rs h
    by_cases hl : ds.length = is.length
    · rw [if_pos hl] at h
      simp only at h
      rw [setsE_fold] at h
      exact ⟨a, vs, e, f, by rw [← rs.len]; exact hl, gNms_ok sr rs hl h⟩
    · rw [if_neg hl] at h; exact h.elim
  simp only [asgG] at h
  cases d with
  | tup ds =>
    obtain ⟨a, vs, e, f, l, rs⟩ := rep_tup rd
    exact go ds a vs e f rs h
  | wtp ds =>
    obtain ⟨a, vs, e, f, l, rs⟩ := rep_wtp rd
    exact go ds a vs e f rs h
  | _ => exact h.elim

/-! ### comprehensions -/
theorem wipe_get {σ : L2.St} : ∀ {vs : List Nat} {j : Nat}, (wipe σ vs)[j]? = if j ∈ vs ∧ j < σ.length then some none else σ[j]?
  | [], j => by simp [wipe]
  | v :: vs, j => by
    simp only [wipe]
    by_cases h : v = j
    · subst h
      by_cases hl : v < σ.length
      · rw [List.getElem?_set_self (by rw [wipe_length]; exact hl)]; simp [hl]
      · rw [List.getElem?_eq_none (by simp [wipe_length]; omega)]; simp [hl]
    · rw [List.getElem?_set_ne h, wipe_get]
      have : (j ∈ v :: vs ∧ j < σ.length) ↔ (j ∈ vs ∧ j < σ.length) := by simp [Ne.symm h]
      simp only [this]
theorem wipeE_get {r : Env} : ∀ {vs : List Nat} {j : Nat}, (wipeE r vs).length = r.length ∧ (wipeE r vs)[j]? = if j ∈ vs ∧ j < r.length then some none else r[j]?
  | [], j => by simp [wipeE]
  | v :: vs, j => by
    have ih := fun j => wipeE_get (r := r) (vs := vs) (j := j)
    simp only [wipeE]
    refine ⟨by rw [List.length_set]; exact (ih 0).1, ?_⟩
    by_cases h : v = j
    · subst h
      by_cases hl : v < r.length
      · rw [List.getElem?_set_self (by rw [(ih 0).1]; exact hl)]; simp [hl]
      · rw [List.getElem?_eq_none (by rw [List.length_set, (ih 0).1]; omega)]; simp [hl]
    · rw [List.getElem?_set_ne h, (ih j).2]
      have : (j ∈ v :: vs ∧ j < r.length) ↔ (j ∈ vs ∧ j < r.length) := by simp [Ne.symm h]
      simp only [this]
theorem SRep.wipe {S : Ws} {r : Env} {σ : L2.St} (h : SRep C S r σ) (vs : List Nat) : SRep C S (wipeE r vs) (L2.wipe σ vs) :=
  ⟨by rw [(wipeE_get (j := 0)).1, wipe_length]; exact h.len, fun i d e => by
    rw [(wipeE_get (j := i)).2] at e
    rw [wipe_get]
    split at e
    · cases e
    · rename_i z
      rw [if_neg (by rw [← h.len]; exact z)]
      exact h.at_ i d e⟩
theorem wipe_same {σ σ' : L2.St} {vs : List Nat} {sl : List Nat} (hl : σ'.length = σ.length) (hs : ∀ j, j ∉ sl → σ'[j]? = (L2.wipe σ vs)[j]?) (hi : ∀ j ∈ sl, j ∈ vs) : L2.wipe σ' vs = L2.wipe σ vs := by
  apply List.ext_getElem?
  intro j
  rw [wipe_get, wipe_get, hl]
  split
  · rfl
  · rename_i z
    by_cases hj : j ∈ sl
    · have hv := hi j hj
      have h1 : ¬ j < σ.length := fun q => z ⟨hv, q⟩
      rw [List.getElem?_eq_none (by omega), List.getElem?_eq_none (by omega)]
    · rw [hs j hj, wipe_get, if_neg z]
/-- from the changing object to a new cell -/
abbrev Ws.adopt (S : Ws) (p : Addr) (ex : List Addr) (c : Cell) : Ws := ⟨S.ad ++ [p], S.mu ++ [c], ex, S.H⟩
theorem C_adopt {S : Ws} (w : Wf C S) {p a : Addr} {ex : List Addr} {c : Cell} (h : (S.adopt p ex c).C a) : S.C a ∨ a = p := by
  obtain ⟨n, d, e, l, i⟩ := h
  rcases Nat.lt_or_ge n S.mu.length with q | q
  · have q' : n < S.ad.length := by rw [w.len]; exact q
    rw [List.getElem?_append_left q] at e
    rw [List.getElem?_append_left q'] at i
    exact .inl ⟨n, d, e, l, i⟩
  · have q' : S.ad.length ≤ n := by rw [w.len]; exact q
    rw [List.getElem?_append_right q'] at i
    cases k : n - S.ad.length with
    | zero => rw [k] at i; simp at i; exact .inr i.symm
    | succ m => rw [k] at i; simp at i
theorem Step0.adopt {S : Ws} (w : Wf C S) {p : Addr} {ex : List Addr} {c : Cell} (he : S.ex = p :: ex) : Step0 S (S.adopt p ex c) :=
  ⟨fun a u e n => ⟨e, fun l => by
    rcases l with l | l
    · exact n (.inl (by rw [he]; exact List.mem_cons_of_mem _ l))
    · rcases C_adopt w l with z | z
      · exact n (.inr z)
      · exact n (.inl (by rw [he, z]; exact List.mem_cons_self))⟩,
   fun n a e => by
    have := (List.getElem?_eq_some_iff.mp e).1
    show (S.ad ++ [p])[n]? = _
    rw [List.getElem?_append_left this]; exact e⟩
theorem Wf.adopt {S : Ws} (w : Wf C S) {p : Addr} {ex : List Addr} {c : Cell} (he : S.ex = p :: ex) (hc : CellAt C (S.adopt p ex c) p c) : Wf C (S.adopt p ex c) where
  len := by simp [w.len]
  exd := by have := w.exd; rw [he] at this; exact (List.nodup_cons.mp this).2
  exh := fun a ha => by
    obtain ⟨h1, n⟩ := w.exh a (by rw [he]; exact List.mem_cons_of_mem _ ha)
    refine ⟨h1, fun q => (C_adopt w q).elim n fun z => ?_⟩
    have := w.exd; rw [he] at this
    exact (List.nodup_cons.mp this).1 (z ▸ ha)
  inj := by
    have np : ¬ S.C p := (w.exh p (by rw [he]; exact List.mem_cons_self)).2
    have key : ∀ (n : Nat) (d : Cell) (a : Addr), (S.mu ++ [c])[n]? = some d → (S.ad ++ [p])[n]? = some a → (S.mu[n]? = some d ∧ S.ad[n]? = some a) ∨ (n = S.mu.length ∧ a = p) := by
      intro n d a e i
      rcases Nat.lt_or_ge n S.mu.length with q | q
      · have q' : n < S.ad.length := by rw [w.len]; exact q
        rw [List.getElem?_append_left q] at e
        rw [List.getElem?_append_left q'] at i
        exact .inl ⟨e, i⟩
      · have q' : S.ad.length ≤ n := by rw [w.len]; exact q
        rw [List.getElem?_append_right q'] at i
        cases k : n - S.ad.length with
        | zero => rw [k] at i; simp at i; rw [w.len] at k q'; exact .inr ⟨by omega, i.symm⟩
        | succ m => rw [k] at i; simp at i
    intro n k c1 c2 a e1 l1 i1 e2 l2 i2
    rcases key n c1 a e1 i1 with ⟨x1, y1⟩ | ⟨x1, y1⟩ <;> rcases key k c2 a e2 i2 with ⟨x2, y2⟩ | ⟨x2, y2⟩
    · exact w.inj n k c1 c2 a x1 l1 y1 x2 l2 y2
    · subst y2; exact absurd ⟨n, c1, x1, l1, y1⟩ np
    · subst y1; exact absurd ⟨k, c2, x2, l2, y2⟩ np
    · rw [x1, x2]
  cell := fun n d a e i => by
    rcases Nat.lt_or_ge n S.mu.length with q | q
    · have q' : n < S.ad.length := by rw [w.len]; exact q
      have e' : S.mu[n]? = some d := by rw [← List.getElem?_append_left q (l₂ := [c])]; exact e
      have i' : S.ad[n]? = some a := by rw [← List.getElem?_append_left q' (l₂ := [p])]; exact i
      exact (w.cell n d a e' i').keep (Step0.adopt w he) rfl
    · have q' : S.ad.length ≤ n := by rw [w.len]; exact q
      have e' : (S.mu ++ [c])[n]? = some d := e
      have i' : (S.ad ++ [p])[n]? = some a := i
      rw [List.getElem?_append_right q'] at i'
      rw [List.getElem?_append_right q] at e'
      cases k : n - S.ad.length with
      | zero =>
        rw [k] at i'; rw [w.len] at k; rw [k] at e'
        simp at i' e'
        subst i'; subst e'
        exact hc
      | succ m => rw [k] at i'; simp at i'
theorem compM_noexc {t : Itm} {f : D → M (Option D)} : ∀ (ds : List D) (m : Store) (c : Nat) (ks : List Nat) (vs : List D) (m' : Store), compM t f ds m ≠ .exc c ks vs m'
  | [], m, c, ks, vs, m', h => by
    simp only [compM] at h
    split at h <;> cases h
  | d :: ds, m, c, ks, vs, m', h => by
    simp only [compM] at h
    split at h
    · split at h
      · split at h <;> cases h
      · cases h
    · cases h
theorem compM_cons {t : Itm} {f : D → M (Option D)} {d : D} {ds : List D} {m mE : Store} {ys : List D} (h : compM t f (d :: ds) m = .ok ys mE) :
    t.ok m ∧ ∃ o m1 rest, f d m = .ok o m1 ∧ compM t f ds m1 = .ok rest mE ∧ ys = (match o with | some y => y :: rest | none => rest) := by
  simp only [compM] at h
  split at h
  · rename_i ok
    refine ⟨ok, ?_⟩
    split at h
    · rename_i o m1 e1
      split at h
      · rename_i r m2 e2
        cases h
        exact ⟨o, m1, r, e1, e2, rfl⟩
      · cases h
    · cases h
  · cases h
theorem compM_nil {t : Itm} {f : D → M (Option D)} {m mE : Store} {ys : List D} (h : compM t f [] m = .ok ys mE) : t.ok m ∧ ys = [] ∧ m = mE := by
  simp only [compM] at h
  split at h
  · rename_i ok; cases h; exact ⟨ok, rfl, rfl⟩
  · cases h
/-- a clause's test -/
def dnTO (C : Ct) (c : MTO) : TT := match c with
  | .no => tYes
  | .yes c => dnT C (evT c) (fun _ _ _ _ => False)
theorem comp_tLc {mu : Bool} {own : List Nat} {g : MG} {s : MI} {c : MTO} {e : ME} {W : WX} {σ : L2.St} {H : Hp} {Q : VK} (hsl : ∀ j ∈ g.slots, j ∈ own)
    (h : dnE C (ev (.comp mu own g s c e)) W σ H Q) : tLc (dnI C (evI s) W) (dnG C g) (dnTO C c) (dnE C (ev e) (fun _ _ _ _ => False)) own σ H Q := by
  obtain ⟨r, S, hH, w, sr, h⟩ := h
  subst hH
  simp only [ev, M.bind_ap] at h
  refine ⟨r, S, rfl, w, sr, ?_⟩
  cases e1 : evI s r S.mu with
  | stuck => rw [e1] at h; exact h
  | exc c ks vs m => rw [e1] at h; exact h
  | ok t m1 =>
  rw [e1] at h
  intro S1 J em w1 st1 src
  subst em
  simp only at h
  intro Da hD
  generalize hf : (fun d => match asgG g d (wipeE r own) with
      | some r' => (do let k ← evTO c r'; if k = true then (do let y ← ev e r'; pure (some y)) else pure none : M (Option D))
      | none => stuckM) = f at h
  cases e2 : compM t f t.ds S1.mu with
  | stuck => rw [e2] at h; exact h.elim
  | exc c ks vs m => exact absurd e2 (compM_noexc _ _ _ _ _ _)
  | ok ys mE =>
  rw [e2] at h
  simp only at h
  obtain ⟨G, Y, wk, hG, hY⟩ := src.ex
  let S2 : Ws := S1.push Da (.lst [])
  have w2 : Wf C S2 := w1.push hD
  have s02 : Step0 S1 S2 := Step0.push hD
  -- the invariant
  refine lc_it (Qd := fun H => Q (.ref Da) H) wk (fun i H => ∃ (S' : Ws) (acc : List V) (done rest : List D), S'.H = H ∧ Wf C S' ∧ Step0 S1 S' ∧ S'.ex = Da :: S1.ex ∧ (∀ a ∈ S1.ex, S'.H a = S1.H a) ∧ H Da = some (.lst acc) ∧ Reps C S' done acc ∧ done.length ≤ i ∧ compM t f (t.ds.drop i) S'.mu = .ok rest mE ∧ done ++ rest = ys) ?_ ?_ ?_ ?_
  · refine ⟨S2, [], [], ys, rfl, w2, s02, rfl, fun a ha => ?_, upd_same, Reps.nil, Nat.le_refl _, e2, rfl⟩
    obtain ⟨⟨u, hu⟩, _⟩ := w1.exh a ha
    show upd S1.H Da _ a = _
    rw [upd_ne (ne_of_none hu hD)]
  · rintro i H hi ⟨S', acc, done, rest, rfl, w', s0', ex', exk', hDa, ra, hdl, hc, hy⟩
    refine hG S' w' s0' ?_
    cases hd : t.ds.drop i with
    | nil => rw [hd] at hc; exact (compM_nil hc).1
    | cons d ds => rw [hd] at hc; exact (compM_cons hc).1
  · rintro i x H H' hi ⟨S', acc, done, rest, rfl, w', s0', ex', exk', hDa, ra, hdl, hc, hy⟩ y
    have hdr : t.ds.drop i = t.ds[i] :: t.ds.drop (i + 1) := List.drop_eq_getElem_cons hi
    rw [hdr] at hc
    obtain ⟨ok, o, m1, rest', f1, hc', hr⟩ := compM_cons hc
    obtain ⟨S3, d, eH, emu, w3, st3, hdi, rd⟩ := hY i x S' H' hi w' s0' ok y
    rw [List.getElem?_eq_getElem hi] at hdi
    cases hdi
    have sr3 : SRep C S3 r σ := by
      have s0 := s0'.trans st3.toStep0
      exact ⟨sr.len, fun i d e => let ⟨v, a, b⟩ := sr.at_ i d e; ⟨v, a, (b.mono st1).mono0 s0⟩⟩
    subst eH
    refine ⟨t.ds[i], wipeE r own, S3, rfl, w3, sr3.wipe own, rd, ?_⟩
    have hacc : acc.length < sizeLine := by rw [← ra.len]; exact Nat.lt_of_le_of_lt hdl (Nat.lt_of_lt_of_le hi src.len)
    subst hf
    simp only at f1
    cases ea : asgG g t.ds[i] (wipeE r own) with
    | none => rw [ea] at f1; cases f1
    | some r' =>
      rw [ea] at f1
      intro σ' sr' hl hs
      refine ⟨wipe_same (sl := g.slots) (by rw [hl, wipe_length]) hs hsl, ?_⟩
      simp only [M.bind_ap] at f1
      have hmu : S3.mu = S'.mu := emu
      -- the test
      have test : ∀ (Qt : Bool → Hp → Prop), (∀ b S4, evTO c r' S'.mu = .ok b S4.mu → Wf C S4 → Step S3 S4 → Qt b S4.H) → dnTO C c σ' S3.H Qt := by
        intro Qt k
        cases c with
        | no =>
          show Qt true S3.H
          exact k true S3 (by simp only [evTO]; rw [hmu]; rfl) w3 (Step.refl _)
        | yes c =>
          show dnT C (evT c) (fun _ _ _ _ => False) σ' S3.H Qt
          refine dnT_intro r' w3 sr' ?_
          simp only [evTO] at k f1
          rw [hmu]
          cases ec : evT c r' S'.mu with
          | stuck => rw [ec] at f1; cases f1
          | exc a b c d => rw [ec] at f1; cases f1
          | ok b m => exact fun S4 em w4 st4 => k b S4 (by rw [em, ec]) w4 st4
      refine test _ fun b S4 hb w4 st4 => ?_
      rw [hb] at f1
      simp only at f1
      have st34 : Step S' S4 := st3.trans st4
      have s04 : Step0 S1 S4 := s0'.trans st34.toStep0
      have ex4 : S4.ex = Da :: S1.ex := by rw [st34.exs, ex']
      have hD4 : S4.H Da = some (.lst acc) := by rw [st34.exk Da (by rw [ex']; exact List.mem_cons_self)]; exact hDa
      have exk4 : ∀ a ∈ S1.ex, S4.H a = S1.H a := fun a ha => (st34.exk a (by rw [ex']; exact List.mem_cons_of_mem _ ha)).trans (exk' a ha)
      have ra4 := ra.mono st34
      cases b with
      | false =>
        simp only [Bool.false_eq_true, if_false] at f1 ⊢
        cases f1
        simp only at hr
        subst hr
        exact ⟨S4, acc, done, rest, rfl, w4, s04, ex4, exk4, hD4, ra4, Nat.le_succ_of_le hdl, hc', hy⟩
      | true =>
        simp only [if_true, M.bind_ap] at f1 ⊢
        refine dnE_intro r' w4 (sr'.mono st4) ?_
        cases ee : ev e r' S4.mu with
        | stuck => rw [ee] at f1; cases f1
        | exc a b c d => rw [ee] at f1; cases f1
        | ok y5 m5 =>
          rw [ee] at f1
          cases f1
          intro S5 v5 em5 w5 st5 r5
          have hin : Da ∈ S5.ex := by rw [st5.exs, ex4]; exact List.mem_cons_self
          have hD5 : S5.H Da = some (.lst acc) := by rw [st5.exk Da (by rw [ex4]; exact List.mem_cons_self)]; exact hD4
          simp only at hr
          subst hr
          subst em5
          refine ⟨acc, hD5, hacc, S5.at Da (.lst (acc ++ [v5])), acc ++ [v5], done ++ [y5], rest', rfl, w5.at hin, (s04.trans st5.toStep0).trans (Step0.at hin), by show S5.ex = _; rw [st5.exs, ex4], fun a ha => ?_, upd_same, ?_, ?_, hc', by rw [List.append_assoc]; exact hy⟩
          · have hne : a ≠ Da := fun z => by
              have := w2.exd
              exact (List.nodup_cons.mp this).1 (z ▸ ha)
            show upd S5.H Da _ a = _
            rw [upd_ne hne, st5.exk a (by rw [ex4]; exact List.mem_cons_of_mem _ ha)]
            exact exk4 a ha
          · exact ((ra4.mono st5).append (Reps.cons r5 Reps.nil)).mono0 (Step0.at hin)
          · rw [List.length_append]; simp only [List.length_cons, List.length_nil]; omega
  · rintro H ⟨S', acc, done, rest, rfl, w', s0', ex', exk', hDa, ra, hdl, hc, hy⟩
    rw [List.drop_length] at hc
    obtain ⟨ok, hr, hm⟩ := compM_nil hc
    subst hr
    subst hm
    rw [List.append_nil] at hy
    subst hy
    have hlen : done.length ≤ sizeLine := Nat.le_trans hdl src.len
    cases mu with
    | false =>
      simp only [Bool.false_eq_true, if_false] at h
      have w4 := w'.pop ex'
      have sp : Step0 S' (S'.pop S1.ex) := Step0.pop fun a ha => by rw [ex']; exact List.mem_cons_of_mem _ ha
      have st : Step S1 (S'.pop S1.ex) := ⟨s0'.trans sp, rfl, exk'⟩
      exact h (S'.pop S1.ex) _ rfl w4 (st1.trans st) (rep_lst_new ⟨hDa, pop_notL w' ex'⟩ hlen (ra.mono0 sp))
    | true =>
      simp only [if_true] at h
      have sp : Step0 S' (S'.adopt Da S1.ex (.lst done)) := Step0.adopt w' ex'
      have w4 : Wf C (S'.adopt Da S1.ex (.lst done)) := w'.adopt ex' ⟨acc, hDa, hlen, ra.mono0 sp⟩
      have st : Step S1 (S'.adopt Da S1.ex (.lst done)) := ⟨s0'.trans sp, rfl, exk'⟩
      refine h (S'.adopt Da S1.ex (.lst done)) _ rfl w4 (st1.trans st) ?_
      simp only [Rep]
      refine ⟨Da, ?_, rfl⟩
      show (S'.ad ++ [Da])[S'.mu.length]? = _
      rw [← w'.len]; simp
end
end Fs

/-! FsJ: calls by name; built-ins. -/
namespace Fs
open PySem PySem.Spec PyProof.Rows L2
open Classical

def isStar : Expr → Bool
  | .Starred .. => true
  | _ => false
def noStar (es : List Expr) : Bool := es.all fun e => !isStar e
theorem star_cons {e : Expr} {es : List Expr} {env : PySem.Env} (h : isStar e = false) : starEach (e :: es) env = (false, eval e env) :: starEach es env := by
  cases e <;> first | rfl | cases h
theorem star_any {pos : Pos} {env : PySem.Env} : ∀ {es : List Expr}, noStar es = true → (backTo pos (starEach es env)).any (·.1) = false
  | [], _ => rfl
  | e :: es, h => by
    simp only [noStar, List.all_cons, Bool.and_eq_true, Bool.not_eq_true'] at h
    rw [star_cons h.1]
    have ih := star_any (pos := pos) (env := env) (es := es) h.2
    simp only [backTo, List.map_cons, List.any_cons, Bool.false_or]
    exact ih
/-- a name that is called -/
def CallOk (C : Ct) (X : Cx) (x : Str) (F : List D → M D) : Prop :=
  Gl X x → ∀ W, Takes X W → ∀ (es : List Expr) (ta : Env → M (List D)) (p pos : Pos), PA X es (dnA C ta W) → noStar es = true →
    PE X (.Call (.Name x p) es [] pos) (dnE C (fun r => do let xs ← ta r; F xs) W)
section
variable {C : Ct} {X : Cx}
theorem se_call {x : Str} {F : List D → M D} {es : List Expr} {mes : MEs} {p pos : Pos} (hF : CallOk C X x F) (hg : Gl X x) (hes : SA C X es mes) (hn : noStar es = true) : SE C X (.Call (.Name x p) es [] pos) (.call F mes) := fun W tk => by
  have h := hF hg W tk es (evs mes) p pos (hes W tk) hn
  refine PEw h ?_
  intro σ H Q q
  exact q
theorem pe_false {e : Expr} {t : TE} (h : ∀ σ H Q, ¬ t σ H Q) : PE X e t := ⟨fun _ _ σ H Q _ q => (h σ H Q q).elim⟩
theorem dn_args {r : List V → Hp → VK → Prop} {F : List D → M D} {ta : Env → M (List D)} {W : WX} (hF : ∀ (S : Ws) (ds : List D) (vs : List V) (W : XK) (Q : VK), Wf C S → Reps C S ds vs → PostE C S (F ds S.mu) W Q → r vs S.H Q) :
    ∀ σ H Q, dnE C (fun r => do let xs ← ta r; F xs) W σ H Q → tCB r (dnA C ta W) σ H Q := fun σ H Q ⟨r', S, hH, w, sr, h⟩ => by
  subst hH
  refine dnA_intro r' w sr (h.bindA.imp fun vs H1 q1 => ?_)
  obtain ⟨S1, ds, e1, w1, st1, r1, h1⟩ := q1
  subst e1
  exact hF S1 ds vs _ Q w1 r1 h1
/-- the arguments of a call of none -/
theorem nil_args {F : List D → M D} {ta : Env → M (List D)} {W : WX} {σ : L2.St} {H : Hp} {Q : VK} (hpa : PA X [] (dnA C ta W)) (h : dnE C (fun r => do let xs ← ta r; F xs) W σ H Q) : True := trivial
theorem callOk_B {x : Str} {id : String} {r : List V → Hp → VK → Prop} {F : List D → M D} (hc : CallR X (.builtin id) r) (hm : X.mg x = none) (hv : bootBuiltins x = some (.builtin id)) (h0 : ∀ m, F [] m = .stuck) (hn : x ≠ "__name__") (hdb : (x == ("__debug__" : Str)) = false)
    (hF : ∀ (S : Ws) (ds : List D) (vs : List V) (W : XK) (Q : VK), Wf C S → Reps C S ds vs → PostE C S (F ds S.mu) W Q → r vs S.H Q) : ∀ (hg : Gl X x) W, Takes X W → ∀ (e : Expr) (es : List Expr) (ta : Env → M (List D)) (p pos : Pos), PA X (e :: es) (dnA C ta W) → noStar (e :: es) = true →
    PE X (.Call (.Name x p) (e :: es) [] pos) (dnE C (fun r => do let xs ← ta r; F xs) W) := fun hg W tk e es ta p pos ha hs => by
  simp only [noStar, List.all_cons, Bool.and_eq_true, Bool.not_eq_true'] at hs
  exact PEw (pe_callB hc hg hm hv ha hn hdb (star_cons hs.1) (star_any hs.2)) (dn_args hF)
theorem callOk_T {x : Str} {T : String} {r : List V → Hp → VK → Prop} {F : List D → M D} (hc : CallR X (.type T) r) (hm : X.mg x = none) (hv : bootBuiltins x = some (.type T)) (hn : x ≠ "__name__") (hdb : (x == ("__debug__" : Str)) = false)
    (hF : ∀ (S : Ws) (ds : List D) (vs : List V) (W : XK) (Q : VK), Wf C S → Reps C S ds vs → PostE C S (F ds S.mu) W Q → r vs S.H Q) : ∀ (hg : Gl X x) W, Takes X W → ∀ (e : Expr) (es : List Expr) (ta : Env → M (List D)) (p pos : Pos), PA X (e :: es) (dnA C ta W) → noStar (e :: es) = true →
    PE X (.Call (.Name x p) (e :: es) [] pos) (dnE C (fun r => do let xs ← ta r; F xs) W) := fun hg W tk e es ta p pos ha hs => by
  simp only [noStar, List.all_cons, Bool.and_eq_true, Bool.not_eq_true'] at hs
  exact PEw (pe_callTy hc hg hm hv ha hn hdb (star_cons hs.1) (star_any hs.2)) (dn_args hF)
end
/-- a built-in of one argument or more -/
def CallOk1 (C : Ct) (X : Cx) (x : Str) (F : List D → M D) : Prop :=
  Gl X x → ∀ W, Takes X W → ∀ (e : Expr) (es : List Expr) (ta : Env → M (List D)) (p pos : Pos), PA X (e :: es) (dnA C ta W) → noStar (e :: es) = true →
    PE X (.Call (.Name x p) (e :: es) [] pos) (dnE C (fun r => do let xs ← ta r; F xs) W)

/-! ### one by one -/
def un1 (f : D → M D) : List D → M D
  | [d] => f d
  | _ => stuckM
theorem un1_ok {C : Ct} {S : Ws} {f : D → M D} {r : List V → Hp → VK → Prop} {ds : List D} {vs : List V} {W : XK} {Q : VK} (k : ∀ d v, Rep C S d v → PostE C S (f d S.mu) W Q → r [v] S.H Q) (rs : Reps C S ds vs) (h : PostE C S (un1 f ds S.mu) W Q) : r vs S.H Q := by
  cases ds with
  | nil => exact h.elim
  | cons d ds =>
    cases ds with
    | nil =>
      simp only [Reps] at rs
      obtain ⟨v, vs', e, r1, e2⟩ := rs
      subst e; subst e2
      exact k d v r1 h
    | cons d2 ds => exact h.elim
/-- all, any of a list of truth values -/
def blsO : List D → Option (List Bool)
  | [] => some []
  | .bl b :: ds => (blsO ds).map (b :: ·)
  | _ => none
theorem bls_rep {C : Ct} {S : Ws} : ∀ {ds : List D} {bs : List Bool} {vs : List V}, blsO ds = some bs → Reps C S ds vs → vs = bs.map V.bl
  | [], bs, vs, h, r => by
    simp only [Reps] at r; simp only [blsO, Option.some.injEq] at h; subst h; subst r; rfl
  | d :: ds, bs, vs, h, r => by
    simp only [Reps] at r
    obtain ⟨v, vs', e, r1, r2⟩ := r
    cases d with
    | bl b =>
      simp only [blsO] at h
      obtain ⟨bs', h1, h2⟩ := Option.map_eq_some_iff.mp h
      subst h2; subst e
      rw [rep_bl] at r1
      rw [r1, bls_rep h1 r2]; rfl
    | _ => simp [blsO] at h
def allM (d : D) : M D := fun m => match readL m d with
  | some ds => match blsO ds with
    | some bs => .ok (.bl (bs.all id)) m
    | none => .stuck
  | none => .stuck
def anyM (d : D) : M D := fun m => match readL m d with
  | some ds => match blsO ds with
    | some bs => .ok (.bl (bs.any id)) m
    | none => .stuck
  | none => .stuck
/-- list(x): a text, a list, a tuple -/
def listM (d : D) : M D := fun m => match d with
  | .str x => .ok (.lst (x.map fun c => .str [c])) m
  | d => match readQ m d with
    | some ds => .ok (.lst ds) m
    | none => .stuck
def tupleM (d : D) : M D := fun m => match d with
  | .tup ds => .ok (.tup ds) m
  | .wtp ds => .ok (.wtp ds) m
  | d => match readL m d with
    | some ds => .ok (.tup ds) m
    | none => .stuck
def intM (d : D) : M D := fun m => match d with
  | .int i => .ok (.int i) m
  | .bl b => .ok (.int (if b then 1 else 0)) m
  | _ => .stuck
/-- sorted of ints, of texts -/
def insI (i : Int) : List Int → List Int
  | [] => [i]
  | j :: js => if i ≤ j then i :: j :: js else j :: insI i js
def sortI : List Int → List Int
  | [] => []
  | i :: is => insI i (sortI is)
/-- order of texts, less or equal -/
def leT (x y : List Char) : Bool := !ltT y x
def insT (i : List Char) : List (List Char) → List (List Char)
  | [] => [i]
  | j :: js => if leT i j = true then i :: j :: js else j :: insT i js
def sortT : List (List Char) → List (List Char)
  | [] => []
  | i :: is => insT i (sortT is)
theorem insI_perm (i : Int) : ∀ l, (insI i l).Perm (i :: l)
  | [] => .refl _
  | j :: js => by
    simp only [insI]
    split
    · exact .refl _
    · exact ((insI_perm i js).cons j).trans (.swap i j js)
theorem sortI_perm : ∀ l, (sortI l).Perm l
  | [] => .refl _
  | i :: is => (insI_perm i _).trans ((sortI_perm is).cons i)
theorem insI_sorted (i : Int) : ∀ l : List Int, l.Pairwise (· ≤ ·) → (insI i l).Pairwise (· ≤ ·)
  | [], _ => by simp [insI]
  | j :: js, h => by
    simp only [insI]
    split
    · rename_i c
      refine List.pairwise_cons.mpr ⟨fun k hk => ?_, h⟩
      rcases List.mem_cons.mp hk with e | e
      · rw [e]; exact c
      · exact Int.le_trans c ((List.pairwise_cons.mp h).1 k e)
    · rename_i c
      refine List.pairwise_cons.mpr ⟨fun k hk => ?_, insI_sorted i js (List.pairwise_cons.mp h).2⟩
      rcases List.mem_cons.mp ((insI_perm i js).mem_iff.mp hk) with e | e
      · rw [e]; omega
      · exact (List.pairwise_cons.mp h).1 k e
theorem sortI_sorted : ∀ l, (sortI l).Pairwise (· ≤ ·)
  | [] => .nil
  | i :: is => insI_sorted i _ (sortI_sorted is)
theorem sortI_uniq {l ns : List Int} (hp : ns.Perm l) (hs : ns.Pairwise (· ≤ ·)) : ns = sortI l :=
  List.Perm.eq_of_pairwise (fun a b _ _ h1 h2 => Int.le_antisymm h1 h2) hs (sortI_sorted l) (hp.trans (sortI_perm l).symm)
/-- the order of texts is total -/
theorem ltT_irrefl (x : List Char) : ltT x x = false := by
  simp only [ltT, decide_eq_false_iff_not]; exact List.lt_irrefl _
theorem leT_total (x y : List Char) : leT x y = true ∨ leT y x = true := by
  simp only [leT, ltT, Bool.not_eq_true', decide_eq_false_iff_not]
  rcases Classical.em (y.map Char.toNat < x.map Char.toNat) with h | h
  · right; exact List.lt_asymm h
  · left; exact h
theorem leT_trans {x y z : List Char} (h1 : leT x y = true) (h2 : leT y z = true) : leT x z = true := by
  simp only [leT, ltT, Bool.not_eq_true', decide_eq_false_iff_not] at *
  have a : x.map Char.toNat ≤ y.map Char.toNat := h1
  have b : y.map Char.toNat ≤ z.map Char.toNat := h2
  exact List.le_trans a b
theorem leT_antisymm {x y : List Char} (h1 : leT x y = true) (h2 : leT y x = true) : x = y := by
  simp only [leT, ltT, Bool.not_eq_true', decide_eq_false_iff_not] at *
  have a : x.map Char.toNat ≤ y.map Char.toNat := h1
  have b : y.map Char.toNat ≤ x.map Char.toNat := h2
  exact map_chr_inj (List.le_antisymm a b)
theorem insT_perm (i : List Char) : ∀ l, (insT i l).Perm (i :: l)
  | [] => .refl _
  | j :: js => by
    simp only [insT]
    split
    · exact .refl _
    · exact ((insT_perm i js).cons j).trans (.swap i j js)
theorem sortT_perm : ∀ l, (sortT l).Perm l
  | [] => .refl _
  | i :: is => (insT_perm i _).trans ((sortT_perm is).cons i)
theorem insT_sorted (i : List Char) : ∀ l : List (List Char), l.Pairwise (fun x y => leT x y = true) → (insT i l).Pairwise (fun x y => leT x y = true)
  | [], _ => by simp [insT]
  | j :: js, h => by
    simp only [insT]
    split
    · rename_i c
      refine List.pairwise_cons.mpr ⟨fun k hk => ?_, h⟩
      rcases List.mem_cons.mp hk with e | e
      · rw [e]; exact c
      · exact leT_trans c ((List.pairwise_cons.mp h).1 k e)
    · rename_i c
      refine List.pairwise_cons.mpr ⟨fun k hk => ?_, insT_sorted i js (List.pairwise_cons.mp h).2⟩
      rcases List.mem_cons.mp ((insT_perm i js).mem_iff.mp hk) with e | e
      · rw [e]; exact (leT_total i j).resolve_left c
      · exact (List.pairwise_cons.mp h).1 k e
theorem sortT_sorted : ∀ l, (sortT l).Pairwise (fun x y => leT x y = true)
  | [] => .nil
  | i :: is => insT_sorted i _ (sortT_sorted is)
theorem sortT_uniq {l ns : List (List Char)} (hp : ns.Perm l) (hs : ns.Pairwise (fun x y => leT x y = true)) : ns = sortT l :=
  List.Perm.eq_of_pairwise (fun a b _ _ h1 h2 => leT_antisymm h1 h2) hs (sortT_sorted l) (hp.trans (sortT_perm l).symm)
end Fs

/-! FsK: built-ins by name, against their rules. -/
namespace Fs
open PySem PySem.Spec PyProof.Rows L2
open Classical

section
variable {prog : Program} {w : World} {A : Around} {E : Value → Shared → Prop} {s : Shared}
/-- sorted(a text) -/
theorem sorted_text {Q : Value → Shared → Prop} (hh : A.in1.handled = none) (x : Str) (t : Tok) (hn : x.cps.size ≤ sizeLine)
    (h : ∀ (h1 h' : Heap) (tk : Nat) (us : List Value) (ys : List Str), (∀ b o, s.heap.get? b = some o → h1.get? b = some o) → (∀ b o, h1.get? b = some o → h'.get? b = some o) → (∃ e, h'.get? h1.objs.size = some (seqObj "list" us.toArray e)) →
      StrsAre us ys → ys.Perm (x.cps.toList.map (fun c => (⟨#[c]⟩ : Str))) → sortedS ys = true → Q (.ref h1.objs.size) { s with heap := h', toks := tk }) :
    wpAny (model prog w) A (call (.builtin "sorted") [.str x t]) Q E s := by
  refine Calls.call_function_entry kind_sorted plain_sorted entry_sorted (args_sorted1 _) ?_
  unfold Builtin.«sorted»
  refine wpAny_bind (m := checkCount "sorted" 1 1 _) (wpAny_pure ?_)
  refine wpAny_bind (wpAny_collect_str (hn := hn) hh x t fun s' acc hk hg hd ho hi => ?_)
  obtain ⟨hp, g, dr, tk, os⟩ := s'
  obtain ⟨rfl⟩ : g = s.gens := hg
  obtain ⟨rfl⟩ : dr = s.drawn := hd
  obtain ⟨rfl⟩ : os = s.os := ho
  have hS : StrsAre acc.toList (x.cps.toList.map fun c => (⟨#[c]⟩ : Str)) := by
    have key : ∀ (l : List Value) (cs : List Nat), l.length = cs.length → (∀ (j : Nat) (v : Value), l[j]? = some v → ∃ (c : Nat) (u : Tok), cs[j]? = some c ∧ v = Value.str ⟨#[c]⟩ u) → StrsAre l (cs.map fun c => (⟨#[c]⟩ : Str)) := by
      intro l
      induction l with
      | nil => intro cs hl _; cases cs with
        | nil => exact .nil
        | cons c cs => simp at hl
      | cons v l ih =>
        intro cs hl hv
        cases cs with
        | nil => simp at hl
        | cons c cs =>
          obtain ⟨c', u, h1, h2⟩ := hv 0 v rfl
          simp at h1
          subst h1; subst h2
          exact .cons _ u (ih cs (by simpa using hl) fun j v hj => by
            have := hv (j + 1) v (by simpa using hj)
            simpa using this)
    refine key _ _ (by simpa using hi.1) fun j v hj => ?_
    have := hi.2 j v (by simpa using hj)
    obtain ⟨c, u, h1, h2⟩ := this
    exact ⟨c, u, by simpa using h1, h2⟩
  refine wpAny_bind (wpAny_newList ?_)
  have hoL : (hp.push (seqObj "list" acc 0)).get? hp.objs.size = some (seqObj "list" acc.toList.toArray 0) := by
    rw [Heap.get?_push_size _ rfl]
    try simp
  have hacc : acc.toList.length ≤ sizeLine := by
    have := hi.1
    rw [Array.length_toList, this]; exact hn
  refine wpAny_bind (wpAny_holding (wpAny_call_entry slot_list_sort ⟨_, hoL, rfl⟩ entry_list_sort (list_sort_treeKAny strKind_oneLt (by
      show (Heap.push hp _).get? _ = _
      first
        | exact hoL
        | (rw [Heap.get?_push_size _ rfl]; rfl)) hS.keysOf (fun v₁ v₂ rest e => keyKind_strs (by rw [← e]; exact hS)) hacc fun st' a1 a2 => ⟨_, rfl, ?_⟩) (args_list_sort _)))
  obtain ⟨ys, h1, h2, h3⟩ := sorted_out_str hS a1 a2
  refine wpAny_pure ⟨_, rfl, h hp _ tk ((arrOf st').map (·.2)).toList ys hk (fun b o hb => ?_) ?_ h1 h2 h3⟩
  · have hlt := Heap.lt_size hb
    rw [sortedHeap_old (Nat.ne_of_lt hlt) (by rw [size_push']; exact Nat.lt_succ_of_lt hlt)]
    exact Heap.get?_push_of_some _ hb
  · obtain ⟨e, he⟩ := sortedHeap_at (out := (arrOf st').map (·.2)) hoL
    refine ⟨e, ?_⟩
    have e1 : ((arrOf st').map (·.2)).toList.toArray = (arrOf st').map (·.2) := by rw [Array.toArray_toList]
    rw [e1]
    exact he
end
theorem rising_leT : ∀ (ss : List (List Char)) (p : List Char), risingS (toS p) (ss.map toS) = true → (p :: ss).Pairwise (fun x y => leT x y = true)
  | [], p, _ => by simp
  | x :: r, p, h => by
    simp only [List.map_cons, risingS, Bool.and_eq_true] at h
    have ih := rising_leT r x h.2
    have hx : leT p x = true := by
      have := h.1
      rw [← lt_meets, toS_cps, toS_cps] at this
      exact this
    refine List.pairwise_cons.mpr ⟨fun y hy => ?_, ih⟩
    rcases List.mem_cons.mp hy with e | e
    · rw [e]; exact hx
    · exact leT_trans hx ((List.pairwise_cons.mp ih).1 y e)
theorem sortedS_leT {ss : List (List Char)} (h : sortedS (ss.map toS) = true) : ss.Pairwise (fun x y => leT x y = true) := by
  cases ss with
  | nil => exact .nil
  | cons x r => exact rising_leT r x h
def fromS (x : Str) : List Char := x.cps.toList.map Char.ofNat
theorem fromS_toS (x : List Char) : fromS (toS x) = x := by
  unfold fromS
  rw [toS_cps, List.map_map]
  have e : (Char.ofNat ∘ Char.toNat) = id := by funext c; exact Char.ofNat_toNat c
  rw [e, List.map_id]
/-- texts that are a permutation of ours, in order, are our sort -/
theorem sortT_of {ss : List (List Char)} {ys : List Str} (hp : ys.Perm (ss.map toS)) (hs : sortedS ys = true) : ys = (sortT ss).map toS := by
  obtain ⟨zs, hz⟩ : ∃ zs : List (List Char), ys = zs.map toS := by
    have : ∀ y ∈ ys, ∃ z, y = toS z := fun y hy => by
      obtain ⟨z, _, e⟩ := List.mem_map.mp (hp.mem_iff.mp hy)
      exact ⟨z, e.symm⟩
    clear hp hs
    induction ys with
    | nil => exact ⟨[], rfl⟩
    | cons y ys ih =>
      obtain ⟨z, e⟩ := this y List.mem_cons_self
      obtain ⟨zs, e2⟩ := ih fun y hy => this y (List.mem_cons_of_mem _ hy)
      exact ⟨z :: zs, by rw [List.map_cons, e, e2]⟩
  subst hz
  have hp' : zs.Perm ss := by
    have := hp.map fromS
    rw [List.map_map, List.map_map] at this
    have e : (fromS ∘ toS) = id := by funext x; exact fromS_toS x
    rw [e, List.map_id, List.map_id] at this
    exact this
  rw [sortT_uniq hp' (sortedS_leT hs)]
/-- sorted of a text, of a list of ints | texts -/
def intsO : List D → Option (List Int)
  | [] => some []
  | .int b :: ds => (intsO ds).map (b :: ·)
  | _ => none
def strsO : List D → Option (List (List Char))
  | [] => some []
  | .str b :: ds => (strsO ds).map (b :: ·)
  | _ => none
theorem ints_rep {C : Ct} {S : Ws} : ∀ {ds : List D} {bs : List Int} {vs : List V}, intsO ds = some bs → Reps C S ds vs → vs = bs.map V.int
  | [], bs, vs, h, r => by
    simp only [Reps] at r; simp only [intsO, Option.some.injEq] at h; subst h; subst r; rfl
  | d :: ds, bs, vs, h, r => by
    simp only [Reps] at r
    obtain ⟨v, vs', e, r1, r2⟩ := r
    cases d with
    | int b =>
      simp only [intsO] at h
      obtain ⟨bs', h1, h2⟩ := Option.map_eq_some_iff.mp h
      subst h2; subst e
      rw [rep_int] at r1
      rw [r1, ints_rep h1 r2]; rfl
    | _ => simp [intsO] at h
theorem strs_rep {C : Ct} {S : Ws} : ∀ {ds : List D} {bs : List (List Char)} {vs : List V}, strsO ds = some bs → Reps C S ds vs → vs = bs.map (fun x => V.str (toS x)) ∧ ∀ x ∈ bs, x.length ≤ sizeLine
  | [], bs, vs, h, r => by
    simp only [Reps] at r; simp only [strsO, Option.some.injEq] at h; subst h; subst r; exact ⟨rfl, by simp⟩
  | d :: ds, bs, vs, h, r => by
    simp only [Reps] at r
    obtain ⟨v, vs', e, r1, r2⟩ := r
    cases d with
    | str b =>
      simp only [strsO] at h
      obtain ⟨bs', h1, h2⟩ := Option.map_eq_some_iff.mp h
      subst h2; subst e
      rw [rep_str] at r1
      obtain ⟨k1, k2⟩ := strs_rep h1 r2
      refine ⟨by rw [r1.1, k1]; rfl, fun x hx => ?_⟩
      rcases List.mem_cons.mp hx with e | e
      · rw [e]; exact r1.2
      · exact k2 x e
    | _ => simp [strsO] at h
theorem rep_ints {C : Ct} {S : Ws} : ∀ (bs : List Int), Reps C S (bs.map D.int) (bs.map V.int)
  | [] => Reps.nil
  | b :: bs => Reps.cons (rep_int.mpr rfl) (rep_ints bs)
theorem rep_strs {C : Ct} {S : Ws} : ∀ (bs : List (List Char)), (∀ x ∈ bs, x.length ≤ sizeLine) → Reps C S (bs.map D.str) (bs.map fun x => V.str (toS x))
  | [], _ => Reps.nil
  | b :: bs, h => Reps.cons (rep_str.mpr ⟨rfl, h b List.mem_cons_self⟩) (rep_strs bs fun x hx => h x (List.mem_cons_of_mem _ hx))
def sortedM (d : D) : M D := fun m => match d with
  | .str x => .ok (.lst ((sortT (x.map fun c => [c])).map .str)) m
  | d => match readL m d with
    | some ds => match intsO ds with
      | some is => .ok (.lst ((sortI is).map .int)) m
      | none => match strsO ds with
        | some ss => if ss.length < 64 then .ok (.lst ((sortT ss).map .str)) m else .stuck
        | none => .stuck
    | none => .stuck
def rSortText : List V → Hp → VK → Prop := fun vs H Q => ∃ x : Str, vs = [.str x] ∧ x.length ≤ sizeLine ∧ ∀ (ys : List Str) (p : Addr), ys.Perm (x.cps.toList.map (fun c => (⟨#[c]⟩ : Str))) → sortedS ys = true → H p = none → Q (.ref p) (upd H p (.lst (ys.map V.str)))
theorem cr_sortText {X : Cx} (hc : X.calm = true) : CallR X (.builtin "sorted") rSortText := by
  intro pins s σ H vs us Q I r h
  obtain ⟨x, rfl, hl, q⟩ := h
  obtain ⟨u, e, rv⟩ := vals1 r
  obtain ⟨t, rfl⟩ := rv
  subst e
  have hh : X.A.in1.handled = none := I.ok.hd hc
  refine sorted_text hh x t hl fun h1 h' tk us ys k1 k2 he hS hp hs => ?_
  obtain ⟨ep, he⟩ := he
  have I1 : Inv X pins σ H { s with heap := h1, toks := tk } := I.kept k1
  have hlen : (ys.map V.str).length ≤ sizeLine := by
    rw [List.length_map, hp.length_eq, List.length_map]
    have : x.cps.toList.length = x.length := by simp [PySem.Str.length]
    rw [this]; exact hl
  exact ⟨.ref _, upd H h1.objs.size (.lst (ys.map V.str)), I1.laid (t' := tk) k2 (Nat.le_refl _) ⟨hlen, us, ep, vals_of_strs hS, he⟩, rfl, q ys _ hp hs (I1.hok.fresh (Nat.le_refl _))⟩
def rSortA (K : PySem.W.Frag) : List V → Hp → VK → Prop := fun vs H Q => rSortText vs H Q ∨ rSortedI K vs H Q ∨ rSortedS K vs H Q
theorem cr_sortA {X : Cx} (hc : X.calm = true) : CallR X (.builtin "sorted") (rSortA X.K) := (cr_sortText hc).or (cr_sortedI.or cr_sortedS)
section
variable {C : Ct} {S : Ws} {d : D} {v : V} {W : XK} {Q : VK}
theorem sorted_ok (w : Wf C S) (r : Rep C S d v) (h : PostE C S (sortedM d S.mu) W Q) : rSortA C.K [v] S.H Q := by
  unfold sortedM at h
  split at h
  · rename_i x
    rw [rep_str] at r
    refine .inl ⟨toS x, by rw [r.1], by rw [toS_len]; exact r.2, fun ys p hp hs hn => ?_⟩
    have e : (toS x).cps.toList.map (fun c => (⟨#[c]⟩ : Str)) = (x.map fun c => [c]).map toS := by
      rw [toS_cps, List.map_map, List.map_map]; rfl
    rw [e] at hp
    have := sortT_of hp hs
    subst this
    have hl : ((sortT (x.map fun c => [c])).map D.str).length ≤ sizeLine := by
      rw [List.length_map, (sortT_perm _).length_eq, List.length_map]; exact r.2
    rw [List.map_map]
    refine h.newL w hn hl (rep_strs _ fun y hy => ?_)
    obtain ⟨c, _, ec⟩ := List.mem_map.mp ((sortT_perm _).mem_iff.mp hy)
    subst ec; exact small16 (by simp)
  · split at h
    · rename_i ds hd
      obtain ⟨a, vs, e, f, l, rs⟩ := readL_rep w hd r
      split at h
      · rename_i is hi
        have ev := ints_rep hi rs
        subst ev; subst e
        refine .inr (.inl ⟨a, is, rfl, SqL.of f, fun ns' p hp hs hn => ?_⟩)
        rw [sortI_uniq hp hs]
        refine h.newL w hn ?_ (rep_ints _)
        rw [List.length_map, (sortI_perm is).length_eq]
        rw [rs.len, List.length_map] at l; exact l
      · split at h
        · rename_i ss hs'
          split at h
          · rename_i h64
            obtain ⟨ev, hb⟩ := strs_rep hs' rs
            subst ev; subst e
            refine .inr (.inr ⟨a, ss.map toS, rfl, SqL.of (by rw [List.map_map]; exact f), by simpa using h64, fun ys p hp hs hn => ?_⟩)
            rw [sortT_of hp hs, List.map_map]
            refine h.newL w hn ?_ (rep_strs _ fun y hy => hb y ((sortT_perm _).mem_iff.mp hy))
            rw [List.length_map, (sortT_perm ss).length_eq]
            exact Nat.le_trans (Nat.le_of_lt h64) (by decide)
          · exact h.elim
        · exact h.elim
    · exact h.elim
theorem all_ok (w : Wf C S) (r : Rep C S d v) (h : PostE C S (allM d S.mu) W Q) : rAll C.K [v] S.H Q := by
  unfold allM at h
  split at h
  · rename_i ds hd
    split at h
    · rename_i bs hb
      obtain ⟨a, vs, e, f, l, rs⟩ := readL_rep w hd r
      have := bls_rep hb rs
      subst this; subst e
      exact ⟨a, bs, rfl, SqL.of f, h.pure w (rep_bl.mpr rfl)⟩
    · exact h.elim
  · exact h.elim
theorem any_ok (w : Wf C S) (r : Rep C S d v) (h : PostE C S (anyM d S.mu) W Q) : rAny C.K [v] S.H Q := by
  unfold anyM at h
  split at h
  · rename_i ds hd
    split at h
    · rename_i bs hb
      obtain ⟨a, vs, e, f, l, rs⟩ := readL_rep w hd r
      have := bls_rep hb rs
      subst this; subst e
      exact ⟨a, bs, rfl, SqL.of f, h.pure w (rep_bl.mpr rfl)⟩
    · exact h.elim
  · exact h.elim
/-- list(x) -/
def rListText : List V → Hp → VK → Prop := fun vs H Q => ∃ x : Str, vs = [.str x] ∧ x.length ≤ sizeLine ∧ ∀ p : Addr, H p = none → Q (.ref p) (upd H p (.lst (x.cps.toList.map fun c => V.str ⟨#[c]⟩)))
end
theorem cr_listText {X : Cx} (hc : X.calm = true) : CallR X (.type "list") rListText := by
  intro pins s σ H vs us Q I r h
  obtain ⟨x, rfl, hl, q⟩ := h
  obtain ⟨u, e, rv⟩ := vals1 r
  obtain ⟨t, rfl⟩ := rv
  subst e
  refine call_list_str (hn := hl) (I.ok.hd hc) x t fun h' tk acc c' k he hi => ?_
  have hv : Vals (x.cps.toList.map fun c => V.str ⟨#[c]⟩) acc.toList := by
    have key : ∀ (l : List Value) (cs : List Nat), l.length = cs.length → (∀ (j : Nat) (v : Value), l[j]? = some v → ∃ (c : Nat) (u : Tok), cs[j]? = some c ∧ v = Value.str ⟨#[c]⟩ u) → Vals (cs.map fun c => V.str ⟨#[c]⟩) l := by
      intro l
      induction l with
      | nil => intro cs hl _; cases cs with
        | nil => exact .nil
        | cons c cs => simp at hl
      | cons v l ih =>
        intro cs hl hv
        cases cs with
        | nil => simp at hl
        | cons c cs =>
          obtain ⟨c', u, h1, h2⟩ := hv 0 v rfl
          simp at h1
          subst h1; subst h2
          exact .cons ⟨u, rfl⟩ (ih cs (by simpa using hl) fun j v hj => by
            have := hv (j + 1) v (by simpa using hj)
            simpa using this)
    refine key _ _ (by simpa using hi.1) fun j v hj => ?_
    obtain ⟨c, u, h1, h2⟩ := hi.2 j v (by simpa using hj)
    exact ⟨c, u, by simpa using h1, h2⟩
  have hlen : (x.cps.toList.map fun c => V.str ⟨#[c]⟩).length ≤ sizeLine := by
    rw [List.length_map]
    have : x.cps.toList.length = x.length := by simp [PySem.Str.length]
    rw [this]; exact hl
  refine ⟨.ref _, _, I.laid (t' := tk) k (Nat.le_refl _) (o := .lst (x.cps.toList.map fun c => V.str ⟨#[c]⟩)) ⟨hlen, acc.toList, c', hv, ?_⟩, rfl, q _ (I.hok.fresh (Nat.le_refl _))⟩
  rw [he]
def rListA (K : PySem.W.Frag) : List V → Hp → VK → Prop := fun xs H Q => rListText xs H Q ∨ (∃ p ys, xs = [.ref p] ∧ (SqL K H p ys ∨ SqT K H p ys) ∧ ∀ l, H l = none → Q (.ref l) (upd H l (.lst ys)))
theorem cr_listA {X : Cx} (hc : X.calm = true) : CallR X (.type "list") (rListA X.K) := (cr_listText hc).or call_list_of
section
variable {C : Ct} {S : Ws} {d : D} {v : V} {W : XK} {Q : VK}
theorem list_ok (w : Wf C S) (r : Rep C S d v) (h : PostE C S (listM d S.mu) W Q) : rListA C.K [v] S.H Q := by
  unfold listM at h
  split at h
  · rename_i x
    rw [rep_str] at r
    refine .inl ⟨toS x, by rw [r.1], by rw [toS_len]; exact r.2, fun p hp => ?_⟩
    have e : (toS x).cps.toList.map (fun c => V.str ⟨#[c]⟩) = (x.map fun c => [c]).map fun y => V.str (toS y) := by
      rw [toS_cps, List.map_map, List.map_map]; rfl
    have e2 : (x.map fun c => D.str [c]) = (x.map fun c => [c]).map D.str := by rw [List.map_map]; rfl
    rw [e]
    rw [e2] at h
    refine h.newL w hp (by simpa using r.2) (rep_strs _ fun y hy => ?_)
    obtain ⟨c, _, ec⟩ := List.mem_map.mp hy
    subst ec; exact small16 (by simp)
  · split at h
    · rename_i ds hd
      obtain ⟨a, vs, e, f, l, rs⟩ := readQ_rep w hd r
      exact .inr ⟨a, vs, by rw [e], f, fun p hp => h.newL w hp l rs⟩
    · exact h.elim
def rTupA (K : PySem.W.Frag) : List V → Hp → VK → Prop := fun xs H Q => ∃ p ys, xs = [.ref p] ∧ ((SqL K H p ys ∧ ∀ l, H l = none → Q (.ref l) (upd H l (.tup ys))) ∨ (SqT K H p ys ∧ Q (.ref p) H))
theorem tuple_ok (w : Wf C S) (r : Rep C S d v) (h : PostE C S (tupleM d S.mu) W Q) : rTupA C.K [v] S.H Q := by
  unfold tupleM at h
  split at h
  · obtain ⟨a, vs, e, f, l, rs⟩ := rep_tup r
    exact ⟨a, vs, by rw [e], .inr ⟨f, by have := h.pure w r; rw [← e]; exact this⟩⟩
  · obtain ⟨a, vs, e, f, l, rs⟩ := rep_wtp r
    exact ⟨a, vs, by rw [e], .inr ⟨f, by have := h.pure w r; rw [← e]; exact this⟩⟩
  · split at h
    · rename_i ds hd
      obtain ⟨a, vs, e, f, l, rs⟩ := readL_rep w hd r
      exact ⟨a, vs, by rw [e], .inl ⟨SqL.of f, fun p hp => h.newT w hp l rs⟩⟩
    · exact h.elim
def rIntA : List V → Hp → VK → Prop := fun xs H Q => (∃ i, xs = [.int i] ∧ Q (.int i) H) ∨ ∃ k, xs = [.bl k] ∧ Q (.int (if k then 1 else 0)) H
theorem int_ok (w : Wf C S) (r : Rep C S d v) (h : PostE C S (intM d S.mu) W Q) : rIntA [v] S.H Q := by
  unfold intM at h
  split at h
  · rw [rep_int] at r; exact .inl ⟨_, by rw [r], h.pure w (rep_int.mpr rfl)⟩
  · rw [rep_bl] at r; exact .inr ⟨_, by rw [r], h.pure w (rep_int.mpr rfl)⟩
  · exact h.elim
end
end Fs

/-! FsL: statements. -/
namespace Fs
open PySem PySem.Spec PyProof.Rows L2
open Classical

def PostS (C : Ct) (S : Ws) (r : RS) (W : WX) (D : Ends) : Prop :=
  match r with
  | none => False
  | some (fl, m) => ∀ S', S'.mu = m → Wf C S' → Step S S' → (match fl with
    | .nxt r' => ∀ σ', SRep C S' r' σ' → D.nx σ' S'.H
    | .brk r' => ∀ σ', SRep C S' r' σ' → D.bk σ' S'.H
    | .cnt r' => ∀ σ', SRep C S' r' σ' → D.ct σ' S'.H
    | .ret d => ∀ v, Rep C S' d v → D.rt v S'.H
    | .exc c ks ds r' => ∀ σ' dx, SRep C S' r' σ' → ExcAt C S' ks ds dx → W (.ref (He.ga C.K (C.nm c))) (some dx) σ' S'.H)
def dnS (C : Ct) (f : Env → Store → RS) (W : WX) : TS := fun D σ H => ∃ r S, S.H = H ∧ Wf C S ∧ SRep C S r σ ∧ PostS C S (f r S.mu) W D
def SS (C : Ct) (X : Cx) (st : Stmt) (m : MS) : Prop := ∀ W, Takes X W → PS X st (dnS C (evS m) W)
def SSs (C : Ct) (X : Cx) (st : List Stmt) (m : MSs) : Prop := ∀ W, Takes X W → PSs X st (dnS C (evSs m) W)
section
variable {C : Ct} {X : Cx}
theorem PostS.step {S S' : Ws} (st : Step S S') {r : RS} {W : WX} {D : Ends} (h : PostS C S r W D) : PostS C S' r W D := by
  cases r with
  | none => exact h
  | some p => obtain ⟨fl, m⟩ := p; exact fun S2 e w s => h S2 e w (st.trans s)
theorem dnS_intro {f : Env → Store → RS} {W : WX} {σ : L2.St} {S : Ws} {D : Ends} (r : Env) (w : Wf C S) (sr : SRep C S r σ) (h : PostS C S (f r S.mu) W D) : dnS C f W D σ S.H := ⟨r, S, rfl, w, sr, h⟩
theorem PostS.nxt {S : Ws} {r : Env} {W : WX} {D : Ends} {σ : L2.St} (h : PostS C S (some (.nxt r, S.mu)) W D) (w : Wf C S) (sr : SRep C S r σ) : D.nx σ S.H := h S rfl w (Step.refl S) σ sr
/-- an expression within a statement -/
theorem thenS_ok {S : Ws} {x : M D} {r : Env} {σ : L2.St} {k : D → Store → RS} {W : WX} {D : Ends} (sr : SRep C S r σ) (h : PostS C S (thenS x r S.mu k) W D) :
    PostE C S (x S.mu) (fun c d H' => W c d σ H') (fun v H' => ∃ S' d, S'.H = H' ∧ Wf C S' ∧ Step S S' ∧ Rep C S' d v ∧ PostS C S' (k d S'.mu) W D) := by
  unfold thenS at h
  cases e : x S.mu with
  | ok d m =>
    rw [e] at h
    intro S' v em w st rd
    subst em
    exact ⟨S', d, rfl, w, st, rd, h.step st⟩
  | exc c ks vs m =>
    rw [e] at h
    intro S' dx em w st ea
    exact h S' em w st σ dx (sr.mono st) ea
  | stuck => rw [e] at h; exact h
theorem thenS_okT {S : Ws} {x : M Bool} {r : Env} {σ : L2.St} {k : Bool → Store → RS} {W : WX} {D : Ends} (sr : SRep C S r σ) (h : PostS C S (thenS x r S.mu k) W D) :
    PostT C S (x S.mu) (fun c d H' => W c d σ H') (fun b H' => ∃ S', S'.H = H' ∧ Wf C S' ∧ Step S S' ∧ PostS C S' (k b S'.mu) W D) := by
  unfold thenS at h
  cases e : x S.mu with
  | ok d m =>
    rw [e] at h
    intro S' em w st
    subst em
    exact ⟨S', rfl, w, st, h.step st⟩
  | exc c ks vs m =>
    rw [e] at h
    intro S' dx em w st ea
    exact h S' em w st σ dx (sr.mono st) ea
  | stuck => rw [e] at h; exact h

theorem ss_exp {e : Expr} {me : ME} {pos : Pos} (he : SE C X e me) (hs : swapsWith e none pos.line X.env = pure false) : SS C X (.Expr e pos) (.exp me) := fun W tk =>
  PSw (ps_expr (he W tk) hs) fun D σ H ⟨r, S, hH, w, sr, h⟩ => by
    subst hH
    simp only [evS] at h
    refine dnE_intro r w sr ((thenS_ok sr h).imp fun v1 H1 q1 => ?_)
    obtain ⟨S1, d1, e1, w1, st1, r1, h1⟩ := q1
    subst e1
    exact h1.nxt w1 (sr.mono st1)
theorem ss_doc {x : Str} {j : Nat} {pos pos' : Pos} : SS C X (.Expr (.Constant (.str x) j pos) pos') .pass := fun W tk =>
  PSw ps_doc fun D σ H ⟨r, S, hH, w, sr, h⟩ => by
    subst hH
    simp only [evS] at h
    exact h.nxt w sr
theorem ss_pass {pos : Pos} : SS C X (.Pass pos) .pass := fun W tk =>
  PSw ps_pass fun D σ H ⟨r, S, hH, w, sr, h⟩ => by
    subst hH
    simp only [evS] at h
    exact h.nxt w sr
theorem ss_brk {pos : Pos} : SS C X (.Break pos) .brk := fun W tk =>
  PSw ps_break fun D σ H ⟨r, S, hH, w, sr, h⟩ => by
    subst hH
    simp only [evS] at h
    exact h S rfl w (Step.refl S) σ sr
theorem ss_cnt {pos : Pos} : SS C X (.Continue pos) .cnt := fun W tk =>
  PSw ps_continue fun D σ H ⟨r, S, hH, w, sr, h⟩ => by
    subst hH
    simp only [evS] at h
    exact h S rfl w (Step.refl S) σ sr
theorem ss_ret {e : Expr} {me : ME} {pos : Pos} (he : SE C X e me) : SS C X (.Return (some e) pos) (.ret me) := fun W tk =>
  PSw (ps_ret (he W tk)) fun D σ H ⟨r, S, hH, w, sr, h⟩ => by
    subst hH
    simp only [evS] at h
    refine dnE_intro r w sr ((thenS_ok sr h).imp fun v1 H1 q1 => ?_)
    obtain ⟨S1, d1, e1, w1, st1, r1, h1⟩ := q1
    subst e1
    exact h1 S1 rfl w1 (Step.refl S1) v1 r1
theorem ss_retN {pos : Pos} : SS C X (.Return none pos) .retN := fun W tk =>
  PSw ps_retN fun D σ H ⟨r, S, hH, w, sr, h⟩ => by
    subst hH
    simp only [evS] at h
    exact h S rfl w (Step.refl S) .non (rep_non.mpr rfl)
theorem ss_if {c : Expr} {a b : List Stmt} {mc : MT} {ma mb : MSs} {pos : Pos} (hc : ST C X c mc) (ha : SSs C X a ma) (hb : SSs C X b mb) : SS C X (.If c a b pos) (.ite mc ma mb) := fun W tk =>
  PSw (ps_if (hc W tk) (ha W tk) (hb W tk)) fun D σ H ⟨r, S, hH, w, sr, h⟩ => by
    subst hH
    simp only [evS] at h
    refine dnT_intro r w sr ((thenS_okT sr h).imp fun k H1 q1 => ?_)
    obtain ⟨S1, e1, w1, st1, h1⟩ := q1
    subst e1
    split
    · rename_i z; rw [if_pos z] at h1; exact dnS_intro r w1 (sr.mono st1) h1
    · rename_i z; rw [if_neg z] at h1; exact dnS_intro r w1 (sr.mono st1) h1
theorem sss_nil : SSs C X [] .nil := fun W tk =>
  PSsw pss_nil fun D σ H ⟨r, S, hH, w, sr, h⟩ => by
    subst hH
    simp only [evSs] at h
    exact h.nxt w sr
theorem PostS.seq {S : Ws} {x : RS} {k : Env → Store → RS} {W : WX} {D : Ends} (h : PostS C S (match x with
    | some (.nxt r', m') => k r' m'
    | o => o) W D) : PostS C S x W { D with nx := fun σ' H' => ∃ r' S', S'.H = H' ∧ Wf C S' ∧ SRep C S' r' σ' ∧ PostS C S' (k r' S'.mu) W D } := by
  cases x with
  | none => exact h
  | some p =>
    obtain ⟨fl, m⟩ := p
    cases fl with
    | nxt r' =>
      intro S' em w st σ' sr
      subst em
      exact ⟨r', S', rfl, w, sr, PostS.step st h⟩
    | ret d => exact h
    | brk r' => exact h
    | cnt r' => exact h
    | exc c ks vs r' => exact h
theorem sss_cons {s : Stmt} {ss : List Stmt} {ms : MS} {mss : MSs} (hs : SS C X s ms) (hss : SSs C X ss mss) : SSs C X (s :: ss) (.cons ms mss) := fun W tk =>
  PSsw (pss_cons (hs W tk) (hss W tk)) fun D σ H ⟨r, S, hH, w, sr, h⟩ => by
    subst hH
    simp only [evSs] at h
    exact dnS_intro r w sr (PostS.seq h)
/-- targets within statements -/
theorem asg_ok {S : Ws} {g : MG} {d : D} {v : V} {r : Env} {σ : L2.St} {W : WX} {D : Ends} (w : Wf C S) (sr : SRep C S r σ) (rd : Rep C S d v) (h : PostS C S ((asgG g d r).map fun r' => (Fl.nxt r', S.mu)) W D) : dnG C g v σ S.H D.nx := by
  refine ⟨d, r, S, rfl, w, sr, rd, ?_⟩
  cases e : asgG g d r with
  | none => rw [e] at h; exact h
  | some r' =>
    rw [e] at h
    exact fun σ' s1 _ _ => h S rfl w (Step.refl S) σ' s1
theorem ss_asg {tg e : Expr} {g : MG} {me : ME} {pos : Pos} (he : SE C X e me) (hg : SG C X tg g) (hs : swapsWithSole [tg] e pos.line X.env = pure false) (hw : swappedStores [tg] e X.env = pure none) (h1 : (assignEach [tg] X.env).map (·.2) = [assign tg X.env]) :
    SS C X (.Assign [tg] e pos) (.set g me) := fun W tk =>
  PSw (ps_asg (he W tk) hg hs hw h1) fun D σ H ⟨r, S, hH, w, sr, h⟩ => by
    subst hH
    simp only [evS] at h
    refine dnE_intro r w sr ((thenS_ok sr h).imp fun v1 H1 q1 => ?_)
    obtain ⟨S1, d1, e1, w1, st1, r1, h1⟩ := q1
    subst e1
    exact asg_ok w1 (sr.mono st1) r1 h1
theorem ss_set {i : Nat} {x : Str} {e : Expr} {me : ME} {pos pos' : Pos} (hN : X.N.Nodup) (hi : X.N[i]? = some x) (hx : Loc X.env.scope x) (hf : X.fn x = true ∨ X.env.scope.names.lookup x = some .local) (he : SE C X e me) (hs : swapsWith e (some (.Name x pos')) pos.line X.env = pure false) :
    SS C X (.Assign [.Name x pos'] e pos) (.set (.nm i) me) := fun W tk =>
  PSw (ps_set hN hi hx (he W tk) hs hf) fun D σ H ⟨r, S, hH, w, sr, h⟩ => by
    subst hH
    simp only [evS] at h
    refine dnE_intro r w sr ((thenS_ok sr h).imp fun v1 H1 q1 => ?_)
    obtain ⟨S1, d1, e1, w1, st1, r1, h1⟩ := q1
    subst e1
    simp only [asgG, Option.map_some] at h1
    exact h1.nxt w1 ((sr.mono st1).set r1)
theorem pair_ap {a b : ME} {r : Env} {m : Store} : (do let x ← ev a r; let y ← ev b r; pure (x, y) : M (D × D)) m = (match ev a r m with
    | .ok x m1 => (match ev b r m1 with
      | .ok y m2 => .ok (x, y) m2
      | .exc c ks vs m2 => .exc c ks vs m2
      | .stuck => .stuck)
    | .exc c ks vs m1 => .exc c ks vs m1
    | .stuck => .stuck) := by
  simp only [M.bind_ap]
  cases ev a r m with
  | ok x m1 => cases e : ev b r m1 <;> simp [e]
  | exc c ks vs m1 => rfl
  | stuck => rfl
theorem ss_par {i j : Nat} {x y : Str} {a b : Expr} {ma mb : ME} {px py pt pos pt2 : Pos} {kt k2 : Nat} (hc : X.calm = true) (hN : X.N.Nodup) (hi : X.N[i]? = some x) (hj : X.N[j]? = some y) (hij : i ≠ j)
    (hx : X.env.scope.names.lookup x = some .local) (hy : X.env.scope.names.lookup y = some .local) (ha : SE C X a ma) (hb : SE C X b mb) (hs1 : starEach [a, b] X.env = (false, eval a X.env) :: starEach [b] X.env) (hs2 : starEach [b] X.env = (false, eval b X.env) :: starEach [] X.env)
    (hw : swappedStores [.Tuple [.Name x px, .Name y py] kt pt] (.Tuple [a, b] k2 pt2) X.env = pure (some [x, y]))
    (hs : swapsWithSole [.Tuple [.Name x px, .Name y py] kt pt] (.Tuple [a, b] k2 pt2) pos.line X.env = pure false) :
    SS C X (.Assign [.Tuple [.Name x px, .Name y py] kt pt] (.Tuple [a, b] k2 pt2) pos) (.par i j ma mb) := fun W tk =>
  PSw (ps_par hc hN hi hj hij hx hy (pa_cons (ha W tk) (pa_cons (hb W tk) pa_nil hs2) hs1) hw hs) fun D σ H ⟨r, S, hH, w, sr, h⟩ => by
    subst hH
    simp only [evS, thenS, pair_ap] at h
    refine dnE_intro r w sr ?_
    cases e1 : ev ma r S.mu with
    | stuck => rw [e1] at h; exact h
    | exc c ks vs m => rw [e1] at h; exact fun S' dx em w' st ea => h S' em w' st σ dx (sr.mono st) ea
    | ok d1 m1 =>
      rw [e1] at h
      intro S1 v1 em1 w1 st1 r1
      subst em1
      have h1 := PostS.step st1 h
      refine dnE_intro r w1 (sr.mono st1) ?_
      simp only at h1
      cases e2 : ev mb r S1.mu with
      | stuck => rw [e2] at h1; exact h1
      | exc c ks vs m => rw [e2] at h1; exact fun S' dx em w' st ea => h1 S' em w' st σ dx ((sr.mono st1).mono st) ea
      | ok d2 m2 =>
        rw [e2] at h1
        intro S2 v2 em2 w2 st2 r2
        subst em2
        refine ⟨v1, v2, rfl, ?_⟩
        exact h1 S2 rfl w2 st2 _ ((((sr.mono st1).mono st2).set (r1.mono st2)).set r2)
theorem pip_of {op : Operator} {r : R2} (h : OpR X (inplaceOp op) r) : PIp X op (fun x y H Q => r x y H Q) := fun pins s σ H x y v u Q I rx ry q => h pins s σ H x y v u Q I rx ry q
theorem aug_core {i : Nat} {o : Bop} {me : ME} {W : WX} {D : Ends} {σ : L2.St} {S : Ws} {r : Env} {rr : R2} (w : Wf C S) (sr : SRep C S r σ) (h : PostS C S (evS (.aug i o me) r S.mu) W D)
    (ho : ∀ (S : Ws) d0 d1 v0 v1 (W : XK) (Q : VK), Wf C S → Rep C S d0 v0 → Rep C S d1 v1 → PostE C S (augM o d0 d1 S.mu) W Q → rr v0 v1 S.H Q) :
    tAug i (dnE C (ev me) W) (fun x y H Q => rr x y H Q) D σ S.H := by
  simp only [evS, varM, M.bind_ap, thenS] at h
  cases e0 : r[i]? with
  | none => rw [e0] at h; exact h.elim
  | some o' =>
    cases o' with
    | none => rw [e0] at h; exact h.elim
    | some d0 =>
      rw [e0] at h
      simp only at h
      obtain ⟨v0, h1, h2⟩ := sr.at_ i d0 e0
      refine ⟨v0, h1, dnE_intro r w sr ?_⟩
      cases e1 : ev me r S.mu with
      | stuck => rw [e1] at h; exact h
      | exc c ks vs m => rw [e1] at h; exact fun S' dx em w' st ea => h S' em w' st σ dx (sr.mono st) ea
      | ok d1 m1 =>
        rw [e1] at h
        intro S1 v1 em1 w1 st1 r1
        subst em1
        have h' := PostS.step st1 h
        refine ho S1 d0 d1 v0 v1 (fun c d H' => W c d σ H') _ w1 (h2.mono st1) r1 ?_
        simp only at h'
        cases ea : augM o d0 d1 S1.mu with
        | stuck => rw [ea] at h'; exact h'
        | exc c ks vs m => rw [ea] at h'; exact fun S' dx em w' st ea => h' S' em w' st σ dx ((sr.mono st1).mono st) ea
        | ok d2 m2 =>
          rw [ea] at h'
          intro S2 v2 em2 w2 st2 r2
          exact h' S2 em2 w2 st2 _ (((sr.mono st1).mono st2).set r2)
theorem ss_augA {i : Nat} {x : Str} {e : Expr} {me : ME} {pos pos' : Pos} (hN : X.N.Nodup) (hi : X.N[i]? = some x) (hx : Loc X.env.scope x) (hf : X.fn x = true ∨ X.env.scope.names.lookup x = some .local) (he : SE C X e me) :
    SS C X (.AugAssign (.Name x pos') .Add e pos) (.aug i .add me) := fun W tk =>
  PSw (ps_aug hN hi hx (he W tk) (pip_of (iop_add.or iop_add_str)) hf) fun D σ H ⟨r, S, hH, w, sr, h⟩ => by
    subst hH
    refine aug_core w sr h fun S d0 d1 v0 v1 W Q w r0 r1 h => ?_
    simp only [augM] at h
    split at h
    · rw [rep_int] at r0 r1; exact .inl ⟨_, _, r0, r1, h.pure w (rep_int.mpr rfl)⟩
    · split at h
      · rename_i hl
        rw [rep_str] at r0 r1
        refine .inr ⟨_, _, r0.1, r1.1, by rw [toS_len, toS_len]; exact hl, ?_⟩
        rw [toS_app]
        exact h.pure w (rep_str.mpr ⟨rfl, by rw [List.length_append]; exact hl⟩)
      · exact h.elim
    · exact h.elim
theorem ss_augS {i : Nat} {x : Str} {e : Expr} {me : ME} {pos pos' : Pos} (hN : X.N.Nodup) (hi : X.N[i]? = some x) (hx : Loc X.env.scope x) (hf : X.fn x = true ∨ X.env.scope.names.lookup x = some .local) (he : SE C X e me) :
    SS C X (.AugAssign (.Name x pos') .Sub e pos) (.aug i .sub me) := fun W tk =>
  PSw (ps_aug hN hi hx (he W tk) (pip_of iop_sub) hf) fun D σ H ⟨r, S, hH, w, sr, h⟩ => by
    subst hH
    refine aug_core w sr h fun S d0 d1 v0 v1 W Q w r0 r1 h => ?_
    simp only [augM] at h
    split at h
    · rw [rep_int] at r0 r1; exact ⟨_, _, r0, r1, h.pure w (rep_int.mpr rfl)⟩
    · exact h.elim
/-! ### loops -/
theorem ss_for {tg iter : Expr} {body : List Stmt} {g : MG} {s : MI} {mb : MSs} {pos : Pos} (hp : PassesOwn (model X.prog X.w) X.A X.env X.xe) (hc : X.calm = true) (hi : SI C X tg iter s) (hg : SG C X tg g) (hb : SSs C X body mb)
    (hs : ∀ x, foldedSetIterable iter X.env x = pure x) : SS C X (.For tg iter body [] pos) (.for_ g s mb) := fun W tk =>
  PSw (ps_for hp hc (hi W tk) hg (hb W tk) hs) fun D σ H ⟨r, S, hH, w, sr, h⟩ => by
    subst hH
    simp only [evS, thenS] at h
    refine ⟨r, S, rfl, w, sr, ?_⟩
    cases e1 : evI s r S.mu with
    | stuck => rw [e1] at h; exact h
    | exc c ks vs m => rw [e1] at h; exact fun S' dx em w' st ea => h S' em w' st σ dx (sr.mono st) ea
    | ok t m1 =>
    rw [e1] at h
    intro S1 J em w1 st1 src
    subst em
    simp only at h
    generalize hbd : (fun d r m => match asgG g d r with
      | some r' => evSs mb r' m
      | none => none : Fs.D → Env → Store → RS) = bd at h
    obtain ⟨G, Y, wk, hG, hY⟩ := src.ex
    refine for_it wk (fun i σ H => ∃ (S' : Ws) (r' : Env), S'.H = H ∧ Wf C S' ∧ Step S1 S' ∧ SRep C S' r' σ ∧ PostS C S' (forM t bd (t.ds.drop i) r' S'.mu) W D) ?_ ?_ ?_ ?_
    · exact ⟨S1, r, rfl, w1, Step.refl S1, sr.mono st1, PostS.step st1 h⟩
    · rintro i σ H hi ⟨S', r', rfl, w', st', sr', h'⟩
      refine hG S' w' st'.toStep0 ?_
      cases hd : t.ds.drop i with
      | nil =>
        rw [hd] at h'
        simp only [forM] at h'
        split at h'
        · assumption
        · exact h'.elim
      | cons d ds =>
        rw [hd] at h'
        simp only [forM] at h'
        split at h'
        · assumption
        · exact h'.elim
    · rintro i x σ H H' hi ⟨S', r', rfl, w', st', sr', h'⟩ y
      have hdr : t.ds.drop i = t.ds[i] :: t.ds.drop (i + 1) := List.drop_eq_getElem_cons hi
      rw [hdr] at h'
      simp only [forM] at h'
      split at h'
      · rename_i ok
        obtain ⟨S3, d, eH, emu, w3, st3, hdi, rd⟩ := hY i x S' H' hi w' st'.toStep0 ok y
        rw [List.getElem?_eq_getElem hi] at hdi
        cases hdi
        subst eH
        refine ⟨t.ds[i], r', S3, rfl, w3, sr'.mono st3, rd, ?_⟩
        have h3 := PostS.step st3 h'
        rw [← emu] at h3
        subst hbd
        simp only at h3
        cases ea : asgG g t.ds[i] r' with
        | none => rw [ea] at h3; exact h3.elim
        | some r2 =>
          rw [ea] at h3
          intro σ' s1 _ _
          refine dnS_intro r2 w3 s1 ?_
          simp only at h3
          have st13 := st'.trans st3
          cases eb : evSs mb r2 S3.mu with
          | none => rw [eb] at h3; exact h3
          | some p =>
            obtain ⟨fl, m⟩ := p
            rw [eb] at h3
            cases fl with
            | nxt r5 =>
              intro S5 em w5 st5 σ5 sr5
              subst em
              exact ⟨S5, r5, rfl, w5, st13.trans st5, sr5, PostS.step st5 h3⟩
            | cnt r5 =>
              intro S5 em w5 st5 σ5 sr5
              subst em
              exact ⟨S5, r5, rfl, w5, st13.trans st5, sr5, PostS.step st5 h3⟩
            | brk r5 => exact h3
            | ret d => exact h3
            | exc c ks vs r5 => exact h3
      · exact h'.elim
    · rintro σ H ⟨S', r', rfl, w', st', sr', h'⟩
      rw [List.drop_length] at h'
      simp only [forM] at h'
      split at h'
      · exact h'.nxt w' sr'
      · exact h'.elim
theorem ss_while {n : Nat} {c : Expr} {body : List Stmt} {mc : MT} {mb : MSs} {pos : Pos} (hp : PassesOwn (model X.prog X.w) X.A X.env X.xe) (hc : ST C X c mc) (hb : SSs C X body mb) : SS C X (.While c body [] pos) (.while_ n mc mb) := fun W tk =>
  PSw (ps_while hp (hc W tk) (hb W tk)) fun D σ H ⟨r, S, hH, w, sr, h⟩ => by
    subst hH
    simp only [evS] at h
    refine ⟨fun m σ H => ∃ r S, S.H = H ∧ Wf C S ∧ SRep C S r σ ∧ PostS C S (whileM (evT mc) (evSs mb) m r S.mu) W D, ⟨n, r, S, rfl, w, sr, h⟩, ?_⟩
    rintro m σ H ⟨r, S, rfl, w, sr, h⟩
    cases m with
    | zero => exact h.elim
    | succ m =>
      simp only [whileM] at h
      refine dnT_intro r w sr ?_
      cases e1 : evT mc r S.mu with
      | stuck => rw [e1] at h; exact h
      | exc c ks vs m => rw [e1] at h; exact fun S' dx em w' st ea => h S' em w' st σ dx (sr.mono st) ea
      | ok b m1 =>
        rw [e1] at h
        intro S1 em1 w1 st1
        subst em1
        have h1 := PostS.step st1 h
        cases b with
        | false =>
          rw [if_neg Bool.false_ne_true]
          exact h1.nxt w1 (sr.mono st1)
        | true =>
          rw [if_pos rfl]
          refine ⟨fun σ' H' => ∃ r S, S.H = H' ∧ Wf C S ∧ SRep C S r σ' ∧ PostS C S (whileM (evT mc) (evSs mb) m r S.mu) W D, fun σ' H' q => ⟨m, Nat.lt_succ_self m, q⟩, dnS_intro r w1 (sr.mono st1) ?_⟩
          simp only at h1
          cases eb : evSs mb r S1.mu with
          | none => rw [eb] at h1; exact h1
          | some p =>
            obtain ⟨fl, m2⟩ := p
            rw [eb] at h1
            cases fl with
            | nxt r5 =>
              intro S5 em w5 st5 σ5 sr5
              subst em
              exact ⟨r5, S5, rfl, w5, sr5, PostS.step st5 h1⟩
            | cnt r5 =>
              intro S5 em w5 st5 σ5 sr5
              subst em
              exact ⟨r5, S5, rfl, w5, sr5, PostS.step st5 h1⟩
            | brk r5 => exact h1
            | ret d => exact h1
            | exc c ks vs r5 => exact h1
end
end Fs

/-! FsM: cells given up, stores into cells, methods of built-in types, isinstance, defs. -/
namespace Fs
open PySem PySem.Spec PyProof.Rows L2
open Classical

section
variable {C : Ct} {X : Cx}
theorem frz_ok {S : Ws} {d : D} {v : V} {W : XK} {Q : VK} (w : Wf C S) (r : Rep C S d v) (h : PostE C S (frzM d S.mu) W Q) : Q v S.H := by
  have plainCase : (∀ n, d ≠ .obj n) → Q v S.H := fun hn => by
    have e : frzM d S.mu = .ok d S.mu := by
      unfold frzM; cases d <;> first | rfl | exact absurd rfl (hn _)
    rw [e] at h
    exact h.pure w r
  cases d with
  | obj n =>
    simp only [Rep] at r
    obtain ⟨a, ha, e⟩ := r
    subst e
    simp only [frzM] at h
    cases q : S.mu[n]? with
    | none => rw [q] at h; exact h.elim
    | some c =>
      rw [q] at h
      have z := w.cell n c a q ha
      have st : Step S (S.drop n) := Step.drop
      cases c with
      | dead => exact h.elim
      | tab _ => exact h.elim
      | lst ds =>
        obtain ⟨vs, h1, l, h2⟩ := z
        exact h (S.drop n) _ rfl w.drop st (rep_lst_new ⟨h1, drop_notL w q rfl ha⟩ l (h2.mono st))
      | dct t ks ds =>
        have nl := drop_notL w q rfl ha
        refine h (S.drop n) _ rfl w.drop st ?_
        simp only [Rep]
        refine ⟨a, rfl, ?_⟩
        simp only [CellAt] at z
        split at z
        · rename_i ht; rw [if_pos ht]; obtain ⟨x, q1, k, r⟩ := z; exact ⟨x, ⟨q1, nl⟩, k, r.mono st⟩
        · rename_i ht; rw [if_neg ht]; obtain ⟨x, q1, k, r⟩ := z; exact ⟨x, ⟨q1, nl⟩, k, r.mono st⟩
      | ins c ks ds =>
        obtain ⟨dx, fvs, q1, k, r⟩ := z
        refine h (S.drop n) _ rfl w.drop st ?_
        simp only [Rep]
        exact ⟨a, dx, fvs, rfl, ⟨q1, drop_notL w q rfl ha⟩, k, r.mono st⟩
  | _ => exact plainCase (by intro n e; cases e)
theorem se_frz {e : Expr} {m : ME} (h : SE C X e m) : SE C X e (.frz m) := fun W tk =>
  PEw (h W tk) fun σ H Q ⟨r, S, hH, w, sr, q⟩ => by
    subst hH
    simp only [ev] at q
    refine dnE_intro r w sr (q.bind.imp fun v1 H1 q1 => ?_)
    obtain ⟨S1, d1, e1, w1, st1, r1, h1⟩ := q1
    subst e1
    exact frz_ok w1 r1 h1

/-! ### stores into cells -/
def rSetA : V → V → V → Hp → (Hp → Prop) → Prop := fun o i v H Q => rSetL o i v H Q ∨ ∃ a H', o = .ref a ∧ DPut H a i v H' ∧ Q H'
theorem set_all (hu : X.A.units + 1 < cLine) : PSet X rSetA := by
  intro pins s σ H o i v ov iv u Q I ro ri rv h
  rcases h with h | ⟨a, H', e, g, q⟩
  · exact set_list pins s σ H o i v ov iv u Q I ro ri rv h
  · subst e
    obtain rfl : ov = Value.ref a := ro
    exact d_setItem hu I g ri rv fun s4 I4 => ⟨H', I4, q⟩
def PostU (C : Ct) (S : Ws) (r : R Unit) (W : XK) (Q : Hp → Prop) : Prop :=
  match r with
  | .ok _ m => ∀ S', S'.mu = m → Wf C S' → Step S S' → Q S'.H
  | .exc c ks ds m => ∀ S' dx, S'.mu = m → Wf C S' → Step S S' → ExcAt C S' ks ds dx → W (.ref (He.ga C.K (C.nm c))) (some dx) S'.H
  | .stuck => False
theorem idxK_any {κ : Type} [DecidableEq κ] (k : κ) : ∀ kvs : List (κ × V), (kvs.any fun kv => decide (kv.1 = k)) = (idxK k (kvs.map fun p => some p.1)).isSome
  | [] => rfl
  | p :: r => by
    simp only [List.any_cons, List.map_cons, idxK]
    by_cases e : p.1 = k
    · simp [e]
    · have e2 : ¬ (some p.1 = some k) := by simpa using e
      rw [if_neg e2, idxK_any k r]
      simp [e]
theorem putK_rep {S : Ws} {κ : Type} [DecidableEq κ] {k : κ} {e : D} {v : V} (re : Rep C S e v) : ∀ {kvs : List (κ × V)} {vs : List D}, Reps C S vs (kvs.map (·.2)) →
    Reps C S (putV k e (kvs.map fun p => some p.1) vs) ((kvs.map fun kv => if kv.1 = k then (kv.1, v) else kv).map (·.2))
  | [], vs, h => by
    have : vs = [] := by
      have := h.len; simpa using this
    subst this
    simpa [putV] using Reps.nil
  | p :: r, vs, h => by
    cases vs with
    | nil => have := h.len; simp at this
    | cons d ds =>
      simp only [List.map_cons, Reps] at h
      obtain ⟨v', vs', e', r1, r2⟩ := h
      cases e'
      simp only [List.map_cons, putV]
      refine Reps.cons ?_ (putK_rep re r2)
      by_cases hk : p.1 = k
      · rw [if_pos (by rw [hk]), if_pos hk]; exact re
      · rw [if_neg (by simpa using hk), if_neg hk]; exact r1
theorem putK_keys {κ : Type} [DecidableEq κ] (k : κ) (v : V) (kvs : List (κ × V)) : (kvs.map fun kv => if kv.1 = k then (kv.1, v) else kv).map (·.1) = kvs.map (·.1) := by
  induction kvs with
  | nil => rfl
  | cons p r ih =>
    simp only [List.map_cons, ih]
    congr 1
    split <;> rfl
theorem map_some_fst {κ : Type} (kvs : List (κ × V)) : (kvs.map fun p => some p.1) = (kvs.map (·.1)).map some := by simp
theorem setSub_ok {S : Ws} {o i e : D} {ov iv ev : V} {W : XK} {Q : Hp → Prop} (w : Wf C S) (ro : Rep C S o ov) (ri : Rep C S i iv) (re : Rep C S e ev) (h : PostU C S (setSubM o i e S.mu) W Q) : rSetA ov iv ev S.H Q := by
  unfold setSubM at h
  split at h
  · rename_i n
    simp only [Rep] at ro
    obtain ⟨a, ha, eo⟩ := ro
    split at h
    · rename_i ds hm
      obtain ⟨vs, h1, l, h2⟩ := w.cell n _ a hm ha
      split at h
      · rename_i k
        split at h
        · rename_i j hj
          rw [rep_int] at ri
          left
          refine ⟨a, vs, k, j, eo, ri, h1, by rw [← h2.len]; exact hj, ?_⟩
          have st : Step S (S.put n a (.lst (vs.set j ev)) (.lst (ds.set j e))) := Step.put w hm rfl ha
          exact h (S.put n a (.lst (vs.set j ev)) (.lst (ds.set j e))) rfl (w.put hm rfl ha ⟨_, upd_same, by rw [List.length_set]; exact l, (h2.mono st).set (re.mono st) j⟩) st
        · exact h.elim
      · exact h.elim
    · rename_i t ks vs hm
      have z := w.cell n _ a hm ha
      simp only [CellAt] at z
      right
      cases t with
      | true =>
        simp only [if_true] at z
        obtain ⟨kvs, h1, h2, h3⟩ := z
        have hlen : kvs.length = ks.length := by
          have := congrArg List.length h2; simpa using this.symm
        simp only [lookD, putD, if_true] at h
        cases i with
        | tup is =>
          simp only at h
          cases hk : dKeyT (.tup is) with
          | none => rw [hk] at h; exact h.elim
          | some k =>
            rw [hk] at h
            simp only [Option.map_some] at h
            simp only [Rep] at ri
            obtain ⟨b, us, eb, f, _, q⟩ := ri
            have eu := kVs_rep (by simpa only [dKeyT] using hk) q
            subst eu
            rw [h2] at h
            refine ⟨a, upd S.H a (.dT (putK kvs k ev)), eo, ?_⟩
            have any := idxK_any k kvs
            cases hx : idxK k (kvs.map fun p => some p.1) with
            | some j =>
              rw [hx] at h any
              simp only at h
              split at h
              · rename_i hl
                refine ⟨by rw [eb]; exact DPut.t h1 f.1 (by rw [hlen]; exact hl), ?_⟩
                have ep : putK kvs k ev = kvs.map fun kv => if kv.1 = k then (kv.1, ev) else kv := by unfold putK; rw [any]; rfl
                rw [ep]
                have st : Step S (S.put n a (.dT (kvs.map fun kv => if kv.1 = k then (kv.1, ev) else kv)) (.dct true ks (putV k e (kvs.map fun p => some p.1) vs))) := Step.put w hm rfl ha
                refine h _ rfl (w.put hm rfl ha ?_) st
                simp only [CellAt, if_true]
                exact ⟨_, upd_same, by rw [h2, map_some_fst, map_some_fst, putK_keys], putK_rep (re.mono st) (h3.mono st)⟩
              · exact h.elim
            | none =>
              rw [hx] at h any
              simp only at h
              split at h
              · rename_i hl
                refine ⟨by rw [eb]; exact DPut.t h1 f.1 (by rw [hlen]; exact hl), ?_⟩
                have ep : putK kvs k ev = kvs ++ [(k, ev)] := by unfold putK; rw [any]; rfl
                rw [ep]
                have st : Step S (S.put n a (.dT (kvs ++ [(k, ev)])) (.dct true (ks ++ [.tup is]) (vs ++ [e]))) := Step.put w hm rfl ha
                refine h _ rfl (w.put hm rfl ha ?_) st
                simp only [CellAt, if_true]
                exact ⟨_, upd_same, by rw [List.map_append, List.map_append, h2]; simp [hk], by rw [List.map_append]; exact (h3.mono st).append (Reps.cons (re.mono st) Reps.nil)⟩
              · exact h.elim
        | _ => exact h.elim
      | false =>
        simp only [Bool.false_eq_true, if_false] at z
        obtain ⟨kvs, h1, h2, h3⟩ := z
        have hlen : kvs.length = ks.length := by
          have := congrArg List.length h2; simpa using this.symm
        simp only [lookD, putD, Bool.false_eq_true, if_false] at h
        cases hk : dKey i with
        | none => rw [hk] at h; exact h.elim
        | some k =>
          rw [hk] at h
          simp only [Option.map_some] at h
          have ei := kV_rep hk ri
          subst ei
          rw [h2] at h
          refine ⟨a, upd S.H a (.dK (putK kvs k ev)), eo, ?_⟩
          have any := idxK_any k kvs
          cases hx : idxK k (kvs.map fun p => some p.1) with
          | some j =>
            rw [hx] at h any
            simp only at h
            split at h
            · rename_i hl
              refine ⟨DPut.k h1 (by rw [hlen]; exact hl), ?_⟩
              have ep : putK kvs k ev = kvs.map fun kv => if kv.1 = k then (kv.1, ev) else kv := by unfold putK; rw [any]; rfl
              rw [ep]
              have st : Step S (S.put n a (.dK (kvs.map fun kv => if kv.1 = k then (kv.1, ev) else kv)) (.dct false ks (putV k e (kvs.map fun p => some p.1) vs))) := Step.put w hm rfl ha
              refine h _ rfl (w.put hm rfl ha ?_) st
              simp only [CellAt, Bool.false_eq_true, if_false]
              exact ⟨_, upd_same, by rw [h2, map_some_fst, map_some_fst, putK_keys], putK_rep (re.mono st) (h3.mono st)⟩
            · exact h.elim
          | none =>
            rw [hx] at h any
            simp only at h
            split at h
            · rename_i hl
              refine ⟨DPut.k h1 (by rw [hlen]; exact hl), ?_⟩
              have ep : putK kvs k ev = kvs ++ [(k, ev)] := by unfold putK; rw [any]; rfl
              rw [ep]
              have st : Step S (S.put n a (.dK (kvs ++ [(k, ev)])) (.dct false (ks ++ [i]) (vs ++ [e]))) := Step.put w hm rfl ha
              refine h _ rfl (w.put hm rfl ha ?_) st
              simp only [CellAt, Bool.false_eq_true, if_false]
              exact ⟨_, upd_same, by rw [List.map_append, List.map_append, h2]; simp [hk], by rw [List.map_append]; exact (h3.mono st).append (Reps.cons (re.mono st) Reps.nil)⟩
            · exact h.elim
    · exact h.elim
  · exact h.elim
theorem ss_setSub {o i e : Expr} {mo mi me : ME} {pos pos' : Pos} (ho : SE C X o mo) (hi : SE C X i mi) (he : SE C X e me) (hu : X.A.units + 1 < cLine)
    (ha : ∀ v, assign (.Subscript o i pos') X.env v = (do
      let ov ← holding [v] (eval o X.env)
      let iv ← holding [v, ov] (eval i X.env)
      standAt pos'
      holding [v, ov, iv] (setItem ov iv v)
      release [v, ov, iv] [])) (hs : swapsWithSole [.Subscript o i pos'] e pos.line X.env = pure false) (hw : swappedStores [.Subscript o i pos'] e X.env = pure none) :
    SS C X (.Assign [.Subscript o i pos'] e pos) (.setSub mo mi me) := fun W tk =>
  PSw (ps_asg (he W tk) (pg_sub (ho W tk) (hi W tk) (set_all hu) ha) hs hw rfl) fun D σ H ⟨r, S, hH, w, sr, h⟩ => by
    subst hH
    simp only [evS, thenS, M.bind_ap] at h
    refine dnE_intro r w sr ?_
    cases e1 : ev me r S.mu with
    | stuck => rw [e1] at h; exact h
    | exc c ks vs m => rw [e1] at h; exact fun S' dx em w' st ea => h S' em w' st σ dx (sr.mono st) ea
    | ok d1 m1 =>
      rw [e1] at h
      intro S1 v1 em1 w1 st1 r1
      subst em1
      have h1 := PostS.step st1 h
      have sr1 := sr.mono st1
      refine dnE_intro r w1 sr1 ?_
      simp only at h1
      cases e2 : ev mo r S1.mu with
      | stuck => rw [e2] at h1; exact h1
      | exc c ks vs m => rw [e2] at h1; exact fun S' dx em w' st ea => h1 S' em w' st σ dx (sr1.mono st) ea
      | ok d2 m2 =>
        rw [e2] at h1
        intro S2 v2 em2 w2 st2 r2
        subst em2
        have h2 := PostS.step st2 h1
        have sr2 := sr1.mono st2
        refine dnE_intro r w2 sr2 ?_
        simp only at h2
        cases e3 : ev mi r S2.mu with
        | stuck => rw [e3] at h2; exact h2
        | exc c ks vs m => rw [e3] at h2; exact fun S' dx em w' st ea => h2 S' em w' st σ dx (sr2.mono st) ea
        | ok d3 m3 =>
          rw [e3] at h2
          intro S3 v3 em3 w3 st3 r3
          subst em3
          have h3 := PostS.step st3 h2
          have sr3 := sr2.mono st3
          refine setSub_ok (W := fun c d H' => W c d σ H') w3 (r2.mono st3) r3 ((r1.mono st2).mono st3) ?_
          simp only at h3
          cases e4 : setSubM d2 d3 d1 S3.mu with
          | stuck => rw [e4] at h3; exact h3
          | exc c ks vs m => rw [e4] at h3; exact fun S' dx em w' st ea => h3 S' em w' st σ dx (sr3.mono st) ea
          | ok u m4 =>
            rw [e4] at h3
            exact fun S4 em4 w4 st4 => h3 S4 em4 w4 st4 σ (sr3.mono st4)
end
end Fs

/-! FsN: constants, comprehensions as values, methods of built-in types, isinstance. -/
namespace Fs
open PySem PySem.Spec PyProof.Rows L2
open Classical

section
variable {C : Ct} {X : Cx}
/-! ### constants -/
theorem se_int {i : Int} {j : Nat} {pos : Pos} : SE C X (.Constant (.int i) j pos) (.con (.int i)) := se_con pe_int fun _ => rep_int.mpr rfl
theorem se_bl {i : Bool} {j : Nat} {pos : Pos} : SE C X (.Constant (.bool i) j pos) (.con (.bl i)) := se_con pe_bl fun S => by simp only [Rep]
theorem se_non {j : Nat} {pos : Pos} : SE C X (.Constant .none j pos) (.con .non) := se_con pe_non fun S => by simp only [Rep]
theorem se_str {x : List Char} {s : Str} {j : Nat} {pos : Pos} (h : toS x = s) (hl : x.length ≤ 1000) : SE C X (.Constant (.str s) j pos) (.con (.str x)) := se_con pe_str fun S => by
  simp only [Rep]
  exact ⟨by rw [h], Nat.le_trans hl (by rw [sizeLine_eq]; decide)⟩
/-- a module's constant -/
def GV (C : Ct) (mg : Str → Option Value) (x : Str) (d : D) : Prop := ∃ (u : Value) (v : V), mg x = some u ∧ RelV v u ∧ ∀ S, Rep C S d v
theorem se_glob {x : Str} {d : D} {pos : Pos} (hg : Gl X x) (g : GV C X.mg x d) (hd : (x == ("__debug__" : Str)) = false) : SE C X (.Name x pos) (.con d) := by
  obtain ⟨u, v, h1, h2, h3⟩ := g
  exact se_con (pe_glob hg h1 h2 hd) h3
/-! ### comprehensions -/
def Ifs (C : Ct) (X : Cx) (ifs : List Expr) (c : MTO) : Prop := match c with
  | .no => ifs = []
  | .yes m => ∃ i, ifs = [i] ∧ ST C X i m
theorem takesF {X : Cx} : Takes X (fun _ _ _ _ => False) := fun u s' x => by
  obtain ⟨_, _, _, _, _, _, _, _, _, _, _, _, _, _, _, _, w⟩ := x
  exact w.elim
theorem ifs_pts {ifs : List Expr} {c : MTO} (h : Ifs C X ifs c) : PTs X ifs (dnTO C c) := by
  cases c with
  | no => cases (show ifs = [] from h); exact pts_nil
  | yes m =>
    obtain ⟨i, rfl, h⟩ := h
    exact pts_one (h _ takesF)
theorem se_comp {elt tg iter : Expr} {ifs : List Expr} {scope : Scope} {pos : Pos} {own : List (Str × Nat)} {mu : Bool} {g : MG} {s : MI} {c : MTO} {e : ME} (hc : X.calm = true) (hN : X.N.Nodup) (hi : SI C X tg iter s) (ok : blkC X.N X.env.scope scope own = true)
    (hsl : ∀ j ∈ g.slots, j ∈ own.map (·.2))
    (hg : ∀ (s : Shared) (H : Hp) (L : Addr) (cl : List (Str × Addr)) (fp : List Addr), SG C (X.blk s H scope (compEnvC scope cl L X.env) fp) tg g)
    (ht : ∀ (s : Shared) (H : Hp) (L : Addr) (cl : List (Str × Addr)) (fp : List Addr), Ifs C (X.blk s H scope (compEnvC scope cl L X.env) fp) ifs c)
    (he : ∀ (s : Shared) (H : Hp) (L : Addr) (cl : List (Str × Addr)) (fp : List Addr), SE C (X.blk s H scope (compEnvC scope cl L X.env) fp) elt e)
    (hs : ∀ x, foldedSetIterable iter X.env x = pure x) : SE C X (.ListComp elt [⟨tg, iter, ifs, 0⟩] scope pos) (.comp mu (own.map (·.2)) g s c e) := fun W tk =>
  PEw (pe_lc hc hN (hi W tk) (blkOk_by ok) (fun s H L cl fp => hg s H L cl fp) (fun s H L cl fp => ifs_pts (ht s H L cl fp)) (fun s H L cl fp => he s H L cl fp _ takesF) hs) fun σ H Q h => comp_tLc hsl h
theorem ss_setLc {i : Nat} {y : Str} {py : Pos} {elt tg iter : Expr} {ifs : List Expr} {scope : Scope} {pos spos : Pos} {own : List (Str × Nat)} {mu : Bool} {g : MG} {s : MI} {c : MTO} {e : ME} (hc : X.calm = true) (hN : X.N.Nodup) (hy : X.N[i]? = some y) (hyl : X.env.scope.names.lookup y = some .local)
    (hsw : swapsWith (.ListComp elt [⟨tg, iter, ifs, 0⟩] scope pos) (some (.Name y py)) spos.line X.env = pure true) (hi : SI C X tg iter s) (ok : blkC X.N X.env.scope scope own = true)
    (hsl : ∀ j ∈ g.slots, j ∈ own.map (·.2))
    (hg : ∀ (s : Shared) (H : Hp) (L : Addr) (cl : List (Str × Addr)) (fp : List Addr), SG C (X.blk s H scope (compEnvC scope cl L X.env) fp) tg g)
    (ht : ∀ (s : Shared) (H : Hp) (L : Addr) (cl : List (Str × Addr)) (fp : List Addr), Ifs C (X.blk s H scope (compEnvC scope cl L X.env) fp) ifs c)
    (he : ∀ (s : Shared) (H : Hp) (L : Addr) (cl : List (Str × Addr)) (fp : List Addr), SE C (X.blk s H scope (compEnvC scope cl L X.env) fp) elt e)
    (hs : ∀ x, foldedSetIterable iter X.env x = pure x) : SS C X (.Assign [.Name y py] (.ListComp elt [⟨tg, iter, ifs, 0⟩] scope pos) spos) (.set (.nm i) (.comp mu (own.map (·.2)) g s c e)) := fun W tk =>
  PSw (ps_setLc hc hN hy hyl hsw (hi W tk) (blkOk_by ok) (fun s H L cl fp => hg s H L cl fp) (fun s H L cl fp => ifs_pts (ht s H L cl fp)) (fun s H L cl fp => he s H L cl fp _ takesF) hs) fun Dn σ H ⟨r, S, hH, w, sr, h⟩ => by
    subst hH
    simp only [evS] at h
    have z := thenS_ok sr h
    refine comp_tLc hsl ⟨r, S, rfl, w, sr, z.imp fun v H' ⟨S', d, eH, w', st, rd, h'⟩ => ?_⟩
    subst eH
    simp only [asgG, Option.map_some] at h'
    exact h'.nxt w' ((sr.mono st).set rd)
/-! ### append, join -/
def appendM (o e : D) : M D := fun m => match o with
  | .obj n => match m[n]? with
    | some (.lst ds) => if ds.length < sizeLine then .ok .non (m.set n (.lst (ds ++ [e]))) else .stuck
    | _ => .stuck
  | _ => .stuck
def un1m (f : D → D → M D) (o : D) : List D → M D
  | [d] => f o d
  | _ => stuckM
theorem append_ok {S : Ws} {o e : D} {ov ev : V} {W : XK} {Q : VK} (w : Wf C S) (ro : Rep C S o ov) (re : Rep C S e ev) (h : PostE C S (appendM o e S.mu) W Q) : rAppend ov [ev] S.H Q := by
  unfold appendM at h
  split at h
  · rename_i n
    simp only [Rep] at ro
    obtain ⟨a, ha, eo⟩ := ro
    split at h
    · rename_i ds hm
      split at h
      · rename_i hl
        obtain ⟨vs, h1, l, h2⟩ := w.cell n _ a hm ha
        refine ⟨a, vs, ev, eo, rfl, h1, by rw [← h2.len]; exact hl, ?_⟩
        have st : Step S (S.put n a (.lst (vs ++ [ev])) (.lst (ds ++ [e]))) := Step.put w hm rfl ha
        refine h (S.put n a (.lst (vs ++ [ev])) (.lst (ds ++ [e]))) _ rfl (w.put hm rfl ha ⟨_, upd_same, by rw [List.length_append, List.length_singleton]; exact hl, (h2.mono st).append (Reps.cons (re.mono st) Reps.nil)⟩) st ?_
        simp only [Rep]
      · exact h.elim
    · exact h.elim
  · exact h.elim
theorem tyV_list {S : Ws} {n : Nat} {ov : V} {ds : List D} (w : Wf C S) (ro : Rep C S (.obj n) ov) (hm : S.mu[n]? = some (.lst ds)) : tyV C.K "list" ov S.H := by
  simp only [Rep] at ro
  obtain ⟨a, ha, eo⟩ := ro
  obtain ⟨vs, h1, l, h2⟩ := w.cell n _ a hm ha
  subst eo
  exact .inl ⟨rfl, vs, .inl (.inl h1)⟩
/-- o.append(e): the list is looked up ahead of e -/
def isLst (m : Store) : D → Bool
  | .obj n => match m[n]? with
    | some (.lst _) => true
    | _ => false
  | _ => false
theorem chk_ok {α : Type} {P : Store → D → Bool} {d : D} {m : Store} {g : Unit → M α} {r : R α} (h : (chkM P d >>= g) m = r) : (P m d = true ∧ r = g () m) ∨ r = .stuck := by
  rw [M.bind_ap] at h
  unfold chkM at h
  by_cases c : P m d = true
  · rw [if_pos c] at h
    exact .inl ⟨c, h.symm⟩
  · rw [if_neg c] at h
    exact .inr h.symm
theorem PostE.chk {S : Ws} {P : Store → D → Bool} {d : D} {g : Unit → M D} {W : XK} {Q : VK} (h : PostE C S ((chkM P d >>= g) S.mu) W Q) : P S.mu d = true ∧ PostE C S (g () S.mu) W Q := by
  rcases chk_ok (g := g) (r := (chkM P d >>= g) S.mu) rfl with ⟨h1, h2⟩ | h2
  · rw [h2] at h
    exact ⟨h1, h⟩
  · rw [h2] at h
    exact h.elim
/-- the reading of a method call -/
theorem dn_meth {P : Store → D → Bool} {F : D → List D → M D} {mo : ME} {mes : MEs} {W : WX} {ty : V → Hp → Prop} {rr : V → List V → Hp → VK → Prop}
    (hP : ∀ (S : Ws) (d : D) (v : V), Wf C S → Rep C S d v → P S.mu d = true → ty v S.H)
    (hF : ∀ (S : Ws) (d : D) (ds : List D) (v : V) (vs : List V) (W : XK) (Q : VK), Wf C S → Rep C S d v → Reps C S ds vs → PostE C S (F d ds S.mu) W Q → rr v vs S.H Q) :
    ∀ σ H Q, dnE C (ev (.meth P F mo mes)) W σ H Q → dnE C (ev mo) W σ H fun x H1 => ty x H1 ∧ dnA C (evs mes) W σ H1 fun xs H2 => rr x xs H2 Q := fun σ H Q ⟨r, S, hH, w, sr, h⟩ => by
  subst hH
  simp only [ev] at h
  refine dnE_intro r w sr (h.bind.imp fun v1 H1 ⟨S1, d1, e1, w1, st1, r1, h1⟩ => ?_)
  subst e1
  obtain ⟨p, h2⟩ := h1.chk
  refine ⟨hP S1 d1 v1 w1 r1 p, dnA_intro r w1 (sr.mono st1) (h2.bindA.imp fun vs H2 ⟨S2, ds, e2, w2, st2, r2, h3⟩ => ?_)⟩
  subst e2
  exact hF S2 d1 ds v1 vs _ Q w2 (r1.mono st2) r2 h3
theorem star_allk {cpos : Pos} {env : PySem.Env} : ∀ {es : List Expr}, noStar es = true → (backTo cpos (starEach es env)).all (fun x => !x.1) = true
  | [], _ => rfl
  | e :: es, h => by
    simp only [noStar, List.all_cons, Bool.and_eq_true, Bool.not_eq_true'] at h
    rw [star_cons h.1]
    show (!false && (backTo cpos (starEach es env)).all (fun x => !x.1)) = true
    rw [star_allk h.2]
    rfl
theorem star_few {cpos : Pos} {env : PySem.Env} {es : List Expr} (h : noStar es = true) (l : es.length < 29) :
    ((backTo cpos (starEach es env)).all (fun x => !x.1) && (backToKw cpos (keywordEach [] env)).all (fun x => x.1.isSome)
      && decide (es.length + ([] : List Keyword).length + (if ([] : List Keyword).isEmpty then 0 else 1) < 30)) = true := by
  rw [star_allk h]
  show (true && true && decide (es.length + 0 + 0 < 30)) = true
  simp; omega
theorem se_append {o e : Expr} {mo me : ME} {apos pos : Pos} (ho : SE C X o mo) (he : SE C X e me) (hK : X.K = C.K) (hs : isStar e = false) (hbase : attributeBase o "append" X.env (eval o X.env) = eval o X.env) (hline : (apos.endLine == pos.line) = true) :
    SE C X (.Call (.Attribute o "append" apos) [e] [] pos) (.meth isLst (un1m appendM) mo (.cons me .nil)) := fun W tk => by
  have n1 : noStar [e] = true := by simp [noStar, hs]
  have ha : SA C X [e] (.cons me .nil) := sa_cons he sa_nil (star_cons hs)
  refine PEw (pe_bm PySem.F.plainAttrs_list PySem.F.slot_list_append PySem.F.type_list_append mt_append (ho W tk) (ha W tk) hbase (star_few n1 (by simp)) hline (star_cons hs) rfl) (dn_meth ?_ ?_)
  · intro S d v w r p
    rw [hK]
    cases d with
    | obj n =>
      simp only [isLst] at p
      split at p
      · rename_i ds hm
        exact tyV_list w r hm
      · cases p
    | _ => cases p
  · intro S d ds v vs W Q w r rs h
    cases ds with
    | nil => exact h.elim
    | cons x xs =>
      cases xs with
      | cons _ _ => exact h.elim
      | nil =>
        obtain ⟨v1, vs1, e1, rx, rn⟩ := rs
        subst e1
        cases rn
        exact append_ok w r rx h
/-! ### join -/
def glue (s : List Char) : List (List Char) → List Char
  | [] => []
  | [x] => x
  | x :: y :: r => x ++ s ++ glue s (y :: r)
def joinM (s d : D) : M D := fun m => match s with
  | .str x => match readQ m d with
    | some ds => match strsO ds with
      | some ys => if (ys.map List.length).sum + ys.length * x.length ≤ 1000000 then .ok (.str (glue x ys)) m else .stuck
      | none => .stuck
    | none => .stuck
  | _ => .stuck
def isStrD (_ : Store) : D → Bool
  | .str _ => true
  | _ => false
theorem toS_glue (x : List Char) : ∀ ys : List (List Char), Txt.join (toS x) (ys.map toS) = toS (glue x ys) := by
  intro ys
  rw [TL.join_eq]
  induction ys with
  | nil => rfl
  | cons y r ih =>
    cases r with
    | nil => rfl
    | cons z r =>
      show toS y ++ toS x ++ Str.join (toS x) ((z :: r).map toS) = toS (y ++ x ++ glue x (z :: r))
      rw [ih, toS_app, toS_app]
theorem glue_len (x : List Char) : ∀ ys : List (List Char), (glue x ys).length ≤ (ys.map List.length).sum + ys.length * x.length
  | [] => Nat.zero_le _
  | [y] => by simp [glue]
  | y :: z :: r => by
    have ih := glue_len x (z :: r)
    have e1 : ((z :: r).length + 1) * x.length = (z :: r).length * x.length + x.length := Nat.succ_mul _ _
    have e2 : ((y :: z :: r).map List.length).sum = y.length + ((z :: r).map List.length).sum := by simp
    have e3 : (glue x (y :: z :: r)).length = y.length + x.length + (glue x (z :: r)).length := by simp [glue]; omega
    have e4 : (y :: z :: r).length = (z :: r).length + 1 := rfl
    rw [e3, e2, e4, e1]
    omega
theorem se_join {o e : Expr} {mo me : ME} {apos pos : Pos} (ho : SE C X o mo) (he : SE C X e me) (hK : X.K = C.K) (hs : isStar e = false) (hbase : attributeBase o "join" X.env (eval o X.env) = eval o X.env) (hline : (apos.endLine == pos.line) = true) :
    SE C X (.Call (.Attribute o "join" apos) [e] [] pos) (.meth isStrD (un1m joinM) mo (.cons me .nil)) := fun W tk => by
  refine PEw (pe_join (ho W tk) (he W tk) (star_cons hs) hbase hline) fun σ H Q h => ?_
  have q := dn_meth (ty := fun x _ => ∃ a, x = .str a) (rr := fun x xs H Q => ∃ a p, ∃ ys : List Str, x = .str a ∧ xs = [.ref p] ∧ (SqL C.K H p (ys.map V.str) ∨ SqT C.K H p (ys.map V.str)) ∧
      (ys.map (·.length)).sum + ys.length * a.length ≤ 16777216 ∧ Q (.str (Txt.join a ys)) H) ?_ ?_ σ H Q h
  · rw [hK]
    refine dnE_mono _ _ _ _ (fun v H' ⟨ty, z⟩ => ⟨ty, ?_⟩) q
    obtain ⟨r, S, hH, w, sr, z⟩ := z
    subst hH
    refine dnE_intro r w sr ?_
    simp only [evs] at z
    have z1 : PostA C S ((do let x ← ev me r; pure [x]) S.mu) (fun c d H' => W c d σ H') (fun xs H2 => ∃ a p, ∃ ys : List Str, v = .str a ∧ xs = [.ref p] ∧ (SqL C.K H2 p (ys.map V.str) ∨ SqT C.K H2 p (ys.map V.str)) ∧
      (ys.map (·.length)).sum + ys.length * a.length ≤ 16777216 ∧ Q (.str (Txt.join a ys)) H2) := z
    refine z1.bind.imp fun v1 H1 ⟨S1, d1, e1, w1, st1, r1, h1⟩ => ?_
    subst e1
    exact h1 S1 [v1] rfl w1 (Step.refl _) (Reps.cons r1 Reps.nil)
  · intro S d v w r p
    cases d with
    | str x => exact ⟨_, (rep_str.mp r).1⟩
    | _ => cases p
  · intro S d ds v vs W Q w r rs h
    cases ds with
    | nil => exact h.elim
    | cons x xs =>
      cases xs with
      | cons _ _ => exact h.elim
      | nil =>
        obtain ⟨v1, vs1, e1, rx, rn⟩ := rs
        subst e1
        cases rn
        simp only [un1m] at h
        unfold joinM at h
        split at h
        · rename_i sx
          split at h
          · rename_i es he2
            split at h
            · rename_i ys hy
              split at h
              · rename_i hl
                obtain ⟨a, us, ea, hq, l, rq⟩ := readQ_rep w he2 rx
                obtain ⟨q1, q2⟩ := strs_rep hy rq
                refine ⟨toS sx, a, ys.map toS, (rep_str.mp r).1, by rw [ea], ?_, ?_, ?_⟩
                · rw [q1] at hq
                  rw [List.map_map]
                  exact hq
                · rw [List.map_map, List.length_map, toS_len]
                  have : ((fun x : Str => x.length) ∘ toS) = List.length := funext fun x => toS_len x
                  rw [this]
                  omega
                · rw [toS_glue]
                  refine h.pure w (rep_str.mpr ⟨rfl, ?_⟩)
                  have := glue_len sx ys
                  rw [sizeLine_eq]
                  omega
              · exact h.elim
            · exact h.elim
          · exact h.elim
        · exact h.elim
end
end Fs

/-! FsO: defs, their calls; isinstance. -/
namespace Fs
open PySem PySem.Spec PyProof.Rows L2
open Classical

/-! ### defs -/
def spM (C : Ct) (n : Nat) (F : List D → M D) : Sp := fun vs H Q E => vs.length = n ∧ ∃ S ds, S.H = H ∧ Wf C S ∧ Reps C S ds vs ∧ PostE C S (F ds S.mu) E Q
structure UF (C : Ct) (P : Program) (w : World) (mg : Str → Option Value) (base : Heap) (k : Nat) (x : Str) (F : List D → M D) : Prop where
  ex : ∃ (f : Addr) (fd : FuncData) (ps : List Str), FnOk P w C.K mg base (L2.CX P w) k f fd ps (spM C ps.length F) ∧ mg x = some (.ref f) ∧ PySem.W.keepIn C.K (.ref f) = true ∧ Binds C.K fd ps [] ∧ ∀ ds m, ds.length ≠ ps.length → F ds m = .stuck
section
variable {C : Ct} {P : Program} {w : World} {mg : Str → Option Value} {base : Heap} {k : Nat} {x qual : Str} {F : List D → M D} {params : Arguments} {body : List Stmt} {scope : Scope} {f : Addr} {fd : FuncData} {N ps : List Str} {dvs : List V} {kws : List (Str × V)}
theorem UF.mono {j : Nat} (u : UF C P w mg base k x F) (h : k ≤ j) : UF C P w mg base j x F := by
  obtain ⟨f, fd, ps, h1, h2⟩ := u.ex
  exact ⟨f, fd, ps, h1.mono h, h2⟩
theorem Rep.stk {n : Nat} {vs : List V} {H : Hp} {Q : VK} {E : XK} (h : spM C n (fun _ => stuckM) vs H Q E) : False := by
  obtain ⟨_, S, ds, _, _, _, z⟩ := h
  exact z
theorem uf_stuck (F : FunD C.K x qual params body scope [] [] f fd) (hg : mg x = some (.ref f)) (hb : Binds C.K fd ps []) : UF C P w mg base k x (fun _ => stuckM) :=
  ⟨f, fd, ps, ⟨fun vs H Q E h => (Rep.stk h).elim, fun A outer s H args us vs Q E hr he hb' hv h => (Rep.stk h).elim⟩, hg, F.kp, hb, fun _ _ _ => rfl⟩
theorem start_rep {S : Ws} {ds : List D} {vs : List V} (r : Reps C S ds vs) (N : List Str) (n : Nat) (hn : vs.length = n) : SRep C S (ds.map some ++ List.replicate (N.length - n) none) (L2.start N vs) := by
  unfold L2.start
  refine ⟨by simp [r.len, hn], fun i d h => ?_⟩
  have l := r.len
  by_cases hi : i < ds.length
  · rw [List.getElem?_append_left (by simpa using hi), List.getElem?_map] at h
    cases hd : ds[i]? with
    | none => rw [hd] at h; cases h
    | some d' =>
      rw [hd] at h
      cases h
      obtain ⟨v, hv, rv⟩ := r.get hd
      refine ⟨v, ?_, rv⟩
      rw [List.getElem?_append_left (by rw [List.length_map, ← l]; exact hi), List.getElem?_map, hv]
      rfl
  · rw [List.getElem?_append_right (by simpa using hi)] at h
    rw [List.getElem?_replicate] at h
    split at h <;> cases h
theorem fn_M (F : FunD C.K x qual params body scope dvs kws f fd) (Sc : FnScope N ps scope) (m : MSs)
    (hbody : ∀ (cdv : Value) (A : Around) (outer : List PySem.Env) (s : Shared) (H : Hp) (E : XK), Room k (A.deeper (envOfC qual scope s.heap.objs.size f cdv)) → SSs C (cxOf (L2.CX P w) P w C.K mg base N qual scope f cdv A outer s H E) body m) :
    FnOk P w C.K mg base (L2.CX P w) (k + 1) f fd ps (spM C ps.length (runF ps.length N.length m)) := by
  refine F.ok Sc (fun vs H Q E h => h.1) (fun cdv A outer s H vs Q E hr h => ⟨_, hbody cdv A outer s H E hr _ (takes_of rfl rfl rfl rfl), ?_⟩)
  obtain ⟨hn, S, ds, hH, w, r, z⟩ := h
  subst hH
  refine dnS_intro _ w (start_rep r N ps.length hn) ?_
  unfold runF at z
  rw [if_pos (by rw [r.len, hn])] at z
  cases e : evSs m (ds.map some ++ List.replicate (N.length - ps.length) none) S.mu with
  | none => rw [e] at z; exact z
  | some p =>
    obtain ⟨fl, m'⟩ := p
    rw [e] at z
    intro S' hm w' st
    cases fl with
    | nxt r' => exact fun σ' sr => z S' .non hm w' st (by simp only [Rep])
    | ret d => exact fun v rv => z S' v hm w' st rv
    | brk r' => exact z.elim
    | cnt r' => exact z.elim
    | exc c ks ds' r' => exact fun σ' dx sr ea => z S' dx hm w' st ea
theorem uf_of (F : FunD C.K x qual params body scope [] [] f fd) (hg : mg x = some (.ref f)) (hb : Binds C.K fd ps []) (Sc : FnScope N ps scope) (m : MSs)
    (hbody : ∀ (cdv : Value) (A : Around) (outer : List PySem.Env) (s : Shared) (H : Hp) (E : XK), Room k (A.deeper (envOfC qual scope s.heap.objs.size f cdv)) → SSs C (cxOf (L2.CX P w) P w C.K mg base N qual scope f cdv A outer s H E) body m) :
    UF C P w mg base (k + 1) x (runF ps.length N.length m) := by
  refine ⟨f, fd, ps, fn_M F Sc m hbody, hg, F.kp, hb, fun ds m' hn => ?_⟩
  unfold runF
  rw [if_neg hn]
end
section
variable {C : Ct} {X : Cx} {k : Nat} {x : Str} {F : List D → M D}
theorem callOk_U (u : UF C X.prog X.w X.mg X.base k x F) (hK : X.K = C.K) (hr : Room k X.A) (hdb : (x == ("__debug__" : Str)) = false) : CallOk1 C X x F := by
  intro hg W tk e es ta p pos ha hs
  obtain ⟨f, fd, ps, h1, h2, h3, h4, h5⟩ := u.ex
  rw [← hK] at h1 h3 h4
  simp only [noStar, List.all_cons, Bool.and_eq_true, Bool.not_eq_true'] at hs
  refine PEw (pe_callSD (dvs := []) (E := WE W) h1 hr hg h2 h3 h4 .nil (passAt tk) ha hdb (star_cons hs.1) (star_any hs.2)) fun σ H Q ⟨r, S, hH, w, sr, h⟩ => ?_
  subst hH
  refine dnA_intro r w sr (h.bindA.imp fun vs H' ⟨S', ds, e1, w', st, rs, z⟩ => ?_)
  subst e1
  show spM C ps.length F (vs ++ []) S'.H Q (WE W σ)
  rw [List.append_nil]
  refine ⟨?_, S', ds, rfl, w', rs, z⟩
  rw [← rs.len]
  by_cases hn : ds.length = ps.length
  · exact hn
  · rw [h5 _ _ hn] at z
    exact z.elim
theorem se_call1 {e : Expr} {es : List Expr} {mes : MEs} {p pos : Pos} (hF : CallOk1 C X x F) (hg : Gl X x) (hes : SA C X (e :: es) mes) (hn : noStar (e :: es) = true) : SE C X (.Call (.Name x p) (e :: es) [] pos) (.call F mes) := fun W tk =>
  PEw (hF hg W tk e es (evs mes) p pos (hes W tk) hn) fun σ H Q h => by simpa only [ev] using h
theorem se_call0 {p pos : Pos} (u : UF C X.prog X.w X.mg X.base k x F) (hK : X.K = C.K) (hr : Room k X.A) (hg : Gl X x) (hdb : (x == ("__debug__" : Str)) = false) : SE C X (.Call (.Name x p) [] [] pos) (.call F .nil) := fun W tk => by
  obtain ⟨f, fd, ps, h1, h2, h3, h4, h5⟩ := u.ex
  rw [← hK] at h1 h3 h4
  refine ⟨fun pins s σ H Q I ⟨r, S, hH, w, sr, h⟩ => ?_⟩
  subst hH
  refine wpAny_Call_Name_kw (ld_glob I hg h2 ?_ hdb)
  refine PySem.W.callWith_K0 I.kIn h3 (run_fnSD (us := []) (vs := []) (dvs := []) (E := WE W) h1 hr h4 .nil (passAt tk σ) I .nil ?_)
  simp only [ev, evs] at h
  have z : PostE C S (F [] S.mu) (fun c d H' => W c d σ H') Q := h
  refine ⟨?_, S, [], rfl, w, Reps.nil, z⟩
  by_cases hn : ([] : List D).length = ps.length
  · exact hn
  · rw [h5 _ _ hn] at z
    exact z.elim
end
/-! ### isinstance -/
inductive BT where
  | bool | int | str | list | tuple | dict
  deriving DecidableEq
def BT.nm : BT → String
  | .bool => "bool"
  | .int => "int"
  | .str => "str"
  | .list => "list"
  | .tuple => "tuple"
  | .dict => "dict"
/-- a datum's type: of no interest, a built-in one, an own class -/
inductive DT where
  | non
  | b (t : BT)
  | c (c : Nat)
  deriving DecidableEq
def dty (m : Store) : D → Option DT
  | .non => some .non
  | .bl _ => some (.b .bool)
  | .int _ => some (.b .int)
  | .str _ => some (.b .str)
  | .lst _ => some (.b .list)
  | .frz _ => some (.b .list)
  | .tup _ => some (.b .tuple)
  | .wtp _ => some (.b .tuple)
  | .dct _ _ _ => some (.b .dict)
  | .ins c _ _ => some (.c c)
  | .obj n => match m[n]? with
    | some (.lst _) => some (.b .list)
    | some (.dct _ _ _) => some (.b .dict)
    | some (.ins c _ _) => some (.c c)
    | _ => none
  | _ => none
def DT.nm : DT → String
  | .non => "NoneType"
  | .b t => t.nm
  | .c _ => ""
/-- an own class, as isinstance sees it -/
structure ClsI (C : Ct) (c : Nat) : Prop where
  cl : Cls C.K (He.ga C.K (C.nm c))
  ha : PySem.W.findIn C.K (.ref (He.ga C.K (C.nm c))) "__class__" = some (some (.builtin "object.__class__"))
  hn : PySem.W.specialIn C.K (.builtin "object.__class__") "__get__" = some (some (.builtin "getset_descriptor.__get__"))
  htk : PySem.W.takesIn C.K (.builtin "object.__class__") = some true
  hm : PySem.W.mroIn C.K (He.ga C.K (C.nm c)) (.type "object") = some true
  bt : ∀ T : BT, PySem.W.kitOne C.K (.ref (He.ga C.K (C.nm c))) (.type T.nm) = some false
def isiB (T : BT) : DT → Bool
  | .b t => decide (t = T) || (decide (t = .bool) && decide (T = .int))
  | _ => false
def isiM (cs : List Nat) (T : BT) (d : D) : M D := fun m => match dty m d with
  | some (.c c) => if c ∈ cs then .ok (.bl false) m else .stuck
  | some t => .ok (.bl (isiB T t)) m
  | none => .stuck
theorem isiB_kit (t : DT) (T : BT) (h : ∀ c, t ≠ .c c) : kitB t.nm T.nm = some (isiB T t) := by
  cases t with
  | non => cases T <;> decide +kernel
  | b t => cases t <;> cases T <;> decide +kernel
  | c c => exact absurd rfl (h c)
section
variable {C : Ct} {X : Cx}
/-- the type, as the layer has it -/
theorem dty_ty {S : Ws} {d : D} {v : V} {t : DT} (w : Wf C S) (r : Rep C S d v) (h : dty S.mu d = some t) : (∀ c, t ≠ .c c) → TyX C.K S.H v (.type t.nm) := by
  intro hc
  cases d with
  | non => cases h; simp only [Rep] at r; subst r; exact .base .non
  | bl b => cases h; simp only [Rep] at r; subst r; exact .base (.bl b)
  | int i => cases h; rw [rep_int] at r; subst r; exact .base (.int i)
  | str x => cases h; rw [rep_str] at r; obtain ⟨rfl, _⟩ := r; exact .base (.str _)
  | lst ds => cases h; simp only [Rep] at r; obtain ⟨a, vs, rfl, f, _⟩ := r; exact .base (.lst f.1)
  | frz ds => cases h; simp only [Rep] at r; obtain ⟨a, vs, rfl, f, _⟩ := r; exact f.elim (fun ⟨o, f⟩ => .base (.frz f.1)) (fun z => z.elim (fun ⟨o, its, n, h1, h2, _⟩ => .kList h1 h2) (fun f => .base (.lst f.1)))
  | tup ds => cases h; simp only [Rep] at r; obtain ⟨a, vs, rfl, f, _⟩ := r; exact .base (.tup f.1)
  | wtp ds => cases h; simp only [Rep] at r; obtain ⟨a, vs, rfl, f, _⟩ := r; obtain ⟨o, its, n, h1, h2, _⟩ := f; exact .kTuple h1 h2
  | dct t ks ds =>
    cases h
    simp only [Rep] at r
    obtain ⟨a, rfl, z⟩ := r
    cases t with
    | true => simp only [if_true] at z; obtain ⟨kvs, f, _⟩ := z; exact .base (.dT f.1)
    | false => simp only [Bool.false_eq_true, if_false] at z; obtain ⟨kvs, f, _⟩ := z; exact .base (.dK f.1)
  | ins c ks vs => cases h; exact absurd rfl (hc c)
  | obj n =>
    simp only [Rep] at r
    obtain ⟨a, ha, rfl⟩ := r
    simp only [dty] at h
    split at h
    · rename_i ds hm
      cases h
      obtain ⟨vs, h1, _⟩ := w.cell n _ a hm ha
      exact .base (.lst h1)
    · rename_i t ks vs hm
      cases h
      have z := w.cell n _ a hm ha
      simp only [CellAt] at z
      cases t with
      | true => simp only [if_true] at z; obtain ⟨kvs, f, _⟩ := z; exact .base (.dT f)
      | false => simp only [Bool.false_eq_true, if_false] at z; obtain ⟨kvs, f, _⟩ := z; exact .base (.dK f)
    · cases h; exact absurd rfl (hc _)
    · cases h
  | set _ => cases h
  | fn _ => cases h
theorem dty_cls {S : Ws} {d : D} {v : V} {c : Nat} (w : Wf C S) (k : ClsI C c) (r : Rep C S d v) (h : dty S.mu d = some (.c c)) : TyX C.K S.H v (.ref (He.ga C.K (C.nm c))) := by
  cases d with
  | ins c' ks vs =>
    cases h
    simp only [Rep] at r
    obtain ⟨a, dx, fvs, rfl, f, _⟩ := r
    exact .base (.ins f.1 k.cl k.ha k.hn k.htk k.hm)
  | obj n =>
    simp only [Rep] at r
    obtain ⟨a, ha, rfl⟩ := r
    simp only [dty] at h
    split at h
    · cases h
    · cases h
    · rename_i c' ks vs hm
      cases h
      obtain ⟨dx, fvs, h1, _⟩ := w.cell n _ a hm ha
      exact .base (.ins h1 k.cl k.ha k.hn k.htk k.hm)
    · cases h
  | _ => cases h
theorem isi_ok {S : Ws} {d : D} {v : V} {cs : List Nat} {T : BT} {W : XK} {Q : VK} (w : Wf C S) (hcs : ∀ c ∈ cs, ClsI C c) (r : Rep C S d v) (h : PostE C S (isiM cs T d S.mu) W Q) : rIsi C.K [v, .ty T.nm] S.H Q := by
  unfold isiM at h
  split at h
  · rename_i c hd
    split at h
    · rename_i hm
      exact ⟨v, .ty T.nm, _, .type T.nm, false, rfl, .ty _, dty_cls w (hcs c hm) r hd, (hcs c hm).bt T, h.pure w (by simp only [Rep])⟩
    · exact h.elim
  · rename_i t hc hd
    have hc' : ∀ c, t ≠ .c c := fun c e => hc c e
    exact ⟨v, .ty T.nm, _, .type T.nm, _, rfl, .ty _, dty_ty w r hd hc', kit_ty (isiB_kit t T hc'), h.pure w (by simp only [Rep])⟩
  · exact h.elim
theorem se_isi {cs : List Nat} {T : BT} {a : Expr} {ma : ME} {x : Str} {p p2 pos : Pos} (hcs : ∀ c ∈ cs, ClsI C c) (ha : SE C X a ma) (hK : X.K = C.K) (hg : Gl X "isinstance") (hm : X.mg "isinstance" = none) (hgT : Gl X x) (hmT : X.mg x = none) (hx : bootBuiltins x = some (.type T.nm)) (hn : x ≠ "__name__")
    (hdb : (x == ("__debug__" : Str)) = false) (hs : isStar a = false) : SE C X (.Call (.Name "isinstance" p) [a, .Name x p2] [] pos) (.call (un1 (isiM cs T)) (.cons ma .nil)) := fun W tk => by
  refine PEw (pe_callB call_isi hg hm PyProof.Rows.boot_isinstance (pa_cons (ha W tk) (pa_cons (pe_bltn (v := .ty T.nm) hgT hmT hx rfl hn hdb) pa_nil) (star_cons hs)) (by decide) (by decide) (star_cons hs) rfl) fun σ H Q ⟨r, S, hH, w, sr, h⟩ => ?_
  subst hH
  simp only [ev, evs] at h
  have h1 : PostE C S ((do let x ← ev ma r; isiM cs T x) S.mu) (fun c d H' => W c d σ H') Q := by
    have e : (do let xs ← (do let x ← ev ma r; let xs ← (pure [] : M (List D)); pure (x :: xs)); un1 (isiM cs T) xs : M D) = (do let x ← ev ma r; isiM cs T x) := by
      rw [M.bind_assoc]
      rfl
    rw [← e]
    exact h
  refine dnE_intro r w sr (h1.bind.imp fun v1 H1 ⟨S1, d1, e1, w1, st1, r1, z⟩ => ?_)
  subst e1
  show rIsi X.K [v1, .ty T.nm] S1.H Q
  rw [hK]
  exact isi_ok w1 hcs r1 z
end
end Fs

/-! FsP: built-in functions, by name. -/
namespace Fs
open PySem PySem.Spec PyProof.Rows L2
open Classical

section
variable {C : Ct} {X : Cx}
theorem co_len (hK : X.K = C.K) (hm : X.mg "len" = none) : CallOk1 C X "len" (un1 lenM) :=
  callOk_B call_lenA hm PySem.boot_len (fun _ => rfl) (by decide) (by decide) fun S ds vs W Q w rs h => by
    rw [hK]
    exact un1_ok (fun d v r h => len_ok w r h) rs h
theorem co_all (hc : X.calm = true) (hK : X.K = C.K) (hm : X.mg "all" = none) : CallOk1 C X "all" (un1 allM) :=
  callOk_B (cr_all hc) hm PyProof.Rows.boot_all (fun _ => rfl) (by decide) (by decide) fun S ds vs W Q w rs h => by
    rw [hK]
    exact un1_ok (fun d v r h => all_ok w r h) rs h
theorem co_any (hc : X.calm = true) (hK : X.K = C.K) (hm : X.mg "any" = none) : CallOk1 C X "any" (un1 anyM) :=
  callOk_B (cr_any hc) hm PyProof.Rows.boot_any (fun _ => rfl) (by decide) (by decide) fun S ds vs W Q w rs h => by
    rw [hK]
    exact un1_ok (fun d v r h => any_ok w r h) rs h
theorem co_sorted (hc : X.calm = true) (hK : X.K = C.K) (hm : X.mg "sorted" = none) : CallOk1 C X "sorted" (un1 sortedM) :=
  callOk_B (cr_sortA hc) hm PyProof.Rows.boot_sorted (fun _ => rfl) (by decide) (by decide) fun S ds vs W Q w rs h => by
    rw [hK]
    exact un1_ok (fun d v r h => sorted_ok w r h) rs h
theorem co_list (hc : X.calm = true) (hK : X.K = C.K) (hm : X.mg "list" = none) : CallOk1 C X "list" (un1 listM) :=
  callOk_T (cr_listA hc) hm PyProof.Rows.boot_list (by decide) (by decide) fun S ds vs W Q w rs h => by
    rw [hK]
    exact un1_ok (fun d v r h => list_ok w r h) rs h
theorem co_tuple (hK : X.K = C.K) (hm : X.mg "tuple" = none) : CallOk1 C X "tuple" (un1 tupleM) :=
  callOk_T call_tuple_of hm PyProof.Rows.boot_tuple (by decide) (by decide) fun S ds vs W Q w rs h => by
    rw [hK]
    exact un1_ok (fun d v r h => tuple_ok w r h) rs h
theorem co_int (hm : X.mg "int" = none) : CallOk1 C X "int" (un1 intM) :=
  callOk_T call_int1 hm PyProof.Rows.boot_int (by decide) (by decide) fun S ds vs W Q w rs h => by
    exact un1_ok (fun d v r h => int_ok w r h) rs h
/-- max, min of two ints -/
def bi2 (f : Int → Int → Int) : List D → M D
  | [.int i, .int j] => pure (.int (f i j))
  | _ => stuckM
theorem bi2_ok {S : Ws} {f : Int → Int → Int} {ds : List D} {vs : List V} {W : XK} {Q : VK} (w : Wf C S) (rs : Reps C S ds vs) (h : PostE C S (bi2 f ds S.mu) W Q) : ∃ i j, vs = [.int i, .int j] ∧ Q (.int (f i j)) S.H := by
  unfold bi2 at h
  split at h
  · rename_i i j
    obtain ⟨v1, vs1, e1, r1, v2, vs2, e2, r2, e3⟩ := rs
    rw [rep_int] at r1 r2
    subst r1 r2
    cases e2
    cases e1
    cases e3
    exact ⟨i, j, rfl, PostE.pure w h (rep_int.mpr rfl)⟩
  · exact h.elim
theorem co_max2 (hc : X.calm = true) (hm : X.mg "max" = none) : CallOk1 C X "max" (bi2 fun i j => if j > i then j else i) :=
  callOk_B (call_max2 hc) hm PyProof.Rows.boot_max (fun _ => rfl) (by decide) (by decide) fun S ds vs W Q w rs h => bi2_ok w rs h
end
end Fs

/-! FsQ: the rules as the printed proofs name them. -/
namespace Fs
open PySem PySem.Spec PyProof.Rows L2
open Classical

def visB (X : Cx) (x : Str) : Bool := match X.env.scope.names.lookup x with
  | some .local => true
  | some .cell => true
  | some .free => true
  | _ => false
def glB (X : Cx) (x : Str) : Bool := (match X.env.kindOf x with
  | some .globalImplicit => true
  | _ => false) && !(x == ("__debug__" : Str))
def varB (X : Cx) (i : Nat) (x : Str) : Bool := (match X.N[i]? with
  | some y => y == x
  | none => false) && visB X x && !(x == ("__debug__" : Str)) && !(x == ("__classdict__" : Str))
def setB (X : Cx) (i : Nat) (x : Str) : Bool := (match X.N[i]? with
  | some y => y == x
  | none => false) && (match X.env.scope.names.lookup x with
  | some .local => true
  | some .cell => X.fn x
  | _ => false)
section
variable {C : Ct} {X : Cx}
theorem str_beq {x y : Str} (h : (x == y) = true) : x = y := eq_of_beq h
theorem visB_ok {x : Str} (h : visB X x = true) : Vis X.env.scope x := by
  unfold visB at h
  split at h
  · rename_i e; exact .inl e
  · rename_i e; exact .inr (.inl e)
  · rename_i e; exact .inr (.inr e)
  · cases h
theorem glB_ok {x : Str} (h : glB X x = true) : Gl X x ∧ (x == ("__debug__" : Str)) = false := by
  unfold glB at h
  rw [Bool.and_eq_true] at h
  refine ⟨?_, by simpa using h.2⟩
  have h1 := h.1
  split at h1
  · rename_i e; exact e
  · cases h1
theorem ixB_ok {i : Nat} {x : Str} (h : (match X.N[i]? with
  | some y => y == x
  | none => false) = true) : X.N[i]? = some x := by
  split at h
  · rename_i y e; rw [e, str_beq h]
  · cases h
theorem sv {i : Nat} {x : Str} {pos : Pos} (h : varB X i x = true) : SE C X (.Name x pos) (.var i) := by
  unfold varB at h
  simp only [Bool.and_eq_true, Bool.not_eq_true'] at h
  exact se_var (ixB_ok h.1.1.1) (visB_ok h.1.1.2) h.1.2 h.2
theorem setB_ok {i : Nat} {x : Str} (h : setB X i x = true) : X.N[i]? = some x ∧ Loc X.env.scope x ∧ (X.fn x = true ∨ X.env.scope.names.lookup x = some .local) := by
  unfold setB at h
  rw [Bool.and_eq_true] at h
  have h2 := h.2
  refine ⟨ixB_ok h.1, ?_⟩
  split at h2
  · rename_i e; exact ⟨.inl e, .inr e⟩
  · rename_i e; exact ⟨.inr e, .inl h2⟩
  · cases h2
theorem sac {e : Expr} {es : List Expr} {me : ME} {mes : MEs} (he : SE C X e me) (h : isStar e = false) (hes : SA C X es mes) : SA C X (e :: es) (.cons me mes) := sa_cons he hes (star_cons h)
theorem tgn {i : Nat} {x : Str} {pos : Pos} (hN : X.N.Nodup) (h : setB X i x = true) : SG C X (.Name x pos) (.nm i) := sg_nm hN (setB_ok h).1 (setB_ok h).2.1 (setB_ok h).2.2
theorem nmc {x : Str} {i : Nat} {pos : Pos} {es : List Expr} {is : List Nat} (h : setB X i x = true) (t : Nms X es is) : Nms X (.Name x pos :: es) (i :: is) := .cons (setB_ok h).1 (setB_ok h).2.1 (setB_ok h).2.2 t
theorem sst {i : Nat} {x : Str} {e : Expr} {me : ME} {pos pos' : Pos} (hN : X.N.Nodup) (h : setB X i x = true) (he : SE C X e me) (hs : swapsWith e (some (.Name x pos')) pos.line X.env = pure false) :
    SS C X (.Assign [.Name x pos'] e pos) (.set (.nm i) me) := ss_set hN (setB_ok h).1 (setB_ok h).2.1 (setB_ok h).2.2 he hs
theorem sauA {i : Nat} {x : Str} {e : Expr} {me : ME} {pos pos' : Pos} (hN : X.N.Nodup) (h : setB X i x = true) (he : SE C X e me) :
    SS C X (.AugAssign (.Name x pos') .Add e pos) (.aug i .add me) := ss_augA hN (setB_ok h).1 (setB_ok h).2.1 (setB_ok h).2.2 he
theorem sauS {i : Nat} {x : Str} {e : Expr} {me : ME} {pos pos' : Pos} (hN : X.N.Nodup) (h : setB X i x = true) (he : SE C X e me) :
    SS C X (.AugAssign (.Name x pos') .Sub e pos) (.aug i .sub me) := ss_augS hN (setB_ok h).1 (setB_ok h).2.1 (setB_ok h).2.2 he
theorem scl {x : Str} {F : List D → M D} {e : Expr} {es : List Expr} {mes : MEs} {p pos : Pos} (hF : CallOk1 C X x F) (hg : glB X x = true) (hn : noStar (e :: es) = true) (hes : SA C X (e :: es) mes) : SE C X (.Call (.Name x p) (e :: es) [] pos) (.call F mes) :=
  se_call1 hF (glB_ok hg).1 hes hn
theorem scu {k j : Nat} {x : Str} {F : List D → M D} {e : Expr} {es : List Expr} {mes : MEs} {p pos : Pos} (u : UF C X.prog X.w X.mg X.base k x F) (hr : Room j X.A) (hk : k ≤ j) (hK : X.K = C.K) (hg : glB X x = true) (hn : noStar (e :: es) = true) (hes : SA C X (e :: es) mes) :
    SE C X (.Call (.Name x p) (e :: es) [] pos) (.call F mes) :=
  se_call1 (callOk_U u hK (hr.mono hk) (glB_ok hg).2) (glB_ok hg).1 hes hn
theorem scu0 {k j : Nat} {x : Str} {F : List D → M D} {p pos : Pos} (u : UF C X.prog X.w X.mg X.base k x F) (hr : Room j X.A) (hk : k ≤ j) (hK : X.K = C.K) (hg : glB X x = true) : SE C X (.Call (.Name x p) [] [] pos) (.call F .nil) :=
  se_call0 u hK (hr.mono hk) (glB_ok hg).1 (glB_ok hg).2
theorem sis {cs : List Nat} {T : BT} {a : Expr} {ma : ME} {x : Str} {p p2 pos : Pos} (hcs : ∀ c ∈ cs, ClsI C c) (hm : X.mg "isinstance" = none) (hmT : X.mg x = none) (hx : bootBuiltins x = some (.type T.nm)) (hK : X.K = C.K) (hg : (glB X "isinstance" && glB X x && !(x == ("__name__" : Str))) = true)
    (hs : isStar a = false) (ha : SE C X a ma) : SE C X (.Call (.Name "isinstance" p) [a, .Name x p2] [] pos) (.call (un1 (isiM cs T)) (.cons ma .nil)) := by
  simp only [Bool.and_eq_true, Bool.not_eq_true'] at hg
  refine se_isi hcs ha hK (glB_ok hg.1.1).1 hm (glB_ok hg.1.2).1 hmT hx (fun e => ?_) (glB_ok hg.1.2).2 hs
  rw [e] at hg
  have := hg.2
  simp at this
theorem sgl {x : Str} {d : D} {pos : Pos} (g : GV C X.mg x d) (hg : glB X x = true) : SE C X (.Name x pos) (.con d) := se_glob (glB_ok hg).1 g (glB_ok hg).2
theorem ir1 {tg a : Expr} {ma : ME} {p pos : Pos} (hm : X.mg "range" = none) (hg : glB X "range" = true) (h : isStar a = false) (ha : SE C X a ma) : SI C X tg (.Call (.Name "range" p) [a] [] pos) (.rng1 ma) := si_rng1 ha (glB_ok hg).1 hm (star_cons h)
theorem ir2 {tg a b : Expr} {ma mb : ME} {p pos : Pos} (hm : X.mg "range" = none) (hg : glB X "range" = true) (h : isStar a = false) (h' : isStar b = false) (ha : SE C X a ma) (hb : SE C X b mb) :
    SI C X tg (.Call (.Name "range" p) [a, b] [] pos) (.rng2 ma mb) := si_rng2 ha hb (glB_ok hg).1 hm (by rw [star_cons h, star_cons h']; rfl) (star_cons h')
theorem izp {a b : Expr} {elts : List Expr} {kk : Nat} {ma mb : ME} {p pos tpos : Pos} (hm : X.mg "zip" = none) (hK : X.K = C.K) (hg : glB X "zip" = true) (h : isStar a = false) (h' : isStar b = false) (ha : SE C X a ma) (hb : SE C X b mb) :
    SI C X (.Tuple elts kk tpos) (.Call (.Name "zip" p) [a, b] [] pos) (.zip ma mb) := si_zip ha hb hK (glB_ok hg).1 hm (star_cons h) (star_cons h') (star_any (es := [b]) (by simp [noStar, h']))
theorem ien {a : Expr} {elts : List Expr} {kk : Nat} {ma : ME} {p pos tpos : Pos} (hm : X.mg "enumerate" = none) (hK : X.K = C.K) (hg : glB X "enumerate" = true) (h : isStar a = false) (ha : SE C X a ma) :
    SI C X (.Tuple elts kk tpos) (.Call (.Name "enumerate" p) [a] [] pos) (.enm ma) := si_enm ha hK (glB_ok hg).1 hm (star_cons h)
theorem rm_u {k : Nat} {A : Around} (h : Room k A) : A.units + 65 < cLine := by have := h.un; omega
theorem rm_u1 {k : Nat} {A : Around} (h : Room k A) : A.units + 1 < cLine := by have := h.un; omega
end
end Fs

/-! FsR: the end. -/
namespace Fs
open PySem PySem.Spec PyProof.Rows L2
open Classical

theorem law_end {C : Ct} {F : List D → M D} (hF : ∀ ns : List Int, ns.length ≤ 63 → ∃ m, F [.frz (ns.map .int)] [] = .ok (.bl true) m) (H : Hp) (a : Addr) (ns : List Int) (hl : ns.length ≤ 63) (hO : Only H) (hS : SqL C.K H a (ns.map V.int)) :
    spM C 1 F [.ref a] H (fun v _ => v = .bl true) fun _ _ _ => False := by
  obtain ⟨m, e⟩ := hF ns hl
  refine ⟨rfl, ⟨[], [], [], H⟩, [.frz (ns.map .int)], rfl, ⟨rfl, fun n c a h => by simp at h, fun n k c d a h => by simp at h, fun a h => by simp at h, List.nodup_nil⟩, ?_, ?_⟩
  · refine Reps.cons ?_ Reps.nil
    simp only [Rep]
    refine ⟨a, ns.map V.int, rfl, ?_, by rw [List.length_map, sizeLine_eq]; omega, rep_ints ns⟩
    have nl : ¬ Ws.L ⟨[], [], [], H⟩ a := fun h => by
      rcases h with h | ⟨n, c, h, _⟩
      · simp at h
      · simp at h
    rcases hS with h | h
    · rcases h with h | ⟨o, h⟩
      · rcases hO a with h0 | ⟨o, xs, h0⟩
        · rw [h0] at h; cases h
        · rw [h0] at h; cases h
      · exact .inl ⟨o, h, nl⟩
    · exact .inr (.inl h)
  · show PostE C _ (F [.frz (ns.map .int)] []) _ _
    rw [e]
    intro S' v _ _ _ rv
    rwa [rep_bl] at rv
theorem gv_int {C : Ct} {h : Heap} {mg : Str → Option Value} (X : C.K.In h) (G : h.Ns mainGlobals mg) {x : Str} {i : Int} (c : (He.Fa.int x i).ok C.K = true) : GV C mg x (.int i) := by
  obtain ⟨t, e⟩ := He.int_ok X G c
  exact ⟨_, .int i, e, ⟨t, rfl⟩, fun S => rep_int.mpr rfl⟩
theorem gv_str {C : Ct} {h : Heap} {mg : Str → Option Value} (X : C.K.In h) (G : h.Ns mainGlobals mg) {x z : Str} {y : List Char} (c : (He.Fa.str x z).ok C.K = true) (hy : toS y = z) (hl : y.length ≤ 1000) : GV C mg x (.str y) := by
  obtain ⟨t, e⟩ := He.str_ok X G c
  exact ⟨_, .str z, e, ⟨t, rfl⟩, fun S => rep_str.mpr ⟨by rw [hy], Nat.le_trans hl (by rw [sizeLine_eq]; decide)⟩⟩
/-- what a law's def lets out: nothing -/
def CXe : CXT := fun _ _ _ E _ _ => ∃ c d H', E c d H'
theorem fn_e {P : Program} {w : World} {K : PySem.W.Frag} {mg : Str → Option Value} {base : Heap} {k : Nat} {f : Addr} {fd : FuncData} {ps : List Str} {sp : Sp} (F : FnOk P w K mg base (L2.CX P w) k f fd ps sp) : FnOk P w K mg base CXe k f fd ps sp :=
  ⟨F.len, fun A outer s H args us vs Q E hr he hb hv hs => codeAny_mono (F.run A outer s H args us vs Q E hr he hb hv hs) fun r s' hq => by
    cases r with
    | error e =>
      obtain ⟨a, B, H', cls, d, _, _, _, _, _, _, _, z⟩ := hq
      exact ⟨cls, d, H', z⟩
    | ok fl => cases fl with
      | ret u => exact hq
      | _ => exact hq.elim⟩
theorem CXe_no {H : Hp} {s : Shared} {e : Value} {s' : Shared} (h : CXe [] H s (fun _ _ _ => False) e s') : False := by
  obtain ⟨_, _, _, z⟩ := h
  exact z
end Fs

/-! FsS: running the deep syntax by hand; the drawing of a law. -/
namespace Fs
open PySem PySem.Spec PyProof.Rows L2
open Classical

theorem M.bind_run {α β : Type} (x : M α) (f : α → M β) (m : Store) : (x >>= f) m = (match x m with
    | .ok a m' => f a m'
    | .exc c ks vs m' => .exc c ks vs m'
    | .stuck => .stuck) := rfl
theorem stuckM_ap {α : Type} (m : Store) : (stuckM : M α) m = .stuck := rfl
/-- evaluation steps -/
theorem M.ite_ap {α : Type} {c : Prop} [Decidable c] (x y : M α) (m : Store) : (if c then x else y) m = if c then x m else y m := by split <;> rfl
theorem log2_le {a : Int} {k : Nat} (h : a.natAbs < 2 ^ k) : a.natAbs.log2 ≤ k := by
  by_cases h0 : a.natAbs = 0
  · rw [h0]; simp
  · have := (Nat.log2_lt h0).mpr h
    omega
theorem atI_nat' {α : Type} {l : List α} {i : Int} {x : α} (h0 : 0 ≤ i) (h : l[i.toNat]? = some x) : atI l i = some x := by
  have hl : i.toNat < l.length := by
    rcases Nat.lt_or_ge i.toNat l.length with h1 | h1
    · exact h1
    · rw [List.getElem?_eq_none h1] at h; cases h
  unfold atI ixN
  rw [if_pos h0, if_pos (by omega)]
  exact h
/-! ### the bag -/
structure Kp where
  p1 : Int
  p2 : Int
  p3 : Int
  p4 : Int
  p5 : Int
  p6 : Int
  p7 : Int
structure Kp.Ok (k : Kp) : Prop where
  h1 : 0 ≤ k.p1 ∧ k.p1 < 2 ^ 40
  h2 : 0 < k.p2 ∧ k.p2 < 2 ^ 40
  h3 : 0 ≤ k.p3 ∧ k.p3 < 2 ^ 40
  h4 : 0 < k.p4 ∧ k.p4 < 2 ^ 40
  h5 : 0 ≤ k.p5 ∧ k.p5 < 2 ^ 40
  h6 : 0 ≤ k.p6 ∧ k.p6 < 2 ^ 40
  h7 : 0 < k.p7 ∧ k.p7 < 2 ^ 40
noncomputable def mPull (k : Kp) : MSs :=
  (.cons (.ite (.and (.cmp .eq (.idx (.var 0) (.con (.int (2)))) (.con (.int (0)))) (.cmp .lt (.idx (.var 0) (.con (.int (1)))) (.call (un1 lenM) (.cons (.idx (.var 0) (.con (.int (0)))) .nil)))) (.cons (.set (.nm 2) (.idx (.idx (.var 0) (.con (.int (0)))) (.idx (.var 0) (.con (.int (1)))))) (.cons (.setSub (.var 0) (.con (.int (1))) (.bin .add (.idx (.var 0) (.con (.int (1)))) (.con (.int (1))))) (.cons (.ite (.cmp .ge (.var 2) (.bin .pow (.con (.int (10))) (.con (.int (18))))) (.cons (.setSub (.var 0) (.con (.int (2))) (.var 2)) .nil) (.cons (.setSub (.var 0) (.con (.int (3))) (.bin .mod (.call (un1 intM) (.cons (.bin .add (.bin .add (.bin .mul (.idx (.var 0) (.con (.int (3)))) (.con (.int k.p1))) (.bin .mul (.bin .mod (.call (un1 intM) (.cons (.var 2) .nil)) (.con (.int k.p2))) (.con (.int k.p3)))) (.con (.int (19)))) .nil)) (.con (.int k.p4)))) .nil)) .nil))) .nil) (.cons (.ite (.cmp .gt (.idx (.var 0) (.con (.int (2)))) (.con (.int (0)))) (.cons (.set (.nm 3) (.bin .mod (.call (un1 intM) (.cons (.idx (.var 0) (.con (.int (2)))) .nil)) (.var 1))) (.cons (.setSub (.var 0) (.con (.int (2))) (.bin .fdv (.idx (.var 0) (.con (.int (2)))) (.var 1))) (.cons (.ret (.var 3)) .nil))) .nil) (.cons (.set (.nm 4) (.idx (.var 0) (.con (.int (3))))) (.cons (.setSub (.var 0) (.con (.int (3))) (.bin .mod (.call (un1 intM) (.cons (.bin .add (.bin .add (.bin .mul (.var 4) (.var 4)) (.bin .mul (.var 4) (.con (.int k.p5)))) (.con (.int k.p6))) .nil)) (.con (.int k.p4)))) (.cons (.ret (.bin .mod (.call (un1 intM) (.cons (.bin .add (.bin .fdv (.idx (.var 0) (.con (.int (3)))) (.con (.int (73)))) (.bin .mul (.bin .mod (.call (un1 intM) (.cons (.idx (.var 0) (.con (.int (3)))) .nil)) (.con (.int k.p7))) (.con (.int (59))))) .nil)) (.var 1))) .nil)))))
def Bag (l : List D) : Prop := ∃ (cs : List Int) (i b sa : Int), l = [.lst (cs.map .int), .int i, .int b, .int sa] ∧ 0 ≤ i ∧ 0 ≤ b ∧ 0 ≤ sa ∧ sa < 2 ^ 40
theorem ev_idx_obj {a b : ME} {r : Env} {m : Store} {n : Nat} {l : List D} {i : Int} {d : D} (ha : ev a r m = .ok (.obj n) m) (hm : m[n]? = some (.lst l)) (hb : ev b r m = .ok (.int i) m) (hd : atI l i = some d) : ev (.idx a b) r m = .ok d m := by
  simp only [ev, M.bind_run, ha, hb, idxM, readQ, readL, hm, hd]
theorem mul_ok {i j : Int} {m : Store} (h : i.natAbs.log2 + j.natAbs.log2 < 1000000) : binM .mul (.int i) (.int j) m = .ok (.int (i * j)) m := by
  simp only [binM, h, if_true]
theorem small_log {a : Int} (h0 : 0 ≤ a) (h : a < 2 ^ 200) : a.natAbs.log2 ≤ 200 := log2_le (by omega)
theorem bi_add (i j : Int) (m : Store) : binM .add (.int i) (.int j) m = .ok (.int (i + j)) m := rfl
theorem bi_sub (i j : Int) (m : Store) : binM .sub (.int i) (.int j) m = .ok (.int (i - j)) m := rfl
theorem bi_mul (i j : Int) (m : Store) : binM .mul (.int i) (.int j) m = if i.natAbs.log2 + j.natAbs.log2 < 1000000 then .ok (.int (i * j)) m else .stuck := rfl
theorem bi_mod (i j : Int) (m : Store) : binM .mod (.int i) (.int j) m = if 0 < j then .ok (.int (i % j)) m else .stuck := rfl
theorem bi_fdv (i j : Int) (m : Store) : binM .fdv (.int i) (.int j) m = if 0 < j ∧ j.natAbs.log2 < 9000 then .ok (.int (i / j)) m else .stuck := rfl
theorem bi_pow (i j : Int) (m : Store) : binM .pow (.int i) (.int j) m = if 0 ≤ j ∧ j ≤ 1000000 ∧ i.natAbs < 2 ^ 64 then .ok (.int (i ^ j.toNat)) m else .stuck := rfl
theorem bi_bor (i j : Int) (m : Store) : binM .bor (.int i) (.int j) m = .ok (.int (Builtin.bitOr i j)) m := rfl
theorem bi_band (i j : Int) (m : Store) : binM .band (.int i) (.int j) m = .ok (.int (Builtin.bitAnd i j)) m := rfl
theorem b_add (a b : D) (m : Store) : binM .add a b m = addM a b m := rfl
theorem log_lt {a b : Int} (h0 : 0 ≤ a) (h : a < 2 ^ 200) (h1 : 0 ≤ b) (h2 : b < 2 ^ 200) : a.natAbs.log2 + b.natAbs.log2 < 1000000 := by
  have := small_log h0 h
  have := small_log h1 h2
  omega
theorem pull_eq {k : Kp} (hk : k.Ok) {m : Store} {n : Nat} {l : List D} (hm : m[n]? = some (.lst l)) (hl : Bag l) {a : Int} (ha : 0 < a) (ha2 : a < 2 ^ 200) :
    ∃ (r : Int) (l' : List D), 0 ≤ r ∧ r < a ∧ Bag l' ∧ runF 2 5 (mPull k) [.obj n, .int a] m = .ok (.int r) (m.set n (.lst l')) := by
  obtain ⟨cs, i, b, sa, rfl, hi, hb, hs, hs2⟩ := hl
  obtain ⟨⟨p1a, p1b⟩, ⟨p2a, p2b⟩, ⟨p3a, p3b⟩, ⟨p4a, p4b⟩, ⟨p5a, p5b⟩, ⟨p6a, p6b⟩, ⟨p7a, p7b⟩⟩ := hk
  have hn : n < m.length := by
    rcases Nat.lt_or_ge n m.length with h1 | h1
    · exact h1
    · rw [List.getElem?_eq_none h1] at hm; cases hm
  have hset : ∀ c : Cell, (m.set n c)[n]? = some c := fun c => by simp [hn]
  have e18 : (10 : Int) ^ ((18 : Int).toNat) = 1000000000000000000 := by decide
  have hal : a.natAbs.log2 < 9000 := by have := small_log (by omega) ha2; omega
  have md : ∀ x : Int, 0 ≤ x % k.p4 ∧ x % k.p4 < 2 ^ 40 := fun x => ⟨Int.emod_nonneg _ (by omega), by have := Int.emod_lt_of_pos x p4a; omega⟩
  have md2 : ∀ x : Int, 0 ≤ x % k.p2 ∧ x % k.p2 < 2 ^ 40 := fun x => ⟨Int.emod_nonneg _ (by omega), by have := Int.emod_lt_of_pos x p2a; omega⟩
  have md7 : ∀ x : Int, 0 ≤ x % k.p7 ∧ x % k.p7 < 2 ^ 40 := fun x => ⟨Int.emod_nonneg _ (by omega), by have := Int.emod_lt_of_pos x p7a; omega⟩
  have g73 : Nat.log2 73 < 9000 := by decide
  by_cases c1 : b = 0 ∧ i < cs.length
  · obtain ⟨rfl, c2⟩ := c1
    have hx : i.toNat < cs.length := by omega
    have g : atI (cs.map D.int) i = some (.int cs[i.toNat]) := atI_nat' hi (by simp [hx])
    by_cases c3 : (1000000000000000000 : Int) ≤ cs[i.toNat]
    · have c4 : 0 < cs[i.toNat] := by omega
      refine ⟨cs[i.toNat] % a, [.lst (cs.map .int), .int (i + 1), .int (cs[i.toNat] / a), .int sa], Int.emod_nonneg _ (by omega), Int.emod_lt_of_pos _ ha, ⟨cs, _, _, _, rfl, by omega, Int.ediv_nonneg (by omega) (by omega), hs, hs2⟩, ?_⟩
      simp [runF, mPull, evSs, evS, ev, evs, evT, thenS, M.bind_run, M.ite_ap, varM, blM, truM, cmpM, eqM, deref, plain, dep, eqD, idxM, readQ, readL, un1, lenM, intM, bi_add, bi_mul, bi_mod, bi_fdv, bi_pow, setSubM, ixN, asgG, atI, hm, hset, c2, hi, e18, c3, ha, ha2, c4, hal]
    · have s0 := md (sa * k.p1 + cs[i.toNat] % k.p2 * k.p3 + 19)
      have l1 := log_lt hs (by omega) p1a (by omega)
      have l2 := log_lt (md2 cs[i.toNat]).1 (by have := (md2 cs[i.toNat]).2; omega) p3a (by omega)
      generalize es : (sa * k.p1 + cs[i.toNat] % k.p2 * k.p3 + 19) % k.p4 = sb at s0
      have l3 := log_lt s0.1 (by omega) s0.1 (by omega)
      have l4 := log_lt s0.1 (by omega) p5a (by omega)
      have s1 := md (sb * sb + sb * k.p5 + k.p6)
      generalize es1 : (sb * sb + sb * k.p5 + k.p6) % k.p4 = sc at s1
      have l5 : (sc % k.p7).natAbs.log2 + Nat.log2 59 < 1000000 := log_lt (md7 sc).1 (by have := (md7 sc).2; omega) (show (0 : Int) ≤ 59 by omega) (by omega)
      refine ⟨(sc / 73 + sc % k.p7 * 59) % a, [.lst (cs.map .int), .int (i + 1), .int 0, .int sc], Int.emod_nonneg _ (by omega), Int.emod_lt_of_pos _ ha, ⟨cs, _, _, _, rfl, by omega, by omega, s1⟩, ?_⟩
      simp [runF, mPull, evSs, evS, ev, evs, evT, thenS, M.bind_run, M.ite_ap, varM, blM, truM, cmpM, eqM, deref, plain, dep, eqD, idxM, readQ, readL, un1, lenM, intM, bi_add, bi_mul, bi_mod, bi_fdv, bi_pow, setSubM, ixN, asgG, atI, hm, hset, c2, hi, e18, c3, ha, ha2, hal, l1, l2, l3, l4, l5, es, es1, p2a, p4a, p7a, g73]
  · by_cases c2 : 0 < b
    · have c3 : ¬ b = 0 := by omega
      refine ⟨b % a, [.lst (cs.map .int), .int i, .int (b / a), .int sa], Int.emod_nonneg _ (by omega), Int.emod_lt_of_pos _ ha, ⟨cs, _, _, _, rfl, hi, Int.ediv_nonneg (by omega) (by omega), hs, hs2⟩, ?_⟩
      simp [runF, mPull, evSs, evS, ev, evs, evT, thenS, M.bind_run, M.ite_ap, varM, blM, truM, cmpM, eqM, deref, plain, dep, eqD, idxM, readQ, readL, un1, lenM, intM, bi_add, bi_mul, bi_mod, bi_fdv, bi_pow, setSubM, ixN, asgG, atI, hm, hset, c2, c3, hi, e18, ha, ha2, hal]
    · have c3 : b = 0 := by omega
      subst c3
      have c4 : ¬ i < cs.length := fun h => c1 ⟨rfl, h⟩
      have l3 := log_lt hs (by omega) hs (by omega)
      have l4 := log_lt hs (by omega) p5a (by omega)
      have s1 := md (sa * sa + sa * k.p5 + k.p6)
      generalize es1 : (sa * sa + sa * k.p5 + k.p6) % k.p4 = sc at s1
      have l5 : (sc % k.p7).natAbs.log2 + Nat.log2 59 < 1000000 := log_lt (md7 sc).1 (by have := (md7 sc).2; omega) (show (0 : Int) ≤ 59 by omega) (by omega)
      refine ⟨(sc / 73 + sc % k.p7 * 59) % a, [.lst (cs.map .int), .int i, .int 0, .int sc], Int.emod_nonneg _ (by omega), Int.emod_lt_of_pos _ ha, ⟨cs, _, _, _, rfl, by omega, by omega, s1⟩, ?_⟩
      simp [runF, mPull, evSs, evS, ev, evs, evT, thenS, M.bind_run, M.ite_ap, varM, blM, truM, cmpM, eqM, deref, plain, dep, eqD, idxM, readQ, readL, un1, lenM, intM, bi_add, bi_mul, bi_mod, bi_fdv, bi_pow, setSubM, ixN, asgG, atI, hm, hset, c4, hi, e18, ha, ha2, hal, l3, l4, l5, es1, p4a, p7a, g73]
end Fs

/-! FsT: rules for running the deep syntax. -/
namespace Fs
open PySem PySem.Spec PyProof.Rows L2
open Classical

/-! ### one construct each, at a state -/
section
variable {r : Env} {m : Store} {a b c : ME} {es : MEs} {t u : MT}
theorem x_var (i : Nat) : ev (.var i) r m = varM r i m := by simp only [ev]
theorem x_con (d : D) : ev (.con d) r m = .ok d m := by simp only [ev] <;> rfl
theorem x_bin (o : Bop) : ev (.bin o a b) r m = (ev a r >>= fun x => ev b r >>= fun y => binM o x y) m := by simp only [ev]
theorem x_neg : ev (.neg a) r m = (ev a r >>= negM) m := by simp only [ev] <;> rfl
theorem x_cmp (o : Cop) : ev (.cmp o a b) r m = (ev a r >>= fun x => ev b r >>= fun y => cmpM o x y >>= fun c => pure (.bl c)) m := by simp only [ev]
theorem x_cmp2 (o o' : Cop) : ev (.cmp2 o o' a b c) r m = (ev a r >>= fun x => ev b r >>= fun y => cmpM o x y >>= fun k => if k = true then (ev c r >>= fun z => cmpM o' y z >>= fun l => pure (.bl l)) else pure (.bl false)) m := by simp only [ev]
theorem x_and : ev (.and a b) r m = (ev a r >>= fun x => blM x >>= fun k => if k = true then ev b r else pure (.bl false)) m := by simp only [ev]
theorem x_or : ev (.or a b) r m = (ev a r >>= fun x => blM x >>= fun k => if k = true then pure (.bl true) else ev b r) m := by simp only [ev]
theorem x_not : ev (.not a) r m = (ev a r >>= fun x => blM x >>= fun k => pure (.bl (!k))) m := by simp only [ev]
theorem x_ite : ev (.ite t a b) r m = (evT t r >>= fun k => if k = true then ev a r else ev b r) m := by simp only [ev]
theorem x_tup : ev (.tup es) r m = (evs es r >>= fun xs => if xs.length ≤ sizeLine then pure (.tup xs) else stuckM) m := by simp only [ev]
theorem x_lst : ev (.lst es) r m = (evs es r >>= fun xs => if xs.length ≤ sizeLine then pure (.lst xs) else stuckM) m := by simp only [ev]
theorem x_new : ev (.new es) r m = (evs es r >>= fun xs => if xs.length ≤ sizeLine then newM xs else stuckM) m := by simp only [ev]
theorem x_idx : ev (.idx a b) r m = (ev a r >>= fun x => ev b r >>= fun y => idxM x y) m := by simp only [ev]
theorem x_slc (lo hi : MO) : ev (.slc a lo hi) r m = (ev a r >>= fun x => evO lo r >>= fun l => evO hi r >>= fun h => slcM x l h) m := by simp only [ev]
theorem x_call (F : List D → M D) : ev (.call F es) r m = (evs es r >>= F) m := by simp only [ev] <;> rfl
theorem x_meth (P : Store → D → Bool) (F : D → List D → M D) : ev (.meth P F a es) r m = (ev a r >>= fun x => chkM P x >>= fun _ => evs es r >>= fun xs => F x xs) m := by simp only [ev]
theorem x_attr (F : D → M D) : ev (.attr F a) r m = (ev a r >>= F) m := by simp only [ev] <;> rfl
theorem x_frz : ev (.frz a) r m = (ev a r >>= frzM) m := by simp only [ev] <;> rfl
theorem x_nil : evs .nil r m = .ok [] m := by simp only [evs] <;> rfl
theorem x_cons : evs (.cons a es) r m = (ev a r >>= fun x => evs es r >>= fun xs => pure (x :: xs)) m := by simp only [evs]
theorem x_no : evO .no r m = .ok none m := by simp only [evO] <;> rfl
theorem x_yes : evO (.yes a) r m = (ev a r >>= intO) m := by simp only [evO] <;> rfl
theorem t_val : evT (.val a) r m = (ev a r >>= truM) m := by simp only [evT] <;> rfl
theorem t_cmp (o : Cop) : evT (.cmp o a b) r m = (ev a r >>= fun x => ev b r >>= fun y => cmpM o x y) m := by simp only [evT]
theorem t_cmp2 (o o' : Cop) : evT (.cmp2 o o' a b c) r m = (ev a r >>= fun x => ev b r >>= fun y => cmpM o x y >>= fun k => if k = true then (ev c r >>= fun z => cmpM o' y z) else pure false) m := by simp only [evT]
theorem t_and : evT (.and t u) r m = (evT t r >>= fun k => if k = true then evT u r else pure false) m := by simp only [evT]
theorem t_or : evT (.or t u) r m = (evT t r >>= fun k => if k = true then pure true else evT u r) m := by simp only [evT]
theorem t_not : evT (.not t) r m = (evT t r >>= fun k => pure (!k)) m := by simp only [evT]
theorem i_val : evI (.val a) r m = (ev a r >>= itmM) m := by simp only [evI] <;> rfl
theorem i_rng1 : evI (.rng1 a) r m = (ev a r >>= rng1M) m := by simp only [evI] <;> rfl
theorem i_rng2 : evI (.rng2 a b) r m = (ev a r >>= fun x => ev b r >>= fun y => rng2M x y) m := by simp only [evI]
theorem i_enm : evI (.enm a) r m = (ev a r >>= enmM) m := by simp only [evI] <;> rfl
theorem i_zip : evI (.zip a b) r m = (ev a r >>= fun x => ev b r >>= fun y => zipM x y) m := by simp only [evI]
theorem c_no : evTO .no r m = .ok true m := by simp only [evTO] <;> rfl
theorem c_yes : evTO (.yes t) r m = evT t r m := by simp only [evTO]
theorem s_nil : evSs .nil r m = some (.nxt r, m) := by simp only [evSs]
theorem s_cons (s : MS) (ss : MSs) : evSs (.cons s ss) r m = (match evS s r m with
    | some (.nxt r', m') => evSs ss r' m'
    | o => o) := by simp only [evSs] <;> rfl
theorem s_exp : evS (.exp a) r m = thenS (ev a r) r m fun _ m' => some (.nxt r, m') := by simp only [evS]
theorem s_set (g : MG) : evS (.set g a) r m = thenS (ev a r) r m fun d m' => (asgG g d r).map fun r' => (.nxt r', m') := by simp only [evS]
theorem s_par (i j : Nat) : evS (.par i j a b) r m = thenS (ev a r >>= fun x => ev b r >>= fun y => pure (x, y)) r m fun p m' => some (.nxt ((r.set i (some p.1)).set j (some p.2)), m') := by simp only [evS]
theorem s_aug (i : Nat) (o : Bop) : evS (.aug i o a) r m = thenS (varM r i >>= fun x => ev a r >>= fun y => augM o x y) r m fun d m' => some (.nxt (r.set i (some d)), m') := by simp only [evS]
theorem s_ret : evS (.ret a) r m = thenS (ev a r) r m fun d m' => some (.ret d, m') := by simp only [evS]
theorem s_retN : evS .retN r m = some (.ret .non, m) := by simp only [evS]
theorem s_ite (p q : MSs) : evS (.ite t p q) r m = thenS (evT t r) r m fun k m' => if k = true then evSs p r m' else evSs q r m' := by simp only [evS]
theorem s_brk : evS .brk r m = some (.brk r, m) := by simp only [evS]
theorem s_cnt : evS .cnt r m = some (.cnt r, m) := by simp only [evS]
theorem s_pass : evS .pass r m = some (.nxt r, m) := by simp only [evS]
theorem s_setSub : evS (.setSub a b c) r m = thenS (ev c r >>= fun v => ev a r >>= fun x => ev b r >>= fun y => setSubM x y v) r m fun _ m' => some (.nxt r, m') := by simp only [evS]
theorem thenS_okE {α : Type} {x : M α} {k : α → Store → RS} {d : α} {m' : Store} (h : x m = .ok d m') : thenS x r m k = k d m' := by unfold thenS; rw [h]
end
/-- the semantic of un1 -/
theorem un1_ap (f : D → M D) (d : D) : un1 f [d] = f d := rfl
theorem un1m_ap (f : D → D → M D) (o d : D) : un1m f o [d] = f o d := rfl
theorem chkM_ap (P : Store → D → Bool) (d : D) (m : Store) : chkM P d m = if P m d = true then .ok () m else .stuck := rfl
/-! ### comprehensions -/
noncomputable def bodyC (own : List Nat) (g : MG) (c : MTO) (e : ME) (r : Env) (d : D) : M (Option D) := match asgG g d (wipeE r own) with
  | some r' => (do let k ← evTO c r'; if k = true then (do let y ← ev e r'; pure (some y)) else pure none)
  | none => stuckM
theorem x_comp {mu : Bool} {own : List Nat} {g : MG} {s : MI} {c : MTO} {e : ME} {r : Env} {m m1 m2 : Store} {t : Itm} {ys : List D} (hs : evI s r m = .ok t m1) (hc : compM t (bodyC own g c e r) t.ds m1 = .ok ys m2) :
    ev (.comp mu own g s c e) r m = if mu = true then newM ys m2 else .ok (.lst ys) m2 := by
  simp only [ev]
  rw [M.bind_run, hs]
  show ((compM t (bodyC own g c e r) t.ds >>= fun ys => if mu = true then newM ys else pure (.lst ys)) m1) = _
  rw [M.bind_run, hc]
  show (if mu = true then newM ys else pure (D.lst ys)) m2 = _
  rw [M.ite_ap]
  rfl
theorem x_compD {own : List Nat} {g : MG} {s : MI} {c : MTO} {e : ME} {r : Env} {m : Store} : ev (.comp false own g s c e) r m = (evI s r >>= fun t => compM t (bodyC own g c e r) t.ds >>= fun ys => pure (.lst ys)) m := by
  simp only [ev] <;> rfl
theorem ltT_one (a b : Char) : ltT [a] [b] = decide (a.toNat < b.toNat) := by
  unfold ltT
  simp only [List.map_cons, List.map_nil]
  congr 1
  simp [List.cons_lt_cons_iff]
theorem compM_n {t : Itm} {f : D → M (Option D)} {m : Store} : compM t f [] m = if t.ok m then .ok [] m else .stuck := rfl
theorem compM_c {t : Itm} {f : D → M (Option D)} {d : D} {ds : List D} {m : Store} : compM t f (d :: ds) m = if t.ok m then (match f d m with
      | .ok o m1 => (match compM t f ds m1 with
        | .ok r m2 => .ok (match o with | some y => y :: r | none => r) m2
        | _ => .stuck)
      | _ => .stuck) else .stuck := rfl
theorem compM_fm {t : Itm} (ht : t.lk = none) {f : D → M (Option D)} {h : D → Option D} {m : Store} : ∀ {ds : List D}, (∀ d ∈ ds, f d m = .ok (h d) m) → compM t f ds m = .ok (ds.filterMap h) m
  | [], _ => by
    have : t.ok m := by unfold Itm.ok; rw [ht]; trivial
    simp only [compM, this, if_true]; rfl
  | d :: ds, hf => by
    have ok : t.ok m := by unfold Itm.ok; rw [ht]; trivial
    have h1 := hf d (List.mem_cons_self ..)
    have h2 := compM_fm ht (f := f) (h := h) (m := m) (ds := ds) fun d hd => hf d (List.mem_cons_of_mem _ hd)
    simp only [compM, ok, if_true, h1, h2]
    cases e : h d with
    | none => rw [List.filterMap_cons_none e]
    | some y => rw [List.filterMap_cons_some e]
theorem compM_map {t : Itm} (ht : t.lk = none) {f : D → M (Option D)} {h : D → D} {m : Store} {ds : List D} (hf : ∀ d ∈ ds, f d m = .ok (some (h d)) m) : compM t f ds m = .ok (ds.map h) m := by
  rw [compM_fm ht (h := fun d => some (h d)) hf, List.filterMap_eq_map']
/-- with draws -/
theorem compM_dr {t : Itm} (ht : t.lk = none) {f : D → M (Option D)} (I : Store → Prop) (P : D → Prop) : ∀ {ds : List D} {m : Store}, I m → (∀ d ∈ ds, ∀ m, I m → ∃ y m', f d m = .ok (some y) m' ∧ I m' ∧ P y) →
    ∃ ys m', compM t f ds m = .ok ys m' ∧ I m' ∧ ys.length = ds.length ∧ ∀ y ∈ ys, P y
  | [], m, hi, _ => by
    have : t.ok m := by unfold Itm.ok; rw [ht]; trivial
    exact ⟨[], m, by simp only [compM, this, if_true], hi, rfl, fun y hy => by cases hy⟩
  | d :: ds, m, hi, hf => by
    have ok : t.ok m := by unfold Itm.ok; rw [ht]; trivial
    obtain ⟨y, m1, h1, i1, p1⟩ := hf d (List.mem_cons_self ..) m hi
    obtain ⟨ys, m2, h2, i2, l2, p2⟩ := compM_dr ht I P (ds := ds) i1 fun d hd => hf d (List.mem_cons_of_mem _ hd)
    refine ⟨y :: ys, m2, by simp only [compM, ok, if_true, h1, h2], i2, by simp [l2], fun z hz => ?_⟩
    rcases List.mem_cons.mp hz with rfl | hz
    · exact p1
    · exact p2 z hz
/-! ### for -/
/-- every turn goes on, or one ends the loop by a return -/
theorem forM_go {t : Itm} (ht : t.lk = none) {body : D → Env → Store → RS} (I : List D → Env → Store → Prop) : ∀ {ds : List D} {r : Env} {m : Store}, I ds r m →
    (∀ d ds r m, I (d :: ds) r m → ∃ r' m', (body d r m = some (.nxt r', m') ∨ body d r m = some (.cnt r', m')) ∧ I ds r' m') → ∃ r' m', forM t body ds r m = some (.nxt r', m') ∧ I [] r' m'
  | [], r, m, hi, _ => by
    have : t.ok m := by unfold Itm.ok; rw [ht]; trivial
    exact ⟨r, m, by simp only [forM, this, if_true], hi⟩
  | d :: ds, r, m, hi, hf => by
    have ok : t.ok m := by unfold Itm.ok; rw [ht]; trivial
    obtain ⟨r1, m1, h1, i1⟩ := hf d ds r m hi
    obtain ⟨r2, m2, h2, i2⟩ := forM_go ht I i1 hf
    refine ⟨r2, m2, ?_, i2⟩
    rcases h1 with h1 | h1
    · simp only [forM, ok, if_true, h1, h2]
    · simp only [forM, ok, if_true, h1, h2]
noncomputable def bodyF (g : MG) (b : MSs) (d : D) (r : Env) (m : Store) : RS := match asgG g d r with
  | some r' => evSs b r' m
  | none => none
theorem s_for {g : MG} {s : MI} {b : MSs} {r : Env} {m m1 : Store} {t : Itm} (hs : evI s r m = .ok t m1) : evS (.for_ g s b) r m = forM t (bodyF g b) t.ds r m1 := by
  simp only [evS]
  rw [thenS_okE hs]
  rfl
/-! ### all, any of computed lists -/
theorem blsO_map {α : Type} (f : α → Bool) : ∀ l : List α, blsO (l.map fun x => D.bl (f x)) = some (l.map f)
  | [] => rfl
  | x :: l => by simp only [List.map_cons, blsO, blsO_map f l]; rfl
theorem allM_map {α : Type} (f : α → Bool) (l : List α) (m : Store) : allM (.lst (l.map fun x => D.bl (f x))) m = .ok (.bl (l.all f)) m := by
  simp only [allM, readL, blsO_map]
  rw [List.all_map]
  rfl
theorem anyM_map {α : Type} (f : α → Bool) (l : List α) (m : Store) : anyM (.lst (l.map fun x => D.bl (f x))) m = .ok (.bl (l.any f)) m := by
  simp only [anyM, readL, blsO_map]
  rw [List.any_map]
  rfl
/-! ### the bag at a place; what a draw leaves -/
def BagAt (m : Store) (n : Nat) : Prop := ∃ l, m[n]? = some (.lst l) ∧ Bag l
structure Sim (n : Nat) (m m' : Store) : Prop where
  bag : BagAt m' n
  len : m.length ≤ m'.length
  same : ∀ i, i ≠ n → i < m.length → m'[i]? = m[i]?
theorem Sim.refl {n : Nat} {m : Store} (h : BagAt m n) : Sim n m m := ⟨h, Nat.le_refl _, fun _ _ _ => rfl⟩
theorem Sim.trans {n : Nat} {m m1 m2 : Store} (a : Sim n m m1) (b : Sim n m1 m2) : Sim n m m2 :=
  ⟨b.bag, Nat.le_trans a.len b.len, fun i h1 h2 => (b.same i h1 (Nat.lt_of_lt_of_le h2 a.len)).trans (a.same i h1 h2)⟩
theorem Sim.set {n : Nat} {m : Store} {l : List D} (h : n < m.length) (b : Bag l) : Sim n m (m.set n (.lst l)) :=
  ⟨⟨l, by simp [h], b⟩, by simp, fun i h1 _ => by rw [List.getElem?_set_ne (Ne.symm h1)]⟩
theorem BagAt.lt {n : Nat} {m : Store} (h : BagAt m n) : n < m.length := by
  obtain ⟨l, h, _⟩ := h
  rcases Nat.lt_or_ge n m.length with h1 | h1
  · exact h1
  · rw [List.getElem?_eq_none h1] at h; cases h
def Pull (F : List D → M D) : Prop := ∀ (m : Store) (n : Nat) (a : Int), BagAt m n → 0 < a → a < 2 ^ 200 → ∃ r m', F [.obj n, .int a] m = .ok (.int r) m' ∧ Sim n m m' ∧ 0 ≤ r ∧ r < a
theorem pull_ok {k : Kp} (hk : k.Ok) : Pull (runF 2 5 (mPull k)) := fun m n a hb ha ha2 => by
  have hn := hb.lt
  obtain ⟨l, hm, hl⟩ := hb
  obtain ⟨r, l', h0, h1, hl', e⟩ := pull_eq hk hm hl ha ha2
  exact ⟨r, _, e, Sim.set hn hl', h0, h1⟩
/-- the items of a thing drawn from -/
def itemsD : D → Option (List D)
  | .lst ds => some ds
  | .tup ds => some ds
  | .wtp ds => some ds
  | .str x => some (x.map fun c => .str [c])
  | _ => none
theorem itemsD_len {d : D} {ds : List D} (h : itemsD d = some ds) (m : Store) : lenM d m = .ok (.int ds.length) m := by
  cases d <;> simp_all [itemsD, lenM, readQ, readL]
  subst h; simp
theorem itemsD_idx {d : D} {ds : List D} (h : itemsD d = some ds) (m : Store) {i : Int} (h0 : 0 ≤ i) (h1 : i < ds.length) : idxM d (.int i) m = .ok (ds[i.toNat]'(by omega)) m := by
  have hx : i.toNat < ds.length := by omega
  have g : atI ds i = some ds[i.toNat] := atI_nat' h0 (by simp [hx])
  cases d with
  | lst es => cases h; simp only [idxM, readQ, readL, g]
  | tup es => cases h; simp only [idxM, readQ, readL, g]
  | wtp es => cases h; simp only [idxM, readQ, readL, g]
  | str x =>
    cases h
    have hy : i.toNat < x.length := by simpa using hx
    have g' : atI x i = some x[i.toNat] := atI_nat' h0 (by simp [hy])
    simp [idxM, readQ, readL, g']
  | _ => cases h
noncomputable def mOf (F : List D → M D) : MSs := (.cons (.ret (.idx (.var 1) (.call F (.cons (.var 0) (.cons (.call (un1 lenM) (.cons (.var 1) .nil)) .nil))))) .nil)
def OfOk (F : List D → M D) : Prop := ∀ (m : Store) (n : Nat) (d : D) (ds : List D), BagAt m n → itemsD d = some ds → ds ≠ [] → ds.length ≤ 100000 → ∃ e ∈ ds, ∃ m', F [.obj n, d] m = .ok e m' ∧ Sim n m m'
theorem of_ok {F : List D → M D} (hF : Pull F) : OfOk (runF 2 2 (mOf F)) := fun m n d ds hb hd h0 hl => by
  have hp : 0 < ds.length := List.length_pos_iff.mpr h0
  obtain ⟨r, m', e, s, r0, r1⟩ := hF m n ds.length hb (by omega) (by
    have : (ds.length : Int) ≤ 100000 := by omega
    have : (100000 : Int) < 2 ^ 200 := by decide
    omega)
  refine ⟨ds[r.toNat]'(by omega), List.getElem_mem _, m', ?_, s⟩
  simp [runF, mOf, s_cons, s_ret, x_idx, x_var, x_call, x_cons, x_nil, un1_ap, thenS, M.bind_run, varM, itemsD_len hd, e, itemsD_idx hd m' r0 r1]
end Fs

/-! FsU: what all laws share: the bag's making, the comparison. -/
namespace Fs
open PySem PySem.Spec PyProof.Rows L2
open Classical

noncomputable def mSame (cls : List Nat) (R : List D → M D) : MSs :=
  (.cons (.ite (.or (.val (.call (un1 (isiM cls .list)) (.cons (.var 1) .nil))) (.val (.call (un1 (isiM cls .tuple)) (.cons (.var 1) .nil)))) (.cons (.ite (.or (.cmp .ne (.call (un1 (isiM cls .list)) (.cons (.var 0) .nil)) (.call (un1 (isiM cls .list)) (.cons (.var 1) .nil))) (.cmp .ne (.call (un1 (isiM cls .tuple)) (.cons (.var 0) .nil)) (.call (un1 (isiM cls .tuple)) (.cons (.var 1) .nil)))) (.cons (.ret (.con (.bl false))) .nil) .nil) (.cons (.ret (.and (.cmp .eq (.call (un1 lenM) (.cons (.var 0) .nil)) (.call (un1 lenM) (.cons (.var 1) .nil))) (.call (un1 allM) (.cons (.comp false [2, 3] (.tp [2, 3]) (.zip (.var 0) (.var 1)) .no (.call R (.cons (.var 2) (.cons (.var 3) .nil)))) .nil)))) .nil)) .nil) (.cons (.ite (.or (.cmp .is (.var 1) (.con .non)) (.cmp .is (.var 0) (.con .non))) (.cons (.ret (.and (.cmp .is (.var 1) (.con .non)) (.cmp .is (.var 0) (.con .non)))) .nil) .nil) (.cons (.ite (.or (.cmp .ne (.call (un1 (isiM cls .bool)) (.cons (.var 0) .nil)) (.call (un1 (isiM cls .bool)) (.cons (.var 1) .nil))) (.cmp .ne (.call (un1 (isiM cls .int)) (.cons (.var 0) .nil)) (.call (un1 (isiM cls .int)) (.cons (.var 1) .nil)))) (.cons (.ret (.con (.bl false))) .nil) .nil) (.cons (.ret (.and (.cmp .eq (.call (un1 (isiM cls .str)) (.cons (.var 0) .nil)) (.call (un1 (isiM cls .str)) (.cons (.var 1) .nil))) (.cmp .eq (.var 0) (.var 1)))) .nil))))
noncomputable def ffSame (cls : List Nat) : Nat → List D → M D
  | 0 => fun _ => stuckM
  | n + 1 => runF 2 4 (mSame cls (ffSame cls n))
mutual
def okS : D → Bool
  | .non => true
  | .bl _ => true
  | .int _ => true
  | .str _ => true
  | .lst ds => okSs ds
  | .tup ds => okSs ds
  | _ => false
def okSs : List D → Bool
  | [] => true
  | d :: ds => okS d && okSs ds
end
theorem okSs_mem : ∀ {ds : List D} {d : D}, okSs ds = true → d ∈ ds → okS d = true
  | [], _, _, h => by cases h
  | e :: ds, d, hp, h => by
    simp only [okSs, Bool.and_eq_true] at hp
    rcases List.mem_cons.mp h with rfl | h
    · exact hp.1
    · exact okSs_mem hp.2 h
theorem okSs_of : ∀ {ds : List D}, (∀ d ∈ ds, okS d = true) → okSs ds = true
  | [], _ => rfl
  | e :: ds, h => by
    simp only [okSs, Bool.and_eq_true]
    exact ⟨h e (List.mem_cons_self ..), okSs_of fun d hd => h d (List.mem_cons_of_mem _ hd)⟩
theorem deps_mem : ∀ {ds : List D} {d : D}, d ∈ ds → dep d ≤ deps ds
  | [], _, h => by cases h
  | e :: ds, d, h => by
    simp only [deps]
    rcases List.mem_cons.mp h with rfl | h
    · omega
    · have := deps_mem (ds := ds) h; omega
theorem zip_self {α : Type} : ∀ l : List α, l.zip l = l.map fun x => (x, x)
  | [] => rfl
  | x :: l => by rw [List.zip_cons_cons, zip_self l]; rfl
theorem same_all {R : List D → M D} {ds : List D} {m : Store} {x : D} (ih : ∀ d ∈ ds, R [d, d] m = .ok (.bl true) m) (hz : zipM x x m = .ok ⟨ds.map fun d => D.tup [d, d], none⟩ m) :
    ev (.comp false [2, 3] (.tp [2, 3]) (.zip (.var 0) (.var 1)) .no (.call R (.cons (.var 2) (.cons (.var 3) .nil)))) [some x, some x, none, none] m = .ok (.lst (ds.map fun _ => .bl true)) m := by
  have hs : evI (.zip (.var 0) (.var 1)) [some x, some x, none, none] m = .ok ⟨ds.map fun d => D.tup [d, d], none⟩ m := by
    simp [i_zip, x_var, varM, M.bind_run, hz]
  have hc : compM ⟨ds.map fun d => D.tup [d, d], none⟩ (bodyC [2, 3] (.tp [2, 3]) .no (.call R (.cons (.var 2) (.cons (.var 3) .nil))) [some x, some x, none, none]) (ds.map fun d => D.tup [d, d]) m = .ok ((ds.map fun d => D.tup [d, d]).map fun _ => D.bl true) m := by
    refine compM_map rfl fun d hd => ?_
    obtain ⟨e, he, rfl⟩ := List.mem_map.mp hd
    simp [bodyC, asgG, wipeE, M.bind_run, c_no, x_call, x_cons, x_nil, x_var, varM, ih e he]
  rw [x_comp hs hc]
  simp
theorem all_true (ds : List D) (m : Store) : allM (.lst (ds.map fun _ => D.bl true)) m = .ok (.bl true) m := by
  rw [allM_map (fun _ => true)]
  simp
theorem same_refl (cls : List Nat) : ∀ (n : Nat) (d : D) (m : Store), okS d = true → dep d < n → ffSame cls n [d, d] m = .ok (.bl true) m
  | 0, d, m, _, h => by omega
  | n + 1, d, m, hp, hd => by
    cases d with
    | lst ds =>
      simp only [okS] at hp
      have ih : ∀ e ∈ ds, ffSame cls n [e, e] m = .ok (.bl true) m := fun e he => same_refl cls n e m (okSs_mem hp he) (by have := deps_mem he; simp only [dep] at hd; omega)
      have hc := same_all (x := .lst ds) ih (by simp [zipM, zip_self])
      simp [ffSame, runF, mSame, s_cons, s_ite, s_ret, s_nil, t_or, t_val, t_cmp, x_and, x_cmp, x_call, x_cons, x_nil, x_var, x_con, varM, thenS, M.bind_run, M.ite_ap, un1_ap, isiM, dty, isiB, truM, cmpM, eqM, deref, plain, dep, eqD, lenM, readQ, readL, blM, hc, all_true]
    | tup ds =>
      simp only [okS] at hp
      have ih : ∀ e ∈ ds, ffSame cls n [e, e] m = .ok (.bl true) m := fun e he => same_refl cls n e m (okSs_mem hp he) (by have := deps_mem he; simp only [dep] at hd; omega)
      have hc := same_all (x := .tup ds) ih (by simp [zipM, zip_self])
      simp [ffSame, runF, mSame, s_cons, s_ite, s_ret, s_nil, t_or, t_val, t_cmp, x_and, x_cmp, x_call, x_cons, x_nil, x_var, x_con, varM, thenS, M.bind_run, M.ite_ap, un1_ap, isiM, dty, isiB, truM, cmpM, eqM, deref, plain, dep, eqD, lenM, readQ, readL, blM, hc, all_true]
    | non => simp [ffSame, runF, mSame, s_cons, s_ite, s_ret, s_nil, t_or, t_val, t_cmp, x_and, x_cmp, x_call, x_cons, x_nil, x_var, x_con, varM, thenS, M.bind_run, M.ite_ap, un1_ap, isiM, dty, isiB, truM, cmpM, eqM, deref, plain, dep, eqD, isNonD, blM]
    | bl b => simp [ffSame, runF, mSame, s_cons, s_ite, s_ret, s_nil, t_or, t_val, t_cmp, x_and, x_cmp, x_call, x_cons, x_nil, x_var, x_con, varM, thenS, M.bind_run, M.ite_ap, un1_ap, isiM, dty, isiB, truM, cmpM, eqM, deref, plain, dep, eqD, isNonD, blM]
    | int i => simp [ffSame, runF, mSame, s_cons, s_ite, s_ret, s_nil, t_or, t_val, t_cmp, x_and, x_cmp, x_call, x_cons, x_nil, x_var, x_con, varM, thenS, M.bind_run, M.ite_ap, un1_ap, isiM, dty, isiB, truM, cmpM, eqM, deref, plain, dep, eqD, isNonD, blM]
    | str x => simp [ffSame, runF, mSame, s_cons, s_ite, s_ret, s_nil, t_or, t_val, t_cmp, x_and, x_cmp, x_call, x_cons, x_nil, x_var, x_con, varM, thenS, M.bind_run, M.ite_ap, un1_ap, isiM, dty, isiB, truM, cmpM, eqM, deref, plain, dep, eqD, isNonD, blM]
    | _ => cases hp
/-! ### the bag's making -/
noncomputable def mBag (c1 c2 c3 c4 : Int) : MSs :=
  (.cons (.set (.nm 1) (.con (.int c1))) (.cons (.for_ (.nm 2) (.val (.slc (.var 0) .no (.yes (.con (.int (63)))))) (.cons (.set (.nm 1) (.bin .mod (.call (un1 intM) (.cons (.bin .add (.bin .add (.bin .mul (.var 1) (.con (.int c2))) (.bin .mod (.call (un1 intM) (.cons (.var 2) .nil)) (.con (.int c3)))) (.con (.int (29)))) .nil)) (.con (.int c4)))) .nil)) (.cons (.ret (.new (.cons (.call (un1 listM) (.cons (.slc (.var 0) .no (.yes (.con (.int (63))))) .nil)) (.cons (.con (.int (0))) (.cons (.con (.int (0))) (.cons (.var 1) .nil)))))) .nil)))
theorem cutL_all {α : Type} (l : List α) (h : l.length ≤ 63) : cutL l none (some 63) = l := by
  refine cut_whole ⟨HT.sIx_none _ _, ?_⟩
  rw [show HT.sIx l.length l.length (some 63) = min 63 l.length from HT.sIx_nat l.length l.length 63]
  omega
theorem bag_ok {c1 c2 c3 c4 : Int} (h1 : 0 ≤ c1 ∧ c1 < 2 ^ 40) (h2 : 0 ≤ c2 ∧ c2 < 2 ^ 40) (h3 : 0 < c3 ∧ c3 < 2 ^ 40) (h4 : 0 < c4 ∧ c4 < 2 ^ 40) (ns : List Int) (hl : ns.length ≤ 63) (m : Store) :
    ∃ l, Bag l ∧ runF 1 3 (mBag c1 c2 c3 c4) [.frz (ns.map .int)] m = .ok (.obj m.length) (m ++ [.lst l]) := by
  have es : ∀ (r : Env), evI (.val (.slc (.var 0) .no (.yes (.con (.int (63)))))) (some (.frz (ns.map .int)) :: r) m = .ok ⟨ns.map .int, none⟩ m := fun r => by
    simp [i_val, x_slc, x_no, x_yes, x_var, x_con, varM, M.bind_run, intO, slcM, itmM, cutL_all (ns.map D.int) (by simpa using hl)]
  obtain ⟨r', m', ef, sa, x2, er, s0, s1, em⟩ := forM_go (t := ⟨ns.map .int, none⟩) rfl (body := bodyF (.nm 2) (.cons (.set (.nm 1) (.bin .mod (.call (un1 intM) (.cons (.bin .add (.bin .add (.bin .mul (.var 1) (.con (.int c2))) (.bin .mod (.call (un1 intM) (.cons (.var 2) .nil)) (.con (.int c3)))) (.con (.int (29)))) .nil)) (.con (.int c4)))) .nil))
    (fun ds r m1 => ∃ (sa : Int) (x2 : Option D), r = [some (.frz (ns.map .int)), some (.int sa), x2] ∧ 0 ≤ sa ∧ sa < 2 ^ 40 ∧ m1 = m ∧ ∃ is : List Int, ds = is.map .int)
    (ds := ns.map .int) (r := [some (.frz (ns.map .int)), some (.int c1), none]) (m := m) ⟨c1, none, rfl, h1.1, h1.2, rfl, ns, rfl⟩ (fun d ds r m1 ⟨sa, x2, er, s0, s1, em, is, eds⟩ => by
      cases is with
      | nil => cases eds
      | cons i is =>
        simp only [List.map_cons, List.cons.injEq] at eds
        obtain ⟨rfl, rfl⟩ := eds
        subst er em
        have l1 := log_lt s0 (by omega) h2.1 (by omega)
        refine ⟨_, m1, .inl ?_, (sa * c2 + i % c3 + 29) % c4, some (.int i), rfl, Int.emod_nonneg _ (by omega), by have := Int.emod_lt_of_pos (sa * c2 + i % c3 + 29) h4.1; omega, rfl, is, rfl⟩
        simp [bodyF, asgG, s_cons, s_nil, s_set, thenS, x_bin, x_call, x_cons, x_nil, x_var, x_con, varM, M.bind_run, un1_ap, intM, bi_add, bi_mul, bi_mod, l1, h3.1, h4.1])
  obtain ⟨em, _⟩ := em
  subst em er
  refine ⟨[.lst (ns.map .int), .int 0, .int 0, .int sa], ⟨ns, 0, 0, sa, rfl, by omega, by omega, s0, s1⟩, ?_⟩
  simp [runF, mBag, s_cons, s_set, s_for (es _), s_ret, thenS, x_con, asgG, ef, x_new, x_cons, x_nil, x_call, x_slc, x_no, x_yes, x_var, varM, M.bind_run, un1_ap, intO, slcM, cutL_all (ns.map D.int) (by simpa using hl), listM, readQ, readL, newM, M.ite_ap, sizeLine_eq]
end Fs

/-! FsV: instances. -/
namespace Fs
open PySem PySem.Spec PyProof.Rows L2
open Classical

/-- the names of fields and of classes are apart -/
def NmOk (C : Ct) (n : Nat) : Prop := ∀ i j, j < n → C.nm i = C.nm j → i = j
def fldD (j : Nat) : List Nat → List D → Option D
  | k :: ks, v :: vs => if k = j then some v else fldD j ks vs
  | _, _ => none
def insOf (m : Store) : D → Option (Nat × List Nat × List D)
  | .ins c ks vs => some (c, ks, vs)
  | .obj n => match m[n]? with
    | some (.ins c ks vs) => some (c, ks, vs)
    | _ => none
  | _ => none
def putFD (j : Nat) (e : D) : List Nat → List D → List Nat × List D
  | k :: ks, v :: vs => if k = j then (k :: ks, e :: vs) else (k :: (putFD j e ks vs).1, v :: (putFD j e ks vs).2)
  | _, _ => ([j], [e])
section
variable {C : Ct} {X : Cx} {S : Ws}
theorem insOf_rep (w : Wf C S) {d : D} {v : V} {c : Nat} {ks : List Nat} {vs : List D} (h : insOf S.mu d = some (c, ks, vs)) (r : Rep C S d v) :
    ∃ a dx fvs, v = .ref a ∧ S.H a = some (.ins (He.ga C.K (C.nm c)) dx fvs) ∧ fvs.map (·.1) = ks.map C.nm ∧ Reps C S vs (fvs.map (·.2)) := by
  cases d with
  | ins c' ks' vs' =>
    simp only [insOf, Option.some.injEq, Prod.mk.injEq] at h
    obtain ⟨rfl, rfl, rfl⟩ := h
    simp only [Rep] at r
    obtain ⟨a, dx, fvs, e, f, h1, h2⟩ := r
    exact ⟨a, dx, fvs, e, f.1, h1, h2⟩
  | obj n =>
    simp only [Rep] at r
    obtain ⟨a, ha, e⟩ := r
    simp only [insOf] at h
    split at h
    · rename_i c' ks' vs' hm
      simp only [Option.some.injEq, Prod.mk.injEq] at h
      obtain ⟨rfl, rfl, rfl⟩ := h
      obtain ⟨dx, fvs, h1, h2, h3⟩ := w.cell n _ a hm ha
      exact ⟨a, dx, fvs, e, h1, h2, h3⟩
    · cases h
  | _ => cases h
theorem fld_look {n j : Nat} (hn : NmOk C n) (hj : j < n) : ∀ {ks : List Nat} {vs : List D} {fvs : List (Str × V)} {d : D}, fvs.map (·.1) = ks.map C.nm → Reps C S vs (fvs.map (·.2)) → fldD j ks vs = some d → ∃ v, fvs.lookup (C.nm j) = some v ∧ Rep C S d v
  | [], _, _, _, _, _, h => by simp [fldD] at h
  | _ :: _, [], _, _, _, _, h => by simp [fldD] at h
  | k :: ks, e :: vs, [], _, h1, _, _ => by simp at h1
  | k :: ks, e :: vs, (x, y) :: fvs, d, h1, h2, h => by
    simp only [List.map_cons, List.cons.injEq] at h1
    simp only [List.map_cons, Reps] at h2
    obtain ⟨v', vs', e1, r1, r2⟩ := h2
    cases e1
    simp only [fldD] at h
    split at h
    · rename_i hk
      cases h
      refine ⟨y, ?_, r1⟩
      rw [h1.1, hk]
      simp [List.lookup]
    · rename_i hk
      obtain ⟨v, q1, q2⟩ := fld_look hn hj h1.2 r2 h
      refine ⟨v, ?_, q2⟩
      have hne : ¬ C.nm j = x := fun z => hk (hn k j hj (by rw [← h1.1, z]))
      have hb : (C.nm j == x) = false := by
        rw [beq_eq_false_iff_ne]
        exact hne
      simp only [List.lookup, hb]
      exact q1
theorem fld_none {n j : Nat} (hn : NmOk C n) (hj : j < n) : ∀ {ks : List Nat} {fvs : List (Str × V)}, fvs.map (·.1) = ks.map C.nm → j ∉ ks → fvs.lookup (C.nm j) = none
  | [], [], _, _ => rfl
  | [], _ :: _, h, _ => by simp at h
  | _ :: _, [], h, _ => by simp at h
  | k :: ks, (x, y) :: fvs, h1, h => by
    simp only [List.map_cons, List.cons.injEq] at h1
    simp only [List.mem_cons, not_or] at h
    have hne : ¬ C.nm j = x := fun z => h.1 (hn k j hj (by rw [← h1.1, z])).symm
    have hb : (C.nm j == x) = false := by
      rw [beq_eq_false_iff_ne]
      exact hne
    simp only [List.lookup, hb]
    exact fld_none hn hj h1.2 h.2
theorem put_fld {n j : Nat} (hn : NmOk C n) (hj : j < n) {e : D} {y : V} (re : Rep C S e y) : ∀ {ks : List Nat} {vs : List D} {fvs : List (Str × V)}, fvs.map (·.1) = ks.map C.nm → Reps C S vs (fvs.map (·.2)) →
    (putF (C.nm j) y fvs).map (·.1) = (putFD j e ks vs).1.map C.nm ∧ Reps C S (putFD j e ks vs).2 ((putF (C.nm j) y fvs).map (·.2))
  | [], vs, [], _, h2 => by
    have : vs = [] := by
      have := h2.len
      simpa using this
    subst this
    exact ⟨rfl, Reps.cons re Reps.nil⟩
  | [], _, _ :: _, h, _ => by simp at h
  | _ :: _, _, [], h, _ => by simp at h
  | k :: ks, vs, (x, z) :: fvs, h1, h2 => by
    simp only [List.map_cons, List.cons.injEq] at h1
    cases vs with
    | nil =>
      have := h2.len
      simp at this
    | cons v vs =>
      simp only [List.map_cons, Reps] at h2
      obtain ⟨v', vs', e1, r1, r2⟩ := h2
      cases e1
      simp only [putF, putFD]
      by_cases hk : k = j
      · rw [if_pos (by rw [h1.1, hk]), if_pos hk]
        exact ⟨by simp [h1.1, h1.2], Reps.cons re r2⟩
      · rw [if_neg (fun q => hk (hn k j hj (by rw [← h1.1, q]))), if_neg hk]
        obtain ⟨q1, q2⟩ := put_fld hn hj re h1.2 r2
        exact ⟨by simp [h1.1, q1], Reps.cons r1 q2⟩
end
/-! ### e.f -/
def fldM (cs : List Nat) (j : Nat) (d : D) : M D := fun m => match insOf m d with
  | some (c, ks, vs) => if c ∈ cs then (match fldD j ks vs with
    | some x => .ok x m
    | none => .stuck) else .stuck
  | none => .stuck
/-- a field of a class -/
def FldC (C : Ct) (c j : Nat) : Prop := Cls C.K (He.ga C.K (C.nm c)) ∧ NoAttr C.K (He.ga C.K (C.nm c)) (C.nm j)
section
variable {C : Ct} {X : Cx}
theorem se_fld {n j : Nat} {cs : List Nat} {o : Expr} {mo : ME} {pos : Pos} (hn : NmOk C n) (hj : j < n) (hc : ∀ c ∈ cs, FldC C c j) (ho : SE C X o mo) (hK : X.K = C.K) (hb : attributeBase o (C.nm j) X.env (eval o X.env) = eval o X.env) :
    SE C X (.Attribute o (C.nm j) pos) (.attr (fldM cs j) mo) := fun W tk =>
  PEw (pe_fld (ho W tk) hb) fun σ H Q ⟨r, S, hH, w, sr, h⟩ => by
    subst hH
    simp only [ev] at h
    refine dnE_intro r w sr (h.bind.imp fun v1 H1 ⟨S1, d1, e1, w1, st1, r1, h1⟩ => ?_)
    subst e1
    unfold fldM at h1
    split at h1
    · rename_i c ks vs hi
      split at h1
      · rename_i hm
        split at h1
        · rename_i x hx
          obtain ⟨a, dx, fvs, e, g1, g2, g3⟩ := insOf_rep w1 hi r1
          obtain ⟨v, l, rv⟩ := fld_look hn hj g2 g3 hx
          rw [hK]
          exact ⟨a, _, dx, fvs, v, e, g1, (hc c hm).1, (hc c hm).2, l, h1.pure w1 rv⟩
        · exact h1.elim
      · exact h1.elim
    · exact h1.elim
/-! ### o.m(..) -/
structure UM (C : Ct) (P : Program) (w : World) (mg : Str → Option Value) (base : Heap) (k : Nat) (c j : Nat) (F : List D → M D) : Prop where
  cl : Cls C.K (He.ga C.K (C.nm c))
  ex : ∃ (f : Addr) (fd : FuncData) (ps : List Str), FnOk P w C.K mg base (L2.CX P w) k f fd ps (spM C ps.length F) ∧ Meth C.K (He.ga C.K (C.nm c)) (C.nm j) f ∧ Binds C.K fd ps [] ∧ ∀ ds m, ds.length ≠ ps.length → F ds m = .stuck
theorem UM.mono {P : Program} {w : World} {mg : Str → Option Value} {base : Heap} {k i c j : Nat} {F : List D → M D} (u : UM C P w mg base k c j F) (h : k ≤ i) : UM C P w mg base i c j F := by
  obtain ⟨f, fd, ps, h1, h2⟩ := u.ex
  exact ⟨u.cl, f, fd, ps, h1.mono h, h2⟩
/-- the receiver is of the class c, no field hides the method -/
def isIns (c j : Nat) (m : Store) (d : D) : Bool := match insOf m d with
  | some (c', ks, _) => decide (c' = c) && decide (j ∉ ks)
  | none => false
def selfF (F : List D → M D) (d : D) (ds : List D) : M D := F (d :: ds)
theorem run_self {k : Nat} {P : Program} {w : World} {c j n : Nat} {F : List D → M D} {pins : List (Addr × Obj)} {σ : L2.St} {s : Shared} {S : Ws} {Q : VK} {us : List Value} {vs : List V} {ds : List D} {f : Addr} {fd : FuncData} {ps : List Str} {W : WX} (tk : Takes X W)
    (h1 : FnOk X.prog X.w X.K X.mg X.base (L2.CX X.prog X.w) k f fd ps (spM C ps.length F)) (hr : Room k X.A) (hb : Binds X.K fd ps []) (h5 : ∀ ds m, ds.length ≠ ps.length → F ds m = .stuck) (I : Inv X pins σ S.H s) (r : Vals vs us) (wf : Wf C S) (rs : Reps C S ds vs)
    (h : PostE C S (F ds S.mu) (fun c d H' => W c d σ H') Q) : wpAny (model X.prog X.w) X.A (call (.ref f) us) (EP X pins σ Q) X.xe s := by
  refine run_fnSD (dvs := []) (E := WE W) h1 hr hb .nil (passAt tk σ) I r ?_
  rw [List.append_nil]
  refine ⟨?_, S, ds, rfl, wf, rs, h⟩
  rw [← rs.len]
  by_cases hl : ds.length = ps.length
  · exact hl
  · rw [h5 _ _ hl] at h
    exact h.elim
theorem se_meth {k i n c j : Nat} {F : List D → M D} {o e : Expr} {es : List Expr} {mo : ME} {mes : MEs} {apos pos : Pos} {pl : Sem Bool} (u : UM C X.prog X.w X.mg X.base k c j F) (hr : Room i X.A) (hk : k ≤ i) (hn : NmOk C n) (hj : j < n) (hK : X.K = C.K) (hs : noStar (e :: es) = true)
    (ho : SE C X o mo) (hes : SA C X (e :: es) mes)
    (ht : eval (.Call (.Attribute o (C.nm j) apos) (e :: es) [] pos) X.env = (do
      let ov ← eval o X.env
      standAt apos.atName
      let (f, first) ← holding [ov] (getMethod ov (C.nm j) pl)
      callWith pos f first (backTo pos (starEach (e :: es) X.env)) (backToKw pos (keywordEach [] X.env)))) :
    SE C X (.Call (.Attribute o (C.nm j) apos) (e :: es) [] pos) (.meth (isIns c j) (selfF F) mo mes) := fun W tk => by
  obtain ⟨f, fd, ps, h1, h2, h4, h5⟩ := u.ex
  have cl := u.cl
  rw [← hK] at h1 h2 h4 cl
  simp only [noStar, List.all_cons, Bool.and_eq_true, Bool.not_eq_true'] at hs
  refine ⟨fun pins s σ H Q I ⟨r, S, hH, w, sr, h⟩ => ?_⟩
  subst hH
  simp only [ev] at h
  refine PySem.W.methodCall_KW (pl := pl) (thn ((ho W tk).run pins s σ S.H (fun v1 H1 => ∃ S1 d1, S1.H = H1 ∧ Wf C S1 ∧ Step S S1 ∧ Rep C S1 d1 v1 ∧ PostE C S1 ((chkM (isIns c j) d1 >>= fun _ => evs mes r >>= fun xs => selfF F d1 xs) S1.mu) (fun c d H' => W c d σ H') Q) I
    (dnE_intro r w sr (h.bind.imp fun _ _ z => z))) fun u1 s1 ⟨x, H1, I1, rx, S1, d1, e1, w1, st1, r1, hz⟩ => ?_) ht
  subst e1
  obtain ⟨p, h2'⟩ := hz.chk
  unfold isIns at p
  split at p
  · rename_i c' ks vs hi
    simp only [Bool.and_eq_true, decide_eq_true_eq] at p
    obtain ⟨rfl, hm⟩ := p
    obtain ⟨a, dx, fvs, e, g1, g2, g3⟩ := insOf_rep w1 hi r1
    subst e
    obtain rfl : u1 = Value.ref a := rx
    rw [← hK] at g1
    refine getmeth_ok I1 g1 cl h2 (fld_none hn hj g2 hm) ?_
    refine PySem.W.callWith_K (first := [.ref a]) (h₀ := X.base) I.ok.mod.kin h2.kp (thn ((hes W tk).run pos pins s1 σ S1.H (fun vs H2 => ∃ S2 ds, S2.H = H2 ∧ Wf C S2 ∧ Step S1 S2 ∧ Reps C S2 ds vs ∧ PostE C S2 (selfF F d1 ds S2.mu) (fun c d H' => W c d σ H') Q) I1
      (dnA_intro r w1 (sr.mono st1) (h2'.bindA.imp fun _ _ z => z))) fun us s2 ⟨vs, H2, I2, rv, S2, ds, e2, w2, st2, r2, h3⟩ => ⟨I2.kIn, ?_⟩) (star_cons hs.1) (star_any hs.2)
    subst e2
    exact run_self (P := X.prog) (w := X.w) (c := 0) (j := 0) (n := 0) (us := .ref a :: us) (vs := .ref a :: vs) tk h1 (hr.mono hk) h4 h5 I2 (.cons rfl rv) w2 (Reps.cons (r1.mono st2) r2) h3
  · cases p
theorem se_meth0 {k i n c j : Nat} {F : List D → M D} {o : Expr} {mo : ME} {apos pos : Pos} {pl : Sem Bool} (u : UM C X.prog X.w X.mg X.base k c j F) (hr : Room i X.A) (hk : k ≤ i) (hn : NmOk C n) (hj : j < n) (hK : X.K = C.K)
    (ho : SE C X o mo)
    (ht : eval (.Call (.Attribute o (C.nm j) apos) [] [] pos) X.env = (do
      let ov ← eval o X.env
      standAt apos.atName
      let (f, first) ← holding [ov] (getMethod ov (C.nm j) pl)
      callWith pos f first (backTo pos (starEach [] X.env)) (backToKw pos (keywordEach [] X.env)))) :
    SE C X (.Call (.Attribute o (C.nm j) apos) [] [] pos) (.meth (isIns c j) (selfF F) mo .nil) := fun W tk => by
  obtain ⟨f, fd, ps, h1, h2, h4, h5⟩ := u.ex
  have cl := u.cl
  rw [← hK] at h1 h2 h4 cl
  refine ⟨fun pins s σ H Q I ⟨r, S, hH, w, sr, h⟩ => ?_⟩
  subst hH
  simp only [ev] at h
  refine PySem.W.methodCall_KW (pl := pl) (thn ((ho W tk).run pins s σ S.H (fun v1 H1 => ∃ S1 d1, S1.H = H1 ∧ Wf C S1 ∧ Step S S1 ∧ Rep C S1 d1 v1 ∧ PostE C S1 ((chkM (isIns c j) d1 >>= fun _ => evs .nil r >>= fun xs => selfF F d1 xs) S1.mu) (fun c d H' => W c d σ H') Q) I
    (dnE_intro r w sr (h.bind.imp fun _ _ z => z))) fun u1 s1 ⟨x, H1, I1, rx, S1, d1, e1, w1, st1, r1, hz⟩ => ?_) ht
  subst e1
  obtain ⟨p, h2'⟩ := hz.chk
  unfold isIns at p
  split at p
  · rename_i c' ks vs hi
    simp only [Bool.and_eq_true, decide_eq_true_eq] at p
    obtain ⟨rfl, hm⟩ := p
    obtain ⟨a, dx, fvs, e, g1, g2, g3⟩ := insOf_rep w1 hi r1
    subst e
    obtain rfl : u1 = Value.ref a := rx
    rw [← hK] at g1
    refine getmeth_ok I1 g1 cl h2 (fld_none hn hj g2 hm) ?_
    refine PySem.W.callWith_K0 (first := [.ref a]) I1.kIn h2.kp ?_
    simp only [evs] at h2'
    exact run_self (P := X.prog) (w := X.w) (c := 0) (j := 0) (n := 0) (us := [.ref a]) (vs := [.ref a]) (ds := [d1]) tk h1 (hr.mono hk) h4 h5 I1 (.cons rfl .nil) w1 (Reps.cons r1 Reps.nil) h2'
  · cases p
/-! ### properties -/
structure UP (C : Ct) (P : Program) (w : World) (mg : Str → Option Value) (base : Heap) (k : Nat) (c j : Nat) (F : List D → M D) : Prop where
  cl : Cls C.K (He.ga C.K (C.nm c))
  ex : ∃ (p f : Addr) (fd : FuncData) (ps : List Str), FnOk P w C.K mg base (L2.CX P w) k f fd ps (spM C ps.length F) ∧ PropOf C.K (He.ga C.K (C.nm c)) (C.nm j) p f ∧ Binds C.K fd ps [] ∧ ∀ ds m, ds.length ≠ ps.length → F ds m = .stuck
/-- the getter lets nothing out -/
def noExc {α : Type} (x : M α) : M α := fun m => match x m with
  | .ok a m' => .ok a m'
  | _ => .stuck
def propM (c : Nat) (F : List D → M D) (d : D) : M D := fun m => match insOf m d with
  | some (c', _, _) => if c' = c then noExc (F [d]) m else .stuck
  | none => .stuck
theorem se_prop {k i c j : Nat} {F : List D → M D} {o : Expr} {mo : ME} {pos : Pos} (u : UP C X.prog X.w X.mg X.base k c j F) (hr : Room i X.A) (hk : k < i) (hK : X.K = C.K) (ho : SE C X o mo) (hb : attributeBase o (C.nm j) X.env (eval o X.env) = eval o X.env) :
    SE C X (.Attribute o (C.nm j) pos) (.attr (propM c F) mo) := fun W tk => by
  obtain ⟨p, f, fd, ps, h1, h2, h4, h5⟩ := u.ex
  have cl := u.cl
  rw [← hK] at h1 h2 h4 cl
  refine PEw (pe_prop (CX := L2.CX X.prog X.w) (dvs := []) (E := fun _ _ _ => False) (ho W tk) cl h2 h1 (hr.mono (by omega)) h4 .nil (fun pins σ H s e s' I z => by obtain ⟨_, _, _, _, _, _, _, _, _, _, _, _, z⟩ := z; exact z.elim) hb) fun σ H Q ⟨r, S, hH, w, sr, h⟩ => ?_
  subst hH
  simp only [ev] at h
  refine dnE_intro r w sr (h.bind.imp fun v1 H1 ⟨S1, d1, e1, w1, st1, r1, h1'⟩ => ?_)
  subst e1
  unfold propM at h1'
  split at h1'
  · rename_i c' ks vs hi
    split at h1'
    · rename_i hc
      subst hc
      obtain ⟨a, dx, fvs, e, g1, g2, g3⟩ := insOf_rep w1 hi r1
      subst e
      rw [← hK] at g1
      refine ⟨a, dx, fvs, rfl, g1, ?_⟩
      have hz : PostE C S1 (F [d1] S1.mu) (fun _ _ _ => False) Q := by
        unfold noExc at h1'
        cases e : F [d1] S1.mu with
        | ok a m => rw [e] at h1'; exact h1'
        | exc c ks vs m => rw [e] at h1'; exact h1'.elim
        | stuck => rw [e] at h1'; exact h1'
      refine ⟨?_, S1, [d1], rfl, w1, Reps.cons r1 Reps.nil, hz⟩
      by_cases hl : ([d1] : List D).length = ps.length
      · exact hl
      · rw [h5 _ _ hl] at hz
        exact hz.elim
    · exact h1'.elim
  · exact h1'.elim
/-! ### e.f = .. -/
def setFldM (cs : List Nat) (j : Nat) (o e : D) : M Unit := fun m => match o with
  | .obj n => match m[n]? with
    | some (.ins c ks vs) => if c ∈ cs ∧ ks.length < 1000 then .ok () (m.set n (.ins c (putFD j e ks vs).1 (putFD j e ks vs).2)) else .stuck
    | _ => .stuck
  | _ => .stuck
theorem ss_fld {n j : Nat} {cs : List Nat} {o e : Expr} {mo me : ME} {pos pos' : Pos} (hn : NmOk C n) (hj : j < n) (hc : ∀ c ∈ cs, FldC C c j) (hK : X.K = C.K) (ho : SE C X o mo) (he : SE C X e me) (hs : swapsWith e (some (.Attribute o (C.nm j) pos')) pos.line X.env = pure false) :
    SS C X (.Assign [.Attribute o (C.nm j) pos'] e pos) (.setAt (setFldM cs j) mo me) := fun W tk =>
  PSw (ps_fld (ho W tk) (he W tk) hs) fun Dn σ H ⟨r, S, hH, w, sr, h⟩ => by
    subst hH
    simp only [evS] at h
    have h' : PostS C S (thenS (ev me r) r S.mu fun v m1 => thenS (ev mo r) r m1 fun x m2 => thenS (setFldM cs j x v) r m2 fun _ m3 => some (.nxt r, m3)) W Dn := by
      have e : thenS (do let v ← ev me r; let x ← ev mo r; setFldM cs j x v) r S.mu (fun _ m' => some (.nxt r, m')) = thenS (ev me r) r S.mu fun v m1 => thenS (ev mo r) r m1 fun x m2 => thenS (setFldM cs j x v) r m2 fun _ m3 => some (.nxt r, m3) := by
        unfold thenS
        rw [M.bind_ap]
        cases ev me r S.mu with
        | ok a m1 =>
          simp only
          rw [M.bind_ap]
          cases ev mo r m1 <;> rfl
        | exc c ks vs m1 => rfl
        | stuck => rfl
      rw [← e]; exact h
    refine dnE_intro r w sr ((thenS_ok sr h').imp fun v1 H1 ⟨S1, d1, e1, w1, st1, r1, h1⟩ => ?_)
    subst e1
    refine dnE_intro r w1 (sr.mono st1) ((thenS_ok (sr.mono st1) h1).imp fun v2 H2 ⟨S2, d2, e2, w2, st2, r2, h2⟩ => ?_)
    subst e2
    have sr2 := (sr.mono st1).mono st2
    unfold setFldM at h2
    cases d2 with
    | obj q =>
      simp only [Rep] at r2
      obtain ⟨a, ha, e⟩ := r2
      cases hm : S2.mu[q]? with
      | none => simp only [thenS, hm] at h2; exact h2.elim
      | some cl =>
        cases cl with
        | ins c ks vs =>
          by_cases hcc : c ∈ cs ∧ ks.length < 1000
          · simp only [thenS, hm, if_pos hcc] at h2
            obtain ⟨dx, fvs, g1, g2, g3⟩ := w2.cell q _ a hm ha
            rw [hK]
            refine ⟨a, _, dx, fvs, e, g1, (hc c hcc.1).1, (hc c hcc.1).2, ?_, ?_⟩
            · have := congrArg List.length g2
              simp at this
              omega
            · have st : Step S2 (S2.put q a (.ins (He.ga C.K (C.nm c)) dx (putF (C.nm j) v1 fvs)) (.ins c (putFD j d1 ks vs).1 (putFD j d1 ks vs).2)) := Step.put w2 hm rfl ha
              obtain ⟨p1, p2⟩ := put_fld hn hj ((r1.mono st2).mono st) g2 (g3.mono st)
              have w3 := w2.put hm rfl ha (o := .ins (He.ga C.K (C.nm c)) dx (putF (C.nm j) v1 fvs)) (c := .ins c (putFD j d1 ks vs).1 (putFD j d1 ks vs).2) ⟨dx, _, upd_same, p1, p2⟩
              exact h2 (S2.put q a (.ins (He.ga C.K (C.nm c)) dx (putF (C.nm j) v1 fvs)) (.ins c (putFD j d1 ks vs).1 (putFD j d1 ks vs).2)) rfl w3 st σ (sr2.mono st)
          · simp only [thenS, hm, if_neg hcc] at h2
            exact h2.elim
        | _ => simp only [thenS, hm] at h2; exact h2.elim
    | _ => exact h2.elim
/-! ### C(..) -/
structure UK (C : Ct) (P : Program) (w : World) (mg : Str → Option Value) (base : Heap) (k : Nat) (c : Nat) (F : List D → M D) : Prop where
  gl : mg (C.nm c) = some (.ref (He.ga C.K (C.nm c)))
  ex : ∃ (f : Addr) (fd : FuncData) (ps : List Str), FnOk P w C.K mg base (L2.CX P w) k f fd ps (spM C ps.length F) ∧ Mk C.K (He.ga C.K (C.nm c)) f ∧ Binds C.K fd ps [] ∧ ∀ ds m, ds.length ≠ ps.length → F ds m = .stuck
/-- a new instance, by its __init__ -/
def makeM (c : Nat) (F : List D → M D) (ds : List D) : M D := fun m => match F (.obj m.length :: ds) (m ++ [.ins c [] []]) with
  | .ok .non m' => .ok (.obj m.length) m'
  | .ok _ _ => .stuck
  | .exc c ks vs m' => .exc c ks vs m'
  | .stuck => .stuck
theorem make_sp {c : Nat} {F : List D → M D} {ps : List Str} (h5 : ∀ ds m, ds.length ≠ ps.length → F ds m = .stuck) {S : Ws} (w : Wf C S) {ds : List D} {vs : List V} (rs : Reps C S ds vs) {W : XK} {Q : VK} (h : PostE C S (makeM c F ds S.mu) W Q) :
    ∀ x dx, S.H x = none → S.H dx = none → dx ≠ x → spM C ps.length F (.ref x :: vs) (upd (upd S.H dx (.own x)) x (.ins (He.ga C.K (C.nm c)) dx [])) (fun v H2 => v = .non ∧ Q (.ref x) H2) W := by
  intro x dx hx hdx hne
  have w1 : Wf C (S.new dx (.own x)) := w.new hdx
  have hx1 : (S.new dx (.own x)).H x = none := by
    show upd S.H dx (.own x) x = none
    rw [upd_ne hne.symm]; exact hx
  have st1 : Step S (S.new dx (.own x)) := Step.new w hdx
  have st2 : Step (S.new dx (.own x)) ((S.new dx (.own x)).cell x (.ins (He.ga C.K (C.nm c)) dx []) (.ins c [] [])) := Step.cell w1 hx1
  have w2 : Wf C ((S.new dx (.own x)).cell x (.ins (He.ga C.K (C.nm c)) dx []) (.ins c [] [])) := w1.cell' hx1 ⟨dx, [], upd_same, rfl, Reps.nil⟩
  have ro : Rep C ((S.new dx (.own x)).cell x (.ins (He.ga C.K (C.nm c)) dx []) (.ins c [] [])) (.obj S.mu.length) (.ref x) := by
    simp only [Rep]
    refine ⟨x, ?_, rfl⟩
    show (S.ad ++ [x])[S.mu.length]? = some x
    rw [← w.len]
    simp
  have hz : PostE C ((S.new dx (.own x)).cell x (.ins (He.ga C.K (C.nm c)) dx []) (.ins c [] [])) (F (.obj S.mu.length :: ds) (S.mu ++ [.ins c [] []])) W (fun v H2 => v = .non ∧ Q (.ref x) H2) := by
    unfold makeM at h
    cases e : F (.obj S.mu.length :: ds) (S.mu ++ [.ins c [] []]) with
    | stuck => rw [e] at h; exact h
    | exc c' ks vs' m' =>
      rw [e] at h
      exact fun S' dx' hm w' st ea => h S' dx' hm w' ((st1.trans st2).trans st) ea
    | ok d m' =>
      rw [e] at h
      cases d with
      | non =>
        intro S' v hm w' st rv
        rw [rep_non] at rv
        exact ⟨rv, h S' (.ref x) hm w' ((st1.trans st2).trans st) (ro.mono st)⟩
      | _ => exact h.elim
  refine ⟨?_, _, .obj S.mu.length :: ds, rfl, w2, Reps.cons ro ((rs.mono st1).mono st2), hz⟩
  rw [List.length_cons, ← rs.len]
  by_cases hl : (D.obj S.mu.length :: ds).length = ps.length
  · exact hl
  · rw [h5 _ _ hl] at hz
    exact hz.elim
theorem run_makeS {k c : Nat} {F : List D → M D} {pins : List (Addr × Obj)} {σ : L2.St} {s : Shared} {S : Ws} {Q : VK} {us : List Value} {vs : List V} {ds : List D} {f : Addr} {fd : FuncData} {ps : List Str} {W : WX} (tk : Takes X W) (hK : X.K = C.K)
    (M : Mk X.K (He.ga C.K (C.nm c)) f) (h1 : FnOk X.prog X.w X.K X.mg X.base (L2.CX X.prog X.w) k f fd ps (spM C ps.length F)) (hr : Room (k + 1) X.A) (hb : Binds X.K fd ps []) (h5 : ∀ ds m, ds.length ≠ ps.length → F ds m = .stuck) (I : Inv X pins σ S.H s) (r : Vals vs us) (wf : Wf C S) (rs : Reps C S ds vs)
    (h : PostE C S (makeM c F ds S.mu) (fun c d H' => W c d σ H') Q) : wpAny (model X.prog X.w) X.A (call (.ref (He.ga C.K (C.nm c))) us) (EP X pins σ Q) X.xe s := by
  have hq := make_sp h5 wf rs h (s.heap.objs.size + 1) s.heap.objs.size (I.hok.fresh (Nat.le_succ _)) (I.hok.fresh (Nat.le_refl _)) (Nat.ne_of_lt (Nat.lt_succ_self _))
  have I2 := Inv.made (C := He.ga C.K (C.nm c)) I
  have r2 : Vals (V.ref (s.heap.objs.size + 1) :: vs) (Value.ref (s.heap.objs.size + 1) :: us) := .cons rfl r
  have hl : (Value.ref (s.heap.objs.size + 1) :: us).length = ps.length := by
    have e := r2.length
    rw [hq.1] at e
    exact e.symm
  have b := hb _ (Value.ref (s.heap.objs.size + 1) :: us) I2.kIn (by rw [List.append_nil]; exact hl)
  rw [List.append_nil] at b
  refine wpAny_call (make_map (f := f) I.kIn M.makes M.init (beq_iff_eq.mp M.fn) (codeAny_mono (h1.run _ X.stack _ _ ⟨Value.ref (s.heap.objs.size + 1) :: us, []⟩ (Value.ref (s.heap.objs.size + 1) :: us) _ _ (WE W σ) (hr.make _ us [])
    (I2.env0.make _ us []) b r2 hq) fun r' s' hq' => ?_))
  cases r' with
  | error e => exact passAt tk σ pins _ _ e s' I2 hq'
  | ok fl =>
    cases fl with
    | ret u =>
      obtain ⟨v, H', I3, rv, ev, q3⟩ := I2.after hq'
      subst ev
      exact ⟨rv, ⟨V.ref (s.heap.objs.size + 1), H', I3, rfl, q3⟩⟩
    | next => exact False.elim hq'
    | brk => exact False.elim hq'
    | cont => exact False.elim hq'
theorem callOk_K {k i c : Nat} {F : List D → M D} (u : UK C X.prog X.w X.mg X.base k c F) (hK : X.K = C.K) (hr : Room i X.A) (hk : k < i) (hdb : (C.nm c == ("__debug__" : Str)) = false) : CallOk1 C X (C.nm c) (makeM c F) := by
  intro hg W tk e es ta p pos ha hs
  obtain ⟨f, fd, ps, h1, h2, h4, h5⟩ := u.ex
  rw [← hK] at h1 h4
  have h2' : Mk X.K (He.ga C.K (C.nm c)) f := by rw [hK]; exact h2
  simp only [noStar, List.all_cons, Bool.and_eq_true, Bool.not_eq_true'] at hs
  refine ⟨fun pins s σ H Q I ⟨r, S, hH, w, sr, h⟩ => ?_⟩
  subst hH
  refine wpAny_Call_Name_kw (ld_glob I hg u.gl ?_ hdb)
  refine PySem.W.callWith_K (h₀ := X.base) I.ok.mod.kin h2'.kp (thn (ha.run pos pins s σ S.H (fun vs H' => ∃ S' ds, S'.H = H' ∧ Wf C S' ∧ Step S S' ∧ Reps C S' ds vs ∧ PostE C S' (makeM c F ds S'.mu) (fun c d H' => W c d σ H') Q) I
    (dnA_intro r w sr h.bindA)) fun us s1 ⟨vs, H1, I1, rv, S1, ds, e1, w1, st1, rs, h3⟩ => ⟨I1.kIn, ?_⟩) (star_cons hs.1) (star_any hs.2)
  subst e1
  exact run_makeS tk hK h2' h1 (hr.mono hk) h4 h5 I1 rv w1 rs h3
theorem se_make0 {k i c : Nat} {F : List D → M D} {p pos : Pos} (u : UK C X.prog X.w X.mg X.base k c F) (hK : X.K = C.K) (hr : Room i X.A) (hk : k < i) (hg : Gl X (C.nm c)) (hdb : (C.nm c == ("__debug__" : Str)) = false) : SE C X (.Call (.Name (C.nm c) p) [] [] pos) (.call (makeM c F) .nil) := fun W tk => by
  obtain ⟨f, fd, ps, h1, h2, h4, h5⟩ := u.ex
  rw [← hK] at h1 h4
  have h2' : Mk X.K (He.ga C.K (C.nm c)) f := by rw [hK]; exact h2
  refine ⟨fun pins s σ H Q I ⟨r, S, hH, w, sr, h⟩ => ?_⟩
  subst hH
  refine wpAny_Call_Name_kw (ld_glob I hg u.gl ?_ hdb)
  refine PySem.W.callWith_K0 I.kIn h2'.kp ?_
  simp only [ev, evs] at h
  exact run_makeS (us := []) (vs := []) (ds := []) tk hK h2' h1 (hr.mono hk) h4 h5 I .nil w Reps.nil h
end
end Fs

/-! FsW: special methods of instances: ==, len, repr, call; isinstance of own classes. -/
namespace Fs
open PySem PySem.Spec PyProof.Rows L2
open Classical

/-- a special method of a class -/
structure US (C : Ct) (P : Program) (w : World) (mg : Str → Option Value) (base : Heap) (k : Nat) (c : Nat) (m : Str) (F : List D → M D) : Prop where
  ex : ∃ (f : Addr) (fd : FuncData) (ps : List Str), FnOk P w C.K mg base (L2.CX P w) k f fd ps (spM C ps.length F) ∧ PySem.W.findIn C.K (.ref (He.ga C.K (C.nm c))) m = some (some (.ref f)) ∧ PySem.W.isFn C.K (.ref f) = true ∧ PySem.W.fnIn C.K f = true ∧ Binds C.K fd ps [] ∧
    ∀ ds m, ds.length ≠ ps.length → F ds m = .stuck
abbrev Tb := List (Nat × (List D → M D))
/-- the special method's answer, a truth value -/
def asBl (x : R D) : R D := match x with
  | .ok (.bl b) m => .ok (.bl b) m
  | _ => .stuck
def asInt (x : R D) : R D := match x with
  | .ok (.int n) m => if 0 ≤ n ∧ n < 2 ^ 63 then .ok (.int n) m else .stuck
  | _ => .stuck
def asStr (x : R D) : R D := match x with
  | .ok (.str n) m => .ok (.str n) m
  | _ => .stuck
def own1 (tab : Tb) (g : R D → R D) (f : D → M D) (d : D) : M D := fun m => match insOf m d with
  | some (c, _, _) => (match tab.lookup c with
    | some F => g (F [d] m)
    | none => .stuck)
  | none => f d m
section
variable {C : Ct} {X : Cx}
theorem run_spec {k : Nat} {F : List D → M D} {A' : Around} {pins : List (Addr × Obj)} {σ : L2.St} {s : Shared} {S : Ws} {Q : VK} {us : List Value} {vs : List V} {ds : List D} {f : Addr} {fd : FuncData} {ps : List Str} {E' : Value → Shared → Prop}
    (h1 : FnOk X.prog X.w X.K X.mg X.base (L2.CX X.prog X.w) k f fd ps (spM C ps.length F)) (hr : Room k A') (hf : A'.frames = X.A.frames) (hb : Binds X.K fd ps []) (h5 : ∀ ds m, ds.length ≠ ps.length → F ds m = .stuck) (I : Inv X pins σ S.H s) (r : Vals vs us) (wf : Wf C S) (rs : Reps C S ds vs)
    (h : PostE C S (F ds S.mu) (fun _ _ _ => False) Q) : wpAny (model X.prog X.w) A' (call (.ref f) us) (EP X pins σ Q) E' s := by
  have hsp : spM C ps.length F vs S.H Q (fun _ _ _ => False) := by
    refine ⟨?_, S, ds, rfl, wf, rs, h⟩
    rw [← rs.len]
    by_cases hl : ds.length = ps.length
    · exact hl
    · rw [h5 _ _ hl] at h
      exact h.elim
  have hl : us.length = ps.length := by rw [← r.length]; exact hsp.1
  have b := hb s us I.kIn (by rw [List.append_nil]; exact hl)
  rw [List.append_nil] at b
  have e0 : Env0 X.prog X.w X.K X.mg X.base A' X.stack s S.H := by
    have e := I.env0
    exact ⟨by rw [hf]; exact e.frames, e.mod, e.bs, e.bsz, e.funs, e.frf, e.hok, e.bare⟩
  refine wpAny_call (codeAny_mono (h1.run A' X.stack s S.H ⟨us, []⟩ us vs Q (fun _ _ _ => False) hr e0 b r hsp) fun r s' hq => ?_)
  cases r with
  | error e =>
    obtain ⟨_, _, _, _, _, _, _, _, _, _, _, _, z⟩ := hq
    exact z.elim
  | ok fl =>
    cases fl with
    | ret u => exact I.after hq
    | next => exact False.elim hq
    | brk => exact False.elim hq
    | cont => exact False.elim hq
theorem asBl_ok {S : Ws} {x : R D} {Q : VK} {W : XK} (h : PostE C S (asBl x) W Q) : PostE C S x (fun _ _ _ => False) (fun v H => ∃ b, v = .bl b ∧ Q (.bl b) H) := by
  cases x with
  | ok d m =>
    cases d with
    | bl b =>
      intro S' v hm w st r
      rw [rep_bl] at r
      exact ⟨b, r, h S' (.bl b) hm w st (rep_bl.mpr rfl)⟩
    | _ => exact h.elim
  | exc c ks vs m => exact h.elim
  | stuck => exact h
theorem asInt_ok {S : Ws} {x : R D} {Q : VK} {W : XK} (h : PostE C S (asInt x) W Q) : PostE C S x (fun _ _ _ => False) (fun v H => ∃ n, v = .int n ∧ (0 ≤ n ∧ n < 2 ^ 63) ∧ Q (.int n) H) := by
  cases x with
  | ok d m =>
    cases d with
    | int n =>
      by_cases hn : 0 ≤ n ∧ n < 2 ^ 63
      · simp only [asInt, if_pos hn] at h
        intro S' v hm w st r
        rw [rep_int] at r
        exact ⟨n, r, hn, h S' (.int n) hm w st (rep_int.mpr rfl)⟩
      · simp only [asInt, if_neg hn] at h
        exact h.elim
    | _ => exact h.elim
  | exc c ks vs m => exact h.elim
  | stuck => exact h
theorem asStr_ok {S : Ws} {x : R D} {Q : VK} {W : XK} (h : PostE C S (asStr x) W Q) : PostE C S x (fun _ _ _ => False) (fun v H => ∃ z, v = .str z ∧ Q (.str z) H) := by
  cases x with
  | ok d m =>
    cases d with
    | str n =>
      intro S' v hm w st r
      have r' := r
      rw [rep_str] at r
      exact ⟨toS n, r.1, h S' (.str (toS n)) hm w st (by rw [← r.1]; exact r')⟩
    | _ => exact h.elim
  | exc c ks vs m => exact h.elim
  | stuck => exact h
/-! ### len -/
def rOwn1 (C : Ct) (tab : Tb) (g : R D → R D) : List V → Hp → VK → Prop := fun vs H Q => ∃ S d v c ks ds F, S.H = H ∧ Wf C S ∧ vs = [v] ∧ Rep C S d v ∧ insOf S.mu d = some (c, ks, ds) ∧ tab.lookup c = some F ∧ PostE C S (g (F [d] S.mu)) (fun _ _ _ => True) Q
theorem postW {S : Ws} {g : R D → R D} (hg : ∀ x c ks vs m, g x ≠ .exc c ks vs m) {x : R D} {W W' : XK} {Q : VK} (h : PostE C S (g x) W Q) : PostE C S (g x) W' Q := by
  cases e : g x with
  | ok d m => rw [e] at h; exact h
  | exc c ks vs m => exact absurd e (hg x c ks vs m)
  | stuck => rw [e] at h; exact h
theorem asInt_ne : ∀ x c ks vs m, asInt x ≠ .exc c ks vs m := fun x c ks vs m h => by
  unfold asInt at h
  split at h
  · split at h <;> cases h
  · cases h
theorem asStr_ne : ∀ x c ks vs m, asStr x ≠ .exc c ks vs m := fun x c ks vs m h => by
  unfold asStr at h
  split at h <;> cases h
theorem asBl_ne : ∀ x c ks vs m, asBl x ≠ .exc c ks vs m := fun x c ks vs m h => by
  unfold asBl at h
  split at h <;> cases h
theorem own1_ok {tab : Tb} {g : R D → R D} (hg : ∀ x c ks vs m, g x ≠ .exc c ks vs m) {f : D → M D} {r0 : List V → Hp → VK → Prop} {S : Ws} {d : D} {v : V} {W : XK} {Q : VK} (w : Wf C S) (r : Rep C S d v) (h : PostE C S (own1 tab g f d S.mu) W Q) (h0 : PostE C S (f d S.mu) W Q → r0 [v] S.H Q) :
    rOwn1 C tab g [v] S.H Q ∨ r0 [v] S.H Q := by
  unfold own1 at h
  split at h
  · rename_i c ks ds hi
    split at h
    · rename_i F hF
      exact .inl ⟨S, d, v, c, ks, ds, F, rfl, w, rfl, r, hi, hF, postW hg h⟩
    · exact h.elim
  · exact .inr (h0 h)
theorem units_in1 {A : Around} : A.in1.units = A.units + 1 := rfl
theorem cr_lenO {k i : Nat} {tab : Tb} (hK : X.K = C.K) (hr : Room i X.A) (hk : k < i) (hT : ∀ c F, tab.lookup c = some F → US C X.prog X.w X.mg X.base k c "__len__" F) : CallR X (.builtin "len") (rOwn1 C tab asInt) := by
  intro pins s σ H vs us Q I rv h
  obtain ⟨S, d, v, c, ks, ds, F, hH, w, ev, r, hi, hF, hp⟩ := h
  subst hH ev
  obtain ⟨f, fd, ps, h1, h2, h3, _, h4, h5⟩ := (hT c F hF).ex
  rw [← hK] at h1 h2 h3 h4
  obtain ⟨a, dx, fvs, e, g1, _, _⟩ := insOf_rep w hi r
  subst e
  cases rv with
  | cons ru rn =>
    rename_i u us'
    cases rn
    obtain rfl : u = Value.ref a := ru
    obtain ⟨mA, J, _⟩ := ins_get I.hok g1
    obtain ⟨od, J, _⟩ := J.look
    obtain ⟨m, hFr⟩ := I.fr
    rw [← hK] at J
    refine PySem.W.len_K hFr I.ok.mod.kin J h2 h3 (wpAny_mono (run_spec (k := k) h1 ((hr.mono (show k + 1 ≤ i by omega)).in1) rfl h4 h5 I (.cons (show RelV (.ref a) (.ref a) from rfl) .nil) w (Reps.cons r Reps.nil) (asInt_ok hp)) (fun u s' hq => ?_) fun _ _ z => z)
    obtain ⟨v, H', I', rv, n, ev, hn, q⟩ := hq
    subst ev
    obtain ⟨t, rfl⟩ := rv
    exact ⟨hn, .int n, H', I'.tok _, ⟨_, rfl⟩, q⟩
theorem co_lenO {k i : Nat} {tab : Tb} (hK : X.K = C.K) (hm : X.mg "len" = none) (hr : Room i X.A) (hk : k < i) (hT : ∀ c F, tab.lookup c = some F → US C X.prog X.w X.mg X.base k c "__len__" F) : CallOk1 C X "len" (un1 (own1 tab asInt lenM)) :=
  callOk_B ((cr_lenO hK hr hk hT).or call_lenA) hm PySem.boot_len (fun _ => rfl) (by decide) (by decide) fun S ds vs W Q w rs h => by
    rw [hK]
    exact un1_ok (r := fun vs H Q => rOwn1 C tab asInt vs H Q ∨ rLenA C.K vs H Q) (fun d v r h => own1_ok asInt_ne w r h fun h0 => len_ok w r h0) rs h
/-! ### repr -/
theorem cr_reprO {k i : Nat} {tab : Tb} (hK : X.K = C.K) (hr : Room i X.A) (hk : k < i) (hT : ∀ c F, tab.lookup c = some F → US C X.prog X.w X.mg X.base k c "__repr__" F) : CallR X (.builtin "repr") (rOwn1 C tab asStr) := by
  intro pins s σ H vs us Q I rv h
  obtain ⟨S, d, v, c, ks, ds, F, hH, w, ev, r, hi, hF, hp⟩ := h
  subst hH ev
  obtain ⟨f, fd, ps, h1, h2, h3, _, h4, h5⟩ := (hT c F hF).ex
  rw [← hK] at h1 h2 h3 h4
  obtain ⟨a, dx, fvs, e, g1, _, _⟩ := insOf_rep w hi r
  subst e
  cases rv with
  | cons ru rn =>
    rename_i u us'
    cases rn
    obtain rfl : u = Value.ref a := ru
    obtain ⟨mA, J, _⟩ := ins_get I.hok g1
    obtain ⟨od, J, _⟩ := J.look
    obtain ⟨m, hFr⟩ := I.fr
    rw [← hK] at J
    have hr1 := (hr.mono (show k + 1 ≤ i by omega)).in1
    refine PySem.W.repr_K hr1.units0 hFr I.ok.mod.kin J h2 h3 (wpAny_mono (run_spec (k := k) h1 hr1 rfl h4 h5 I (.cons (show RelV (.ref a) (.ref a) from rfl) .nil) w (Reps.cons r Reps.nil) (asStr_ok hp)) (fun u s' hq => ?_) fun _ _ z => z)
    obtain ⟨v, H', I', rv, z, ev, q⟩ := hq
    subst ev
    obtain ⟨t, rfl⟩ := rv
    exact ⟨.str z, H', I', ⟨_, rfl⟩, q⟩
theorem boot_repr : bootBuiltins "repr" = some (.builtin "repr") := by decide +kernel
theorem co_reprO {k i : Nat} {tab : Tb} (hK : X.K = C.K) (hm : X.mg "repr" = none) (hr : Room i X.A) (hk : k < i) (hT : ∀ c F, tab.lookup c = some F → US C X.prog X.w X.mg X.base k c "__repr__" F) : CallOk1 C X "repr" (un1 (own1 tab asStr fun _ => stuckM)) :=
  callOk_B (cr_reprO hK hr hk hT) hm boot_repr (fun _ => rfl) (by decide) (by decide) fun S ds vs W Q w rs h => by
    exact un1_ok (fun d v r h => (own1_ok (f := fun _ => stuckM) (r0 := fun _ _ _ => False) asStr_ne w r h fun h0 => h0).elim id fun z => z.elim) rs h
/-! ### isinstance of an own class -/
/-- what is known of the class c against the types -/
structure IsC (C : Ct) (cs : List (Nat × Bool)) (c : Nat) : Prop where
  bt : ∀ t : DT, (∀ c', t ≠ .c c') → PySem.W.kitOne C.K (.type t.nm) (.ref (He.ga C.K (C.nm c))) = some false
  own : ∀ c' b, cs.lookup c' = some b → ClsI C c' ∧ PySem.W.kitOne C.K (.ref (He.ga C.K (C.nm c'))) (.ref (He.ga C.K (C.nm c))) = some b
def isiC (cs : List (Nat × Bool)) (d : D) : M D := fun m => match dty m d with
  | some (.c c) => (match cs.lookup c with
    | some b => .ok (.bl b) m
    | none => .stuck)
  | some t => .ok (.bl false) m
  | none => .stuck
theorem isiC_ok {cs : List (Nat × Bool)} {c : Nat} {S : Ws} {d : D} {v : V} {W : XK} {Q : VK} (w : Wf C S) (hc : IsC C cs c) (r : Rep C S d v) (h : PostE C S (isiC cs d S.mu) W Q) : rIsi C.K [v, .ref (He.ga C.K (C.nm c))] S.H Q := by
  unfold isiC at h
  split at h
  · rename_i c' hd
    split at h
    · rename_i b hb
      obtain ⟨k1, k2⟩ := hc.own c' b hb
      exact ⟨v, _, _, _, b, rfl, .own _, dty_cls w k1 r hd, k2, h.pure w (rep_bl.mpr rfl)⟩
    · exact h.elim
  · rename_i t hn hd
    have hc' : ∀ c, t ≠ .c c := fun c e => hn c e
    exact ⟨v, _, _, _, false, rfl, .own _, dty_ty w r hd hc', hc.bt t hc', h.pure w (rep_bl.mpr rfl)⟩
  · exact h.elim
theorem se_isiC {cs : List (Nat × Bool)} {c : Nat} {a : Expr} {ma : ME} {p p2 pos : Pos} (hc : IsC C cs c) (ha : SE C X a ma) (hK : X.K = C.K) (hg : Gl X "isinstance") (hm : X.mg "isinstance" = none) (hgT : Gl X (C.nm c)) (hmT : X.mg (C.nm c) = some (.ref (He.ga C.K (C.nm c))))
    (hdb : (C.nm c == ("__debug__" : Str)) = false) (hs : isStar a = false) : SE C X (.Call (.Name "isinstance" p) [a, .Name (C.nm c) p2] [] pos) (.call (un1 (isiC cs)) (.cons ma .nil)) := fun W tk => by
  refine PEw (pe_callB call_isi hg hm PyProof.Rows.boot_isinstance (pa_cons (ha W tk) (pa_cons (pe_glob (v := .ref (He.ga C.K (C.nm c))) hgT hmT rfl hdb) pa_nil) (star_cons hs)) (by decide) (by decide) (star_cons hs) rfl) fun σ H Q ⟨r, S, hH, w, sr, h⟩ => ?_
  subst hH
  simp only [ev, evs] at h
  have h1 : PostE C S ((do let x ← ev ma r; isiC cs x) S.mu) (fun c d H' => W c d σ H') Q := by
    have e : (do let xs ← (do let x ← ev ma r; let xs ← (pure [] : M (List D)); pure (x :: xs)); un1 (isiC cs) xs : M D) = (do let x ← ev ma r; isiC cs x) := by
      rw [M.bind_assoc]
      rfl
    rw [← e]
    exact h
  refine dnE_intro r w sr (h1.bind.imp fun v1 H1 ⟨S1, d1, e1, w1, st1, r1, z⟩ => ?_)
  subst e1
  show rIsi X.K [v1, .ref (He.ga C.K (C.nm c))] S1.H Q
  rw [hK]
  exact isiC_ok w1 hc r1 z
/-! ### == of instances by their own __eq__ -/
def tyOf (C : Ct) : DT → Value
  | .c c => .ref (He.ga C.K (C.nm c))
  | t => .type t.nm
/-- what == asks of the other side's type -/
structure EqC (C : Ct) (cs : List Nat) (c : Nat) : Prop where
  bt : ∀ t : DT, (∀ c', t ≠ .c c') → PySem.W.notFirst C.K (He.ga C.K (C.nm c)) (.type t.nm) = true
  own : ∀ c' ∈ cs, ClsI C c' ∧ PySem.W.notFirst C.K (He.ga C.K (C.nm c)) (.ref (He.ga C.K (C.nm c'))) = true
def eqO (tab : Tb) (cs : List Nat) (a b : D) : M D := fun m => match insOf m a with
  | some (c, _, _) => (match tab.lookup c with
    | some F => (match dty m b with
      | some (.c c') => if c' ∈ cs then asBl (F [a, b] m) else .stuck
      | some _ => asBl (F [a, b] m)
      | none => .stuck)
    | none => .stuck)
  | none => (cmpM .eq a b >>= fun k => pure (.bl k)) m
def rEqO (C : Ct) (tab : Tb) (cs : List Nat) : R2 := fun x y H Q => ∃ S a b c ks ds F, S.H = H ∧ Wf C S ∧ Rep C S a x ∧ Rep C S b y ∧ insOf S.mu a = some (c, ks, ds) ∧ tab.lookup c = some F ∧ (∃ t, dty S.mu b = some t ∧ ∀ c', t = .c c' → c' ∈ cs) ∧ PostE C S (asBl (F [a, b] S.mu)) (fun _ _ _ => True) Q
theorem op_eqO {k i : Nat} {tab : Tb} {cs : List Nat} (hK : X.K = C.K) (hr : Room i X.A) (hk : k ≤ i) (hT : ∀ c F, tab.lookup c = some F → US C X.prog X.w X.mg X.base k c "__eq__" F ∧ EqC C cs c) : OpR X (compareOp .Eq) (rEqO C tab cs) := by
  intro pins s σ H x y u v Q I rx ry h
  obtain ⟨S, a, b, c, ks, ds, F, hH, w, ra, rb, hi, hF, ⟨t, ht, htc⟩, hp⟩ := h
  subst hH
  obtain ⟨us, ec⟩ := hT c F hF
  obtain ⟨f, fd, ps, h1, h2, h3, _, h4, h5⟩ := us.ex
  have h2' : PySem.W.findIn X.K (.ref (He.ga C.K (C.nm c))) "__eq__" = some (some (.ref f)) := by rw [hK]; exact h2
  rw [← hK] at h1 h3 h4
  obtain ⟨ad, dx, fvs, e, g1, _, _⟩ := insOf_rep w hi ra
  subst e
  obtain rfl : u = Value.ref ad := rx
  obtain ⟨mA, J, _⟩ := ins_get I.hok g1
  obtain ⟨od, J, _⟩ := J.look
  obtain ⟨m, hFr⟩ := I.fr
  show wpAny (model X.prog X.w) X.A (richCompare .Eq (.ref ad) v) (EP X pins σ Q) X.xe s
  have run := run_spec (E' := X.xe) (k := k) (Q := fun v H => ∃ b, v = .bl b ∧ Q (.bl b) H) h1 (hr.mono hk) rfl h4 h5 I (.cons (show RelV (.ref ad) (.ref ad) from rfl) (.cons ry .nil)) w (Reps.cons ra (Reps.cons rb Reps.nil)) (asBl_ok hp)
  have fin : ∀ {tb : Value}, PySem.W.Looks (model X.prog X.w) s.heap (typeOf v) tb → PySem.W.notFirst X.K (He.ga C.K (C.nm c)) tb = true → wpAny (model X.prog X.w) X.A (richCompare .Eq (.ref ad) v) (EP X pins σ Q) X.xe s := fun {tb} l1 l2 =>
    PySem.W.cmp_K (op := .Eq) (tb := tb) hr.units0 hFr I.ok.mod.kin J l1 l2 h2' h3 (wpAny_mono run (fun u s' hq => by
      obtain ⟨v, H', I', rv, z, ev, q⟩ := hq
      subst ev
      obtain rfl : u = Value.bool z := rv
      exact ⟨.bl z, H', I', rfl, q⟩) fun _ _ z => z)
  rw [hK] at fin
  cases t with
  | c c' =>
    obtain ⟨k1, k2⟩ := ec.own c' (htc c' rfl)
    have ty := dty_cls w k1 rb ht
    rw [← hK] at ty
    obtain ⟨P, z1, z2, _⟩ := kit_of I ry ty
    exact fin (by have := z1.ty (model X.prog X.w) s.heap I.kIn z2; rw [hK] at this; exact this) k2
  | non =>
    have ty := dty_ty w rb ht (fun c h => by cases h)
    rw [← hK] at ty
    obtain ⟨P, z1, z2, _⟩ := kit_of I ry ty
    exact fin (z1.ty (model X.prog X.w) s.heap I.kIn z2) (ec.bt .non fun c h => by cases h)
  | b B =>
    have ty := dty_ty w rb ht (fun c h => by cases h)
    rw [← hK] at ty
    obtain ⟨P, z1, z2, _⟩ := kit_of I ry ty
    exact fin (z1.ty (model X.prog X.w) s.heap I.kIn z2) (ec.bt (.b B) fun c h => by cases h)
end
end Fs

/-! FsX: != of instances, comparisons and calls of instances as expressions. -/
namespace Fs
open PySem PySem.Spec PyProof.Rows L2
open Classical

section
variable {prog : Program} {w : World} {A : Around} {E : Value → Shared → Prop} {s : Shared} {K : PySem.W.Frag} {x C L f : Addr} {h₀ : Heap} {m : Str → Option Value} {ox : Obj} {od : Option Obj} {b tb : Value}
theorem type_ne : typeOf (.builtin "object.__ne__") = pure (.type "wrapper_descriptor") := by
  show builtinType _ = _; rw [builtinType_eq_fast]; kernel_rfl
theorem ifB_slot {M : Model} {nm : Str} {id : String} {args : List Value} {Q : Option Value → Shared → Prop} (X : K.In s.heap) (I : PySem.W.InstAt s.heap x ox C od) (hs : PySem.W.findIn K (.ref C) nm = some (some (.builtin id))) (ht : typeOf (.builtin id) = pure (.type "wrapper_descriptor"))
    (h : wpAny M A (call (.builtin id) (.ref x :: args)) (fun v => Q (some v)) E s) : wpAny M A (callSpecialIfBound? (.ref x) nm args) Q E s := by
  have hb : bindSpecial (.builtin id) (.ref x) = pure (.builtin id, [.ref x]) := by
    unfold bindSpecial
    rw [ht]
    rfl
  have last : wpAny M A (call (.builtin id) ([.ref x] ++ args) >>= fun v => pure (some v)) Q E s := wpAny_bind (wpAny_mono h (fun v s' z => wpAny_pure z) fun _ _ z => z)
  simp only [callSpecialIfBound?, bindSpecialIfBound?]
  refine wpAny_holding (wpAny_bind (wpAny_bind (wpAny_bind (I.type.here ((PySem.W.looks_findIn X hs).here ?_)))))
  refine wpAny_bind (wpAny_askSetting (wpAny_ite ?_))
  rw [hb]
  split
  · exact wpAny_bind (wpAny_pure (wpAny_pure last))
  · exact wpAny_tryCatch (wpAny_bind (wpAny_pure (wpAny_pure last)))
theorem obj_ne {P : Fin → Shared → Prop} (X : K.In s.heap) (I : PySem.W.InstAt s.heap x ox C od) (hu : A.units < cLine) (hs : PySem.W.findIn K (.ref C) "__eq__" = some (some (.ref f))) (hf : PySem.W.isFn K (.ref f) = true)
    (h : wpAny (model prog w) A (call (.ref f) [.ref x, b]) (fun v s' => ∃ k, v = .bool k ∧ P (.done (.ret (.bool (!k)))) s') E s) :
    wpAny (model prog w) A (Builtin.«object.__ne__» ⟨[.ref x, b], []⟩) P E s := by
  unfold Builtin.«object.__ne__»
  repeat (first
    | with_reducible refine wpAny_cRoomFor hu ?_
    | (refine wpAny_bind (m := callSpecialIfBound? (.ref x) (Str.ofString "__eq__") [b]) (PySem.W.ifBound_K X I hs hf (wpAny_mono h (fun r s' hr => by
          obtain ⟨k, rfl, hq⟩ := hr
          repeat (first | exact hq | exact wpAny_pure hq | exact wpAny_truthy_bool hq | (refine wpAny_bind (m := truthy (.bool _)) (wpAny_truthy_bool ?_)) | wp_step)) fun _ _ e => e)))
    | wp_step)
theorem own_ne {Q : Value → Shared → Prop} (hu : A.units + 1 < cLine) (X : K.In s.heap) (I : PySem.W.InstAt s.heap x ox C od) (hb : PySem.W.Looks (model prog w) s.heap (typeOf b) tb) (hn : PySem.W.notFirst K C tb = true)
    (hne : PySem.W.findIn K (.ref C) "__ne__" = some (some (.builtin "object.__ne__"))) (hs : PySem.W.findIn K (.ref C) "__eq__" = some (some (.ref f))) (hf : PySem.W.isFn K (.ref f) = true) (hm : PySem.W.mroIn K C (.type "object") = some true)
    (h : wpAny (model prog w) A.in1 (call (.ref f) [.ref x, b]) (fun v s' => ∃ k, v = .bool k ∧ Q (.bool (!k)) s') E s) : wpAny (model prog w) A (richCompare .NotEq (.ref x) b) Q E s := by
  have sub : PySem.W.Looks (model prog w) s.heap (isInstance (.ref x) (.type "object")) true := I.type.andThen (PySem.W.looks_mroIn X hm)
  have plain : plainId "object.__ne__" = true := by decide +kernel
  have one : wpAny (model prog w) A (tryCompare (.ref x) "__ne__" b) (fun r s' => ∃ v, r = some v ∧ Q v s') E s := by
    unfold tryCompare
    refine wpAny_bind (ifB_slot X I hne type_ne ?_)
    refine wpAny_call (codeAny_call_builtin plain F.cmpEntry_ne (@PySem.W.check_slot (model prog w) _ _ s "object.__ne__" "object" "__ne__" (.ref x) [b] [] _ F.cmpKind_ne F.cmpSplit_ne sub (F.cmpArgs_ne _ _) ?_))
    refine obj_ne (A := A.in1) X I hu hs hf (wpAny_mono h (fun v s' hv => ?_) fun _ _ e => e)
    obtain ⟨k, rfl, hq⟩ := hv
    exact ⟨k, rfl, wpAny_pure ⟨_, rfl, hq⟩⟩
  unfold richCompare
  simp only [oneThing_ref]
  refine wpAny_holding (wpAny_bind (wpAny_cRoomFor (by omega) ?_))
  refine wpAny_bind (I.type.here (wpAny_bind (hb.here ?_)))
  have tail : ∀ {R : Value → Shared → Prop}, (∀ v s', Q v s' → R v s') → wpAny (model prog w) A (tryCompare (.ref x) "__ne__" b) (fun r s' => ∃ v, r = some v ∧ R v s') E s := fun hR => wpAny_mono one (fun r s' ⟨v, e, q⟩ => ⟨v, e, hR v s' q⟩) fun _ _ e => e
  split
  · rename_i q
    have e : PySem.W.subIn K tb (.ref C) = some false := by
      rcases Bool.or_eq_true_iff.mp hn with e | e
      · rw [beq_iff_eq.mp e] at q; simp at q
      · exact beq_iff_eq.mp e
    refine wpAny_bind ((PySem.W.looks_subIn X e).here ?_)
    simp only [Bool.false_eq_true, if_false]
    refine wpAny_bind (wpAny_mono (tail fun _ _ z => z) (fun r s' z => ?_) fun _ _ e => e)
    obtain ⟨v, rfl, hq⟩ := z
    exact wpAny_pure hq
  · refine wpAny_bind (wpAny_pure ?_)
    simp only [Bool.false_eq_true, if_false]
    refine wpAny_bind (wpAny_mono (tail fun _ _ z => z) (fun r s' z => ?_) fun _ _ e => e)
    obtain ⟨v, rfl, hq⟩ := z
    exact wpAny_pure hq
end
section
variable {C : Ct} {X : Cx}
/-- != of instances that have an own == alone -/
structure NeC (C : Ct) (c : Nat) : Prop where
  ne : PySem.W.findIn C.K (.ref (He.ga C.K (C.nm c))) "__ne__" = some (some (.builtin "object.__ne__"))
  ob : PySem.W.mroIn C.K (He.ga C.K (C.nm c)) (.type "object") = some true
def notBl (x : R D) : R D := match x with
  | .ok (.bl b) m => .ok (.bl (!b)) m
  | _ => .stuck
def neO (tab : Tb) (cs : List Nat) (a b : D) : M D := fun m => notBl (eqO tab cs a b m)
theorem notBl_ok {S : Ws} {x : R D} {Q : VK} {W : XK} (h : PostE C S (notBl x) W Q) : PostE C S x (fun _ _ _ => False) (fun v H => ∃ b, v = .bl b ∧ Q (.bl (!b)) H) := by
  cases x with
  | ok d m =>
    cases d with
    | bl b =>
      intro S' v hm w st r
      rw [rep_bl] at r
      exact ⟨b, r, h S' (.bl (!b)) hm w st (rep_bl.mpr rfl)⟩
    | _ => exact h.elim
  | exc c ks vs m => exact h.elim
  | stuck => exact h
def rNeO (C : Ct) (tab : Tb) (cs : List Nat) : R2 := fun x y H Q => ∃ S a b c ks ds F, S.H = H ∧ Wf C S ∧ Rep C S a x ∧ Rep C S b y ∧ insOf S.mu a = some (c, ks, ds) ∧ tab.lookup c = some F ∧ (∃ t, dty S.mu b = some t ∧ ∀ c', t = .c c' → c' ∈ cs) ∧ PostE C S (notBl (asBl (F [a, b] S.mu))) (fun _ _ _ => True) Q
theorem op_neO {k i : Nat} {tab : Tb} {cs : List Nat} (hK : X.K = C.K) (hr : Room i X.A) (hk : k < i) (hT : ∀ c F, tab.lookup c = some F → US C X.prog X.w X.mg X.base k c "__eq__" F ∧ EqC C cs c ∧ NeC C c) : OpR X (compareOp .NotEq) (rNeO C tab cs) := by
  intro pins s σ H x y u v Q I rx ry h
  obtain ⟨S, a, b, c, ks, ds, F, hH, w, ra, rb, hi, hF, ⟨t, ht, htc⟩, hp⟩ := h
  subst hH
  obtain ⟨us, ec, nc⟩ := hT c F hF
  obtain ⟨f, fd, ps, h1, h2, h3, _, h4, h5⟩ := us.ex
  obtain ⟨n1, n2⟩ := nc
  have h2' : PySem.W.findIn X.K (.ref (He.ga C.K (C.nm c))) "__eq__" = some (some (.ref f)) := by rw [hK]; exact h2
  have n1' : PySem.W.findIn X.K (.ref (He.ga C.K (C.nm c))) "__ne__" = some (some (.builtin "object.__ne__")) := by rw [hK]; exact n1
  have n2' : PySem.W.mroIn X.K (He.ga C.K (C.nm c)) (.type "object") = some true := by rw [hK]; exact n2
  rw [← hK] at h1 h3 h4
  obtain ⟨ad, dx, fvs, e, g1, _, _⟩ := insOf_rep w hi ra
  subst e
  obtain rfl : u = Value.ref ad := rx
  obtain ⟨mA, J, _⟩ := ins_get I.hok g1
  obtain ⟨od, J, _⟩ := J.look
  show wpAny (model X.prog X.w) X.A (richCompare .NotEq (.ref ad) v) (EP X pins σ Q) X.xe s
  have hp' : PostE C S (F [a, b] S.mu) (fun _ _ _ => False) (fun v H => ∃ b, v = .bl b ∧ Q (.bl (!b)) H) := by
    refine (asBl_ok (notBl_ok hp)).imp fun v H ⟨b, e, b', e', q⟩ => ?_
    cases e'
    exact ⟨b, e, q⟩
  have run := run_spec (E' := X.xe) (k := k) (Q := fun v H => ∃ b, v = .bl b ∧ Q (.bl (!b)) H) h1 ((hr.mono (show k + 1 ≤ i by omega)).in1) rfl h4 h5 I (.cons (show RelV (.ref ad) (.ref ad) from rfl) (.cons ry .nil)) w (Reps.cons ra (Reps.cons rb Reps.nil)) hp'
  have fin : ∀ {tb : Value}, PySem.W.Looks (model X.prog X.w) s.heap (typeOf v) tb → PySem.W.notFirst X.K (He.ga C.K (C.nm c)) tb = true → wpAny (model X.prog X.w) X.A (richCompare .NotEq (.ref ad) v) (EP X pins σ Q) X.xe s := fun {tb} l1 l2 =>
    own_ne (tb := tb) (by have := hr.units; omega) I.kIn J l1 l2 n1' h2' h3 n2' (wpAny_mono run (fun u s' hq => by
      obtain ⟨v, H', I', rv, z, ev, q⟩ := hq
      subst ev
      obtain rfl : u = Value.bool z := rv
      exact ⟨z, rfl, .bl (!z), H', I', rfl, q⟩) fun _ _ z => z)
  rw [hK] at fin
  cases t with
  | c c' =>
    obtain ⟨k1, k2⟩ := ec.own c' (htc c' rfl)
    have ty := dty_cls w k1 rb ht
    rw [← hK] at ty
    obtain ⟨P, z1, z2, _⟩ := kit_of I ry ty
    exact fin (by have := z1.ty (model X.prog X.w) s.heap I.kIn z2; rw [hK] at this; exact this) k2
  | non =>
    have ty := dty_ty w rb ht (fun c h => by cases h)
    rw [← hK] at ty
    obtain ⟨P, z1, z2, _⟩ := kit_of I ry ty
    exact fin (z1.ty (model X.prog X.w) s.heap I.kIn z2) (ec.bt .non fun c h => by cases h)
  | b B =>
    have ty := dty_ty w rb ht (fun c h => by cases h)
    rw [← hK] at ty
    obtain ⟨P, z1, z2, _⟩ := kit_of I ry ty
    exact fin (z1.ty (model X.prog X.w) s.heap I.kIn z2) (ec.bt (.b B) fun c h => by cases h)
/-! ### as expressions -/
def un2 (g : D → D → M D) : List D → M D
  | [a, b] => g a b
  | _ => stuckM
theorem un2_eq {g : D → D → M D} {ma mb : ME} {r : Env} : ev (.call (un2 g) (.cons ma (.cons mb .nil))) r = (do let x ← ev ma r; let y ← ev mb r; g x y) := by
  simp only [ev, evs]
  rw [M.bind_assoc]
  congr 1
  funext x
  rw [M.bind_assoc, M.bind_assoc]
  congr 1
theorem se_op2 {op : CmpOp} {rr : R2} {g : D → D → M D} {a b : Expr} {ma mb : ME} {pos : Pos} (ho : OpR X (compareOp op) rr) (hg : ∀ (S : Ws) d1 d2 v1 v2 (W : XK) (Q : VK), Wf C S → Rep C S d1 v1 → Rep C S d2 v2 → PostE C S (g d1 d2 S.mu) W Q → rr v1 v2 S.H Q)
    (ha : SE C X a ma) (hb : SE C X b mb) (hm : behindInMarks op b = false) : SE C X (.Compare a [op] [b] pos) (.call (un2 g) (.cons ma (.cons mb .nil))) := fun W tk => by
  refine PEw (pe_cmpR ho (ha W tk) (hb W tk) hm) fun σ H Q h => ?_
  have e : ev (.call (un2 g) (.cons ma (.cons mb .nil))) = fun r => (do let x ← ev ma r; let y ← ev mb r; g x y) := funext fun r => un2_eq
  rw [e] at h
  exact dn_op hg σ H Q h
theorem st_op2 {op : CmpOp} {rr : R2} {g : D → D → M D} {a b : Expr} {ma mb : ME} {pos : Pos} (ho : OpR X (compareOp op) rr) (hg : ∀ (S : Ws) d1 d2 v1 v2 (W : XK) (Q : VK), Wf C S → Rep C S d1 v1 → Rep C S d2 v2 → PostE C S (g d1 d2 S.mu) W Q → rr v1 v2 S.H Q)
    (hbl : ∀ d1 d2 m d m', g d1 d2 m = .ok d m' → ∃ b, d = .bl b) (ha : SE C X a ma) (hb : SE C X b mb) (hm : behindInMarks op b = false) : ST C X (.Compare a [op] [b] pos) (.val (.call (un2 g) (.cons ma (.cons mb .nil)))) := fun W tk => by
  refine PTw (pt_cmpR ho (ha W tk) (hb W tk) hm) fun σ H Q ⟨r, S, hH, w, sr, h⟩ => ?_
  subst hH
  simp only [evT] at h
  rw [un2_eq] at h
  have h' : PostE C S ((do let x ← ev ma r; let y ← ev mb r; g x y) S.mu) (fun c d H' => W c d σ H') (fun v H => ∃ k, v = .bl k ∧ Q k H) := by
    cases e : (do let x ← ev ma r; let y ← ev mb r; g x y : M D) S.mu with
    | stuck => rw [M.bind_ap, e] at h; exact h
    | exc c ks vs m => rw [M.bind_ap, e] at h; exact h
    | ok d m =>
      rw [M.bind_ap, e] at h
      have hd : ∃ b, d = .bl b := by
        rw [M.bind_ap] at e
        cases e1 : ev ma r S.mu with
        | stuck => rw [e1] at e; cases e
        | exc c ks vs m => rw [e1] at e; cases e
        | ok d1 m1 =>
          rw [e1] at e
          simp only at e
          rw [M.bind_ap] at e
          cases e2 : ev mb r m1 with
          | stuck => rw [e2] at e; cases e
          | exc c ks vs m => rw [e2] at e; cases e
          | ok d2 m2 => rw [e2] at e; exact hbl _ _ _ _ _ e
      obtain ⟨b, rfl⟩ := hd
      intro S' v hm' w' st rv
      rw [rep_bl] at rv
      exact ⟨b, rv, h S' hm' w' st⟩
  exact dn_op hg σ S.H _ (dnE_intro r w sr h')
theorem cmpE_or {S : Ws} {o : Cop} {d1 d2 : D} {v1 v2 : V} {W : XK} {Q : VK} (w : Wf C S) (r1 : Rep C S d1 v1) (r2 : Rep C S d2 v2) (h : PostE C S ((cmpM o d1 d2 >>= fun k => pure (.bl k) : M D) S.mu) W Q) : rCmp C.K o v1 v2 S.H (fun v H => ∃ k, v = .bl k ∧ Q v H) := by
  have q := cmp_ok w r1 r2 (cmp_toE h)
  have e : bQ (fun b H => Q (.bl b) H) = fun v H => ∃ k, v = .bl k ∧ Q v H := by
    funext v H
    exact propext ⟨fun ⟨k, e, h⟩ => ⟨k, e, by rw [e]; exact h⟩, fun ⟨k, e, h⟩ => ⟨k, e, by show Q (.bl k) H; rw [← e]; exact h⟩⟩
  rw [e] at q
  exact q
theorem eqO_rel {tab : Tb} {cs : List Nat} (S : Ws) (d1 d2 : D) (v1 v2 : V) (W : XK) (Q : VK) (w : Wf C S) (r1 : Rep C S d1 v1) (r2 : Rep C S d2 v2) (h : PostE C S (eqO tab cs d1 d2 S.mu) W Q) : rEqO C tab cs v1 v2 S.H Q ∨ rCmp C.K .eq v1 v2 S.H Q := by
  unfold eqO at h
  split at h
  · rename_i c ks ds hi
    split at h
    · rename_i F hF
      split at h
      · rename_i c' hd
        split at h
        · rename_i hm
          exact .inl ⟨S, d1, d2, c, ks, ds, F, rfl, w, r1, r2, hi, hF, ⟨_, hd, fun c'' e => by cases e; exact hm⟩, postW asBl_ne h⟩
        · exact h.elim
      · rename_i t hn hd
        exact .inl ⟨S, d1, d2, c, ks, ds, F, rfl, w, r1, r2, hi, hF, ⟨_, hd, fun c'' e => absurd e (hn c'')⟩, postW asBl_ne h⟩
      · exact h.elim
    · exact h.elim
  · right
    obtain ⟨d, e', a1, a2, a3, a4, k, _, a5⟩ := cmpE_or w r1 r2 h
    exact ⟨d, e', a1, a2, a3, a4, a5⟩
theorem eqO_bl {tab : Tb} {cs : List Nat} (d1 d2 : D) (m : Store) (d : D) (m' : Store) (h : eqO tab cs d1 d2 m = .ok d m') : ∃ b, d = .bl b := by
  have ab : ∀ x : R D, asBl x = .ok d m' → ∃ b, d = .bl b := fun x hx => by
    unfold asBl at hx
    split at hx
    · cases hx; exact ⟨_, rfl⟩
    · cases hx
  unfold eqO at h
  split at h
  · split at h
    · split at h
      · split at h
        · exact ab _ h
        · cases h
      · exact ab _ h
      · cases h
    · cases h
  · rw [M.bind_ap] at h
    split at h
    · cases h; exact ⟨_, rfl⟩
    · cases h
    · cases h
theorem neO_rel {tab : Tb} {cs : List Nat} (S : Ws) (d1 d2 : D) (v1 v2 : V) (W : XK) (Q : VK) (w : Wf C S) (r1 : Rep C S d1 v1) (r2 : Rep C S d2 v2) (h : PostE C S (neO tab cs d1 d2 S.mu) W Q) : rNeO C tab cs v1 v2 S.H Q ∨ rCmp C.K .ne v1 v2 S.H Q := by
  have nn : ∀ x c ks vs m, notBl x ≠ .exc c ks vs m := fun x c ks vs m h => by
    unfold notBl at h
    split at h <;> cases h
  unfold neO at h
  by_cases hi : (insOf S.mu d1).isSome = true
  · left
    unfold eqO at h
    split at h
    · rename_i c ks ds hi
      split at h
      · rename_i F hF
        split at h
        · rename_i c' hd
          split at h
          · rename_i hm
            exact ⟨S, d1, d2, c, ks, ds, F, rfl, w, r1, r2, hi, hF, ⟨_, hd, fun c'' e => by cases e; exact hm⟩, postW nn h⟩
          · exact h.elim
        · rename_i t hn hd
          exact ⟨S, d1, d2, c, ks, ds, F, rfl, w, r1, r2, hi, hF, ⟨_, hd, fun c'' e => absurd e (hn c'')⟩, postW nn h⟩
        · exact h.elim
      · exact h.elim
    · rename_i hx
      rw [hx] at hi
      cases hi
  · right
    have hi' : insOf S.mu d1 = none := by
      cases e : insOf S.mu d1 with
      | none => rfl
      | some p => rw [e] at hi; exact absurd rfl hi
    have e : eqO tab cs d1 d2 S.mu = (cmpM .eq d1 d2 >>= fun k => pure (.bl k) : M D) S.mu := by
      unfold eqO
      rw [hi']
    rw [e] at h
    have h2 : PostE C S ((cmpM .ne d1 d2 >>= fun k => pure (.bl k) : M D) S.mu) W Q := by
      rw [M.bind_ap] at h ⊢
      simp only [cmpM] at h ⊢
      cases e2 : eqM d1 d2 S.mu with
      | ok b m => rw [e2] at h; exact h
      | exc c ks vs m => rw [e2] at h; exact h.elim
      | stuck => rw [e2] at h; exact h
    obtain ⟨d, e', a1, a2, a3, a4, k, _, a5⟩ := cmpE_or w r1 r2 h2
    exact ⟨d, e', a1, a2, a3, a4, a5⟩
theorem neO_bl {tab : Tb} {cs : List Nat} (d1 d2 : D) (m : Store) (d : D) (m' : Store) (h : neO tab cs d1 d2 m = .ok d m') : ∃ b, d = .bl b := by
  unfold neO notBl at h
  split at h
  · cases h; exact ⟨_, rfl⟩
  · cases h
section
variable {k i : Nat} {tab : Tb} {cs : List Nat} {a b : Expr} {ma mb : ME} {pos : Pos}
theorem se_eqO (hK : X.K = C.K) (hr : Room i X.A) (hk : k ≤ i) (hT : ∀ c F, tab.lookup c = some F → US C X.prog X.w X.mg X.base k c "__eq__" F ∧ EqC C cs c) (hu : X.A.units + 65 < cLine) (ha : SE C X a ma) (hb : SE C X b mb) (hm : behindInMarks .Eq b = false) :
    SE C X (.Compare a [.Eq] [b] pos) (.call (un2 (eqO tab cs)) (.cons ma (.cons mb .nil))) :=
  se_op2 ((op_eqO hK hr hk hT).or (op_cmpA hu .eq)) (by rw [hK]; exact eqO_rel) ha hb hm
theorem st_eqO (hK : X.K = C.K) (hr : Room i X.A) (hk : k ≤ i) (hT : ∀ c F, tab.lookup c = some F → US C X.prog X.w X.mg X.base k c "__eq__" F ∧ EqC C cs c) (hu : X.A.units + 65 < cLine) (ha : SE C X a ma) (hb : SE C X b mb) (hm : behindInMarks .Eq b = false) :
    ST C X (.Compare a [.Eq] [b] pos) (.val (.call (un2 (eqO tab cs)) (.cons ma (.cons mb .nil)))) :=
  st_op2 ((op_eqO hK hr hk hT).or (op_cmpA hu .eq)) (by rw [hK]; exact eqO_rel) eqO_bl ha hb hm
theorem se_neO (hK : X.K = C.K) (hr : Room i X.A) (hk : k < i) (hT : ∀ c F, tab.lookup c = some F → US C X.prog X.w X.mg X.base k c "__eq__" F ∧ EqC C cs c ∧ NeC C c) (hu : X.A.units + 65 < cLine) (ha : SE C X a ma) (hb : SE C X b mb) (hm : behindInMarks .NotEq b = false) :
    SE C X (.Compare a [.NotEq] [b] pos) (.call (un2 (neO tab cs)) (.cons ma (.cons mb .nil))) :=
  se_op2 ((op_neO hK hr hk hT).or (op_cmpA hu .ne)) (by rw [hK]; exact neO_rel) ha hb hm
theorem st_neO (hK : X.K = C.K) (hr : Room i X.A) (hk : k < i) (hT : ∀ c F, tab.lookup c = some F → US C X.prog X.w X.mg X.base k c "__eq__" F ∧ EqC C cs c ∧ NeC C c) (hu : X.A.units + 65 < cLine) (ha : SE C X a ma) (hb : SE C X b mb) (hm : behindInMarks .NotEq b = false) :
    ST C X (.Compare a [.NotEq] [b] pos) (.val (.call (un2 (neO tab cs)) (.cons ma (.cons mb .nil)))) :=
  st_op2 ((op_neO hK hr hk hT).or (op_cmpA hu .ne)) (by rw [hK]; exact neO_rel) neO_bl ha hb hm
end
end
end Fs

/-! FsY: sorted(set(a list of ints)). -/
namespace L2
open PySem PySem.Spec PyProof.Rows
/-- a set just made -/
abbrev nso (w : World) : Obj := { cls := .type "set", dict := none, data := .set #[] 0 (.fresh 0 0 (!w.params.followText "set-order")) }
section
variable {P : Program} {w : World} {A : Around} {E : Value → Shared → Prop} {s : Shared}
theorem lset_init {l : Addr} {items : Array Value} (ns : List Int) {Q₁ : Result → Shared → Prop} (hh : A.handled = none) (hl : s.heap.IsList l items) (hit : IntsAre items.toList ns) (hb : ns.length + 1 < scanBound)
    (hq : ∀ (h' : Heap) (tk c : Nat), SetR w h' s.heap.objs.size (fun j => decide (j ∈ ns)) c → c ≤ ns.length → (∀ b o, s.heap.get? b = some o → h'.get? b = some o) → Q₁ (.ok (.ret .none)) { s with heap := h', toks := tk }) :
    codeAny (model P w) A (.call (.builtin "set.__init__") ⟨[.ref s.heap.objs.size, .ref l], []⟩) Q₁ { s with heap := s.heap.push (nso w) } := by
  have hisz : items.size = ns.length := by have q := IntsAre.length hit; rw [Array.length_toList] at q; exact q
  have gS : (s.heap.push (nso w)).get? s.heap.objs.size = some (nso w) := Heap.get?_push_size _ rfl
  have gT : Shared.TypeIs { s with heap := s.heap.push (nso w) } (.ref s.heap.objs.size) "set" := ⟨_, gS, rfl⟩
  obtain ⟨⟨ocls, odict, odata, oslots⟩, gl, gc, nl, gd⟩ := hl
  simp only at gc gd
  subst gc gd
  refine codeAny_call_builtin F.called_set.init.plain F.entry_set_init (check_set_init_1 gT ?_)
  have gl' : (s.heap.push (nso w)).get? l = some { cls := .type "list", dict := odict, data := .seq items nl, slots := oslots } := Heap.get?_push_of_some _ gl
  have k1 := F.sub_list_set
  have k2 := F.sub_list_frozenset
  have k3 : (Value.type "list" == Value.type "dict") = false := by decide
  have gl1 : (s.heap.push (nso w)).IsList l items := ⟨_, gl', rfl, nl, rfl⟩
  unfold Builtin.«set.__init__» noKeywords Builtin.Frozenset.updateFrom
  generalize hPI : pyIter = PI
  wp_walk
  subst hPI
  refine wpAny_pyIter_list gl1 ?_
  refine wpAny_bind (wpAny_runValue ?_)
  have lS : l < s.heap.objs.size := Heap.lt_size gl
  have h3 : A.in1.in1.handled = none := by simp [hh]
  have nI : l ≠ (s.heap.push (nso w)).objs.size := by rw [Heap.size_push]; exact Nat.ne_of_lt (Nat.lt_succ_of_lt lS)
  have nSf : s.heap.objs.size ∉ [(s.heap.push (nso w)).objs.size, l] := by
    rw [Heap.size_push]
    simp only [List.mem_cons, List.not_mem_nil, or_false, not_or]
    exact ⟨Nat.ne_of_lt (Nat.lt_succ_self _), Nat.ne_of_gt lS⟩
  have hval : ∀ (i : Nat) (v : Value), items[i]? = some v → ∃ k t, ns[i]? = some k ∧ v = .int k t := fun i v hv => by
    have hi : i < ns.length := hisz ▸ (Array.getElem?_eq_some_iff.mp hv).1
    obtain ⟨t, e⟩ := PyProof.Rows.IntsAre.int_at hit i v (by rw [Array.getElem?_toList]; exact hv)
    exact ⟨ns[i], t, List.getElem?_eq_getElem hi, by rw [e, List.getD_eq_getElem?_getD, List.getElem?_eq_getElem hi] <;> rfl⟩
  refine set_update_ints ((Walks.list h3 _ l nI items).toS) s.heap.objs.size nSf ns hisz hb hval (items.size - 0) 0 _ (by omega) (Nat.zero_le _) ⟨⟨_, Heap.get?_push_size _ rfl, rfl, rfl⟩, (gl1.push _)⟩ ?hS0 ?hR
  case hS0 =>
    have hget : ((s.heap.push (nso w)).push { cls := .type "list_iterator", data := .fields #[.ref l, .int 0 0] }).get? s.heap.objs.size = some (nso w) := Heap.get?_push_of_some _ gS
    exact ⟨0, Nat.le_refl 0, setR_new_at hget⟩
  case hR =>
    rintro ⟨h', g2, d', tk', os'⟩ c' hm hc' hS'
    obtain rfl : g2 = s.gens := hm.gens
    obtain rfl : d' = s.drawn := hm.drawn
    obtain rfl : os' = s.os := hm.os
    refine wpAny_pure ?_
    show wpAny _ _ (ret Value.none) _ _ _
    rw [hisz] at hc'
    refine wpAny_pure (hq h' tk' c' hS' hc' fun b o e => ?_)
    have b0 : b < s.heap.objs.size := Heap.lt_size e
    refine hm.heap b o ?_ (Heap.get?_push_of_some _ (Heap.get?_push_of_some _ e))
    simp only [List.mem_cons, List.not_mem_nil, or_false, not_or]
    have b1 : b ≠ s.heap.objs.size := Nat.ne_of_lt b0
    have b2 : b ≠ (s.heap.push (nso w)).objs.size := by rw [Heap.size_push]; exact Nat.ne_of_lt (Nat.lt_succ_of_lt b0)
    exact ⟨b1, b2⟩
theorem lset_call {l : Addr} {items : Array Value} (ns : List Int) {Q : Value → Shared → Prop} (hh : A.handled = none) (hl : s.heap.IsList l items) (hit : IntsAre items.toList ns) (hb : ns.length + 1 < scanBound)
    (h : ∀ (h' : Heap) (tk c : Nat), SetR w h' s.heap.objs.size (fun j => decide (j ∈ ns)) c → c ≤ ns.length → (∀ b o, s.heap.get? b = some o → h'.get? b = some o) → Q (.ref s.heap.objs.size) { s with heap := h', toks := tk }) :
    wpAny (model P w) A (call (.type "set") [.ref l]) Q E s := by
  obtain ⟨c, tl, hmro⟩ := F.called_set.mro
  have hmade := F.called_set.made
  have hsub := F.called_set.sub
  refine wpAny_call (codeAny_of_tree ?_)
  show wpAny _ _ (callAny (.type "set") _) _ _ _
  refine wpAny_pure ⟨Code.quiet_builtin _ (by decide +kernel), codeAny_builtin F.entry_type_call ?_⟩
  rw [Around.under_plain (weight_type_call_type "set" [.ref l] []) rfl]
  have k1 := F.called_set.notType
  have k2 := F.called_set.canCreate
  have k3 := F.typeCall_set_1 (.ref l)
  repeat (any_goals (first | assumption | wp_step))
  refine codeAny_mono (code_set_led1 (.ref l) (E := E) (Q₁ := fun obj s₁ => obj = .ref s.heap.objs.size ∧ s₁ = { s with heap := s.heap.push (nso w) }) ⟨rfl, rfl⟩) fun r s₁ hr => ?_
  cases r with
  | error e => exact hr
  | ok fl =>
    cases fl with
    | ret obj =>
      obtain ⟨rfl, rfl⟩ := hr
      have gS : (s.heap.push (nso w)).get? s.heap.objs.size = some (nso w) := Heap.get?_push_size _ rfl
      have gT : Shared.TypeIs { s with heap := s.heap.push (nso w) } (.ref s.heap.objs.size) "set" := ⟨_, gS, rfl⟩
      have k4 := F.called_set.init.lookup
      have k5 := F.called_set.init.bind (.ref s.heap.objs.size)
      repeat (any_goals (first | assumption | wp_step))
      refine codeAny_mono (lset_init (Q₁ := wants (fun r s₂ => r = .none ∧ ∃ h' tk c, s₂ = { s with heap := h', toks := tk } ∧ SetR w h' s.heap.objs.size (fun j => decide (j ∈ ns)) c ∧ c ≤ ns.length ∧ (∀ b o, s.heap.get? b = some o → h'.get? b = some o)) E) ns (by simp [hh]) hl hit hb fun h' tk c a1 a2 a3 => ⟨rfl, h', tk, c, rfl, a1, a2, a3⟩) fun r₂ s₂ hr₂ => ?_
      cases r₂ with
      | error e => exact hr₂
      | ok fl₂ =>
        cases fl₂ with
        | ret r =>
          obtain ⟨rfl, h', tk, c', rfl, a1, a2, a3⟩ := hr₂
          repeat (any_goals (first | assumption | wp_step))
          exact h _ _ _ a1 a2 a3
        | _ => exact hr₂.elim
    | _ => exact hr.elim
end
end L2
namespace Fs
open PySem PySem.Spec PyProof.Rows L2
open Classical
/-- set(a list of ints) -/
def rSetL (K : PySem.W.Frag) (w : World) : List V → Hp → VK → Prop := fun xs H Q => ∃ (a : Addr) (ns : List Int), xs = [.ref a] ∧ SqL K H a (ns.map V.int) ∧ ns.length ≤ 1000 ∧ ∀ (p : Addr) (c : Nat), H p = none → c ≤ ns.length → (∃ us : List Int, us.Nodup ∧ us.length = c ∧ ∀ k, k ∈ us ↔ k ∈ ns) → Q (.ref p) (upd H p (SetO w p (fun j => decide (j ∈ ns)) c))
theorem cr_setL {X : Cx} (hc : X.calm = true) : CallR X (.type "set") (rSetL X.K X.w) := by
  intro pins s σ H xs us Q I r h
  obtain ⟨a, ns, rfl, hs, hl, q⟩ := h
  cases r with
  | cons ru rn =>
    rename_i u us'
    cases rn
    obtain rfl : u = Value.ref a := ru
    obtain ⟨its, rv, p, hz⟩ := I.list hs
    have hi := ints_of_vals rv
    refine lset_call ns (I.ok.hd hc) p.isList (by simpa using hi) (by unfold scanBound; omega) fun h' tk c R hc' k => ?_
    have nd : ∃ us : List Int, us.Nodup ∧ us.length = c ∧ ∀ k, k ∈ us ↔ k ∈ ns := by
      obtain ⟨o, es, ep, t, _, _, _, _, nd, hm, _, _, hn, _⟩ := R
      refine ⟨es.toList.map keyOf, nd, by simp [hn], fun k => ?_⟩
      have := hm k
      rw [← this]
      simp
    have J : Inv X pins σ (upd H s.heap.objs.size (SetO X.w s.heap.objs.size (fun j => decide (j ∈ ns)) c)) { s with heap := h', toks := tk } := I.laid (t' := tk) k (Nat.le_refl _) (setO_new R)
    exact ⟨.ref s.heap.objs.size, _, J, rfl, q _ c (I.hok.fresh (Nat.le_refl _)) hc' nd⟩
def dedI : List Int → List Int
  | [] => []
  | i :: is => if i ∈ is then dedI is else i :: dedI is
theorem dedI_mem (k : Int) : ∀ l : List Int, k ∈ dedI l ↔ k ∈ l
  | [] => Iff.rfl
  | i :: l => by
    simp only [dedI]
    split
    · rename_i h
      rw [dedI_mem k l, List.mem_cons]
      exact ⟨.inr, fun z => z.elim (fun e => by rw [e]; exact h) id⟩
    · rw [List.mem_cons, List.mem_cons, dedI_mem k l]
theorem dedI_nodup : ∀ l : List Int, (dedI l).Nodup
  | [] => List.nodup_nil
  | i :: l => by
    simp only [dedI]
    split
    · exact dedI_nodup l
    · rename_i h
      exact List.nodup_cons.mpr ⟨fun z => h ((dedI_mem i l).mp z), dedI_nodup l⟩
/-- sorted(set(ns)) -/
def sortSet (ns : List Int) : List Int := sortI (dedI ns)
theorem sortSet_uniq {ns l : List Int} (h1 : l.Pairwise (· < ·)) (h2 : ∀ k, k ∈ l ↔ k ∈ ns) : l = sortSet ns := by
  refine sortI_uniq ?_ (h1.imp fun h => by omega)
  refine (List.perm_ext_iff_of_nodup (h1.imp fun h => by omega) (dedI_nodup ns)).mpr fun k => ?_
  rw [h2, dedI_mem]
def sortSetM (d : D) : M D := fun m => match readL m d with
  | some ds => match intsO ds with
    | some is => if is.length < 64 then .ok (.lst ((sortSet is).map .int)) m else .stuck
    | none => .stuck
  | none => .stuck
section
variable {C : Ct} {X : Cx}
theorem boot_set' : bootBuiltins "set" = some (.type "set") := by decide +kernel
theorem se_sortSet {e : Expr} {me : ME} {p p2 pos pos2 : Pos} (hc : X.calm = true) (hK : X.K = C.K) (hg : Gl X "sorted") (hm : X.mg "sorted" = none) (hg2 : Gl X "set") (hm2 : X.mg "set" = none) (hs : isStar e = false) (he : SE C X e me) :
    SE C X (.Call (.Name "sorted" p) [.Call (.Name "set" p2) [e] [] pos2] [] pos) (.call (un1 sortSetM) (.cons me .nil)) := fun W tk => by
  have p1 : PE X (.Call (.Name "set" p2) [e] [] pos2) _ := pe_callTy (cr_setL hc) hg2 hm2 boot_set' (pa_cons (he W tk) pa_nil (star_cons hs)) (by decide) (by decide) (star_cons hs) rfl
  refine PEw (pe_callB (cr_sortedSet hc) hg hm PyProof.Rows.boot_sorted (pa_cons p1 pa_nil) (by decide) (by decide) rfl rfl) fun σ H Q ⟨r, S, hH, w, sr, h⟩ => ?_
  subst hH
  have e1 : ev (.call (un1 sortSetM) (.cons me .nil)) r = (do let x ← ev me r; sortSetM x) := by
    simp only [ev, evs]
    rw [M.bind_assoc]
    rfl
  rw [e1] at h
  refine dnE_intro r w sr (h.bind.imp fun v1 H1 ⟨S1, d1, e2, w1, st1, r1, z⟩ => ?_)
  subst e2
  unfold sortSetM at z
  split at z
  · rename_i ds hd
    split at z
    · rename_i is hi
      split at z
      · rename_i h64
        obtain ⟨a, vs, ea, f, l, q⟩ := readL_rep w1 hd r1
        have ev := ints_rep hi q
        subst ev
        rw [hK]
        refine ⟨a, is, by rw [ea], SqL.of f, by omega, fun p c hp hcl ⟨us, u1, u2, u3⟩ => ?_⟩
        refine ⟨p, _, c, rfl, upd_same, by omega, fun ns q h1 h2 h3 hq => ?_⟩
        have en : ns = sortSet is := sortSet_uniq h1 fun k => by rw [h2]; simp
        have w2 : Wf C (S1.new p (SetO X.w p (fun j => decide (j ∈ is)) c)) := w1.new hp
        have st2 : Step S1 (S1.new p (SetO X.w p (fun j => decide (j ∈ is)) c)) := Step.new w1 hp
        have z2 := z.step st2
        subst en
        exact z2.newL w2 hq (by
          rw [List.length_map]
          have : (sortSet is).length = c := h3
          rw [this, sizeLine_eq]; omega) (rep_ints _)
      · exact z.elim
    · exact z.elim
  · exact z.elim
end
end Fs

/-! FsZ: insert, clear, dicts made and asked, texts of ints, f-strings, lists turned round, fresh lists. -/
namespace Fs
open PySem PySem.Spec PyProof.Rows L2
open Classical

section
variable {C : Ct} {X : Cx}
/-! ### methods of lists that change them -/
def un2m (f : D → D → D → M D) (o : D) : List D → M D
  | [d, e] => f o d e
  | _ => stuckM
def un0m (f : D → M D) (o : D) : List D → M D
  | [] => f o
  | _ => stuckM
def insertM (o i e : D) : M D := fun m => match o with
  | .obj n => match m[n]? with
    | some (.lst ds) => match i with
      | .int k => if ds.length < sizeLine ∧ 0 ≤ k ∧ k < 2 ^ 63 then .ok .non (m.set n (.lst (ds.take k.toNat ++ [e] ++ ds.drop k.toNat))) else .stuck
      | _ => .stuck
    | _ => .stuck
  | _ => .stuck
def clearM (o : D) : M D := fun m => match o with
  | .obj n => match m[n]? with
    | some (.lst _) => .ok .non (m.set n (.lst []))
    | _ => .stuck
  | _ => .stuck
theorem isLst_ty {S : Ws} {d : D} {v : V} (w : Wf C S) (r : Rep C S d v) (p : isLst S.mu d = true) : tyV C.K "list" v S.H := by
  cases d with
  | obj n =>
    simp only [isLst] at p
    split at p
    · rename_i ds hm
      exact tyV_list w r hm
    · cases p
  | _ => cases p
theorem se_insert {o e f : Expr} {mo me mf : ME} {apos pos : Pos} (ho : SE C X o mo) (he : SE C X e me) (hf : SE C X f mf) (hK : X.K = C.K) (hs : noStar [e, f] = true) (hbase : attributeBase o "insert" X.env (eval o X.env) = eval o X.env) (hline : (apos.endLine == pos.line) = true) :
    SE C X (.Call (.Attribute o "insert" apos) [e, f] [] pos) (.meth isLst (un2m insertM) mo (.cons me (.cons mf .nil))) := fun W tk => by
  have hs' := hs
  simp only [noStar, List.all_cons, Bool.and_eq_true, Bool.not_eq_true'] at hs
  have ha : SA C X [e, f] (.cons me (.cons mf .nil)) := sa_cons he (sa_cons hf sa_nil (star_cons hs.2.1)) (star_cons hs.1)
  refine PEw (pe_bm PySem.F.plainAttrs_list PySem.F.slot_list_insert PySem.F.type_list_insert mt_insert (ho W tk) (ha W tk) hbase (star_few hs' (by simp)) hline (star_cons hs.1) (star_any (es := [f]) (by simp [noStar, hs.2.1]))) (dn_meth ?_ ?_)
  · intro S d v w r p
    rw [hK]
    exact isLst_ty w r p
  · intro S d ds v vs W Q w r rs h
    match ds, rs, h with
    | [], _, h => exact h.elim
    | [_], _, h => exact h.elim
    | _ :: _ :: _ :: _, _, h => exact h.elim
    | [i, e], rs, h =>
      obtain ⟨v1, vs1, e1, r1, v2, vs2, e2, r2, e3⟩ := rs
      subst e1
      cases e2
      cases e3
      simp only [un2m] at h
      unfold insertM at h
      cases d with
      | obj n =>
        simp only [Rep] at r
        obtain ⟨a, ha, eo⟩ := r
        cases hm : S.mu[n]? with
        | none => simp only [hm] at h; exact h.elim
        | some cl =>
          cases cl with
          | lst ds =>
            cases i with
            | int k =>
              simp only [hm] at h
              by_cases hk : ds.length < sizeLine ∧ 0 ≤ k ∧ k < 2 ^ 63
              · rw [if_pos hk] at h
                rw [rep_int] at r1
                subst r1
                obtain ⟨us, h1, l, h2⟩ := w.cell n _ a hm ha
                refine ⟨a, us, k, v2, eo, rfl, h1, by rw [← h2.len]; exact hk.1, hk.2.1, hk.2.2, ?_⟩
                have st : Step S (S.put n a (.lst (us.take k.toNat ++ [v2] ++ us.drop k.toNat)) (.lst (ds.take k.toNat ++ [e] ++ ds.drop k.toNat))) := Step.put w hm rfl ha
                have g2 := h2.mono st
                refine h (S.put n a (.lst (us.take k.toNat ++ [v2] ++ us.drop k.toNat)) (.lst (ds.take k.toNat ++ [e] ++ ds.drop k.toNat))) _ rfl (w.put hm rfl ha ⟨_, upd_same, ?_, ((g2.take _).append (Reps.cons (r2.mono st) Reps.nil)).append (g2.drop _)⟩) st ?_
                · simp only [List.length_append, List.length_take, List.length_drop, List.length_singleton]
                  omega
                · simp only [Rep]
              · rw [if_neg hk] at h
                exact h.elim
            | _ => simp only [hm] at h; exact h.elim
          | _ => simp only [hm] at h; exact h.elim
      | _ => exact h.elim
theorem se_clear {o : Expr} {mo : ME} {apos pos : Pos} (ho : SE C X o mo) (hK : X.K = C.K) (hbase : attributeBase o "clear" X.env (eval o X.env) = eval o X.env) (hline : (apos.endLine == pos.line) = true) :
    SE C X (.Call (.Attribute o "clear" apos) [] [] pos) (.meth isLst (un0m clearM) mo .nil) := fun W tk => by
  refine PEw (pe_bm0 PySem.F.plainAttrs_list PySem.F.slot_list_clear PySem.F.type_list_clear mt_clear (ho W tk) hbase hline) fun σ H Q ⟨r, S, hH, w, sr, h⟩ => ?_
  subst hH
  simp only [ev] at h
  refine dnE_intro r w sr (h.bind.imp fun v1 H1 ⟨S1, d1, e1, w1, st1, r1, z⟩ => ?_)
  subst e1
  obtain ⟨p, z2⟩ := z.chk
  refine ⟨by rw [hK]; exact isLst_ty w1 r1 p, ?_⟩
  have z3 : PostE C S1 (clearM d1 S1.mu) (fun c d H' => W c d σ H') Q := by
    simp only [evs] at z2
    exact z2
  unfold clearM at z3
  cases d1 with
  | obj n =>
    simp only [Rep] at r1
    obtain ⟨a, ha, eo⟩ := r1
    cases hm : S1.mu[n]? with
    | none => simp only [hm] at z3; exact z3.elim
    | some cl =>
      cases cl with
      | lst ds =>
        simp only [hm] at z3
        obtain ⟨us, h1, l, h2⟩ := w1.cell n _ a hm ha
        refine ⟨a, us, eo, rfl, h1, ?_⟩
        have st : Step S1 (S1.put n a (.lst []) (.lst [])) := Step.put w1 hm rfl ha
        exact z3 (S1.put n a (.lst []) (.lst [])) _ rfl (w1.put hm rfl ha ⟨[], upd_same, Nat.zero_le _, Reps.nil⟩) st (by simp only [Rep])
      | _ => simp only [hm] at z3; exact z3.elim
  | _ => exact z3.elim
/-! ### dicts -/
def dnewM (t : Bool) : List D → M D := fun _ m => .ok (.obj m.length) (m ++ [.dct t [] []])
theorem se_dnew {t : Bool} {pos : Pos} : SE C X (.Dict [] [] pos) (.call (dnewM t) .nil) := fun W tk => by
  have key : ∀ (o : HO) (S : Ws) (Q : VK) (W : XK) (w : Wf C S) (p : Addr) (hp : S.H p = none) (hc : CellAt C (S.cell p o (.dct t [] [])) p (.dct t [] [])), PostE C S (dnewM t [] S.mu) W Q → Q (.ref p) (upd S.H p o) := fun o S Q W w p hp hc h => by
    refine h (S.cell p o (.dct t [] [])) (.ref p) rfl (w.cell' hp hc) (Step.cell w hp) ?_
    simp only [Rep]
    refine ⟨p, ?_, rfl⟩
    show (S.ad ++ [p])[S.mu.length]? = some p
    rw [← w.len]
    simp
  cases t with
  | true =>
    refine PEw pe_dnewT fun σ H Q ⟨r, S, hH, w, sr, h⟩ => ?_
    subst hH
    simp only [ev, evs] at h
    exact fun p hp => key (.dT []) S Q _ w p hp (by simp only [CellAt, if_true]; exact ⟨[], upd_same, rfl, Reps.nil⟩) h
  | false =>
    refine PEw pe_dnewK fun σ H Q ⟨r, S, hH, w, sr, h⟩ => ?_
    subst hH
    simp only [ev, evs] at h
    exact fun p hp => key (.dK []) S Q _ w p hp (by simp only [CellAt, Bool.false_eq_true, if_false]; exact ⟨[], upd_same, rfl, Reps.nil⟩) h
/-- x in d -/
def inD (a b : D) : M D := fun m => match readDct m b with
  | some (t, ks, vs) => match lookD t ks a with
    | some o => .ok (.bl o.isSome) m
    | none => .stuck
  | none => .stuck
def ninD (a b : D) : M D := fun m => match readDct m b with
  | some (t, ks, vs) => match lookD t ks a with
    | some o => .ok (.bl (!o.isSome)) m
    | none => .stuck
  | none => .stuck
def rInD (f : Bool → Bool) : R2 := fun x y H Q => ∃ a o, y = .ref a ∧ DGet H a x o ∧ Q (.bl (f o.isSome)) H
theorem op_inD (hu : X.A.units + 1 < cLine) : OpR X (compareOp .In) (rInD id) := by
  intro pins s σ H x y v u Q I rx ry h
  obtain ⟨a, o, rfl, g, q⟩ := h
  obtain rfl : u = Value.ref a := ry
  exact d_in hu I g rx fun s' J => ⟨.bl o.isSome, H, J, rfl, q⟩
theorem op_ninD (hu : X.A.units + 1 < cLine) : OpR X (compareOp .NotIn) (rInD not) := by
  intro pins s σ H x y v u Q I rx ry h
  obtain ⟨a, o, rfl, g, q⟩ := h
  obtain rfl : u = Value.ref a := ry
  exact d_notIn hu I g rx fun s' J => ⟨.bl (!o.isSome), H, J, rfl, q⟩
theorem inD_isSome {S : Ws} {a b : D} {x y : V} {t : Bool} {ks vs : List D} {o : Option Nat} (w : Wf C S) (ra : Rep C S a x) (rb : Rep C S b y) (hd : readDct S.mu b = some (t, ks, vs)) (hk : lookD t ks a = some o) : ∃ p z, y = .ref p ∧ DGet S.H p x z ∧ z.isSome = o.isSome := by
  obtain ⟨p, e, g⟩ := readDct_rep w hd rb
  obtain ⟨z, g1, g2, g3⟩ := g.get hk ra
  refine ⟨p, z, e, g1, ?_⟩
  cases o with
  | none => rw [g2 rfl]; rfl
  | some i =>
    obtain ⟨_, _, _, e2, _⟩ := g3 i rfl
    rw [e2]
    rfl
theorem inD_rel (S : Ws) (a b : D) (x y : V) (W : XK) (Q : VK) (w : Wf C S) (ra : Rep C S a x) (rb : Rep C S b y) (h : PostE C S (inD a b S.mu) W Q) : rInD id x y S.H Q := by
  unfold inD at h
  split at h
  · rename_i t ks vs hd
    split at h
    · rename_i o hk
      obtain ⟨p, z, e, g, q⟩ := inD_isSome w ra rb hd hk
      exact ⟨p, z, e, g, by rw [q]; exact h.pure w (rep_bl.mpr rfl)⟩
    · exact h.elim
  · exact h.elim
theorem ninD_rel (S : Ws) (a b : D) (x y : V) (W : XK) (Q : VK) (w : Wf C S) (ra : Rep C S a x) (rb : Rep C S b y) (h : PostE C S (ninD a b S.mu) W Q) : rInD not x y S.H Q := by
  unfold ninD at h
  split at h
  · rename_i t ks vs hd
    split at h
    · rename_i o hk
      obtain ⟨p, z, e, g, q⟩ := inD_isSome w ra rb hd hk
      exact ⟨p, z, e, g, by rw [q]; exact h.pure w (rep_bl.mpr rfl)⟩
    · exact h.elim
  · exact h.elim
theorem inD_bl (a b : D) (m : Store) (d : D) (m' : Store) (h : inD a b m = .ok d m') : ∃ k, d = .bl k := by
  unfold inD at h
  split at h
  · split at h
    · cases h; exact ⟨_, rfl⟩
    · cases h
  · cases h
theorem ninD_bl (a b : D) (m : Store) (d : D) (m' : Store) (h : ninD a b m = .ok d m') : ∃ k, d = .bl k := by
  unfold ninD at h
  split at h
  · split at h
    · cases h; exact ⟨_, rfl⟩
    · cases h
  · cases h
section
variable {a b : Expr} {ma mb : ME} {pos : Pos}
theorem se_inD (hu : X.A.units + 65 < cLine) (ha : SE C X a ma) (hb : SE C X b mb) (hm : behindInMarks .In b = false) : SE C X (.Compare a [.In] [b] pos) (.call (un2 inD) (.cons ma (.cons mb .nil))) := se_op2 (op_inD (by omega)) inD_rel ha hb hm
theorem st_inD (hu : X.A.units + 65 < cLine) (ha : SE C X a ma) (hb : SE C X b mb) (hm : behindInMarks .In b = false) : ST C X (.Compare a [.In] [b] pos) (.val (.call (un2 inD) (.cons ma (.cons mb .nil)))) := st_op2 (op_inD (by omega)) inD_rel inD_bl ha hb hm
theorem se_ninD (hu : X.A.units + 65 < cLine) (ha : SE C X a ma) (hb : SE C X b mb) (hm : behindInMarks .NotIn b = false) : SE C X (.Compare a [.NotIn] [b] pos) (.call (un2 ninD) (.cons ma (.cons mb .nil))) := se_op2 (op_ninD (by omega)) ninD_rel ha hb hm
theorem st_ninD (hu : X.A.units + 65 < cLine) (ha : SE C X a ma) (hb : SE C X b mb) (hm : behindInMarks .NotIn b = false) : ST C X (.Compare a [.NotIn] [b] pos) (.val (.call (un2 ninD) (.cons ma (.cons mb .nil)))) := st_op2 (op_ninD (by omega)) ninD_rel ninD_bl ha hb hm
end
/-! ### texts of ints, f-strings -/
def strI (i : Int) : List Char := (toString i).toList
theorem toS_strI (i : Int) : toS (strI i) = (toString i : Str) := by
  unfold strI toS
  exact (PySem.Str.ofString_eq_toList _).symm
def strM (d : D) : M D := fun m => match d with
  | .int i => if i.natAbs.log2 < 1920 ∧ (strI i).length ≤ sizeLine then .ok (.str (strI i)) m else .stuck
  | .str x => .ok (.str x) m
  | _ => .stuck
theorem co_str (hm : X.mg "str" = none) : CallOk1 C X "str" (un1 strM) :=
  callOk_T (call_str_int.or SkE.call_str_str) hm PyProof.Rows.boot_str (by decide) (by decide) fun S ds vs W Q w rs h => by
    refine un1_ok (r := fun vs H Q => (∃ i : Int, vs = [.int i] ∧ i.natAbs.log2 < 1920 ∧ Q (.str (toString i)) H) ∨ ∃ a, vs = [.str a] ∧ Q (.str a) H) (fun d v r h => ?_) rs h
    unfold strM at h
    split at h
    · rename_i i
      split at h
      · rename_i hl
        rw [rep_int] at r
        exact .inl ⟨i, by rw [r], hl.1, h.pure w (rep_str.mpr ⟨by rw [toS_strI], hl.2⟩)⟩
      · exact h.elim
    · rename_i x
      exact .inr ⟨toS x, by rw [(rep_str.mp r).1], h.pure w (by rw [← (rep_str.mp r).1]; exact r)⟩
    · exact h.elim
/-- {x} within an f-string: a short text -/
def fmtM (d : D) : M D := fun m => match d with
  | .int i => if i.natAbs.log2 < 1920 ∧ (strI i).length ≤ 1000 then .ok (.str (strI i)) m else .stuck
  | .str x => if x.length ≤ 1000 then .ok (.str x) m else .stuck
  | _ => .stuck
theorem le_line {n : Nat} (h : n ≤ 1000) : n ≤ sizeLine := Nat.le_trans h (by rw [sizeLine_eq]; decide)
theorem se_fmt {e : Expr} {me : ME} {pos : Pos} (he : SE C X e me) : SE C X (.FormattedValue e (-1) none pos) (.call (un1 fmtM) (.cons me .nil)) := fun W tk =>
  PEw (pe_fmt (he W tk)) fun σ H Q ⟨r, S, hH, w, sr, h⟩ => by
    subst hH
    have e1 : ev (.call (un1 fmtM) (.cons me .nil)) r = (do let x ← ev me r; fmtM x) := by
      simp only [ev, evs]
      rw [M.bind_assoc]
      rfl
    rw [e1] at h
    refine dnE_intro r w sr (h.bind.imp fun v1 H1 ⟨S1, d1, e2, w1, st1, r1, z⟩ => ?_)
    subst e2
    unfold fmtM at z
    split at z
    · rename_i i
      split at z
      · rename_i hl
        rw [rep_int] at r1
        exact .inr ⟨i, r1, hl.1, z.pure w1 (rep_str.mpr ⟨by rw [toS_strI], le_line hl.2⟩)⟩
      · exact z.elim
    · rename_i x
      split at z
      · obtain ⟨q1, q2⟩ := rep_str.mp r1
        exact .inl ⟨toS x, q1, by rw [toS_len]; exact q2, z.pure w1 (rep_str.mpr ⟨rfl, q2⟩)⟩
      · exact z.elim
    · exact z.elim
/-- the parts of an f-string, one behind the other -/
def catL (acc : List Char) : List D → Option (List Char)
  | [] => some acc
  | .str x :: ds => catL (acc ++ x) ds
  | _ :: _ => none
def joinS (ds : List D) : M D := fun m => match catL [] ds with
  | some x => .ok (.str x) m
  | none => .stuck
/-- a part is a short text -/
def Short (m : ME) : Prop := ∀ r m0 d m', ev m r m0 = .ok d m' → ∃ x, d = .str x ∧ x.length ≤ 1000
theorem short_con {x : List Char} (h : x.length ≤ 1000) : Short (.con (.str x)) := fun r m0 d m' e => by
  simp only [ev] at e
  cases e
  exact ⟨x, rfl, h⟩
theorem short_fmt {me : ME} : Short (.call (un1 fmtM) (.cons me .nil)) := fun r m0 d m' e => by
  have e1 : ev (.call (un1 fmtM) (.cons me .nil)) r = (do let x ← ev me r; fmtM x) := by
    simp only [ev, evs]
    rw [M.bind_assoc]
    rfl
  rw [e1, M.bind_ap] at e
  split at e
  · unfold fmtM at e
    split at e
    · split at e
      · rename_i hl
        cases e
        exact ⟨_, rfl, hl.2⟩
      · cases e
    · split at e
      · rename_i hl
        cases e
        exact ⟨_, rfl, hl⟩
      · cases e
    · cases e
  · cases e
  · cases e
theorem rep_str_inv {S : Ws} {d : D} {z : Str} (h : Rep C S d (.str z)) : ∃ x, d = .str x ∧ toS x = z := by
  cases d with
  | str x =>
    obtain ⟨q, _⟩ := rep_str.mp h
    cases q
    exact ⟨x, rfl, rfl⟩
  | dct t ks vs =>
    simp only [Rep] at h
    obtain ⟨a, e, _⟩ := h
    cases e
  | ins c ks vs =>
    simp only [Rep] at h
    obtain ⟨_, _, _, e, _⟩ := h
    cases e
  | obj n =>
    simp only [Rep] at h
    obtain ⟨_, _, e⟩ := h
    cases e
  | lst ds =>
    simp only [Rep] at h
    obtain ⟨_, _, e, _⟩ := h
    cases e
  | tup ds =>
    simp only [Rep] at h
    obtain ⟨_, _, e, _⟩ := h
    cases e
  | frz ds =>
    simp only [Rep] at h
    obtain ⟨_, _, e, _⟩ := h
    cases e
  | wtp ds =>
    simp only [Rep] at h
    obtain ⟨_, _, e, _⟩ := h
    cases e
  | set ds => simp only [Rep] at h
  | fn k =>
    simp only [Rep] at h
    obtain ⟨_, e⟩ := C.frr _ _ _ h
    cases e
  | non => simp only [Rep] at h; cases h
  | bl b => simp only [Rep] at h; cases h
  | int i => simp only [Rep] at h; cases h
inductive SJ (C : Ct) (X : Cx) : List Expr → MEs → Prop where
  | nil : SJ C X [] .nil
  | cons {e : Expr} {m : ME} {es : List Expr} {ms : MEs} (h : SE C X e m) (hs : Short m) (r : SJ C X es ms) : SJ C X (e :: es) (.cons m ms)
theorem SJ.pj {W : WX} (tk : Takes X W) : ∀ {es : List Expr} {ms : MEs}, SJ C X es ms → ∃ ts, PJ X es ts ∧ ∀ (acc : List Char) (σ : L2.St) (Q : Str → Hp → Prop) (r : Env) (S : Ws), Wf C S → SRep C S r σ → acc.length + 1000 * es.length ≤ sizeLine →
      PostA C S (evs ms r S.mu) (fun c d H' => W c d σ H') (fun vs H' => ∃ S' ds, S'.H = H' ∧ Wf C S' ∧ Reps C S' ds vs ∧ ∀ x, catL acc ds = some x → x.length ≤ sizeLine → Q (toS x) H') → tJs ts (toS acc) σ S.H Q
  | _, _, .nil => ⟨[], .nil, fun acc σ Q r S w sr hl h => by
      simp only [evs] at h
      obtain ⟨S', ds, e, w', rs, q⟩ := h S [] rfl w (Step.refl S) Reps.nil
      have : ds = [] := by
        have := rs.len
        simpa using this
      subst this
      exact q acc rfl (by simp at hl; exact hl)⟩
  | _, _, .cons (e := e) (m := m) (es := es) (ms := ms) he hs hr => by
      obtain ⟨ts, p1, p2⟩ := SJ.pj tk hr
      refine ⟨_ :: ts, .cons (he W tk) p1, fun acc σ Q r S w sr hl h => ?_⟩
      simp only [evs] at h
      have hb := h.bind
      refine dnE_intro r w sr ?_
      cases e0 : ev m r S.mu with
      | stuck => rw [e0] at hb; exact hb
      | exc c ks vs m1 => rw [e0] at hb; exact hb
      | ok d m1 =>
        rw [e0] at hb
        obtain ⟨x, ed, hx⟩ := hs r S.mu d m1 e0
        subst ed
        intro S1 v1 em w1 st1 r1
        rw [M.bind_ap, e0] at h
        have h2 := PostA.step st1 h
        rw [← em] at h2
        have h3 := PostA.bindA (x := evs ms r) (g := fun xs => pure (.str x :: xs)) h2
        obtain ⟨q1, q2⟩ := rep_str.mp r1
        refine ⟨toS x, q1, ?_, ?_⟩
        · rw [toS_app, toS_len, List.length_append]
          simp only [List.length_cons] at hl
          omega
        · rw [toS_app]
          refine p2 (acc ++ x) σ Q r S1 w1 (sr.mono st1) ?_ (h3.imp fun vs H' ⟨S', ds, eH, w', st', rs, hz⟩ => ?_)
          · rw [List.length_append]
            simp only [List.length_cons] at hl
            omega
          · subst eH
            obtain ⟨S2, ds2, e2, w2, rs2, q⟩ := hz S' (v1 :: vs) rfl w' (Step.refl S') (Reps.cons (r1.mono st') rs)
            cases ds2 with
            | nil => have := rs2.len; simp at this
            | cons d2 ds2 =>
              obtain ⟨v', vs', ev', rd, rt⟩ := rs2
              cases ev'
              rw [q1] at rd
              obtain ⟨x', ex', tx⟩ := rep_str_inv rd
              have := toS_inj tx
              subst this ex'
              exact ⟨S2, ds2, e2, w2, rt, fun y hy hy2 => q y (by simp only [catL]; exact hy) hy2⟩
theorem se_fstr {v1 v2 : Expr} {rest : List Expr} {ms : MEs} {pos : Pos} (h : SJ C X (v1 :: v2 :: rest) ms) (hl : (v1 :: v2 :: rest).length ≤ 100) : SE C X (.JoinedStr (v1 :: v2 :: rest) pos) (.call joinS ms) := fun W tk => by
  obtain ⟨ts, p1, p2⟩ := h.pj tk
  refine PEw (pe_joined p1) fun σ H Q ⟨r, S, hH, w, sr, z⟩ => ?_
  subst hH
  simp only [ev] at z
  refine p2 [] σ _ r S w sr (by rw [sizeLine_eq]; simp at hl ⊢; omega) (z.bindA.imp fun vs H' ⟨S', ds, e, w', st, rs, q⟩ => ⟨S', ds, e, w', rs, fun x hx hx2 => ?_⟩)
  subst e
  unfold joinS at q
  rw [hx] at q
  exact q.pure w' (rep_str.mpr ⟨rfl, hx2⟩)
end
end Fs

/-! FtA: calls with keywords. -/
namespace Fs
open PySem PySem.Spec PyProof.Rows L2
open Classical

def MEs.app : MEs → MEs → MEs
  | .nil, q => q
  | .cons e p, q => .cons e (MEs.app p q)
theorem evs_app (r : Env) : ∀ (p q : MEs), evs (p.app q) r = (do let xs ← evs p r; let ys ← evs q r; pure (xs ++ ys))
  | .nil, q => by
    simp only [MEs.app, evs]
    funext m
    show evs q r m = ((evs q r >>= fun ys => pure ([] ++ ys)) m)
    rw [M.bind_ap]
    cases evs q r m <;> rfl
  | .cons e p, q => by
    simp only [MEs.app, evs, evs_app r p q]
    funext m
    simp only [M.bind_ap]
    cases ev e r m with
    | ok x m1 =>
      simp only
      cases evs p r m1 with
      | ok xs m2 =>
        simp only [M.pure_ap]
        cases evs q r m2 <;> rfl
      | exc c ks vs m2 => rfl
      | stuck => rfl
    | exc c ks vs m1 => rfl
    | stuck => rfl
section
variable {C : Ct} {X : Cx}
def MEs.len : MEs → Nat
  | .nil => 0
  | .cons _ p => p.len + 1
theorem evs_len {r : Env} : ∀ {p : MEs} {m : Store} {ds : List D} {m' : Store}, evs p r m = .ok ds m' → ds.length = p.len
  | .nil, m, ds, m', h => by
    simp only [evs] at h
    cases h
    rfl
  | .cons e p, m, ds, m', h => by
    simp only [evs] at h
    rw [M.bind_ap] at h
    cases e1 : ev e r m with
    | ok x m1 =>
      rw [e1] at h
      simp only at h
      rw [M.bind_ap] at h
      cases e2 : evs p r m1 with
      | ok xs m2 =>
        rw [e2] at h
        cases h
        rw [List.length_cons, evs_len e2]
        rfl
      | exc c ks vs m2 => rw [e2] at h; cases h
      | stuck => rw [e2] at h; cases h
    | exc c ks vs m1 => rw [e1] at h; cases h
    | stuck => rw [e1] at h; cases h
theorem PostE.bindA2 {S : Ws} {x : M (List D)} {g : List D → M D} {W : XK} {Q : VK} (h : PostE C S ((x >>= g) S.mu) W Q) :
    PostA C S (x S.mu) W (fun vs H' => ∃ S' ds, S'.H = H' ∧ Wf C S' ∧ Step S S' ∧ Reps C S' ds vs ∧ (∃ m, x S.mu = .ok ds m) ∧ PostE C S' (g ds S'.mu) W Q) := by
  rw [M.bind_ap] at h
  cases e : x S.mu with
  | ok ds m =>
    rw [e] at h
    intro S' vs hm w st rs
    subst hm
    exact ⟨S', ds, rfl, w, st, rs, ⟨_, rfl⟩, PostE.step st h⟩
  | exc c ks vs m => rw [e] at h; exact h
  | stuck => rw [e] at h; exact h
/-- the keywords' values -/
def SK (C : Ct) (X : Cx) (kws : List Keyword) (m : MEs) : Prop := ∀ W, Takes X W → PK X kws (dnA C (evs m) W)
theorem PKw {kws : List Keyword} {t t' : TA} (h : PK X kws t) (k : ∀ σ H Q, t' σ H Q → t σ H Q) : PK X kws t' := ⟨fun pos pins s σ H Q I q => h.run pos pins s σ H Q I (k σ H Q q)⟩
theorem sk_nil : SK C X [] .nil := fun W tk => PKw pk_nil fun σ H Q ⟨r, S, hH, w, sr, h⟩ => by
  subst hH
  simp only [evs] at h
  exact h S [] rfl w (Step.refl S) Reps.nil
theorem sk_cons {nm : Option Str} {e : Expr} {kpos : Pos} {kws : List Keyword} {m : ME} {ms : MEs} (he : SE C X e m) (hk : SK C X kws ms) : SK C X (⟨nm, e, kpos⟩ :: kws) (.cons m ms) := fun W tk => PKw (pk_cons (he W tk) (hk W tk)) fun σ H Q ⟨r, S, hH, w, sr, h⟩ => by
  subst hH
  simp only [evs] at h
  refine dnE_intro r w sr (h.bind.imp fun v1 H1 ⟨S1, d1, e1, w1, st1, r1, z⟩ => ?_)
  subst e1
  refine dnA_intro r w1 (sr.mono st1) (z.bindA.imp fun vs H2 ⟨S2, ds, e2, w2, st2, r2, z2⟩ => ?_)
  subst e2
  exact z2 S2 (v1 :: vs) rfl w2 (Step.refl S2) (Reps.cons (r1.mono st2) r2)
/-- how the values of a call come into the parameters' order -/
structure KA (C : Ct) (fd : FuncData) (ps : List Str) (n : Nat) (ks : List Str) (gD : List D → List D → List D) : Prop where
  ex : ∃ g gV, KBn C.K fd ps n ks g gV ∧ ∀ (S : Ws) (ds es : List D) (vs zs : List V), Reps C S ds vs → Reps C S es zs → ds.length = n → es.length = ks.length → Reps C S (gD ds es) (gV vs zs)
def kwF (n l : Nat) (gD : List D → List D → List D) (F : List D → M D) (xs : List D) : M D := if xs.length = n + l then F (gD (xs.take n) (xs.drop n)) else stuckM
/-- the arguments' evaluation and the call, whatever is called -/
theorem kw_args {es : List Expr} {kws : List Keyword} {mes mks : MEs} {G : List D → M D} {W : WX} (tk : Takes X W) {f : Addr} {first : List Value} {pos : Pos} {pins : List (Addr × Obj)} {s : Shared} {σ : L2.St} {Q : Value → Shared → Prop} {R : VK} {S : Ws} {r : Env}
    (hes : SA C X es mes) (hks : SK C X kws mks) (hkf : PySem.W.keepIn X.K (.ref f) = true) (hs : noStar es = true) (hnil : es = [] → mes = .nil) (hall : (backToKw pos (keywordEach kws X.env)).all (·.1.isSome) = true) (hno : (backToKw pos (keywordEach kws X.env)).any (·.1.isNone) = false)
    {ks : List Str} (hn : (backToKw pos (keywordEach kws X.env)).filterMap (·.1) = ks) (I : Inv X pins σ S.H s) (w : Wf C S) (sr : SRep C S r σ) (h : PostE C S ((evs (mes.app mks) r >>= G) S.mu) (fun c d H' => W c d σ H') R)
    (run : ∀ (S2 : Ws) (s2 : Shared) (us ws : List Value) (vs zs : List V) (ds es : List D), Inv X pins σ S2.H s2 → Wf C S2 → Step S S2 → Vals vs us → Vals zs ws → Reps C S2 ds vs → Reps C S2 es zs → ds.length = mes.len → PostE C S2 (G (ds ++ es) S2.mu) (fun c d H' => W c d σ H') R →
      wpAny (model X.prog X.w) X.A (call (.ref f) (first ++ us) (ks.zip ws)) Q X.xe s2) :
    wpAny (model X.prog X.w) X.A (callWith pos (.ref f) first (backTo pos (starEach es X.env)) (backToKw pos (keywordEach kws X.env))) Q X.xe s := by
  have e0 : (evs (mes.app mks) r >>= G) = (evs mes r >>= fun xs => evs mks r >>= fun ys => G (xs ++ ys)) := by
    rw [evs_app]
    funext m
    simp only [M.bind_ap]
    cases evs mes r m with
    | ok xs m1 =>
      simp only
      cases evs mks r m1 <;> rfl
    | exc c ks vs m1 => rfl
    | stuck => rfl
  rw [e0] at h
  have kwPart : ∀ (S1 : Ws) (s1 : Shared) (us : List Value) (vs : List V) (ds : List D), Inv X pins σ S1.H s1 → Wf C S1 → Step S S1 → Vals vs us → Reps C S1 ds vs → ds.length = mes.len → PostE C S1 ((evs mks r >>= fun ys => G (ds ++ ys)) S1.mu) (fun c d H' => W c d σ H') R →
      wpAny (model X.prog X.w) X.A (evalAll ((backToKw pos (keywordEach kws X.env)).map (·.2))) (fun ws s₂ => X.K.In s₂.heap ∧ wpAny (model X.prog X.w) X.A (call (.ref f) (first ++ us) (((backToKw pos (keywordEach kws X.env)).filterMap (·.1)).zip ws)) Q X.xe s₂) X.xe s1 := fun S1 s1 us vs ds I1 w1 st1 rv rs hl z => by
    refine thn ((hks W tk).run pos pins s1 σ S1.H (fun zs H2 => ∃ S2 es, S2.H = H2 ∧ Wf C S2 ∧ Step S1 S2 ∧ Reps C S2 es zs ∧ PostE C S2 (G (ds ++ es) S2.mu) (fun c d H' => W c d σ H') R) I1 (dnA_intro r w1 (sr.mono st1) z.bindA)) fun ws s2 ⟨zs, H2, I2, rz, S2, es', e2, w2, st2, re, z2⟩ => ?_
    subst e2
    refine ⟨I2.kIn, ?_⟩
    rw [hn]
    exact run S2 s2 us ws vs zs ds es' I2 w2 (st1.trans st2) rv rz (rs.mono st2) re hl z2
  cases es with
  | nil =>
    obtain rfl := hnil rfl
    refine PySem.W.callWith_KW0 (h₀ := X.base) I.ok.mod.kin hkf hall (kwPart S s [] [] [] I w (Step.refl S) .nil Reps.nil rfl ?_) (by rw [hno]; rfl)
    simp only [evs] at h
    exact h
  | cons e rest =>
    simp only [noStar, List.all_cons, Bool.and_eq_true, Bool.not_eq_true'] at hs
    refine PySem.W.callWith_KW (h₀ := X.base) I.ok.mod.kin hkf hall (thn ((hes W tk).run pos pins s σ S.H (fun vs H2 => ∃ S1 ds, S1.H = H2 ∧ Wf C S1 ∧ Step S S1 ∧ Reps C S1 ds vs ∧ (∃ m, evs mes r S.mu = .ok ds m) ∧ PostE C S1 ((evs mks r >>= fun ys => G (ds ++ ys)) S1.mu) (fun c d H' => W c d σ H') R) I (dnA_intro r w sr h.bindA2)) fun us s1 ⟨vs, H1, I1, rv, S1, ds, e1, w1, st1, rs, ⟨m0, hm0⟩, z⟩ => ?_) ?_ (star_cons hs.1)
    · subst e1
      exact kwPart S1 s1 us vs ds I1 w1 st1 rv rs (evs_len hm0) z
    · rw [star_cons hs.1]
      show ((false || (backTo pos (starEach rest X.env)).any (·.1)) || _) = false
      rw [star_any hs.2, hno]
      rfl
theorem run_kw {k : Nat} {F : List D → M D} {pins : List (Addr × Obj)} {σ : L2.St} {s : Shared} {S : Ws} {Q : VK} {us ws : List Value} {vs zs : List V} {ds es : List D} {f : Addr} {fd : FuncData} {ps ks : List Str} {n : Nat} {gD : List D → List D → List D} {W : WX} (tk : Takes X W) (hK : X.K = C.K)
    (h1 : FnOk X.prog X.w X.K X.mg X.base (L2.CX X.prog X.w) k f fd ps (spM C ps.length F)) (hr : Room k X.A) (hb : KA C fd ps n ks gD) (h5 : ∀ ds m, ds.length ≠ ps.length → F ds m = .stuck) (I : Inv X pins σ S.H s) (r : Vals vs us) (rz : Vals zs ws) (wf : Wf C S) (rs : Reps C S ds vs) (re : Reps C S es zs)
    (l1 : ds.length = n) (l2 : es.length = ks.length) (h : PostE C S (F (gD ds es) S.mu) (fun c d H' => W c d σ H') Q) : wpAny (model X.prog X.w) X.A (call (.ref f) us (ks.zip ws)) (EP X pins σ Q) X.xe s := by
  obtain ⟨g, gV, b, hrep⟩ := hb.ex
  rw [← hK] at b
  have rg := hrep S ds es vs zs rs re l1 l2
  have r2 := b.rel r rz
  have hsp : spM C ps.length F (gV vs zs) S.H Q (WE W σ) := by
    refine ⟨?_, S, gD ds es, rfl, wf, rg, h⟩
    rw [← rg.len]
    by_cases hl : (gD ds es).length = ps.length
    · exact hl
    · rw [h5 _ _ hl] at h
      exact h.elim
  refine wpAny_call (codeAny_mono (h1.run X.A X.stack s S.H ⟨us, ks.zip ws⟩ (g us ws) (gV vs zs) Q (WE W σ) hr I.env0 (b.to s us ws I.kIn (by rw [← r.length, ← rs.len]; exact l1) (by rw [← rz.length, ← re.len]; exact l2)) r2 hsp) fun r s' hq => ?_)
  cases r with
  | error e => exact passAt tk σ pins _ _ e s' I hq
  | ok fl =>
    cases fl with
    | ret u => exact I.after hq
    | next => exact False.elim hq
    | brk => exact False.elim hq
    | cont => exact False.elim hq
/-- a def that is called with keywords -/
structure UFK (C : Ct) (P : Program) (w : World) (mg : Str → Option Value) (base : Heap) (k : Nat) (x : Str) (n : Nat) (ks : List Str) (gD : List D → List D → List D) (F : List D → M D) : Prop where
  ex : ∃ (f : Addr) (fd : FuncData) (ps : List Str), FnOk P w C.K mg base (L2.CX P w) k f fd ps (spM C ps.length F) ∧ mg x = some (.ref f) ∧ PySem.W.keepIn C.K (.ref f) = true ∧ KA C fd ps n ks gD ∧ ∀ ds m, ds.length ≠ ps.length → F ds m = .stuck
theorem kwF_ok {n l : Nat} {gD : List D → List D → List D} {F : List D → M D} {S : Ws} {ds es : List D} {W : XK} {R : VK} (h : PostE C S (kwF n l gD F (ds ++ es) S.mu) W R) (hd : ds.length = n) : es.length = l ∧ PostE C S (F (gD ds es) S.mu) W R := by
  unfold kwF at h
  by_cases hl : (ds ++ es).length = n + l
  · rw [if_pos hl] at h
    rw [List.length_append] at hl
    refine ⟨by omega, ?_⟩
    rw [← hd, List.take_left, List.drop_left] at h
    exact h
  · rw [if_neg hl] at h
    exact h.elim
theorem se_callK {k i n : Nat} {x : Str} {ks : List Str} {gD : List D → List D → List D} {F : List D → M D} {es : List Expr} {kws : List Keyword} {mes mks : MEs} {p pos : Pos} (u : UFK C X.prog X.w X.mg X.base k x n ks gD F) (hr : Room i X.A) (hk : k ≤ i) (hK : X.K = C.K) (hg : glB X x = true)
    (hes : SA C X es mes) (hks : SK C X kws mks) (hs : noStar es = true) (hnil : es = [] → mes = .nil) (hle : mes.len = n) (hall : (backToKw pos (keywordEach kws X.env)).all (·.1.isSome) = true) (hno : (backToKw pos (keywordEach kws X.env)).any (·.1.isNone) = false)
    (hn : (backToKw pos (keywordEach kws X.env)).filterMap (·.1) = ks) : SE C X (.Call (.Name x p) es kws pos) (.call (kwF n ks.length gD F) (mes.app mks)) := fun W tk => by
  obtain ⟨f, fd, ps, h1, h2, h3, h4, h5⟩ := u.ex
  rw [← hK] at h1 h3
  refine ⟨fun pins s σ H Q I ⟨r, S, hH, w, sr, h⟩ => ?_⟩
  subst hH
  refine wpAny_Call_Name_kw (ld_glob I (glB_ok hg).1 h2 ?_ (glB_ok hg).2)
  simp only [ev] at h
  refine kw_args (first := []) tk hes hks h3 hs hnil hall hno hn I w sr h fun S2 s2 us ws vs zs ds es' I2 w2 st2 rv rz rs re hl z => ?_
  have hd : ds.length = n := hl.trans hle
  obtain ⟨l2, z2⟩ := kwF_ok z hd
  exact run_kw tk hK h1 (hr.mono hk) h4 h5 I2 rv rz w2 rs re hd l2 z2
/-! ### o.m(.., k = v, ..) -/
structure UMK (C : Ct) (P : Program) (w : World) (mg : Str → Option Value) (base : Heap) (k : Nat) (c j : Nat) (n : Nat) (ks : List Str) (gD : List D → List D → List D) (F : List D → M D) : Prop where
  cl : Cls C.K (He.ga C.K (C.nm c))
  ex : ∃ (f : Addr) (fd : FuncData) (ps : List Str), FnOk P w C.K mg base (L2.CX P w) k f fd ps (spM C ps.length F) ∧ Meth C.K (He.ga C.K (C.nm c)) (C.nm j) f ∧ KA C fd ps (n + 1) ks gD ∧ ∀ ds m, ds.length ≠ ps.length → F ds m = .stuck
def selfK (n l : Nat) (gD : List D → List D → List D) (F : List D → M D) (d : D) (xs : List D) : M D := kwF (n + 1) l gD F (d :: xs)
theorem se_methK {k i N n c j : Nat} {ks : List Str} {gD : List D → List D → List D} {F : List D → M D} {o : Expr} {es : List Expr} {kws : List Keyword} {mo : ME} {mes mks : MEs} {apos pos : Pos} {pl : Sem Bool} (u : UMK C X.prog X.w X.mg X.base k c j n ks gD F) (hr : Room i X.A) (hk : k ≤ i) (hn : NmOk C N) (hj : j < N) (hK : X.K = C.K)
    (ho : SE C X o mo) (hes : SA C X es mes) (hks : SK C X kws mks) (hs : noStar es = true) (hnil : es = [] → mes = .nil) (hle : mes.len = n) (hall : (backToKw pos (keywordEach kws X.env)).all (·.1.isSome) = true) (hno : (backToKw pos (keywordEach kws X.env)).any (·.1.isNone) = false)
    (hnk : (backToKw pos (keywordEach kws X.env)).filterMap (·.1) = ks)
    (ht : eval (.Call (.Attribute o (C.nm j) apos) es kws pos) X.env = (do
      let ov ← eval o X.env
      standAt apos.atName
      let (f, first) ← holding [ov] (getMethod ov (C.nm j) pl)
      callWith pos f first (backTo pos (starEach es X.env)) (backToKw pos (keywordEach kws X.env)))) :
    SE C X (.Call (.Attribute o (C.nm j) apos) es kws pos) (.meth (isIns c j) (selfK n ks.length gD F) mo (mes.app mks)) := fun W tk => by
  obtain ⟨f, fd, ps, h1, h2, h4, h5⟩ := u.ex
  have cl := u.cl
  rw [← hK] at h1 h2 cl
  refine ⟨fun pins s σ H Q I ⟨r, S, hH, w, sr, h⟩ => ?_⟩
  subst hH
  simp only [ev] at h
  refine PySem.W.methodCall_KW (pl := pl) (thn ((ho W tk).run pins s σ S.H (fun v1 H1 => ∃ S1 d1, S1.H = H1 ∧ Wf C S1 ∧ Step S S1 ∧ Rep C S1 d1 v1 ∧ PostE C S1 ((chkM (isIns c j) d1 >>= fun _ => evs (mes.app mks) r >>= fun xs => selfK n ks.length gD F d1 xs) S1.mu) (fun c d H' => W c d σ H') Q) I
    (dnE_intro r w sr (h.bind.imp fun _ _ z => z))) fun u1 s1 ⟨x, H1, I1, rx, S1, d1, e1, w1, st1, r1, hz⟩ => ?_) ht
  subst e1
  obtain ⟨p, h2'⟩ := hz.chk
  unfold isIns at p
  split at p
  · rename_i c' kk vs hi
    simp only [Bool.and_eq_true, decide_eq_true_eq] at p
    obtain ⟨rfl, hm⟩ := p
    obtain ⟨a, dx, fvs, e, g1, g2, g3⟩ := insOf_rep w1 hi r1
    subst e
    obtain rfl : u1 = Value.ref a := rx
    rw [← hK] at g1
    refine getmeth_ok I1 g1 cl h2 (fld_none hn hj g2 hm) ?_
    refine kw_args (first := [.ref a]) tk hes hks h2.kp hs hnil hall hno hnk I1 w1 (sr.mono st1) h2' fun S2 s2 us ws vs zs ds es' I2 w2 st2 rv rz rs re hl z => ?_
    have hd : (d1 :: ds).length = n + 1 := by rw [List.length_cons, hl, hle]
    have z' : PostE C S2 (kwF (n + 1) ks.length gD F ((d1 :: ds) ++ es') S2.mu) (fun c d H' => W c d σ H') Q := z
    obtain ⟨l2, z2⟩ := kwF_ok z' hd
    exact run_kw (us := .ref a :: us) (vs := .ref a :: vs) tk hK h1 (hr.mono hk) h4 h5 I2 (.cons rfl rv) rz w2 (Reps.cons (r1.mono st2) rs) re hd l2 z2
  · cases p
/-! ### C(.., k = v, ..) -/
structure UKK (C : Ct) (P : Program) (w : World) (mg : Str → Option Value) (base : Heap) (k : Nat) (c : Nat) (n : Nat) (ks : List Str) (gD : List D → List D → List D) (F : List D → M D) : Prop where
  gl : mg (C.nm c) = some (.ref (He.ga C.K (C.nm c)))
  ex : ∃ (f : Addr) (fd : FuncData) (ps : List Str), FnOk P w C.K mg base (L2.CX P w) k f fd ps (spM C ps.length F) ∧ Mk C.K (He.ga C.K (C.nm c)) f ∧ KA C fd ps (n + 1) ks gD ∧ ∀ ds m, ds.length ≠ ps.length → F ds m = .stuck
/-- the arguments of __init__, self ahead -/
def initF (n l : Nat) (gD : List D → List D → List D) (F : List D → M D) : List D → M D := fun xs => kwF (n + 1) l gD F xs
theorem run_makeKw {k c n : Nat} {ks : List Str} {gD : List D → List D → List D} {F : List D → M D} {pins : List (Addr × Obj)} {σ : L2.St} {s : Shared} {S : Ws} {Q : VK} {us ws : List Value} {vs zs : List V} {ds es : List D} {f : Addr} {fd : FuncData} {ps : List Str} {W : WX} (tk : Takes X W) (hK : X.K = C.K)
    (M : Mk X.K (He.ga C.K (C.nm c)) f) (h1 : FnOk X.prog X.w X.K X.mg X.base (L2.CX X.prog X.w) k f fd ps (spM C ps.length F)) (hr : Room (k + 1) X.A) (hb : KA C fd ps (n + 1) ks gD) (h5 : ∀ ds m, ds.length ≠ ps.length → F ds m = .stuck) (I : Inv X pins σ S.H s) (r : Vals vs us) (rz : Vals zs ws) (wf : Wf C S) (rs : Reps C S ds vs) (re : Reps C S es zs)
    (l1 : ds.length = n) (l2 : es.length = ks.length) (h : PostE C S (makeM c (initF n ks.length gD F) (ds ++ es) S.mu) (fun c d H' => W c d σ H') Q) : wpAny (model X.prog X.w) X.A (call (.ref (He.ga C.K (C.nm c))) us (ks.zip ws)) (EP X pins σ Q) X.xe s := by
  obtain ⟨g, gV, b, hrep⟩ := hb.ex
  rw [← hK] at b
  -- what make_sp says of the arguments in a row
  have hq0 := make_sp (ps := List.replicate (n + 1 + ks.length) "") (F := initF n ks.length gD F) (c := c) (fun xs m hx => by
    unfold initF kwF
    rw [if_neg (by simpa using hx)]
    rfl) wf (rs.append re) h (s.heap.objs.size + 1) s.heap.objs.size (I.hok.fresh (Nat.le_succ _)) (I.hok.fresh (Nat.le_refl _)) (Nat.ne_of_lt (Nat.lt_succ_self _))
  obtain ⟨_, S2, xs, hH2, w2, rx, z⟩ := hq0
  obtain ⟨d0, xs', rfl⟩ : ∃ d0 xs', xs = d0 :: xs' := by
    cases xs with
    | nil => have := rx.len; simp at this
    | cons d0 xs' => exact ⟨d0, xs', rfl⟩
  have hlen : xs'.length = n + ks.length := by
    have := rx.len
    have l3 := rs.len
    have l4 := re.len
    simp only [List.length_cons, List.length_append] at this
    omega
  have esplit : d0 :: xs' = (d0 :: xs'.take n) ++ xs'.drop n := by simp
  obtain ⟨v0, vs0, ev0, r0, rt⟩ := rx
  cases ev0
  have rtk : Reps C S2 (xs'.take n) vs := by
    have := rt.take n
    have e : (vs ++ zs).take n = vs := by rw [← l1, rs.len, List.take_left]
    rwa [e] at this
  have rdr : Reps C S2 (xs'.drop n) zs := by
    have := rt.drop n
    have e : (vs ++ zs).drop n = zs := by rw [← l1, rs.len, List.drop_left]
    rwa [e] at this
  have hd : (d0 :: xs'.take n).length = n + 1 := by simp; omega
  have z' : PostE C S2 (kwF (n + 1) ks.length gD F ((d0 :: xs'.take n) ++ xs'.drop n) S2.mu) (fun c d H' => W c d σ H') (fun v H2 => v = .non ∧ Q (.ref (s.heap.objs.size + 1)) H2) := by
    rw [← esplit]
    exact z
  obtain ⟨l5, z2⟩ := kwF_ok z' hd
  have rg := hrep S2 (d0 :: xs'.take n) (xs'.drop n) (.ref (s.heap.objs.size + 1) :: vs) zs (Reps.cons r0 rtk) rdr hd l5
  have hsp : spM C ps.length F (gV (.ref (s.heap.objs.size + 1) :: vs) zs) (upd (upd S.H s.heap.objs.size (.own (s.heap.objs.size + 1))) (s.heap.objs.size + 1) (.ins (He.ga C.K (C.nm c)) s.heap.objs.size [])) (fun v H2 => v = .non ∧ Q (.ref (s.heap.objs.size + 1)) H2) (WE W σ) := by
    refine ⟨?_, S2, _, hH2, w2, rg, z2⟩
    rw [← rg.len]
    by_cases hl : (gD (d0 :: xs'.take n) (xs'.drop n)).length = ps.length
    · exact hl
    · rw [h5 _ _ hl] at z2
      exact z2.elim
  have I2 := Inv.made (C := He.ga C.K (C.nm c)) I
  have r1 : Vals (V.ref (s.heap.objs.size + 1) :: vs) (Value.ref (s.heap.objs.size + 1) :: us) := .cons rfl r
  have r2 := b.rel r1 rz
  have n1 : (Value.ref (s.heap.objs.size + 1) :: us).length = n + 1 := by rw [List.length_cons, ← r.length, ← rs.len, l1]
  refine wpAny_call (make_map (f := f) I.kIn M.makes M.init (beq_iff_eq.mp M.fn) (codeAny_mono (h1.run _ X.stack _ _ ⟨Value.ref (s.heap.objs.size + 1) :: us, ks.zip ws⟩ (g (Value.ref (s.heap.objs.size + 1) :: us) ws) _ _ (WE W σ) (hr.make _ us (ks.zip ws))
    (I2.env0.make _ us (ks.zip ws)) (b.to _ (Value.ref (s.heap.objs.size + 1) :: us) ws I2.kIn n1 (by rw [← rz.length, ← re.len]; exact l2)) r2 hsp) fun r' s' hq' => ?_))
  cases r' with
  | error e => exact passAt tk σ pins _ _ e s' I2 hq'
  | ok fl =>
    cases fl with
    | ret u =>
      obtain ⟨v, H', I3, rv, ev, q3⟩ := I2.after hq'
      subst ev
      exact ⟨rv, ⟨V.ref (s.heap.objs.size + 1), H', I3, rfl, q3⟩⟩
    | next => exact False.elim hq'
    | brk => exact False.elim hq'
    | cont => exact False.elim hq'
theorem se_makeK {k i c n : Nat} {ks : List Str} {gD : List D → List D → List D} {F : List D → M D} {es : List Expr} {kws : List Keyword} {mes mks : MEs} {p pos : Pos} (u : UKK C X.prog X.w X.mg X.base k c n ks gD F) (hr : Room i X.A) (hk : k < i) (hK : X.K = C.K) (hg : glB X (C.nm c) = true)
    (hes : SA C X es mes) (hks : SK C X kws mks) (hs : noStar es = true) (hnil : es = [] → mes = .nil) (hle : mes.len = n) (hall : (backToKw pos (keywordEach kws X.env)).all (·.1.isSome) = true) (hno : (backToKw pos (keywordEach kws X.env)).any (·.1.isNone) = false)
    (hn : (backToKw pos (keywordEach kws X.env)).filterMap (·.1) = ks) : SE C X (.Call (.Name (C.nm c) p) es kws pos) (.call (fun xs => if xs.length = n + ks.length then makeM c (initF n ks.length gD F) xs else stuckM) (mes.app mks)) := fun W tk => by
  obtain ⟨f, fd, ps, h1, h2, h4, h5⟩ := u.ex
  rw [← hK] at h1
  have h2' : Mk X.K (He.ga C.K (C.nm c)) f := by rw [hK]; exact h2
  refine ⟨fun pins s σ H Q I ⟨r, S, hH, w, sr, h⟩ => ?_⟩
  subst hH
  refine wpAny_Call_Name_kw (ld_glob I (glB_ok hg).1 u.gl ?_ (glB_ok hg).2)
  simp only [ev] at h
  refine kw_args (first := []) tk hes hks h2'.kp hs hnil hall hno hn I w sr h fun S2 s2 us ws vs zs ds es' I2 w2 st2 rv rz rs re hl z => ?_
  have hd : ds.length = n := hl.trans hle
  by_cases hz : (ds ++ es').length = n + ks.length
  · rw [if_pos hz] at z
    rw [List.length_append] at hz
    exact run_makeKw tk hK h2' h1 (hr.mono hk) h4 h5 I2 rv rz w2 rs re hd (by omega) z
  · rw [if_neg hz] at z
    exact z.elim
/-! ### the orders -/
def sel {α : Type} (ix : List Nat) (l : List α) : List α := ix.filterMap fun i => l[i]?
theorem sel_reps {S : Ws} {ds : List D} {vs : List V} (r : Reps C S ds vs) : ∀ ix : List Nat, Reps C S (sel ix ds) (sel ix vs)
  | [] => Reps.nil
  | i :: ix => by
    have ih := sel_reps r ix
    unfold sel at ih ⊢
    rw [List.filterMap_cons, List.filterMap_cons]
    cases e : ds[i]? with
    | none =>
      have : vs[i]? = none := by
        rw [List.getElem?_eq_none_iff] at e ⊢
        rw [← r.len]; exact e
      rw [this]
      exact ih
    | some d =>
      obtain ⟨v, hv, rv⟩ := r.get e
      rw [hv]
      exact Reps.cons rv ih
theorem vals_get : ∀ {vs : List V} {us : List Value} {i : Nat}, Vals vs us → (vs[i]? = none ∧ us[i]? = none) ∨ ∃ v u, vs[i]? = some v ∧ us[i]? = some u ∧ RelV v u
  | _, _, _, .nil => .inl ⟨by simp, by simp⟩
  | _, _, 0, .cons r _ => .inr ⟨_, _, rfl, rfl, r⟩
  | _, _, i + 1, .cons _ t => by
    simpa using vals_get (i := i) t
theorem sel_vals {vs : List V} {us : List Value} (r : Vals vs us) : ∀ ix : List Nat, Vals (sel ix vs) (sel ix us)
  | [] => .nil
  | i :: ix => by
    have ih := sel_vals r ix
    unfold sel at ih ⊢
    rw [List.filterMap_cons, List.filterMap_cons]
    rcases vals_get (i := i) r with ⟨h1, h2⟩ | ⟨v, u, h1, h2, h3⟩
    · rw [h1, h2]; exact ih
    · rw [h1, h2]; exact .cons h3 ih
/-- without defaults -/
theorem ka_plain {x qual : Str} {params : Arguments} {body : List Stmt} {scope : Scope} {f : Addr} {fd : FuncData} {ps ks : List Str} {n : Nat} (F : FunD C.K x qual params body scope [] [] f fd) (ix : List Nat)
    (h : ∀ (kV doc pm : Value) (an : Option Addr) (cdv ct : Value) (us ws : List Value), us.length = n → ws.length = ks.length → bindArgs (PySem.W.fnOf x qual params body scope .none kV doc pm an cdv ct) ⟨us, ks.zip ws⟩ = pure (ps.zip (sel ix (us ++ ws)))) :
    KA C fd ps n ks (fun ds es => sel ix (ds ++ es)) := by
  obtain ⟨oc, od, dV, kV, doc, pm, an, cdv, ct, osl, rfl, lk, hcd, hD, hK⟩ := F.ex
  rcases hD with ⟨_, rfl⟩ | ⟨e, _⟩
  · exact ⟨fun us ws => sel ix (us ++ ws), fun vs zs => sel ix (vs ++ zs), ⟨fun s us ws _ l1 l2 => .of_eq (h kV doc pm an cdv ct us ws l1 l2), fun r1 r2 => sel_vals (r1.append r2) ix⟩, fun S ds es vs zs r1 r2 _ _ => sel_reps (r1.append r2) ix⟩
  · exact absurd rfl e
/-- keyword-only defaults; ms: those that lack -/
theorem ka_dfl {x qual : Str} {params : Arguments} {body : List Stmt} {scope : Scope} {f : Addr} {fd : FuncData} {ps ks : List Str} {n : Nat} {kws : List (Str × V)} (F : FunD C.K x qual params body scope [] kws f fd) (hk : kws ≠ []) (ms : List (Str × V)) (hms : ∀ q ∈ ms, q ∈ kws) (dfl : List D) (hd : ∀ S, Reps C S dfl (ms.map (·.2))) (ix : List Nat)
    (h : ∀ (Dk : Addr) (doc pm : Value) (an : Option Addr) (cdv ct : Value) (us mv ws : List Value), us.length = n → mv.length = ms.length → ws.length = ks.length →
      KwChain Dk ((ms.map (·.1)).zip mv) (bindArgs (PySem.W.fnOf x qual params body scope .none (.ref Dk) doc pm an cdv ct) ⟨us, ks.zip ws⟩) (ps.zip (sel ix (us ++ mv ++ ws)))) :
    KA C fd ps n ks (fun ds es => sel ix (ds ++ dfl ++ es)) := by
  obtain ⟨mv, b⟩ := FunD.kbinds0 F n ks ms (fun us mv ws => sel ix (us ++ mv ++ ws)) hk hms (fun r1 r2 r3 => sel_vals ((r1.append r2).append r3) ix) h
  exact ⟨_, _, b, fun S ds es vs zs r1 r2 _ _ => sel_reps ((r1.append (hd S)).append r2) ix⟩
end
end Fs

/-! FtB: lists turned round, fresh lists, constants of classes, written dicts. -/
namespace Fs
open PySem PySem.Spec PyProof.Rows L2
open Classical

section
variable {C : Ct} {X : Cx}
theorem un1_ev {g : D → M D} {me : ME} {r : Env} : ev (.call (un1 g) (.cons me .nil)) r = (do let x ← ev me r; g x) := by
  simp only [ev, evs]
  rw [M.bind_assoc]
  rfl
/-! ### xs[::-1] -/
def revM (d : D) : M D := fun m => match readL m d with
  | some ds => .ok (.lst ds.reverse) m
  | none => .stuck
theorem Reps.reverse {S : Ws} : ∀ {ds : List D} {vs : List V}, Reps C S ds vs → Reps C S ds.reverse vs.reverse
  | [], vs, h => by
    cases h
    exact Reps.nil
  | d :: ds, vs, h => by
    obtain ⟨v, vs', rfl, r1, r2⟩ := h
    rw [List.reverse_cons, List.reverse_cons]
    exact (Reps.reverse r2).append (Reps.cons r1 Reps.nil)
theorem se_rev {e : Expr} {me : ME} {k : Nat} {p1 p2 p3 pos : Pos} (hK : X.K = C.K) (he : SE C X e me) : SE C X (.Subscript e (.Slice none none (some (.UnaryOp .USub (.Constant (.int 1) k p1) p2)) p3) pos) (.call (un1 revM) (.cons me .nil)) := fun W tk =>
  PEw (pe_revL (he W tk)) fun σ H Q ⟨r, S, hH, w, sr, h⟩ => by
    subst hH
    rw [un1_ev] at h
    refine dnE_intro r w sr (h.bind.imp fun v1 H1 ⟨S1, d1, e2, w1, st1, r1, z⟩ => ?_)
    subst e2
    unfold revM at z
    split at z
    · rename_i ds hd
      obtain ⟨a, vs, ea, f, l, q⟩ := readL_rep w1 hd r1
      exact ⟨a, vs, ea, SqL.of f, fun p hp => z.newL w1 hp (by rw [List.length_reverse]; exact l) q.reverse⟩
    · exact z.elim
/-! ### list(x) that will be changed -/
def listNM (d : D) : M D := fun m => match d with
  | .str x => .ok (.obj m.length) (m ++ [.lst (x.map fun c => .str [c])])
  | d => match readQ m d with
    | some ds => .ok (.obj m.length) (m ++ [.lst ds])
    | none => .stuck
theorem listN_ok {S : Ws} {d : D} {v : V} {W : XK} {Q : VK} (w : Wf C S) (r : Rep C S d v) (h : PostE C S (listNM d S.mu) W Q) : rListA C.K [v] S.H Q := by
  unfold listNM at h
  split at h
  · rename_i x
    rw [rep_str] at r
    refine .inl ⟨toS x, by rw [r.1], by rw [toS_len]; exact r.2, fun p hp => ?_⟩
    have e : (toS x).cps.toList.map (fun c => V.str ⟨#[c]⟩) = (x.map fun c => [c]).map fun y => V.str (toS y) := by
      rw [toS_cps, List.map_map, List.map_map]; rfl
    have e2 : (x.map fun c => D.str [c]) = (x.map fun c => [c]).map D.str := by rw [List.map_map]; rfl
    rw [e]
    rw [e2] at h
    refine h.newCell w hp (by simpa using r.2) (rep_strs _ fun y hy => ?_)
    obtain ⟨c, _, ec⟩ := List.mem_map.mp hy
    subst ec; exact small16 (by simp)
  · split at h
    · rename_i ds hd
      obtain ⟨a, vs, e, f, l, rs⟩ := readQ_rep w hd r
      exact .inr ⟨a, vs, by rw [e], f, fun p hp => h.newCell w hp l rs⟩
    · exact h.elim
theorem co_listN (hc : X.calm = true) (hK : X.K = C.K) (hm : X.mg "list" = none) : CallOk1 C X "list" (un1 listNM) :=
  callOk_T (cr_listA hc) hm PyProof.Rows.boot_list (by decide) (by decide) fun S ds vs W Q w rs h => by
    rw [hK]
    exact un1_ok (fun d v r h => listN_ok w r h) rs h
/-! ### C.f -/
structure CC (C : Ct) (c : Nat) (f : Str) (d : D) : Prop where
  ex : ∃ (mc : Value) (v : V) (u : Value), ClX.CRead C.K (He.ga C.K (C.nm c)) mc ∧ ClX.CVal C.K (He.ga C.K (C.nm c)) mc f v u ∧ ∀ S, Rep C S d v
theorem se_ccon {c : Nat} {f : Str} {d : D} {p pos : Pos} (k : CC C c f d) (hK : X.K = C.K) (hm : X.mg (C.nm c) = some (.ref (He.ga C.K (C.nm c)))) (hg : glB X (C.nm c) = true)
    (hb : attributeBase (.Name (C.nm c) p) f X.env (eval (.Name (C.nm c) p) X.env) = eval (.Name (C.nm c) p) X.env) : SE C X (.Attribute (.Name (C.nm c) p) f pos) (.con d) := by
  obtain ⟨mc, v, u, h1, h2, h3⟩ := k.ex
  rw [← hK] at h1 h2
  refine se_con (PEw (ClX.pe_cval (pe_glob (v := .ref (He.ga C.K (C.nm c))) (glB_ok hg).1 hm rfl (glB_ok hg).2) hb) fun σ H Q h => ?_) h3
  refine ⟨_, mc, v, u, rfl, ?_, ?_, h⟩
  · rw [hK] at h1 ⊢; exact h1
  · rw [hK] at h2 ⊢; exact h2
/-! ### a dict of constants -/
inductive DCs (C : Ct) (X : Cx) : List (Option Expr) → List Expr → List D → List D → List (Key × V) → Prop where
  | nil : DCs C X [] [] [] [] []
  | cons {k v : Expr} {key : Key} {kd vd : D} {vv : V} {ks : List (Option Expr)} {vs : List Expr} {kds vds : List D} {kvs : List (Key × V)} (hk : PE X k (tC (kV key))) (hd : dKey kd = some key) (hv : PE X v (tC vv)) (hr : ∀ S, Rep C S vd vv) (t : DCs C X ks vs kds vds kvs) :
      DCs C X (some k :: ks) (v :: vs) (kd :: kds) (vd :: vds) ((key, vv) :: kvs)
theorem DCs.pps {pos : Pos} : ∀ {ks : List (Option Expr)} {vs : List Expr} {kds vds : List D} {kvs : List (Key × V)}, DCs C X ks vs kds vds kvs → PPs X pos ks vs (kvs.map fun p => (tC (kV p.1), tC p.2))
  | _, _, _, _, _, .nil => pps_nil
  | _, _, _, _, _, .cons hk _ hv _ t => pps_cons hk hv t.pps
theorem pairs_of {σ : L2.St} : ∀ {kvs : List (Key × V)} {H : Hp} {Q : List (V × V) → Hp → Prop}, Q (kvs.map fun p => (kV p.1, p.2)) H → tPairs (kvs.map fun p => (tC (kV p.1), tC p.2)) σ H Q
  | [], _, _, h => h
  | p :: kvs, H, Q, h => pairs_of (kvs := kvs) (H := H) (Q := fun ps H' => Q ((kV p.1, p.2) :: ps) H') h
theorem DCs.rep : ∀ {ks : List (Option Expr)} {vs : List Expr} {kds vds : List D} {kvs : List (Key × V)}, DCs C X ks vs kds vds kvs → kds.map dKey = kvs.map (fun p => some p.1) ∧ (∀ S, Reps C S vds (kvs.map (·.2))) ∧ ks.length = kvs.length ∧ vs.length = kvs.length ∧ ks.all (·.isSome) = true
  | _, _, _, _, _, .nil => ⟨rfl, fun _ => Reps.nil, rfl, rfl, rfl⟩
  | _, _, _, _, _, .cons _ hd _ hr t => by
    obtain ⟨h1, h2, h3, h4, h5⟩ := t.rep
    exact ⟨by simp [hd, h1], fun S => Reps.cons (hr S) (h2 S), by simp [h3], by simp [h4], by simp [h5]⟩
theorem merge_new : ∀ {kvs acc : List (Key × V)}, ((acc ++ kvs).map (·.1)).Nodup → mergeK acc kvs = acc ++ kvs
  | [], acc, _ => by simp [mergeK]
  | p :: kvs, acc, h => by
    have hp : (acc.any fun kv => decide (kv.1 = p.1)) = false := by
      rw [List.any_eq_false]
      intro q hq
      simp only [decide_eq_true_eq]
      intro e
      rw [List.map_append, List.nodup_append] at h
      exact h.2.2 q.1 (List.mem_map.mpr ⟨q, hq, rfl⟩) p.1 (by simp) e
    have e1 : putK acc p.1 p.2 = acc ++ [p] := by
      unfold putK
      rw [hp]
      rfl
    show mergeK (putK acc p.1 p.2) kvs = _
    rw [e1, merge_new (by simpa using h)]
    simp
theorem se_disp {ks : List (Option Expr)} {vs : List Expr} {kds vds : List D} {kvs : List (Key × V)} {pos : Pos} (h : DCs C X ks vs kds vds kvs) (h0 : ks ≠ []) (hl : ks.length ≤ 15) (hn : (kvs.map (·.1)).Nodup) :
    SE C X (.Dict ks vs pos) (.call (fun _ => pure (.dct false kds vds)) .nil) := fun W tk => by
  obtain ⟨h1, h2, h3, h4, h5⟩ := h.rep
  refine PEw (pe_disp h.pps h5 (by rw [h3, h4]) h0 hl) fun σ H Q ⟨r, S, hH, w, sr, z⟩ => ?_
  subst hH
  simp only [ev, evs] at z
  intro p hp
  refine pairs_of (H := upd S.H p (.dK [])) ?_
  refine ⟨upd_same, kvs, rfl, by omega, ?_⟩
  rw [merge_new (acc := []) (by simpa using hn), List.nil_append]
  have eu : upd (upd S.H p (.dK [])) p (.dK kvs) = upd S.H p (.dK kvs) := by
    funext b
    by_cases hb : b = p
    · subst hb; rw [upd_same, upd_same]
    · rw [upd_ne hb, upd_ne hb, upd_ne hb]
  rw [eu]
  have z' : PostE C S (.ok (.dct false kds vds) S.mu) (fun c d H' => W c d σ H') Q := z
  refine z'.new w hp fun f => ?_
  simp only [Rep, Bool.false_eq_true, if_false]
  exact ⟨p, rfl, kvs, f, h1, h2 _⟩
theorem dc_str {x y : List Char} {s t : Str} {j j' : Nat} {p1 p2 : Pos} {ks : List (Option Expr)} {vs : List Expr} {kds vds : List D} {kvs : List (Key × V)} (hx : toS x = s) (hy : toS y = t) (hl : y.length ≤ 1000) (r : DCs C X ks vs kds vds kvs) :
    DCs C X (some (.Constant (.str s) j p1) :: ks) (.Constant (.str t) j' p2 :: vs) (.str x :: kds) (.str y :: vds) ((.inr (toS x), .str t) :: kvs) := by
  refine .cons ?_ rfl pe_str (fun S => rep_str.mpr ⟨by rw [hy], le_line hl⟩) r
  subst hx
  exact pe_str
/-! ### what is not reached -/
theorem ss_never {st : Stmt} : SS C X st .never := fun W tk => ⟨fun pins s σ H Dn I ⟨r, S, hH, w, sr, h⟩ => by
  simp only [evS] at h
  exact h.elim⟩
theorem se_stuck {e : Expr} : SE C X e (.call (fun _ => stuckM) .nil) := fun W tk => pe_false fun σ H Q ⟨r, S, hH, w, sr, h⟩ => by
  simp only [ev, evs] at h
  exact h.elim
end
end Fs

/-! FtC: the head's facts: defs by their addresses (functions, methods, getters), facts by name, a truth value of one's own. -/
namespace Fs
open PySem PySem.Spec PyProof.Rows L2 He

/-- the getter of a property -/
def pgA (x f : Str) (K : PySem.W.Frag) : Addr := match PySem.W.recIn K (ma K (ga K x) f) "property" with
  | some (.ref g :: _) => g
  | _ => 0
/-- a def of the text: where it stands, its words -/
structure AD where
  ad : PySem.W.Frag → Addr
  name : Str
  qual : Str
  params : Arguments
  body : List Stmt
  scope : Scope
  kwd : List (Str × Dv) := []
  clo : List Str := []
abbrev FnC : Type := Option (Str × Str × Arguments × FuncBody × Scope × Addr × List Str × Addr)
def AD.glo (x : Str) (st : Stmt) (kwd : List (Str × Dv) := []) : AD := ⟨fun K => ga K x, x, x, defArgs st, defBody st, defScope st, kwd, []⟩
def AD.met (c m q : Str) (st : Stmt) (kwd : List (Str × Dv) := []) : AD := ⟨fun K => ma K (ga K c) m, m, q, defArgs st, defBody st, defScope st, kwd, []⟩
def AD.get (c m q : Str) (st : Stmt) : AD := ⟨pgA c m, m, q, defArgs st, defBody st, defScope st, [], []⟩
def AD.err (c q : Str) (st : Stmt) : AD := ⟨fun K => ma K (ga K c) "__init__", "__init__", q, defArgs st, defBody st, defScope st, [], ["__class__"]⟩
def fnWA (K : PySem.W.Frag) (a : Addr) : FnC := match K.lookup a with
  | some ⟨_, _, .func fd, _⟩ => some (fd.name, fd.qualname, fd.params, fd.body, fd.scope, fd.globals, fd.closure.map (·.1), fd.builtins)
  | _ => none
def AD.val (d : AD) : FnC := some (d.name, d.qual, d.params, .stmts d.body, d.scope, mainGlobals, d.clo, builtinsNs)
def AD.kws (K : PySem.W.Frag) (d : AD) : List (Str × V) := d.kwd.map fun q => (q.1, q.2.v K)
def AD.ok (K : PySem.W.Frag) (d : AD) : Bool := PySem.W.keepIn K (.ref (d.ad K)) && (match K.lookup (d.ad K) with
  | some ⟨_, _, .func fd, _⟩ => PySem.W.codeIn K fd.code d.qual && (dflB K fd.defaults [] && kwdB K fd.kwdefaults (d.kws K))
  | _ => false)
theorem AD.funD {K : PySem.W.Frag} {d : AD} (e : fnWA K (d.ad K) = d.val) (c : d.ok K = true) (hc : d.clo = []) : ∃ fd, FunD K d.name d.qual d.params d.body d.scope [] (d.kws K) (d.ad K) fd := by
  obtain ⟨kp, c2⟩ := ba c
  unfold fnWA at e
  generalize d.ad K = a at *
  cases q : K.lookup a with
  | none => rw [q] at c2; cases c2
  | some o =>
    obtain ⟨oc, od, dt, osl⟩ := o
    rw [q] at c2 e
    cases dt with
    | func fd =>
      obtain ⟨n1, n2, n3, n4, n5, n6, n7, n8, n9, n10, n11, n12, n13, n14, n15⟩ := fd
      have e2 : (some (n1, n2, n3, n4, n5, n6, n7.map (·.1), n15) : FnC) = some (d.name, d.qual, d.params, .stmts d.body, d.scope, mainGlobals, d.clo, builtinsNs) := e
      simp only [Option.some.injEq, Prod.mk.injEq] at e2
      obtain ⟨g1, g2, g3, g4, g5, g6, g7, g8⟩ := e2
      rw [hc] at g7
      have g7 : n7 = [] := by simpa using g7
      subst g1 g2 g3 g4 g5 g6 g7 g8
      have c3 : (PySem.W.codeIn K n13 d.qual && (dflB K n8 [] && kwdB K n9 (d.kws K))) = true := c2
      obtain ⟨k1, k2⟩ := ba c3
      obtain ⟨k3, k4⟩ := ba k2
      exact ⟨_, ⟨oc, od, n8, n9, n10, n11, n12, n13, n14, osl, rfl, q, k1, dflB_ok k3, kwdB_ok k4⟩, kp⟩
    | _ => cases c2
/-- the objects that the head names: from the main module's names and the statics -/
def asP (g : Addr → Option Obj) : Nat → List Addr
  | 0 => [mainGlobals, cStatics]
  | n + 1 => growD g (asP g n)
abbrev AlP : Type := Bool × List FnC
def obsP (fa : List Fa) (fn : List AD) (ex : PySem.W.Frag → Bool) (K : PySem.W.Frag) : AlP := ((fa.all fun f => f.ok K) && ((fn.all fun d => d.ok K) && ex K), fn.map fun d => fnWA K (d.ad K))
def valP (fn : List AD) : AlP := (true, fn.map AD.val)
def SaysP (fa : List Fa) (fn : List AD) (ex : PySem.W.Frag → Bool) (K : PySem.W.Frag) : Prop := obsP fa fn ex K = valP fn
def obsPG (n : Nat) (fa : List Fa) (fn : List AD) (ex : PySem.W.Frag → Bool) (g : Addr → Option Obj) : AlP := obsP fa fn ex (frG g (asP g n))
def hookP (n : Nat) (fa : List Fa) (fn : List AD) (ex : PySem.W.Frag → Bool) : PySem.W.Hook where
  α := AlP
  obs := fun s => obsPG n fa fn ex s.heap.get?
  val := fun _ => valP fn
  says := fun _ h => ∃ K : PySem.W.Frag, K.In h ∧ SaysP fa fn ex K
  of := fun _ _ e => ⟨_, frG_in, e⟩
  keeps := fun _ _ _ ⟨K, hK, c⟩ k => ⟨K, PySem.W.Frag.In.keeps hK k, c⟩
theorem obsPG_eq {n : Nat} {fa : List Fa} {fn : List AD} {ex : PySem.W.Frag → Bool} {g : Addr → Option Obj} {s : Shared} (h : ∀ a, g a = s.heap.get? a) : obsPG n fa fn ex g = (hookP n fa fn ex).obs s := by
  have e : g = s.heap.get? := funext h
  rw [e] <;> rfl
section
variable {fa : List Fa} {fn : List AD} {ex : PySem.W.Frag → Bool} {K : PySem.W.Frag}
theorem SaysP.all (c : SaysP fa fn ex K) : (fa.all fun f => f.ok K) = true ∧ (fn.all fun d => d.ok K) = true ∧ ex K = true := by
  have c1 := ba (show ((fa.all fun f => f.ok K) && ((fn.all fun d => d.ok K) && ex K)) = true from congrArg (fun z : AlP => z.1) c)
  exact ⟨c1.1, (ba c1.2).1, (ba c1.2).2⟩
theorem SaysP.fact (c : SaysP fa fn ex K) (i : Nat) {f : Fa} (h : fa[i]? = some f) : f.ok K = true := List.all_eq_true.mp c.all.1 f (List.mem_of_getElem? h)
theorem SaysP.def_ (c : SaysP fa fn ex K) (i : Nat) {d : AD} (h : fn[i]? = some d) (hc : d.clo = [] := by rfl) : ∃ fd, FunD K d.name d.qual d.params d.body d.scope [] (d.kws K) (d.ad K) fd := by
  have e : fn.map (fun d => fnWA K (d.ad K)) = fn.map AD.val := congrArg (fun z : AlP => z.2) c
  have e2 : (fn.map fun d => fnWA K (d.ad K))[i]? = (fn.map AD.val)[i]? := by rw [e]
  rw [List.getElem?_map, List.getElem?_map, h] at e2
  exact AD.funD (Option.some.inj e2) (List.all_eq_true.mp c.all.2.1 d (List.mem_of_getElem? h)) hc
end
/-! ### classes by truth values -/
def propB (K : PySem.W.Frag) (x f : Str) : Bool := decide (PySem.W.findIn K (.ref (ga K x)) f = some (some (.ref (ma K (ga K x) f)))) && (decide (PySem.W.specialIn K (.ref (ma K (ga K x) f)) "__get__" = some (some (.builtin "property.__get__"))) &&
  (decide (PySem.W.takesIn K (.ref (ma K (ga K x) f)) = some true) && (match PySem.W.recIn K (ma K (ga K x) f) "property" with
    | some (.ref g :: _) => true
    | _ => false)))
theorem propB_ok {K : PySem.W.Frag} {x f : Str} (h : propB K x f = true) : PropOf K (ga K x) f (ma K (ga K x) f) (pgA x f K) := by
  obtain ⟨h1, h2⟩ := ba h
  obtain ⟨h3, h4⟩ := ba h2
  obtain ⟨h5, h6⟩ := ba h4
  refine ⟨of_decide_eq_true h1, of_decide_eq_true h3, of_decide_eq_true h5, ?_⟩
  unfold pgA
  split at h6
  · rename_i g r e
    rw [e]
    exact ⟨r, rfl⟩
  · cases h6
def dts : List DT := [.non, .b .bool, .b .int, .b .str, .b .list, .b .tuple, .b .dict]
theorem dts_all {t : DT} (h : ∀ c, t ≠ .c c) : t ∈ dts := by
  cases t with
  | non => simp [dts]
  | b T => cases T <;> simp [dts]
  | c c => exact absurd rfl (h c)
def bts : List BT := [.bool, .int, .str, .list, .tuple, .dict]
theorem bts_all (T : BT) : T ∈ bts := by cases T <;> simp [bts]
/-- an instance's class, as isinstance and == see it -/
def clsB (K : PySem.W.Frag) (x : Str) : Bool := (Fa.cls x).ok K && (decide (PySem.W.findIn K (.ref (ga K x)) "__class__" = some (some (.builtin "object.__class__"))) && (decide (PySem.W.specialIn K (.builtin "object.__class__") "__get__" = some (some (.builtin "getset_descriptor.__get__"))) &&
  (decide (PySem.W.takesIn K (.builtin "object.__class__") = some true) && (decide (PySem.W.mroIn K (ga K x) (.type "object") = some true) && (bts.all fun T => decide (PySem.W.kitOne K (.ref (ga K x)) (.type T.nm) = some false))))))
theorem clsB_ok {C : Ct} {c : Nat} (h : clsB C.K (C.nm c) = true) : ClsI C c := by
  obtain ⟨h1, h2⟩ := ba h
  obtain ⟨h3, h4⟩ := ba h2
  obtain ⟨h5, h6⟩ := ba h4
  obtain ⟨h7, h8⟩ := ba h6
  obtain ⟨h9, h10⟩ := ba h8
  exact ⟨cls_ok h1, of_decide_eq_true h3, of_decide_eq_true h5, of_decide_eq_true h7, of_decide_eq_true h9, fun T => of_decide_eq_true (List.all_eq_true.mp h10 T (bts_all T))⟩
/-- isinstance(.., x): the answers at the types, at the own classes -/
def isB (K : PySem.W.Frag) (x : Str) (cs : List (Str × Bool)) : Bool := (dts.all fun t => decide (PySem.W.kitOne K (.type t.nm) (.ref (ga K x)) = some false)) && (cs.all fun p => clsB K p.1 && decide (PySem.W.kitOne K (.ref (ga K p.1)) (.ref (ga K x)) = some p.2))
theorem lookup_mem {β : Type} : ∀ {l : List (Nat × β)} {k : Nat} {b : β}, l.lookup k = some b → (k, b) ∈ l
  | [], _, _, h => by cases h
  | (j, c) :: l, k, b, h => by
    simp only [List.lookup] at h
    split at h
    · rename_i e
      cases h
      rw [beq_iff_eq] at e
      subst e
      exact List.mem_cons_self ..
    · exact List.mem_cons_of_mem _ (lookup_mem h)
theorem isB_ok {C : Ct} {c : Nat} {cs : List (Nat × Bool)} (h : isB C.K (C.nm c) (cs.map fun p => (C.nm p.1, p.2)) = true) : IsC C cs c := by
  obtain ⟨h1, h2⟩ := ba h
  refine ⟨fun t ht => of_decide_eq_true (List.all_eq_true.mp h1 t (dts_all ht)), fun c' b hb => ?_⟩
  have := List.all_eq_true.mp h2 (C.nm c', b) (List.mem_map.mpr ⟨(c', b), lookup_mem hb, rfl⟩)
  obtain ⟨k1, k2⟩ := ba this
  exact ⟨clsB_ok k1, of_decide_eq_true k2⟩
/-- what == and != ask of the other side -/
def eqB (K : PySem.W.Frag) (x : Str) (cs : List Str) : Bool := (dts.all fun t => PySem.W.notFirst K (ga K x) (.type t.nm)) && ((cs.all fun y => clsB K y && PySem.W.notFirst K (ga K x) (.ref (ga K y))) &&
  (decide (PySem.W.findIn K (.ref (ga K x)) "__ne__" = some (some (.builtin "object.__ne__"))) && decide (PySem.W.mroIn K (ga K x) (.type "object") = some true)))
theorem eqB_ok {C : Ct} {c : Nat} {cs : List Nat} (h : eqB C.K (C.nm c) (cs.map C.nm) = true) : EqC C cs c ∧ NeC C c := by
  obtain ⟨h1, h2⟩ := ba h
  obtain ⟨h3, h4⟩ := ba h2
  obtain ⟨h5, h6⟩ := ba h4
  refine ⟨⟨fun t ht => List.all_eq_true.mp h1 t (dts_all ht), fun c' hc' => ?_⟩, of_decide_eq_true h5, of_decide_eq_true h6⟩
  obtain ⟨k1, k2⟩ := ba (List.all_eq_true.mp h3 (C.nm c') (List.mem_map.mpr ⟨c', hc', rfl⟩))
  exact ⟨clsB_ok k1, k2⟩
/-- a special method of a class -/
def spcB (K : PySem.W.Frag) (x m : Str) : Bool := decide (PySem.W.findIn K (.ref (ga K x)) m = some (some (.ref (ma K (ga K x) m)))) && (PySem.W.isFn K (.ref (ma K (ga K x) m)) && PySem.W.fnIn K (ma K (ga K x) m))
/-- a constant of a class, read from the class -/
def ccB (K : PySem.W.Frag) (x f : Str) (v : Dv) : Bool := PySem.W.readsIn K (ga K x) (.type "type") && (decide (PySem.W.specialIn K (.ref (ga K x)) "__getattribute__" = some (some (.builtin "type.__getattribute__"))) && (match PySem.W.findCls K (.ref (ga K x)) (.type "type") f with
  | some (.val u) => relB (v.v K) u
  | _ => false))
theorem ccB_ok {C : Ct} {c : Nat} {f : Str} {v : Dv} {d : D} (h : ccB C.K (C.nm c) f v = true) (hd : ∀ S, Rep C S d (v.v C.K)) : CC C c f d := by
  obtain ⟨h1, h2⟩ := ba h
  obtain ⟨h3, h4⟩ := ba h2
  split at h4
  · rename_i u e
    exact ⟨.type "type", v.v C.K, u, ⟨h1, of_decide_eq_true h3⟩, ⟨e, relB_ok h4⟩, hd⟩
  · cases h4
end Fs

/-! FtD: from what a def does (FnOk) to the facts of the calls. -/
namespace Fs
open PySem PySem.Spec PyProof.Rows L2 He
theorem runF_ne {n l : Nat} {m : MSs} : ∀ (ds : List D) (s : Store), ds.length ≠ n → runF n l m ds s = .stuck := fun ds s h => by
  unfold runF
  rw [if_neg h]
section
variable {C : Ct} {P : Program} {w : World} {mg : Str → Option Value} {base : Heap} {k : Nat} {x qual : Str} {F : List D → M D} {params : Arguments} {body : List Stmt} {scope : Scope} {f : Addr} {fd : FuncData} {ps : List Str} {kws : List (Str × V)} {c j : Nat} {y : Str}
theorem fn_stuckM : FnOk P w C.K mg base (L2.CX P w) k f fd ps (spM C ps.length (fun _ => stuckM)) :=
  ⟨fun vs H Q E h => (Rep.stk h).elim, fun A outer s H args us vs Q E hr he hb' hv h => (Rep.stk h).elim⟩
theorem mkUF {g : Addr} (D_ : FunD C.K x qual params body scope [] kws f fd) (o : FnOk P w C.K mg base (L2.CX P w) k f fd ps (spM C ps.length F)) (hs : ∀ ds m, ds.length ≠ ps.length → F ds m = .stuck) (hb : Binds C.K fd ps []) (hg : mg y = some (.ref g)) (hf : f = g) : UF C P w mg base k y F := by
  subst hf
  exact ⟨f, fd, ps, o, hg, D_.kp, hb, hs⟩
theorem mkUM (o : FnOk P w C.K mg base (L2.CX P w) k f fd ps (spM C ps.length F)) (hs : ∀ ds m, ds.length ≠ ps.length → F ds m = .stuck) (hb : Binds C.K fd ps []) (hc : Cls C.K (He.ga C.K (C.nm c))) (hg : Meth C.K (He.ga C.K (C.nm c)) (C.nm j) f) : UM C P w mg base k c j F := ⟨hc, f, fd, ps, o, hg, hb, hs⟩
theorem mkUP {p : Addr} (o : FnOk P w C.K mg base (L2.CX P w) k f fd ps (spM C ps.length F)) (hs : ∀ ds m, ds.length ≠ ps.length → F ds m = .stuck) (hb : Binds C.K fd ps []) (hc : Cls C.K (He.ga C.K (C.nm c))) (hg : PropOf C.K (He.ga C.K (C.nm c)) (C.nm j) p f) : UP C P w mg base k c j F := ⟨hc, p, f, fd, ps, o, hg, hb, hs⟩
theorem mkUK (o : FnOk P w C.K mg base (L2.CX P w) k f fd ps (spM C ps.length F)) (hs : ∀ ds m, ds.length ≠ ps.length → F ds m = .stuck) (hb : Binds C.K fd ps []) (hc : mg (C.nm c) = some (.ref (He.ga C.K (C.nm c)))) (hg : Mk C.K (He.ga C.K (C.nm c)) f) : UK C P w mg base k c F := ⟨hc, f, fd, ps, o, hg, hb, hs⟩
theorem mkUS (o : FnOk P w C.K mg base (L2.CX P w) k f fd ps (spM C ps.length F)) (hs : ∀ ds m, ds.length ≠ ps.length → F ds m = .stuck) (hb : Binds C.K fd ps []) (hf : f = ma C.K (ga C.K (C.nm c)) y) (hg : spcB C.K (C.nm c) y = true) : US C P w mg base k c y F := by
  subst hf
  obtain ⟨h1, h2⟩ := ba hg
  obtain ⟨h3, h4⟩ := ba h2
  exact ⟨_, fd, ps, o, of_decide_eq_true h1, h3, h4, hb, hs⟩
theorem mkUFK {g : Addr} {n : Nat} {ks : List Str} {gD : List D → List D → List D} (D_ : FunD C.K x qual params body scope [] kws f fd) (o : FnOk P w C.K mg base (L2.CX P w) k f fd ps (spM C ps.length F)) (hs : ∀ ds m, ds.length ≠ ps.length → F ds m = .stuck) (hb : KA C fd ps n ks gD) (hg : mg y = some (.ref g)) (hf : f = g) : UFK C P w mg base k y n ks gD F := by
  subst hf
  exact ⟨f, fd, ps, o, hg, D_.kp, hb, hs⟩
theorem mkUMK {n : Nat} {ks : List Str} {gD : List D → List D → List D} (o : FnOk P w C.K mg base (L2.CX P w) k f fd ps (spM C ps.length F)) (hs : ∀ ds m, ds.length ≠ ps.length → F ds m = .stuck) (hb : KA C fd ps (n + 1) ks gD) (hc : Cls C.K (He.ga C.K (C.nm c))) (hg : Meth C.K (He.ga C.K (C.nm c)) (C.nm j) f) : UMK C P w mg base k c j n ks gD F := ⟨hc, f, fd, ps, o, hg, hb, hs⟩
theorem mkUKK {n : Nat} {ks : List Str} {gD : List D → List D → List D} (o : FnOk P w C.K mg base (L2.CX P w) k f fd ps (spM C ps.length F)) (hs : ∀ ds m, ds.length ≠ ps.length → F ds m = .stuck) (hb : KA C fd ps (n + 1) ks gD) (hc : mg (C.nm c) = some (.ref (He.ga C.K (C.nm c)))) (hg : Mk C.K (He.ga C.K (C.nm c)) f) : UKK C P w mg base k c n ks gD F := ⟨hc, f, fd, ps, o, hg, hb, hs⟩
end
/-- the names of fields, methods and classes are apart -/
theorem nmOk_of {C : Ct} {L : List Str} (h : C.nm = fun i => L.getD i "") (hn : L.Nodup) (he : ("" : Str) ∉ L) : NmOk C L.length := fun i j hj e => by
  rw [h] at e
  have e1 : L.getD j "" = L[j] := by rw [List.getD_eq_getElem?_getD, List.getElem?_eq_getElem hj]; rfl
  by_cases hi : i < L.length
  · have e2 : L.getD i "" = L[i] := by rw [List.getD_eq_getElem?_getD, List.getElem?_eq_getElem hi]; rfl
    have e3 : L[i] = L[j] := e2.symm.trans (e.trans e1)
    rcases Nat.lt_trichotomy i j with h1 | h1 | h1
    · exact absurd e3 (List.pairwise_iff_getElem.mp hn i j hi hj h1)
    · exact h1
    · exact absurd e3.symm (List.pairwise_iff_getElem.mp hn j i hj hi h1)
  · have e2 : L.getD i "" = "" := by rw [List.getD_eq_getElem?_getD, List.getElem?_eq_none (by omega)]; rfl
    exact absurd (List.getElem_mem hj) (by rw [← (e2.symm.trans (e.trans e1))]; exact he)
/-- by numbers -/
def codeS (x : Str) : Nat := x.cps.toList.foldl (fun a c => a * 2097152 + c) 1
def nodupN : List Nat → Bool
  | [] => true
  | x :: l => (l.all fun y => !Nat.beq x y) && nodupN l
theorem nodupN_ok : ∀ {l : List Str}, nodupN (l.map codeS) = true → l.Nodup
  | [], _ => List.nodup_nil
  | x :: l, h => by
    simp only [List.map_cons, nodupN, Bool.and_eq_true, List.all_eq_true] at h
    refine List.nodup_cons.mpr ⟨fun hm => ?_, nodupN_ok h.2⟩
    have := h.1 _ (List.mem_map_of_mem hm)
    simp at this
/-- the statements of a class's body -/
def clsS : Stmt → List Stmt
  | .ClassDef _ _ _ b .. => b
  | _ => []
end Fs

/-! FtE: own errors whose __init__ begins with super().__init__('..'). -/
namespace Fs
open PySem PySem.Spec PyProof.Rows L2
open Classical

abbrev errEnv (qual : Str) (scope : Scope) (L f : Addr) (cdv : Value) (cc : Addr) : PySem.Env := PySem.W.ksEnv qual scope L f cdv cc
def errCx (CX : CXT) (P : Program) (w : World) (K : PySem.W.Frag) (mg : Str → Option Value) (base : Heap) (N : List Str) (qual : Str) (scope : Scope) (f : Addr) (cd : Value) (cc : Addr) (A : Around) (outer : List PySem.Env) (s : Shared) (H : Hp) (E : XK) : Cx where
  prog := P
  w := w
  K := K
  mg := mg
  base := base
  A := A.deeper (errEnv qual scope s.heap.objs.size f cd cc)
  N := N
  s_0 := s
  H_0 := H
  env := errEnv qual scope s.heap.objs.size f cd cc
  outer := outer
  stack := errEnv qual scope s.heap.objs.size f cd cc :: outer
  ex := []
  fn := fun _ => false
  calm := true
  pn := []
  xe := fun e s' => wpAny (model P w) (A.deeper (errEnv qual scope s.heap.objs.size f cd cc)) (leaving (errEnv qual scope s.heap.objs.size f cd cc) e) (fun _ s'' => CX outer H s E e s'') (fun e' s'' => CX outer H s E e' s'') s'
/-- the names of such an __init__ -/
structure ErrS (N ps : List Str) (scope : Scope) : Prop where
  nd : N.Nodup
  eq : N = ps
  self : ps[0]? = some ("self" : Str)
  par : ∀ y ∈ ps, scope.names.lookup y = some .local
  kind : scope.kind = .function
  co : scope.isCoroutine = false
  gen : scope.isGenerator = false
  nocell : ∀ y ∈ scope.names, y.2 ≠ .cell
  free : ∀ y ∈ scope.names, y.2 = .free → y.1 = "__class__"
  cls : scope.names.lookup ("__class__" : Str) = some .free
  sup : scope.names.lookup ("super" : Str) = some .globalImplicit
/-- where the def's class, code and names stand -/
structure ErrK (P : Program) (K : PySem.W.Frag) (qual : Str) (cda cc D : Addr) : Prop where
  code : ∃ ccl cdd vs ccs file tf, K.lookup cda = some ⟨ccl, cdd, .fields vs, ccs⟩ ∧ vs[2]? = some (.str file tf) ∧ ((P.main.file : Str) == file) = true
  rec_ : PySem.W.codeIn K (.ref cda) qual = true
  cell : ∃ cl cld csl, K.lookup cc = some ⟨cl, cld, .cell (some (.ref D)), csl⟩
  top : (P.main.scope.names.lookup ("super" : Str)).isSome = false
  any : PySem.W.nsIn K cStatics "thirdparty.any" = some none
/-- what the receiver's class must have -/
structure ErrC (K : PySem.W.Frag) (C D : Addr) : Prop where
  oex : OexC K C
  sup : PySem.W.ks_superIn K C D "__init__" = some (some (.builtin "ValueError.__init__"))
  sub : PySem.W.mroIn K C (.ref D) = some true
  ini : PySem.W.subIn K (.ref C) (.type "ValueError") = some true
section
variable {CX : CXT} {P : Program} {w : World} {K : PySem.W.Frag} {mg : Str → Option Value} {base : Heap} {N ps : List Str} {qual : Str} {scope : Scope} {f : Addr} {cd : Value} {cc : Addr} {A : Around} {outer : List PySem.Env} {s : Shared} {H : Hp} {E : XK} {us : List Value} {vs : List V}
theorem inv_startE {D : Addr} {k : Nat} (S : ErrS N ps scope) {cl : Value} {cld : Option Addr} {csl : Array (Option Value)} (hc : K.lookup cc = some ⟨cl, cld, .cell (some (.ref D)), csl⟩) (hr : Room k A) (e0 : Env0 P w K mg base A outer s H) (hl : vs.length = ps.length) (r : Vals vs us)
    {h₀ : Heap} (hns : h₀.Ns s.heap.objs.size (fun x => (ps.zip us).reverse.lookup x)) (kp : ∀ b o, s.heap.get? b = some o → h₀.get? b = some o) (t : Nat) :
    Inv (errCx CX P w K mg base N qual scope f cd cc A outer s H E) [] (L2.start N vs) H { s with heap := h₀, toks := t } := by
  have noA : ∀ b : Addr, b ∉ (errCx CX P w K mg base N qual scope f cd cc A outer s H E).ex := fun b z => absurd (show b ∈ ([] : List Addr) from z) (by simp)
  have hcb : base.get? cc = some ⟨cl, cld, .cell (some (.ref D)), csl⟩ := e0.mod.kin _ _ hc
  have hcs : s.heap.get? cc = some ⟨cl, cld, .cell (some (.ref D)), csl⟩ := (e0.bs _ _ hcb).1
  have hcn : H cc = none := (e0.bs _ _ hcb).2
  have only : ∀ {y c}, (errEnv qual scope s.heap.objs.size f cd cc).cells.lookup y = some c → y = "__class__" ∧ c = cc := fun {y c} e => by
    have e : List.lookup y [(("__class__" : Str), cc)] = some c := e
    simp only [List.lookup] at e
    split at e
    · rename_i h; cases e; exact ⟨eq_of_beq h, rfl⟩
    · cases e
  have ndP : ps.Nodup := by rw [← S.eq]; exact S.nd
  refine ⟨⟨e0.mod, S.kind, rfl, rfl, Nat.le_refl _, fun y z c e1 e2 => (only e1).1.trans (only e2).1.symm, fun y hy => ?_, fun y c z _ => ?_, fun _ => hr.hd, Around.frames_deeper e0.frames, .inr ⟨rfl, rfl⟩, fun b z => absurd z (noA b), e0.bs, e0.bsz, fun b _ _ => noA b,
      fun b z => absurd z (noA b), e0.funs, e0.frf⟩,
    rfl, e0.bare, Un.kept kp, ⟨_, hns, fun i y v e1 e2 e3 => ?_⟩, fun y c e => ?_, e0.hok.fresh (Nat.le_refl _), fun y c e => ?_, fun q hq => absurd (show q ∈ ([] : List (Addr × Obj)) ++ [] from hq) (by simp), e0.hok.kept kp, ?_⟩
  · have hy : scope.names.lookup y = some .cell ∨ scope.names.lookup y = some .free := hy
    rcases hy with hy | hy
    · exact absurd rfl (S.nocell _ (PySem.mem_of_lookup hy))
    · have := S.free _ (PySem.mem_of_lookup hy) rfl
      exact ⟨cc, by show List.lookup y [(("__class__" : Str), cc)] = some cc; rw [show y = "__class__" from this]; rfl⟩
  · have z : false = true := z
    cases z
  · have hi : i < vs.length := by
      unfold L2.start at e2
      by_cases hi : i < vs.length
      · exact hi
      · rw [List.getElem?_append_right (by simpa using hi), List.getElem?_replicate] at e2
        split at e2 <;> cases e2
    have ha : vs[i]? = some v := by
      unfold L2.start at e2
      rw [List.getElem?_append_left (by simpa using hi), List.getElem?_map] at e2
      cases e : vs[i]? with
      | none => rw [e] at e2; cases e2
      | some a => rw [e] at e2; cases e2; rfl
    obtain ⟨u, hu, rv⟩ := r.get ha
    have hp : ps[i]? = some y := by rw [← S.eq]; exact e1
    have hk := S.par y (List.mem_of_getElem? hp)
    refine ⟨u, rv, .inl ⟨hk, ?_⟩⟩
    have g := bindL_get (kindOf := fun _ => some .local) (m := fun _ => none) ndP hp hu rfl
    have key : ∀ (l : List (Str × Value)) (m : Str → Option Value), bindL (fun _ => some .local) l m y = ((l.reverse.lookup y).or (m y)) := by
      intro l
      induction l with
      | nil => intro m; simp [bindL]
      | cons p l ih =>
        intro m
        obtain ⟨x, z⟩ := p
        simp only [bindL, List.reverse_cons]
        rw [ih]
        rw [List.lookup_append]
        cases h : List.lookup y l.reverse with
        | some q => simp
        | none =>
          simp [List.lookup]
          by_cases hxy : y = x
          · simp [hxy]
          · have : (y == x) = false := by simpa using hxy
            simp [this, hxy]
    rw [key] at g
    simpa using g
  · obtain ⟨_, rfl⟩ := only e
    exact ⟨_, _, kp _ _ hcs, rfl⟩
  · obtain ⟨_, rfl⟩ := only e
    exact hcn
  · unfold L2.start
    show _ = N.length
    rw [List.length_append, List.length_map, List.length_replicate, S.eq]
    omega
end
/-- a bound ValueError.__init__ called -/
theorem call_mwV {prog : Program} {w : World} {A : Around} {E : Value → Shared → Prop} {h : Heap} {g : Array GenState} {d : Drawn} {t : Nat} {os : OsState} {nm q : Str} {C N : Addr} {bs bm : List Value} {hdct : Bool} {sn : List Str} {sub : List Value} {ab : Bool} {col : Option Bool} {dd : Option Addr} {k0 k1 k2 k3 k5 : Option Value} {u e t0 : Addr} {rest : List Value} {Q : Value → Shared → Prop}
    (hC : h.get? C = some (excClassObj nm q C N bs bm hdct sn sub ab col dd k0 k1 k2 k3 k5 "ValueError.__new__")) (he : h.get? e = some (PySem.HandSPX.excO C t0)) (hu : h.get? u = some (PySem.W.kxs_mw "ValueError.__init__" e)) (hrest : rest.length ≤ sizeLine)
    (hq : ∀ h' t1, (∀ b o, b ≠ e → h.get? b = some o → h'.get? b = some o) → h'.get? e = some (PySem.HandSPX.excO C t1) → Q .none ⟨h', g, d, t, os⟩) :
    wpAny (model prog w) A (call (.ref u) rest) Q E ⟨h, g, d, t, os⟩ := by
  have FB := F.excBase_ValueError
  refine wpAny_call (codeAny_of_tree ?_)
  show wpAny _ A.in1 (callAny (.ref u) ⟨rest, []⟩) _ _ _
  simp only [callAny]
  refine wpAny_bind (wpAny_load hu ?_)
  simp only [PySem.W.kxs_mw, show (Value.type "method-wrapper" == Value.type "method" || Value.type "method-wrapper" == Value.type "builtin_function_or_method" || Value.type "method-wrapper" == Value.type "method-wrapper") = true by decide, if_true]
  refine PySem.W.KFB.if_so (by decide) ?_
  refine wpAny_bind (PySem.W.check_bound_init FB.toExcCallFacts hC he rfl ?_)
  refine wpAny_bind (wpAny_pure (wpAny_pure ?_))
  refine ⟨plainId_quiet FB.init.plain _, codeAny_builtin FB.initEntry ?_⟩
  exact PySem.W.exc_init_tree (cls := .ref C) (t0 := t0) (dv := none) (c2 := .none) (c3 := .none) (b4 := .bool false) he hrest fun h' k e' _ => hq h' _ k e'
section
variable {CX : CXT} {P : Program} {w : World} {K : PySem.W.Frag} {mg : Str → Option Value} {base : Heap} {N ps : List Str} {qual : Str} {scope : Scope} {f cda cc D : Addr} {params : Arguments} {body : List Stmt} {dV kV doc pm ct oc : Value} {an od : Option Addr} {osl : Array (Option Value)} {sp : Sp} {k : Nat}
theorem isx_cls {C : Addr} {cd : ClassData} {h : Heap} (KX : K.In h) (hD : PySem.W.clsIn K C = some cd) : ∃ oD, h.get? C = some oD ∧ oD.data = .cls cd := by
  unfold PySem.W.clsIn at hD
  split at hD
  · rename_i c d cd' sl ho
    cases hD
    exact ⟨_, KX _ _ ho, rfl⟩
  · cases hD
theorem fn_super {p0 p1 p2 p3 p4 p5 : Pos} {msg : Str} {j : Nat} {rest : List Stmt} {cdD : ClassData} {pself : Pos} {ann : Option Expr} {pl : Sem Bool}
    (lk : K.lookup f = some ⟨oc, od, .func (PySem.W.ksFn "__init__" qual params (.Expr (.Call (.Attribute (.Call (.Name "super" p0) [] [] p1) "__init__" p2) [.Constant (.str msg) j p3] [] p4) p5 :: rest) scope dV kV doc pm an (.ref cda) ct cc), osl⟩)
    (EK : ErrK P K qual cda cc D) (hpar : (params.posonlyargs ++ params.args).head? = some ⟨"self", ann, pself⟩) (hD : PySem.W.clsIn K D = some cdD) (hm : mg "super" = none) (S : ErrS N ps scope)
    (hev : ∀ env : PySem.Env, eval (.Call (.Attribute (.Call (.Name "super" p0) [] [] p1) "__init__" p2) [.Constant (.str msg) j p3] [] p4) env = (do
      let ov ← attributeBase (.Call (.Name "super" p0) [] [] p1) "__init__" env (eval (.Call (.Name "super" p0) [] [] p1) env)
      standAt p2.atName
      let (f, first) ← holding [ov] (getMethod ov "__init__" pl)
      callWith p4 f first (backTo p4 (starEach [.Constant (.str msg) j p3] env)) []))
    (len : ∀ vs H Q E, sp vs H Q E → vs.length = ps.length)
    (hbody : ∀ (A : Around) (outer : List PySem.Env) (s : Shared) (H : Hp) (vs : List V) (Q : VK) (E : XK), Room k (A.deeper (errEnv qual scope s.heap.objs.size f (.ref cda) cc)) → sp vs H Q E →
      (∃ a C ws, vs = .ref a :: ws ∧ ErrC K C D ∧ H a = some (exo a C none)) ∧
      ∃ t, PSs (errCx CX P w K mg base N qual scope f (.ref cda) cc A outer s H E) rest t ∧ t { nx := fun _ H' => Q .non H', rt := Q } (L2.start N vs) H) :
    FnOk P w K mg base CX (k + 1) f (PySem.W.ksFn "__init__" qual params (.Expr (.Call (.Attribute (.Call (.Name "super" p0) [] [] p1) "__init__" p2) [.Constant (.str msg) j p3] [] p4) p5 :: rest) scope dV kV doc pm an (.ref cda) ct cc) ps sp := by
  refine ⟨len, fun A outer s H args us vs Q E hr e0 hb r hsp => ?_⟩
  have hl := len _ _ _ _ hsp
  have KX : K.In s.heap := e0.mod.kin.keeps fun b o e => (e0.bs b o e).1
  have lim : s.heap.NoLimit := e0.mod.nolimit.keeps fun b o e => (e0.bs b o e).1
  obtain ⟨cl, cld, csl, hcell⟩ := EK.cell
  obtain ⟨ccl, cdd, cvs, ccs, file, tf, hcode, hvs, hfile⟩ := EK.code
  refine ks_codeAny_call_defAt hr.depth (KX _ _ lk) rfl lim (PySem.W.codeRec_of KX EK.rec_) rfl hb S.nocell (fun y hy => S.par _ (List.of_mem_zip (show (y.1, y.2) ∈ ps.zip us from hy)).1) (fun h₀ hns kp => ?_) S.co S.gen S.kind
  obtain ⟨⟨a, C, ws, evs, EC, hHa⟩, t, ht, hq⟩ := hbody A outer s H vs Q E (hr.deeper _) hsp
  have I : Inv (errCx CX P w K mg base N qual scope f (.ref cda) cc A outer s H E) [] (L2.start N vs) H { s with heap := h₀, toks := s.toks + (ps.zip us).length } := inv_startE S hcell hr e0 hl r hns kp _
  obtain ⟨nm, q, N', bs, bm, sn, sub, ab, col, dd, k0, k1, k2, k3, k5, hC, hbm⟩ := EC.oex.cls
  obtain ⟨t0, hoa⟩ := exo_at I.hok hHa
  have hoa : h₀.get? a = some (PySem.HandSPX.excO C t0) := hoa
  have KX0 : K.In h₀ := KX.keeps kp
  -- the class cells
  obtain ⟨oD, hoD, hoDd⟩ := isx_cls KX0 hD
  have hks1 : scope.names.lookup ("self" : Str) = some .local := S.par "self" (List.mem_of_getElem? S.self)
  obtain ⟨m0, hm0, hself⟩ : ∃ m0, h₀.Ns s.heap.objs.size m0 ∧ m0 ("self" : Str) = some (.ref a) := by
    obtain ⟨m0, hm0, hl0'⟩ := I.loc
    subst evs
    obtain ⟨u, ru, lku⟩ := hl0' 0 "self" (.ref a) (by show N[0]? = _; rw [S.eq]; exact S.self) (by rfl) (.inl hks1)
    obtain rfl : u = Value.ref a := ru
    rcases lku with ⟨_, e⟩ | ⟨hk, _⟩
    · exact ⟨m0, hm0, e⟩
    · rcases hk with hk | hk
      · have hk : scope.names.lookup ("self" : Str) = some .cell := hk
        rw [hks1] at hk; cases hk
      · have hk : scope.names.lookup ("self" : Str) = some .free := hk
        rw [hks1] at hk; cases hk
  obtain ⟨mb, hb1, hb2⟩ := e0.mod.blt
  have bk : ∀ b o, base.get? b = some o → h₀.get? b = some o := fun b o e => kp _ _ (e0.bs b o e).1
  have hboot : bootBuiltins "super" = some (.type "super") := by decide +kernel
  refine ks_wpAt_execs_cons (ks_wpAt_Expr_any (hi := by simp [interactive, callEnv, newEnv, S.kind]) (ks_wpAt_MethodCall (pl := pl) (he := hev _) (ks_wpAt_super_base (env := errEnv qual scope s.heap.objs.size f (.ref cda) cc) S.sup S.cls (by decide) rfl (KX0 _ _ lk) rfl hpar rfl (KX0 _ _ hcode) rfl hvs hfile EK.top ?_)))
  refine PySem.W.ks_loadName_global S.kind S.sup (PySem.Calls.loadGlobal_builtin (env := errEnv qual scope s.heap.objs.size f (.ref cda) cc) (e0.mod.glob.keeps bk) hm (hb1.keeps bk) ((hb2 _ (by decide)).trans hboot) ⟨rfl, ?_⟩)
  refine wpAny_loadName_free S.kind S.cls rfl ⟨_, KX0 _ _ hcell, rfl⟩ ?_
  refine wpAny_loadName_local S.kind hks1 hm0 hself ?_
  refine ks_wpAny_isType_cls hoD hoDd ⟨rfl, ?_⟩
  refine ks_wpAny_call_super hoD hoDd hoa rfl (fun c e => by cases e) (PySem.W.looks_mroIn KX0 EC.sub) (fun h1 e1 k1 => ?_)
  have g1 : h1.get? h₀.objs.size = some { cls := .type "super", dict := none, data := .fields #[.ref D, .ref a, .ref C], slots := #[] } := e1
  have KX1 : K.In h1 := KX0.keeps k1
  have hcd : PySem.W.clsIn K C = some { name := nm, bases := bs, mro := .ref C :: bm, ns := N', qualname := q, hasDict := true, slotNames := sn, subclasses := sub, abstract := ab, collection := col, hasDel := false } := by unfold PySem.W.clsIn; rw [hC]
  have hal : PySem.W.alongIn K "__init__" (((.ref C :: bm).dropWhile (· != .ref D)).drop 1) = some (some (.builtin "ValueError.__init__")) := by
    have := EC.sup
    unfold PySem.W.ks_superIn at this
    rw [hcd] at this
    exact this
  have hI1 : PySem.W.Looks (model P w) h1 (isInstance (.ref a) (.type "ValueError")) true := (PySem.W.InstAt.type (x := a) (C := C) (ox := PySem.HandSPX.excO C t0) (od := none) ⟨k1 _ _ hoa, rfl, rfl, trivial⟩).andThen (PySem.W.looks_subIn KX1 EC.ini)
  refine PySem.W.kxs_getMethod PySem.W.kxs_ValueError g1 (PySem.W.looks_opaque KX1 EK.any) (l₀ := .ref C :: bm) (fun A Q E s k q => wpAny_bind ((PySem.W.looks_clsIn KX1 hcd) A _ E s k (wpAny_pure q))) rfl KX1 hal hI1 (PySem.W.ks_ne (ox := PySem.HandSPX.excO C t0) (odx := none) KX1 ⟨k1 _ _ hoa, rfl, rfl, trivial⟩ hcd) (by decide) ?_
  have hsz : h₀.objs.size ≤ h1.objs.size := Nat.le_of_lt (Heap.lt_size g1)
  have I2 : Inv (errCx CX P w K mg base N qual scope f (.ref cda) cc A outer s H E) [] (L2.start N vs) H ⟨h1.push (PySem.W.kxs_mw "ValueError.__init__" a), s.gens, s.drawn, s.toks + (ps.zip us).length + 1, s.os⟩ :=
    I.kept fun b o e => Heap.get?_push_of_some _ (k1 b o e)
  have I2p : Inv (errCx CX P w K mg base N qual scope f (.ref cda) cc A outer s H E) [(h1.objs.size, PySem.W.kxs_mw "ValueError.__init__" a)] (L2.start N vs) H ⟨h1.push (PySem.W.kxs_mw "ValueError.__init__" a), s.gens, s.drawn, s.toks + (ps.zip us).length + 1, s.os⟩ :=
    I2.pins_of fun p hp => by
      have e : p = (h1.objs.size, PySem.W.kxs_mw "ValueError.__init__" a) := by simpa using hp
      subst e
      refine ⟨Heap.get?_push_at rfl rfl, I.hok.fresh hsz, fun z => ?_, I.nofs hsz, fun v z => by cases z⟩
      have := I.lt
      have z' : h1.objs.size = (errCx CX P w K mg base N qual scope f (.ref cda) cc A outer s H E).env.locals := z
      rw [← z'] at this
      exact Nat.lt_irrefl _ (Nat.lt_of_lt_of_le this hsz)
  have ha : PA (errCx CX P w K mg base N qual scope f (.ref cda) cc A outer s H E) [.Constant (.str msg) j p3] (tCons (tC (.str msg)) tNil) := pa_cons pe_str pa_nil
  refine PySem.W.kxs_callWith (i := "ValueError.__init__") (x := a) rfl (PySem.Calls.evalArgs_plain (thn (ha.run p4 _ _ _ H (fun vs' H' => vs' = [V.str msg] ∧ H = H') I2p ⟨rfl, rfl⟩) fun us' s2 ⟨vs', H', I3, r3, ev', eH⟩ => ?_))
  subst eH
  have hu := (I3.pin (h1.objs.size, PySem.W.kxs_mw "ValueError.__init__" a) (List.mem_append_right _ (List.mem_cons_self ..))).1
  obtain ⟨t3, hoa3⟩ := exo_at I3.hok hHa
  obtain ⟨h3, g3, d3, t3', os3⟩ := s2
  refine ⟨hu, call_mwV (I3.kIn _ _ hC) hoa3 hu (by rw [List.nil_append, ← Paired.length r3, ev', sizeLine_eq]; exact Nat.le_of_ble_eq_true rfl) fun h4 t4 k4 he4 => ?_⟩
  have J := I3.write (t' := t3') (x := a) (e := a) (o := exo a C none) (by rw [hHa]; exact True.intro) (.inl rfl) k4 ⟨_, he4⟩ (exo_ok he4)
  have eu : upd H a (exo a C none) = H := by
    funext b
    by_cases hb : b = a
    · rw [hb, upd_same, hHa]
    · rw [upd_ne hb]
  rw [eu] at J
  have J0 := J.pins_of (pins' := []) fun p hp => by cases hp
  refine wpAt_of_wpAny (wpAny_mono (ht.run [] _ _ H _ J0 hq) (fun fl s' hs => ?_) fun e s' hs => hs)
  have fin : ∀ {σ' : L2.St} {H' : Hp} {v : V} {u : Value}, Inv (errCx CX P w K mg base N qual scope f (.ref cda) cc A outer s H E) [] σ' H' s' → RelV v u → Q v H' → CE outer P w H s Q u s' :=
    fun {σ' H' v u} J rv q => ⟨v, H', J.os, J.bare, J.base, J.hok, rv, q⟩
  cases fl with
  | ret u =>
    obtain ⟨v, σ', H', J, rv, q⟩ := hs
    exact fin J rv q
  | next =>
    obtain ⟨σ', H', J, q⟩ := hs
    exact fin (v := V.non) (u := Value.none) J rfl q
  | brk =>
    obtain ⟨_, _, _, q⟩ := hs
    exact False.elim q
  | cont =>
    obtain ⟨_, _, _, q⟩ := hs
    exact False.elim q
end
end Fs

/-! FtF: raise of own errors. -/
namespace Fs
open PySem PySem.Spec PyProof.Rows L2 He
open Classical

/-- an error's own dict: the tag, the field -/
def errFs (tagv : Str) (fv : List (Str × V)) : List (Str × V) := fv ++ [(("tag" : Str), V.str tagv)]
def spErr (C : Addr) (tagv : Str) (fo : Option Str) : Sp := fun vs H Q _ => ∃ (a : Addr) (fv : List (Str × V)), (match fo with
    | some f => ∃ v, vs = [.ref a, v] ∧ fv = [(f, v)]
    | none => vs = [.ref a] ∧ fv = []) ∧ H a = some (exo a C none) ∧ ∀ dx H', H dx = none → dx ≠ a → H' a = some (exo a C (some dx)) → H' dx = some (exd dx (errFs tagv fv)) → (∀ b, b ≠ a → b ≠ dx → H' b = H b) → Q .non H'
section
variable {P : Program} {w : World} {K : PySem.W.Frag} {mg : Str → Option Value} {base : Heap} {qual : Str} {scope : Scope} {f cda cc D : Addr} {params : Arguments} {dV kV doc pm ct oc : Value} {an od : Option Addr} {osl : Array (Option Value)}
variable {p0 p1 p2 p3 p4 p5 q1 q2 q3 q4 q5 q6 q7 q8 : Pos} {msg tagv fld : Str} {j j2 : Nat} {cdD : ClassData} {pself : Pos} {ann : Option Expr} {pl : Sem Bool}
abbrev bSup (p0 p1 p2 p3 p4 p5 : Pos) (msg : Str) (j : Nat) : Stmt := .Expr (.Call (.Attribute (.Call (.Name "super" p0) [] [] p1) "__init__" p2) [.Constant (.str msg) j p3] [] p4) p5
abbrev bTag (q1 q2 q3 q4 : Pos) (tagv : Str) (j2 : Nat) : Stmt := .Assign [.Attribute (.Name "self" q1) "tag" q2] (.Constant (.str tagv) j2 q3) q4
abbrev bFld (q5 q6 q7 q8 : Pos) (fld : Str) : Stmt := .Assign [.Attribute (.Name "self" q5) fld q6] (.Name fld q7) q8
abbrev EvS (p0 p1 p2 p3 p4 : Pos) (msg : Str) (j : Nat) (pl : Sem Bool) : Prop := ∀ env : PySem.Env, eval (.Call (.Attribute (.Call (.Name "super" p0) [] [] p1) "__init__" p2) [.Constant (.str msg) j p3] [] p4) env = (do
      let ov ← attributeBase (.Call (.Name "super" p0) [] [] p1) "__init__" env (eval (.Call (.Name "super" p0) [] [] p1) env)
      standAt p2.atName
      let (f, first) ← holding [ov] (getMethod ov "__init__" pl)
      callWith p4 f first (backTo p4 (starEach [.Constant (.str msg) j p3] env)) [])
theorem fn_err1 (lk : K.lookup f = some ⟨oc, od, .func (PySem.W.ksFn "__init__" qual params [bSup p0 p1 p2 p3 p4 p5 msg j, bTag q1 q2 q3 q4 tagv j2, bFld q5 q6 q7 q8 fld] scope dV kV doc pm an (.ref cda) ct cc), osl⟩)
    (EK : ErrK P K qual cda cc D) (hpar : (params.posonlyargs ++ params.args).head? = some ⟨"self", ann, pself⟩) (hD : PySem.W.clsIn K D = some cdD) (hm : mg "super" = none) (S : ErrS ["self", fld] ["self", fld] scope)
    (hev : EvS p0 p1 p2 p3 p4 msg j pl) (EC : ErrC K D D) (ht : PySem.W.findIn K (.ref D) "tag" = some none) (hf : PySem.W.findIn K (.ref D) fld = some none) (hd : (fld == ("__debug__" : Str)) = false) (hcd : (fld == ("__classdict__" : Str)) = false) :
    FnOk P w K mg base (L2.CX P w) 1 f (PySem.W.ksFn "__init__" qual params [bSup p0 p1 p2 p3 p4 p5 msg j, bTag q1 q2 q3 q4 tagv j2, bFld q5 q6 q7 q8 fld] scope dV kV doc pm an (.ref cda) ct cc) ["self", fld] (spErr D tagv (some fld)) := by
  have hs : scope.names.lookup ("self" : Str) = some .local := S.par "self" (by simp)
  have hfl : scope.names.lookup fld = some .local := S.par fld (by simp)
  refine fn_super lk EK hpar hD hm S hev (fun vs H Q E ⟨a, fv, ⟨v, e, _⟩, _⟩ => by rw [e]; rfl) fun A outer s H vs Q E hr ⟨a, fv, ⟨v, e, ef⟩, hH, hq⟩ => ⟨⟨a, D, [v], e, EC, hH⟩, _, pss_cons (ps_ost (pe_var (i := 0) (by rfl) (.inl hs) (by decide) (by decide)) pe_str) (pss_one (ps_ost (pe_var (i := 0) (by rfl) (.inl hs) (by decide) (by decide)) (pe_var (i := 1) (by rfl) (.inl hfl) hd hcd))), ?_⟩
  subst e
  subst ef
  refine ⟨.ref a, rfl, a, D, rfl, EC.oex, ht, .inl ⟨hH, fun dx n ne => ?_⟩⟩
  refine ⟨v, rfl, .ref a, rfl, a, D, rfl, EC.oex, hf, .inr ⟨dx, [(("tag" : Str), V.str tagv)], upd_same, by rw [upd_ne ne, upd_same], by simp, ?_⟩⟩
  refine hq dx _ n ne (by rw [upd_ne (Ne.symm ne), upd_same]) upd_same fun b h1 h2 => ?_
  rw [upd_ne h2, upd_ne h1, upd_ne h2]
theorem fn_err0 (lk : K.lookup f = some ⟨oc, od, .func (PySem.W.ksFn "__init__" qual params [bSup p0 p1 p2 p3 p4 p5 msg j, bTag q1 q2 q3 q4 tagv j2] scope dV kV doc pm an (.ref cda) ct cc), osl⟩)
    (EK : ErrK P K qual cda cc D) (hpar : (params.posonlyargs ++ params.args).head? = some ⟨"self", ann, pself⟩) (hD : PySem.W.clsIn K D = some cdD) (hm : mg "super" = none) (S : ErrS ["self"] ["self"] scope)
    (hev : EvS p0 p1 p2 p3 p4 msg j pl) (EC : ErrC K D D) (ht : PySem.W.findIn K (.ref D) "tag" = some none) :
    FnOk P w K mg base (L2.CX P w) 1 f (PySem.W.ksFn "__init__" qual params [bSup p0 p1 p2 p3 p4 p5 msg j, bTag q1 q2 q3 q4 tagv j2] scope dV kV doc pm an (.ref cda) ct cc) ["self"] (spErr D tagv none) := by
  have hs : scope.names.lookup ("self" : Str) = some .local := S.par "self" (by simp)
  refine fn_super lk EK hpar hD hm S hev (fun vs H Q E ⟨a, fv, ⟨e, _⟩, _⟩ => by rw [e]; rfl) fun A outer s H vs Q E hr ⟨a, fv, ⟨e, ef⟩, hH, hq⟩ => ⟨⟨a, D, [], e, EC, hH⟩, _, pss_one (ps_ost (pe_var (i := 0) (by rfl) (.inl hs) (by decide) (by decide)) pe_str), ?_⟩
  subst e
  subst ef
  refine ⟨.ref a, rfl, a, D, rfl, EC.oex, ht, .inl ⟨hH, fun dx n ne => ?_⟩⟩
  refine hq dx _ n ne upd_same (by rw [upd_ne ne, upd_same]; rfl) fun b h1 h2 => ?_
  rw [upd_ne h1, upd_ne h2]
end
/-! ### raise C(..) -/
/-- an error's class: the name c, the fields, the text of the tag -/
structure UE (C : Ct) (P : Program) (w : World) (mg : Str → Option Value) (base : Heap) (c : Nat) (fo : Option Str) (tagv : Str) : Prop where
  oex : OexC C.K (He.ga C.K (C.nm c))
  hg : mg (C.nm c) = some (.ref (He.ga C.K (C.nm c)))
  ex : ∃ (f : Addr) (fd : FuncData), FnOk P w C.K mg base (L2.CX P w) 1 f fd (match fo with
      | some x => ["self", x]
      | none => ["self"]) (spErr (He.ga C.K (C.nm c)) tagv fo) ∧ PySem.W.findIn C.K (.ref (He.ga C.K (C.nm c))) "__init__" = some (some (.ref f)) ∧ PySem.W.typeIn C.K (.ref f) = some (.type "function") ∧ Binds C.K fd (match fo with
      | some x => ["self", x]
      | none => ["self"]) []
section
variable {X : Cx} {pos p : Pos} {e : Expr} {es : List Expr} {ta : TA} {x : Str}
theorem pass_no {X : Cx} : Passes (L2.CX X.prog X.w) X (fun _ _ _ => False) := fun pins σ H s e s' I z => by
  obtain ⟨_, _, _, _, _, _, _, _, _, _, _, _, z⟩ := z
  exact z.elim
/-- C() -/
theorem pmk_oex0 {CX : CXT} {C fI : Addr} {k : Nat} {fd : FuncData} {ps : List Str} {sp : Sp} (T : OexC X.K C) (iC : PySem.W.findIn X.K (.ref C) "__init__" = some (some (.ref fI))) (tI : PySem.W.typeIn X.K (.ref fI) = some (.type "function"))
    (F1 : FnOk X.prog X.w X.K X.mg X.base CX k fI fd ps sp) (hr : Room (k + 1) X.A) (hb : Binds X.K fd ps []) (hx : Passes CX X (fun _ _ _ => False)) (hg : Gl X x) (hm : X.mg x = some (.ref C))
    (hdb : (x == ("__debug__" : Str)) = false) : PMk X (.Call (.Name x p) [] [] pos) (tMkO C sp [] tNil) := by
  intro pins s σ H Q I h
  obtain ⟨nm, q, N, bs, bm, sn, sub, ab, col, dd, k0, k1, k2, k3, k5, hC, hbm⟩ := T.cls
  refine wpAny_Call_Name_kw (ld_glob I hg hm ?_ hdb)
  refine PySem.W.callWith_K0 I.kIn T.kC ?_
  obtain ⟨hz, q1⟩ := h
  show wpAny _ _ (call (.ref C) []) _ _ _
  obtain ⟨hp, g, dr, tk, os⟩ := s
  have hsz : hp.objs.size ≤ hp.objs.size + 1 := Nat.le_succ _
  have hn : H (hp.objs.size + 1) = none := I.hok.fresh hsz
  have hq := q1 (hp.objs.size + 1) hn
  have kk : ∀ b o, hp.get? b = some o → ((hp.push (PySem.W.kdv_tup [])).push (PySem.HandSPX.excO C hp.objs.size)).get? b = some o := fun b o e => Heap.get?_push_of_some _ (Heap.get?_push_of_some _ e)
  have hget : ((hp.push (PySem.W.kdv_tup [])).push (PySem.HandSPX.excO C hp.objs.size)).get? (hp.objs.size + 1) = some (PySem.HandSPX.excO C hp.objs.size) := by heap_get
  have I2 : Inv X pins σ (upd H (hp.objs.size + 1) (exo (hp.objs.size + 1) C none)) ⟨(hp.push (PySem.W.kdv_tup [])).push (PySem.HandSPX.excO C hp.objs.size), g, dr, tk, os⟩ :=
    I.laid (t' := tk) (a := hp.objs.size + 1) (o := exo (hp.objs.size + 1) C none) (h' := (hp.push (PySem.W.kdv_tup [])).push (PySem.HandSPX.excO C hp.objs.size)) kk hsz (exo_ok hget)
  have r2 : Vals [V.ref (hp.objs.size + 1)] [Value.ref (hp.objs.size + 1)] := .cons rfl .nil
  have hl : ([Value.ref (hp.objs.size + 1)] ++ []).length = ps.length := by
    have e := F1.len _ _ _ _ hq
    exact e
  refine wpAny_call (PySem.HandSPX.call_own F.excBase_ValueError (fun Y => PySem.HandSPX.refsVE_contains Y bm hbm) (I.kIn _ _ hC) (PySem.W.looks_findIn I.kIn iC) (fun self => PySem.W.bind_fn I.kIn self tI) (by simp)
    (codeAny_mono (F1.run _ X.stack _ _ ⟨[Value.ref (hp.objs.size + 1)], []⟩ [Value.ref (hp.objs.size + 1)] _ _ (fun _ _ _ => False) (hr.make C [] []) (I2.env0.make C [] []) (hb _ [Value.ref (hp.objs.size + 1)] I2.kIn hl) r2 hq) fun r s' hq' => ?_))
  cases r with
  | error er => exact hx pins σ _ _ er s' I2 hq'
  | ok fl =>
    cases fl with
    | ret u =>
      obtain ⟨v, H2, os2, bare2, un2, hok2, rv, ev, d, fs, ea, ed, hd1, q2⟩ := hq'
      subst ev
      obtain ⟨h2, g2, d2, t2, os'⟩ := s'
      exact ⟨rv, mk_end (raises_own T.exC T.tyC) I hsz kk un2 hok2 os2 bare2 ea ed hd1 q2⟩
    | next => exact False.elim hq'
    | brk => exact False.elim hq'
    | cont => exact False.elim hq'
variable {C : Ct}
/-- what the error bears -/
def errM (c : Nat) (ks : List Nat) (tg : List Char) (n : Nat) (ds : List D) : M D := if ds.length = n then excM c ks (ds ++ [.str tg]) else stuckM
theorem raise_core {S : Ws} {c a d : Addr} {fvs : List (Str × V)} {H2 : Hp} (w : Wf C S) (hd : S.H d = none) (ha : S.H a = none) (hda : d ≠ a) (hb : ∀ b, b ≠ a → b ≠ d → H2 b = upd S.H a (exo a c none) b) : upd (del H2 a) d (.xd fvs) = (S.new d (.xd fvs)).H := by
  funext b
  show upd (del H2 a) d (.xd fvs) b = upd S.H d (.xd fvs) b
  by_cases h1 : b = d
  · rw [h1, upd_same, upd_same]
  · rw [upd_ne h1, upd_ne h1]
    by_cases h2 : b = a
    · rw [h2, del_same, ha]
    · rw [del_ne h2, hb b h2 h1, upd_ne h2]
theorem ss_raise1 {pos' : Pos} {c jf jt : Nat} {tg : List Char} {fld tagv : Str} {i : Nat} {me : ME} (u : UE C X.prog X.w X.mg X.base c (some fld) tagv) (hr : Room (i + 2) X.A) (hK : X.K = C.K) (hcalm : X.calm = true) (hx : C.nm c = x) (hf : C.nm jf = fld) (ht : C.nm jt = "tag") (htg : toS tg = tagv) (htl : tg.length ≤ 1000)
    (hg : glB X x = true) (he : SE C X e me) (hs : isStar e = false) : SS C X (.Raise (some (.Call (.Name x p) [e] [] pos)) none pos') (.raise (errM c [jf, jt] tg 1) (.cons me .nil)) := fun W tk => by
  subst hx
  obtain ⟨f, fd, F1, iC, tI, hb⟩ := u.ex
  have oex := u.oex
  have hmg := u.hg
  rw [← hK] at F1 iC tI hb oex
  have ha : SA C X [e] (.cons me .nil) := sa_cons he sa_nil (star_cons hs)
  refine PSw (ps_raise hcalm tk (pmk_oex (CX := L2.CX X.prog X.w) (dvs := []) oex iC tI F1 (hr.mono (by omega)) hb .nil pass_no (glB_ok hg).1 (by rw [hK]; exact hmg) (ha W tk) (glB_ok hg).2 (star_cons hs) (by rfl))) fun Dn σ H ⟨r, S, hH, w, sr, h⟩ => ?_
  subst hH
  simp only [evS] at h
  refine dnA_intro r w sr ?_
  have h' : PostS C S (thenS (evs (.cons me .nil) r) r S.mu fun xs m1 => thenS (errM c [jf, jt] tg 1 xs) r m1 fun _ _ => none) W Dn := by
    have : thenS (do let xs ← evs (.cons me .nil) r; errM c [jf, jt] tg 1 xs) r S.mu (fun _ _ => none) = thenS (evs (.cons me .nil) r) r S.mu fun xs m1 => thenS (errM c [jf, jt] tg 1 xs) r m1 fun _ _ => none := by
      unfold thenS
      rw [M.bind_ap]
      cases evs (.cons me .nil) r S.mu <;> rfl
    rw [← this]; exact h
  have key : PostA C S (evs (.cons me .nil) r S.mu) (fun c d H' => W c d σ H') (fun vs H' => ∃ S' ds, S'.H = H' ∧ Wf C S' ∧ Step S S' ∧ Reps C S' ds vs ∧ PostS C S' (thenS (errM c [jf, jt] tg 1 ds) r S'.mu fun _ _ => none) W Dn) := by
    unfold thenS at h'
    cases e : evs (.cons me .nil) r S.mu with
    | ok d m =>
      rw [e] at h'
      intro S' v em w st rd
      subst em
      exact ⟨S', d, rfl, w, st, rd, h'.step st⟩
    | exc c ks vs m =>
      rw [e] at h'
      intro S' dx em w st ea
      exact h' S' em w st σ dx (sr.mono st) ea
    | stuck => rw [e] at h'; exact h'
  refine key.imp fun vs H1 ⟨S1, ds, e1, w1, st1, r1, h1⟩ => ?_
  subst e1
  unfold errM thenS at h1
  by_cases hl : ds.length = 1
  · rw [if_pos hl] at h1
    obtain ⟨d0, rfl⟩ := List.length_eq_one_iff.mp hl
    simp only [Reps] at r1
    obtain ⟨v0, vs', rfl, rv, rfl⟩ := r1
    refine ⟨by simp, fun a ha => ⟨a, [(fld, v0)], ⟨v0, by simp, rfl⟩, by rw [upd_same], fun dx H' hdx hne e1 e2 hoth => ⟨rfl, dx, errFs tagv [(fld, v0)], e1, e2, ?_, ?_⟩⟩⟩
    · rw [upd_ne hne] at hdx; exact hdx
    · have hdx' : S1.H dx = none := by rw [upd_ne hne] at hdx; exact hdx
      have hh := raise_core (C := C) (c := He.ga X.K (C.nm c)) (fvs := errFs tagv [(fld, v0)]) w1 hdx' ha hne hoth
      rw [hh, hK]
      have stn := Step.new (o := HO.xd (errFs tagv [(fld, v0)])) w1 hdx'
      refine h1 (S1.new dx (.xd (errFs tagv [(fld, v0)]))) rfl (w1.new hdx') stn σ dx (sr.mono (st1.trans stn)) ⟨_, Fx.new w1 hdx', by simp [errFs, hf, ht], ?_⟩
      refine Reps.cons (rv.mono stn) (Reps.cons ?_ Reps.nil)
      rw [rep_str, htg]
      exact ⟨rfl, le_line htl⟩
  · rw [if_neg hl] at h1
    exact h1.elim
theorem ss_raise0 {pos' : Pos} {c jt : Nat} {tg : List Char} {tagv : Str} {i : Nat} (u : UE C X.prog X.w X.mg X.base c none tagv) (hr : Room (i + 2) X.A) (hK : X.K = C.K) (hcalm : X.calm = true) (hx : C.nm c = x) (ht : C.nm jt = "tag") (htg : toS tg = tagv) (htl : tg.length ≤ 1000)
    (hg : glB X x = true) : SS C X (.Raise (some (.Call (.Name x p) [] [] pos)) none pos') (.raise (errM c [jt] tg 0) .nil) := fun W tk => by
  subst hx
  obtain ⟨f, fd, F1, iC, tI, hb⟩ := u.ex
  have oex := u.oex
  have hmg := u.hg
  rw [← hK] at F1 iC tI hb oex
  refine PSw (ps_raise hcalm tk (pmk_oex0 (CX := L2.CX X.prog X.w) oex iC tI F1 (hr.mono (by omega)) hb pass_no (glB_ok hg).1 (by rw [hK]; exact hmg) (glB_ok hg).2)) fun Dn σ H ⟨r, S, hH, w, sr, h⟩ => ?_
  subst hH
  simp only [evS, evs, M.pure_bind'] at h
  have e0 : errM c [jt] tg 0 [] S.mu = .exc c [jt] [D.str tg] S.mu := rfl
  unfold thenS at h
  rw [e0] at h
  refine ⟨by simp, fun a ha => ⟨a, [], ⟨by simp, rfl⟩, by rw [upd_same], fun dx H' hdx hne e1 e2 hoth => ⟨rfl, dx, errFs tagv [], e1, e2, ?_, ?_⟩⟩⟩
  · rw [upd_ne hne] at hdx; exact hdx
  · have hdx' : S.H dx = none := by rw [upd_ne hne] at hdx; exact hdx
    have hh := raise_core (C := C) (c := He.ga X.K (C.nm c)) (fvs := errFs tagv []) w hdx' ha hne hoth
    rw [hh, hK]
    have stn := Step.new (o := HO.xd (errFs tagv [])) w hdx'
    refine h (S.new dx (.xd (errFs tagv []))) rfl (w.new hdx') stn σ dx (sr.mono stn) ⟨_, Fx.new w hdx', by simp [errFs, ht], ?_⟩
    refine Reps.cons ?_ Reps.nil
    rw [rep_str, htg]
    exact ⟨rfl, le_line htl⟩
end
end Fs

/-! FtG: the head's facts of own errors. -/
namespace Fs
open PySem PySem.Spec PyProof.Rows L2 He
def nonesB (l : List (Option Value)) (newId : String) : Bool := match l with
  | [_, _, _, _, some (.builtin n), _] => n == newId
  | _ => false
def oexB (K : PySem.W.Frag) (C : Addr) : Bool := (match K.lookup C with
    | some ⟨.type "type", _, .cls cd, sl⟩ => (match cd.mro with
      | .ref C' :: bm => C' == C && (PySem.HandSPX.refsVE bm && (!cd.hasDel && (cd.hasDict && nonesB sl.toList "ValueError.__new__")))
      | _ => false)
    | _ => false) && (decide (PySem.W.findIn K (.ref C) "__setattr__" = some (some (.builtin "object.__setattr__"))) && (decide (PySem.W.subIn K (.ref C) (.type "BaseException") = some true) && (decide (PySem.W.typeIn K (.ref C) = some (.type "type")) && PySem.W.keepIn K (.ref C))))
theorem oexB_ok {K : PySem.W.Frag} {C : Addr} (h : oexB K C = true) : OexC K C := by
  obtain ⟨h1, h2⟩ := ba h
  obtain ⟨h3, h4⟩ := ba h2
  obtain ⟨h5, h6⟩ := ba h4
  obtain ⟨h7, h8⟩ := ba h6
  refine ⟨?_, of_decide_eq_true h3, of_decide_eq_true h5, of_decide_eq_true h7, h8⟩
  split at h1
  · rename_i dd cd sl ho
    split at h1
    · rename_i C' bm hm
      obtain ⟨k1, k2⟩ := ba h1
      obtain ⟨k3, k4⟩ := ba k2
      obtain ⟨k5, k6⟩ := ba k4
      obtain ⟨k7, k8⟩ := ba k6
      have e : C' = C := eq_of_beq k1
      subst e
      obtain ⟨nm, bs, mro, ns, qn, hd, sn, sub, ab, col, del⟩ := cd
      dsimp only at hm k5 k7
      subst hm
      obtain rfl : hd = true := k7
      obtain rfl : del = false := by simpa using k5
      obtain ⟨l⟩ := sl
      unfold nonesB at k8
      split at k8
      · rename_i a b c d n f e
        obtain rfl : n = "ValueError.__new__" := eq_of_beq k8
        simp only at e
        subst e
        exact ⟨nm, qn, ns, bs, bm, sn, sub, ab, col, dd, a, b, c, d, f, ho, k3⟩
      · cases k8
    · cases h1
  · cases h1
/-- the class x's facts; its __init__ stands at (ma ..) -/
def errB (file : Str) (K : PySem.W.Frag) (x fld : Str) : Bool := oexB K (ga K x) && (decide (PySem.W.findIn K (.ref (ga K x)) "__init__" = some (some (.ref (ma K (ga K x) "__init__")))) && (decide (PySem.W.typeIn K (.ref (ma K (ga K x) "__init__")) = some (.type "function")) && ((match K.lookup (ma K (ga K x) "__init__") with
    | some ⟨_, _, .func fd, _⟩ => (match fd.closure with
      | [(_, cc)] => (match K.lookup cc with
        | some ⟨_, _, .cell (some (.ref D)), _⟩ => D == ga K x
        | _ => false)
      | _ => false) && (match fd.code with
      | .ref cda => (match K.lookup cda with
        | some ⟨_, _, .fields vs, _⟩ => (match (vs : Array Value)[2]? with
          | some (Value.str f _) => file == f
          | _ => false)
        | _ => false)
      | _ => false)
    | _ => false) && ((decide (PySem.W.ks_superIn K (ga K x) (ga K x) "__init__" = some (some (.builtin "ValueError.__init__"))) && (decide (PySem.W.mroIn K (ga K x) (.ref (ga K x)) = some true) && decide (PySem.W.subIn K (.ref (ga K x)) (.type "ValueError") = some true))) &&
    (decide (PySem.W.nsIn K cStatics "thirdparty.any" = some none) && (decide (PySem.W.findIn K (.ref (ga K x)) "tag" = some none) && (decide (PySem.W.findIn K (.ref (ga K x)) fld = some none) && (PySem.W.clsIn K (ga K x)).isSome)))))))
structure ErrF (file : Str) (K : PySem.W.Frag) (x fld : Str) : Prop where
  ec : ErrC K (ga K x) (ga K x)
  ini : PySem.W.findIn K (.ref (ga K x)) "__init__" = some (some (.ref (ma K (ga K x) "__init__")))
  ty : PySem.W.typeIn K (.ref (ma K (ga K x) "__init__")) = some (.type "function")
  lk : ∃ oc od fd osl cda cc, K.lookup (ma K (ga K x) "__init__") = some ⟨oc, od, .func fd, osl⟩ ∧ fd.code = .ref cda ∧ (∃ nm, fd.closure = [(nm, cc)]) ∧ (∃ cl cld csl, K.lookup cc = some ⟨cl, cld, .cell (some (.ref (ga K x))), csl⟩) ∧
    (∃ ccl cdd vs ccs tf, K.lookup cda = some ⟨ccl, cdd, .fields vs, ccs⟩ ∧ vs[2]? = some (.str file tf))
  any : PySem.W.nsIn K cStatics "thirdparty.any" = some none
  tag : PySem.W.findIn K (.ref (ga K x)) "tag" = some none
  fld : PySem.W.findIn K (.ref (ga K x)) fld = some none
  cls : ∃ cd, PySem.W.clsIn K (ga K x) = some cd
theorem errB_ok {file : Str} {K : PySem.W.Frag} {x fld : Str} (h : errB file K x fld = true) : ErrF file K x fld := by
  obtain ⟨h1, h⟩ := ba h
  obtain ⟨h2, h⟩ := ba h
  obtain ⟨h3, h⟩ := ba h
  obtain ⟨h4, h⟩ := ba h
  obtain ⟨h5, h⟩ := ba h
  obtain ⟨h6, h⟩ := ba h
  obtain ⟨h7, h⟩ := ba h
  obtain ⟨h8, h9⟩ := ba h
  obtain ⟨h51, h5⟩ := ba h5
  obtain ⟨h52, h53⟩ := ba h5
  refine ⟨⟨oexB_ok h1, of_decide_eq_true h51, of_decide_eq_true h52, of_decide_eq_true h53⟩, of_decide_eq_true h2, of_decide_eq_true h3, ?_, of_decide_eq_true h6, of_decide_eq_true h7, of_decide_eq_true h8, Option.isSome_iff_exists.mp h9⟩
  split at h4
  · rename_i oc od fd osl ho
    obtain ⟨k1, k2⟩ := ba h4
    split at k1
    · rename_i nm cc ec
      split at k1
      · rename_i cl cld D csl hc
        have eD : D = ga K x := eq_of_beq k1
        split at k2
        · rename_i cda ed
          split at k2
          · rename_i ccl cdd vs ccs hcd
            split at k2
            · rename_i f tf hv
              have ef : file = f := eq_of_beq k2
              exact ⟨oc, od, fd, osl, cda, cc, ho, ed, ⟨nm, ec⟩, ⟨cl, cld, csl, by rw [hc, eD]⟩, ccl, cdd, vs, ccs, tf, hcd, by rw [hv, ef]⟩
            · cases k2
          · cases k2
        · cases k2
      · cases k1
    · cases k1
  · cases h4
section
variable {fa : List Fa} {fn : List AD} {ex : PySem.W.Frag → Bool} {K : PySem.W.Frag}
/-- an error's __init__ as a def -/
theorem SaysP.err_ (c : SaysP fa fn ex K) (i : Nat) {d : AD} (h : fn[i]? = some d) (hc : d.clo = (["__class__"] : List Str)) {file x fld : Str} (E : ErrF file K x fld) (had : d.ad K = ma K (ga K x) "__init__") (hn : d.name = "__init__") :
    ∃ oc od kV doc pm an cda ct cc osl, K.lookup (ma K (ga K x) "__init__") = some ⟨oc, od, .func (PySem.W.ksFn "__init__" d.qual d.params d.body d.scope .none kV doc pm an (.ref cda) ct cc), osl⟩ ∧ PySem.W.codeIn K (.ref cda) d.qual = true ∧
      (∃ cl cld csl, K.lookup cc = some ⟨cl, cld, .cell (some (.ref (ga K x))), csl⟩) ∧ (∃ ccl cdd vs ccs tf, K.lookup cda = some ⟨ccl, cdd, .fields vs, ccs⟩ ∧ vs[2]? = some (.str file tf)) := by
  have e : fn.map (fun d => fnWA K (d.ad K)) = fn.map AD.val := congrArg (fun z : AlP => z.2) c
  have e2 : (fn.map fun d => fnWA K (d.ad K))[i]? = (fn.map AD.val)[i]? := by rw [e]
  rw [List.getElem?_map, List.getElem?_map, h] at e2
  have e3 : fnWA K (d.ad K) = d.val := Option.some.inj e2
  have ok := List.all_eq_true.mp c.all.2.1 d (List.mem_of_getElem? h)
  obtain ⟨_, c2⟩ := ba ok
  obtain ⟨oc, od, fd, osl, cda, cc, lk, ecd, ⟨nm, ecl⟩, hcell, hcode⟩ := E.lk
  rw [had] at e3 c2
  unfold fnWA at e3
  rw [lk] at e3 c2
  obtain ⟨n1, n2, n3, n4, n5, n6, n7, n8, n9, n10, n11, n12, n13, n14, n15⟩ := fd
  have e2 : (some (n1, n2, n3, n4, n5, n6, n7.map (·.1), n15) : FnC) = some (d.name, d.qual, d.params, .stmts d.body, d.scope, mainGlobals, d.clo, builtinsNs) := e3
  simp only [Option.some.injEq, Prod.mk.injEq] at e2
  obtain ⟨g1, g2, g3, g4, g5, g6, g7, g8⟩ := e2
  have c3 : (PySem.W.codeIn K n13 d.qual && (dflB K n8 [] && kwdB K n9 (d.kws K))) = true := c2
  obtain ⟨k1, k2⟩ := ba c3
  have ecl : n7 = [(nm, cc)] := ecl
  have ecd : n13 = .ref cda := ecd
  rw [ecl, hc] at g7
  have g7 : nm = "__class__" := by simpa using g7
  rw [hn] at g1
  obtain ⟨k3, _⟩ := ba k2
  have k4 : n8 = .none := by
    rcases dflB_ok k3 with ⟨_, z⟩ | ⟨z, _⟩
    · exact z
    · exact absurd rfl z
  subst g1 g2 g3 g4 g5 g6 g7 g8 ecl ecd k4
  exact ⟨oc, od, n9, n10, n11, n12, cda, n14, cc, osl, lk, k1, hcell, hcode⟩
end
section
variable {C : Ct} {P : Program} {w : World} {mg : Str → Option Value} {base : Heap} {fa : List Fa} {fn : List AD} {ex : PySem.W.Frag → Bool}
variable {p0 p1 p2 p3 p4 p5 q1 q2 q3 q4 q5 q6 q7 q8 : Pos} {msg tagv fld : Str} {j j2 : Nat} {pself : Pos} {ann : Option Expr} {pl : Sem Bool}
theorem mkUE1 {c : Nat} (s : SaysP fa fn ex C.K) (i : Nat) {d : AD} (h : fn[i]? = some d) (hc : d.clo = (["__class__"] : List Str)) (E : ErrF P.main.file C.K (C.nm c) fld) (had : d.ad C.K = ma C.K (ga C.K (C.nm c)) "__init__") (hn : d.name = "__init__")
    (hbody : d.body = [bSup p0 p1 p2 p3 p4 p5 msg j, bTag q1 q2 q3 q4 tagv j2, bFld q5 q6 q7 q8 fld]) (hpar : (d.params.posonlyargs ++ d.params.args).head? = some ⟨"self", ann, pself⟩) (hev : EvS p0 p1 p2 p3 p4 msg j pl) (S : ErrS ["self", fld] ["self", fld] d.scope)
    (hd : (fld == ("__debug__" : Str)) = false) (hcd : (fld == ("__classdict__" : Str)) = false) (htop : (P.main.scope.names.lookup ("super" : Str)).isSome = false) (hm : mg "super" = none) (hg : mg (C.nm c) = some (.ref (ga C.K (C.nm c))))
    (hb : ∀ (kV doc pm : Value) (an : Option Addr) (cdv ct : Value) (cc : Addr) (us : List Value), us.length = 2 → bindArgs (PySem.W.ksFn "__init__" d.qual d.params d.body d.scope .none kV doc pm an cdv ct cc) ⟨us, []⟩ = pure ((["self", fld] : List Str).zip us)) :
    UE C P w mg base c (some fld) tagv := by
  obtain ⟨oc, od, kV, doc, pm, an, cda, ct, cc, osl, lk, hco, hcell, ccl, cdd, vs, ccs, tf, hcode, hvs⟩ := s.err_ i h hc E had hn
  obtain ⟨cd, hcl⟩ := E.cls
  have hb' : L2.Binds C.K (PySem.W.ksFn "__init__" d.qual d.params d.body d.scope .none kV doc pm an (.ref cda) ct cc) ["self", fld] [] := Binds.all fun us hl => hb _ _ _ _ _ _ _ us hl
  rw [hbody] at lk hb'
  exact ⟨E.ec.oex, hg, _, _, fn_err1 lk ⟨⟨ccl, cdd, vs, ccs, P.main.file, tf, hcode, hvs, by simp⟩, hco, hcell, htop, E.any⟩ hpar hcl hm S hev E.ec E.tag E.fld hd hcd, E.ini, E.ty, hb'⟩
theorem mkUE0 {c : Nat} (s : SaysP fa fn ex C.K) (i : Nat) {d : AD} (h : fn[i]? = some d) (hc : d.clo = (["__class__"] : List Str)) (E : ErrF P.main.file C.K (C.nm c) fld) (had : d.ad C.K = ma C.K (ga C.K (C.nm c)) "__init__") (hn : d.name = "__init__")
    (hbody : d.body = [bSup p0 p1 p2 p3 p4 p5 msg j, bTag q1 q2 q3 q4 tagv j2]) (hpar : (d.params.posonlyargs ++ d.params.args).head? = some ⟨"self", ann, pself⟩) (hev : EvS p0 p1 p2 p3 p4 msg j pl) (S : ErrS ["self"] ["self"] d.scope)
    (htop : (P.main.scope.names.lookup ("super" : Str)).isSome = false) (hm : mg "super" = none) (hg : mg (C.nm c) = some (.ref (ga C.K (C.nm c))))
    (hb : ∀ (kV doc pm : Value) (an : Option Addr) (cdv ct : Value) (cc : Addr) (us : List Value), us.length = 1 → bindArgs (PySem.W.ksFn "__init__" d.qual d.params d.body d.scope .none kV doc pm an cdv ct cc) ⟨us, []⟩ = pure ((["self"] : List Str).zip us)) :
    UE C P w mg base c none tagv := by
  obtain ⟨oc, od, kV, doc, pm, an, cda, ct, cc, osl, lk, hco, hcell, ccl, cdd, vs, ccs, tf, hcode, hvs⟩ := s.err_ i h hc E had hn
  obtain ⟨cd, hcl⟩ := E.cls
  have hb' : L2.Binds C.K (PySem.W.ksFn "__init__" d.qual d.params d.body d.scope .none kV doc pm an (.ref cda) ct cc) ["self"] [] := Binds.all fun us hl => hb _ _ _ _ _ _ _ us hl
  rw [hbody] at lk hb'
  exact ⟨E.ec.oex, hg, _, _, fn_err0 lk ⟨⟨ccl, cdd, vs, ccs, P.main.file, tf, hcode, hvs, by simp⟩, hco, hcell, htop, E.any⟩ hpar hcl hm S hev E.ec E.tag, E.ini, E.ty, hb'⟩
end
end Fs

/-! FpA: weakest preconditions over the evaluator; rules by simp. -/
namespace Fs
open PySem PySem.Spec PyProof.Rows L2
open Classical

/-- not to be taken for a definitional step by simp: the kernel would have to look through big programs -/
theorem nrfl {α : Sort u} {a b : α} (h : a = b) : a = b := h
abbrev EX := Nat → List Nat → List D → Store → Prop
def wR {α : Type} (x : R α) (Q : α → Store → Prop) (E : EX) : Prop := match x with
  | .ok a m => Q a m
  | .exc c ks vs m => E c ks vs m
  | .stuck => False
@[irreducible] def WP {α : Type} (x : M α) (m : Store) (Q : α → Store → Prop) (E : EX) : Prop := wR (x m) Q E
abbrev noE : EX := fun _ _ _ _ => False
@[simp] theorem wR_ok {α : Type} (a : α) (m : Store) (Q : α → Store → Prop) (E : EX) : wR (.ok a m) Q E = Q a m := by with_unfolding_all exact nrfl rfl
@[simp] theorem wR_exc {α : Type} (c : Nat) (ks : List Nat) (vs : List D) (m : Store) (Q : α → Store → Prop) (E : EX) : wR (.exc c ks vs m) Q E = E c ks vs m := by with_unfolding_all exact nrfl rfl
@[simp] theorem wR_stuck {α : Type} (Q : α → Store → Prop) (E : EX) : wR (.stuck) Q E = False := by with_unfolding_all exact nrfl rfl
@[simp] theorem wR_ite {α : Type} {c : Prop} [Decidable c] (x y : R α) (Q : α → Store → Prop) (E : EX) : wR (if c then x else y) Q E = if c then wR x Q E else wR y Q E := by split <;> rfl
theorem wR_congr {α : Type} {x y : R α} {Q : α → Store → Prop} {E : EX} (h : x = y) : wR x Q E = wR y Q E := by rw [h]
theorem WP_congr {α : Type} {x y : M α} {m : Store} {Q : α → Store → Prop} {E : EX} (h : x = y) : WP x m Q E = WP y m Q E := by rw [h]
section
variable {α β : Type} {m : Store} {E : EX}
@[simp] theorem w_pure (a : α) (Q : α → Store → Prop) : WP (pure a : M α) m Q E = Q a m := by with_unfolding_all exact nrfl rfl
@[simp] theorem w_bind (x : M α) (f : α → M β) (Q : β → Store → Prop) : WP (x >>= f) m Q E = WP x m (fun a m1 => WP (f a) m1 Q E) E := by
  unfold WP; rw [M.bind_ap]; cases x m <;> rfl
@[simp] theorem w_stuck (Q : α → Store → Prop) : WP (stuckM : M α) m Q E = False := by with_unfolding_all exact nrfl rfl
@[simp] theorem w_ite {c : Prop} [Decidable c] (x y : M α) (Q : α → Store → Prop) : WP (if c then x else y) m Q E = if c then WP x m Q E else WP y m Q E := by split <;> rfl
theorem w_ok {x : M α} {a : α} {m' : Store} {Q : α → Store → Prop} (h : x m = .ok a m') : WP x m Q E = Q a m' := by unfold WP; rw [h]; rfl
theorem w_exc {x : M α} {c : Nat} {ks : List Nat} {vs : List D} {m' : Store} {Q : α → Store → Prop} (h : x m = .exc c ks vs m') : WP x m Q E = E c ks vs m' := by unfold WP; rw [h]; rfl
theorem WP.mono {x : M α} {Q Q' : α → Store → Prop} {E' : EX} (h : WP x m Q E) (k : ∀ a m', Q a m' → Q' a m') (e : ∀ c ks vs m', E c ks vs m' → E' c ks vs m') : WP x m Q' E' := by
  unfold WP at h ⊢
  cases hx : x m with
  | ok a m' => rw [hx] at h; exact k _ _ h
  | exc c ks vs m' => rw [hx] at h; exact e _ _ _ _ h
  | stuck => rw [hx] at h; exact h
theorem WP.ex {x : M α} {Q : α → Store → Prop} (h : WP x m Q noE) : ∃ a m', x m = .ok a m' ∧ Q a m' := by
  unfold WP at h
  cases hx : x m with
  | ok a m' => rw [hx] at h; exact ⟨a, m', rfl, h⟩
  | exc c ks vs m' => rw [hx] at h; exact h.elim
  | stuck => rw [hx] at h; exact h.elim
theorem WP.of {x : M α} {Q : α → Store → Prop} (h : ∃ a m', x m = .ok a m' ∧ Q a m') : WP x m Q E := by
  obtain ⟨a, m', e, q⟩ := h
  rw [w_ok e]; exact q
/-- by an equation between answers -/
theorem WP.eq {x : M α} {a : α} {m' : Store} (h : WP x m (fun b m1 => b = a ∧ m1 = m') noE) : x m = .ok a m' := by
  obtain ⟨b, m1, e, rfl, rfl⟩ := h.ex
  exact e
end
@[simp] theorem szl : PySem.sizeLine = 16777216 := PySem.sizeLine_eq
/-! ### expressions -/
section
variable {r : Env} {m : Store} {E : EX} {a b c : ME} {t u : MT} {es : MEs} {Q : D → Store → Prop} {QT : Bool → Store → Prop} {QA : List D → Store → Prop} {QO : Option Int → Store → Prop} {QI : Itm → Store → Prop}
@[simp] theorem w_var (i : Nat) : WP (ev (.var i) r) m Q E = (match r[i]? with
    | some (some d) => Q d m
    | _ => False) := by
  simp only [ev, varM, WP]
  cases r[i]? with
  | none => rfl
  | some o => cases o <;> rfl
@[simp] theorem w_con (d : D) : WP (ev (.con d) r) m Q E = Q d m := by simp only [ev, w_pure]
@[simp] theorem w_bin (o : Bop) : WP (ev (.bin o a b) r) m Q E = WP (ev a r) m (fun x m1 => WP (ev b r) m1 (fun y m2 => WP (binM o x y) m2 Q E) E) E := by simp only [ev, w_bind]
@[simp] theorem w_neg : WP (ev (.neg a) r) m Q E = WP (ev a r) m (fun x m1 => WP (negM x) m1 Q E) E := by simp only [ev, w_bind]
@[simp] theorem w_cmp (o : Cop) : WP (ev (.cmp o a b) r) m Q E = WP (ev a r) m (fun x m1 => WP (ev b r) m1 (fun y m2 => WP (cmpM o x y) m2 (fun k m3 => Q (.bl k) m3) E) E) E := by simp only [ev, w_bind, w_pure]
@[simp] theorem w_cmp2 (o o' : Cop) : WP (ev (.cmp2 o o' a b c) r) m Q E = WP (ev a r) m (fun x m1 => WP (ev b r) m1 (fun y m2 => WP (cmpM o x y) m2 (fun k m3 => if k = true then WP (ev c r) m3 (fun z m4 => WP (cmpM o' y z) m4 (fun l m5 => Q (.bl l) m5) E) E else Q (.bl false) m3) E) E) E := by simp only [ev, w_bind, w_ite, w_pure]
@[simp] theorem w_and : WP (ev (.and a b) r) m Q E = WP (ev a r) m (fun x m1 => WP (blM x) m1 (fun k m2 => if k = true then WP (ev b r) m2 Q E else Q (.bl false) m2) E) E := by simp only [ev, w_bind, w_ite, w_pure]
@[simp] theorem w_or : WP (ev (.or a b) r) m Q E = WP (ev a r) m (fun x m1 => WP (blM x) m1 (fun k m2 => if k = true then Q (.bl true) m2 else WP (ev b r) m2 Q E) E) E := by simp only [ev, w_bind, w_ite, w_pure]
@[simp] theorem w_not : WP (ev (.not a) r) m Q E = WP (ev a r) m (fun x m1 => WP (blM x) m1 (fun k m2 => Q (.bl (!k)) m2) E) E := by simp only [ev, w_bind, w_pure]
@[simp] theorem w_if : WP (ev (.ite t a b) r) m Q E = WP (evT t r) m (fun k m1 => if k = true then WP (ev a r) m1 Q E else WP (ev b r) m1 Q E) E := by simp only [ev, w_bind, w_ite]
@[simp] theorem w_tup : WP (ev (.tup es) r) m Q E = WP (evs es r) m (fun xs m1 => xs.length ≤ 16777216 ∧ Q (.tup xs) m1) E := by
  simp only [ev, w_bind, w_ite, w_pure, w_stuck, sizeLine_eq]
  congr 1; funext xs m1; split <;> simp [*]
@[simp] theorem w_lst : WP (ev (.lst es) r) m Q E = WP (evs es r) m (fun xs m1 => xs.length ≤ 16777216 ∧ Q (.lst xs) m1) E := by
  simp only [ev, w_bind, w_ite, w_pure, w_stuck, sizeLine_eq]
  congr 1; funext xs m1; split <;> simp [*]
@[simp] theorem w_new : WP (ev (.new es) r) m Q E = WP (evs es r) m (fun xs m1 => xs.length ≤ 16777216 ∧ Q (.obj m1.length) (m1 ++ [.lst xs])) E := by
  simp only [ev, w_bind, w_ite, w_stuck, sizeLine_eq]
  congr 1; funext xs m1; split <;> simp [*, newM, WP]
@[simp] theorem w_idx : WP (ev (.idx a b) r) m Q E = WP (ev a r) m (fun x m1 => WP (ev b r) m1 (fun y m2 => WP (idxM x y) m2 Q E) E) E := by simp only [ev, w_bind]
@[simp] theorem w_slc (lo hi : MO) : WP (ev (.slc a lo hi) r) m Q E = WP (ev a r) m (fun x m1 => WP (evO lo r) m1 (fun l m2 => WP (evO hi r) m2 (fun h m3 => WP (slcM x l h) m3 Q E) E) E) E := by simp only [ev, w_bind]
@[simp] theorem w_call (F : List D → M D) : WP (ev (.call F es) r) m Q E = WP (evs es r) m (fun xs m1 => WP (F xs) m1 Q E) E := by simp only [ev, w_bind]
@[simp] theorem w_meth (P : Store → D → Bool) (F : D → List D → M D) : WP (ev (.meth P F a es) r) m Q E = WP (ev a r) m (fun x m1 => P m1 x = true ∧ WP (evs es r) m1 (fun xs m2 => WP (F x xs) m2 Q E) E) E := by
  simp only [ev, w_bind]
  congr 1; funext x m1
  unfold WP chkM
  split <;> simp [*, WP]
@[simp] theorem w_attr (F : D → M D) : WP (ev (.attr F a) r) m Q E = WP (ev a r) m (fun x m1 => WP (F x) m1 Q E) E := by simp only [ev, w_bind]
@[simp] theorem w_frz : WP (ev (.frz a) r) m Q E = WP (ev a r) m (fun x m1 => WP (frzM x) m1 Q E) E := by simp only [ev, w_bind]
@[simp] theorem w_compT {own : List Nat} {g : MG} {s : MI} {cc : MTO} : WP (ev (.comp true own g s cc a) r) m Q E = WP (evI s r) m (fun t m1 => WP (compM t (bodyC own g cc a r) t.ds) m1 (fun ys m2 => Q (.obj m2.length) (m2 ++ [.lst ys])) E) E := by
  simp only [ev, w_bind, w_ite, w_pure, if_true]; with_unfolding_all rfl
@[simp] theorem w_compF {own : List Nat} {g : MG} {s : MI} {cc : MTO} : WP (ev (.comp false own g s cc a) r) m Q E = WP (evI s r) m (fun t m1 => WP (compM t (bodyC own g cc a r) t.ds) m1 (fun ys m2 => Q (.lst ys) m2) E) E := by
  simp only [ev, w_bind, w_ite, w_pure, Bool.false_eq_true, if_false]; rfl
@[simp] theorem w_nil : WP (evs .nil r) m QA E = QA [] m := by simp only [evs, w_pure]
@[simp] theorem w_cons : WP (evs (.cons a es) r) m QA E = WP (ev a r) m (fun x m1 => WP (evs es r) m1 (fun xs m2 => QA (x :: xs) m2) E) E := by simp only [evs, w_bind, w_pure]
@[simp] theorem w_no : WP (evO .no r) m QO E = QO none m := by simp only [evO, w_pure]
@[simp] theorem w_yes : WP (evO (.yes a) r) m QO E = WP (ev a r) m (fun x m1 => WP (intO x) m1 QO E) E := by simp only [evO, w_bind]
@[simp] theorem wt_val : WP (evT (.val a) r) m QT E = WP (ev a r) m (fun x m1 => WP (truM x) m1 QT E) E := by simp only [evT, w_bind]
@[simp] theorem wt_cmp (o : Cop) : WP (evT (.cmp o a b) r) m QT E = WP (ev a r) m (fun x m1 => WP (ev b r) m1 (fun y m2 => WP (cmpM o x y) m2 QT E) E) E := by simp only [evT, w_bind]
@[simp] theorem wt_cmp2 (o o' : Cop) : WP (evT (.cmp2 o o' a b c) r) m QT E = WP (ev a r) m (fun x m1 => WP (ev b r) m1 (fun y m2 => WP (cmpM o x y) m2 (fun k m3 => if k = true then WP (ev c r) m3 (fun z m4 => WP (cmpM o' y z) m4 QT E) E else QT false m3) E) E) E := by simp only [evT, w_bind, w_ite, w_pure]
@[simp] theorem wt_and : WP (evT (.and t u) r) m QT E = WP (evT t r) m (fun k m1 => if k = true then WP (evT u r) m1 QT E else QT false m1) E := by simp only [evT, w_bind, w_ite, w_pure]
@[simp] theorem wt_or : WP (evT (.or t u) r) m QT E = WP (evT t r) m (fun k m1 => if k = true then QT true m1 else WP (evT u r) m1 QT E) E := by simp only [evT, w_bind, w_ite, w_pure]
@[simp] theorem wt_not : WP (evT (.not t) r) m QT E = WP (evT t r) m (fun k m1 => QT (!k) m1) E := by simp only [evT, w_bind, w_pure]
@[simp] theorem wto_no : WP (evTO .no r) m QT E = QT true m := by simp only [evTO, w_pure]
@[simp] theorem wto_yes : WP (evTO (.yes t) r) m QT E = WP (evT t r) m QT E := by simp only [evTO]
@[simp] theorem wi_val : WP (evI (.val a) r) m QI E = WP (ev a r) m (fun x m1 => WP (itmM x) m1 QI E) E := by simp only [evI, w_bind]
@[simp] theorem wi_rng1 : WP (evI (.rng1 a) r) m QI E = WP (ev a r) m (fun x m1 => WP (rng1M x) m1 QI E) E := by simp only [evI, w_bind]
@[simp] theorem wi_rng2 : WP (evI (.rng2 a b) r) m QI E = WP (ev a r) m (fun x m1 => WP (ev b r) m1 (fun y m2 => WP (rng2M x y) m2 QI E) E) E := by simp only [evI, w_bind]
@[simp] theorem wi_enm : WP (evI (.enm a) r) m QI E = WP (ev a r) m (fun x m1 => WP (enmM x) m1 QI E) E := by simp only [evI, w_bind]
@[simp] theorem wi_zip : WP (evI (.zip a b) r) m QI E = WP (ev a r) m (fun x m1 => WP (ev b r) m1 (fun y m2 => WP (zipM x y) m2 QI E) E) E := by simp only [evI, w_bind]
end
/-! ### statements -/
def WS (s : MS) (r : Env) (m : Store) (K : Fl → Store → Prop) : Prop := match evS s r m with
  | some (f, m') => K f m'
  | none => False
def WSs (s : MSs) (r : Env) (m : Store) (K : Fl → Store → Prop) : Prop := match evSs s r m with
  | some (f, m') => K f m'
  | none => False
/-- the flow behind a statement -/
def seqK (ss : MSs) (K : Fl → Store → Prop) (f : Fl) (m : Store) : Prop := match f with
  | .nxt r' => WSs ss r' m K
  | o => K o m
def WF (t : Itm) (g : MG) (b : MSs) (ds : List D) (r : Env) (m : Store) (K : Fl → Store → Prop) : Prop := match forM t (bodyF g b) ds r m with
  | some (f, m') => K f m'
  | none => False
def WW (c : MT) (b : MSs) (n : Nat) (r : Env) (m : Store) (K : Fl → Store → Prop) : Prop := match whileM (evT c) (evSs b) n r m with
  | some (f, m') => K f m'
  | none => False
def WB (g : MG) (b : MSs) (d : D) (r : Env) (m : Store) (K : Fl → Store → Prop) : Prop := match bodyF g b d r m with
  | some (f, m') => K f m'
  | none => False
theorem WS_congr {s s' : MS} {r r' : Env} {m : Store} {K : Fl → Store → Prop} (h : r = r') : WS s r m K = WS s r' m K := by rw [h]
theorem WSs_congr {s s' : MSs} {r r' : Env} {m : Store} {K : Fl → Store → Prop} (h : r = r') : WSs s r m K = WSs s r' m K := by rw [h]
theorem WF_congr {t : Itm} {g : MG} {b : MSs} {ds : List D} {r r' : Env} {m : Store} {K : Fl → Store → Prop} (h : r = r') : WF t g b ds r m K = WF t g b ds r' m K := by rw [h]
theorem WB_congr {g : MG} {b : MSs} {d d' : D} {r r' : Env} {m : Store} {K : Fl → Store → Prop} (h : r = r') (hd : d = d') : WB g b d r m K = WB g b d' r' m K := by rw [h, hd]
theorem WW_congr {c : MT} {b : MSs} {n : Nat} {r r' : Env} {m : Store} {K : Fl → Store → Prop} (h : r = r') : WW c b n r m K = WW c b n r' m K := by rw [h]
section
variable {r : Env} {m : Store} {K : Fl → Store → Prop} {a b c : ME} {t : MT} {ss p q : MSs} {s : MS}
theorem w_then {α : Type} (x : M α) (k : α → Store → RS) (KK : Fl → Store → Prop) : (match thenS x r m k with
    | some (f, m') => KK f m'
    | none => False) = WP x m (fun d m1 => match k d m1 with
      | some (f, m') => KK f m'
      | none => False) (fun c ks vs m1 => KK (.exc c ks vs r) m1) := by
  unfold thenS WP
  cases x m <;> rfl
@[simp] theorem seqK_nxt (ss : MSs) (K : Fl → Store → Prop) (r : Env) (m : Store) : seqK ss K (.nxt r) m = WSs ss r m K := by with_unfolding_all exact nrfl rfl
@[simp] theorem seqK_ret (ss : MSs) (K : Fl → Store → Prop) (d : D) (m : Store) : seqK ss K (.ret d) m = K (.ret d) m := by with_unfolding_all exact nrfl rfl
@[simp] theorem seqK_brk (ss : MSs) (K : Fl → Store → Prop) (r : Env) (m : Store) : seqK ss K (.brk r) m = K (.brk r) m := by with_unfolding_all exact nrfl rfl
@[simp] theorem seqK_cnt (ss : MSs) (K : Fl → Store → Prop) (r : Env) (m : Store) : seqK ss K (.cnt r) m = K (.cnt r) m := by with_unfolding_all exact nrfl rfl
@[simp] theorem seqK_exc (ss : MSs) (K : Fl → Store → Prop) (c : Nat) (ks : List Nat) (vs : List D) (r : Env) (m : Store) : seqK ss K (.exc c ks vs r) m = K (.exc c ks vs r) m := by with_unfolding_all exact nrfl rfl
@[simp] theorem ws_nil : WSs .nil r m K = K (.nxt r) m := by unfold WSs; rw [s_nil]
@[simp] theorem ws_cons : WSs (.cons s ss) r m K = WS s r m (seqK ss K) := by
  unfold WSs WS
  rw [s_cons]
  cases evS s r m with
  | none => rfl
  | some x =>
    obtain ⟨f, m'⟩ := x
    cases f <;> rfl
@[simp] theorem ws_exp : WS (.exp a) r m K = WP (ev a r) m (fun _ m1 => K (.nxt r) m1) (fun c ks vs m1 => K (.exc c ks vs r) m1) := by unfold WS; rw [s_exp, w_then]
@[simp] theorem ws_setN (i : Nat) : WS (.set (.nm i) a) r m K = WP (ev a r) m (fun d m1 => K (.nxt (r.set i (some d))) m1) (fun c ks vs m1 => K (.exc c ks vs r) m1) := by unfold WS; rw [s_set, w_then]; rfl
@[simp] theorem ws_setT (is : List Nat) : WS (.set (.tp is) a) r m K = WP (ev a r) m (fun d m1 => match asgG (.tp is) d r with
    | some r' => K (.nxt r') m1
    | none => False) (fun c ks vs m1 => K (.exc c ks vs r) m1) := by
  unfold WS; rw [s_set, w_then]
  congr 1; funext d m1
  cases asgG (.tp is) d r <;> rfl
@[simp] theorem ws_par (i j : Nat) : WS (.par i j a b) r m K = WP (ev a r) m (fun x m1 => WP (ev b r) m1 (fun y m2 => K (.nxt ((r.set i (some x)).set j (some y))) m2) (fun c ks vs m1 => K (.exc c ks vs r) m1)) (fun c ks vs m1 => K (.exc c ks vs r) m1) := by
  unfold WS; rw [s_par, w_then]; simp only [w_bind, w_pure]
@[simp] theorem ws_aug (i : Nat) (o : Bop) : WS (.aug i o a) r m K = (match r[i]? with
    | some (some x) => WP (ev a r) m (fun y m2 => WP (augM o x y) m2 (fun d m3 => K (.nxt (r.set i (some d))) m3) (fun c ks vs m1 => K (.exc c ks vs r) m1)) (fun c ks vs m1 => K (.exc c ks vs r) m1)
    | _ => False) := by
  unfold WS; rw [s_aug, w_then]; simp only [w_bind]
  unfold varM WP
  cases r[i]? with
  | none => rfl
  | some o => cases o <;> rfl
@[simp] theorem ws_ret : WS (.ret a) r m K = WP (ev a r) m (fun d m1 => K (.ret d) m1) (fun c ks vs m1 => K (.exc c ks vs r) m1) := by unfold WS; rw [s_ret, w_then]
@[simp] theorem ws_retN : WS .retN r m K = K (.ret .non) m := by unfold WS; rw [s_retN]
@[simp] theorem ws_ite : WS (.ite t p q) r m K = WP (evT t r) m (fun k m1 => if k = true then WSs p r m1 K else WSs q r m1 K) (fun c ks vs m1 => K (.exc c ks vs r) m1) := by
  unfold WS; rw [s_ite, w_then]
  congr 1; funext k m1
  unfold WSs
  cases k <;> rfl
@[simp] theorem ws_for (g : MG) (s : MI) : WS (.for_ g s p) r m K = WP (evI s r) m (fun t m1 => WF t g p t.ds r m1 K) (fun c ks vs m1 => K (.exc c ks vs r) m1) := by
  unfold WS
  simp only [evS]
  rw [w_then]
  rfl
@[simp] theorem ws_while (n : Nat) : WS (.while_ n t p) r m K = WW t p n r m K := by
  unfold WS WW
  simp only [evS]
@[simp] theorem ws_brk : WS .brk r m K = K (.brk r) m := by unfold WS; rw [s_brk]
@[simp] theorem ws_cnt : WS .cnt r m K = K (.cnt r) m := by unfold WS; rw [s_cnt]
@[simp] theorem ws_pass : WS .pass r m K = K (.nxt r) m := by unfold WS; rw [s_pass]
@[simp] theorem ws_never : WS .never r m K = False := by unfold WS; simp only [evS]
@[simp] theorem ws_raise (F : List D → M D) (es : MEs) : WS (.raise F es) r m K = WP (evs es r) m (fun xs m1 => WP (F xs) m1 (fun _ _ => False) (fun c ks vs m2 => K (.exc c ks vs r) m2)) (fun c ks vs m1 => K (.exc c ks vs r) m1) := by
  unfold WS
  simp only [evS]
  rw [w_then]
  simp only [w_bind]
@[simp] theorem w_errM (c : Nat) (ks : List Nat) (tg : List Char) (n : Nat) (ds : List D) (Q : D → Store → Prop) (E : EX) : WP (errM c ks tg n ds) m Q E = (ds.length = n ∧ E c ks (ds ++ [.str tg]) m) := by
  unfold errM
  by_cases h : ds.length = n
  · rw [if_pos h]; simp [h, WP, excM]
  · rw [if_neg h]; simp [h]
@[simp] theorem ws_setSub : WS (.setSub a b c) r m K = WP (ev c r) m (fun v m1 => WP (ev a r) m1 (fun x m2 => WP (ev b r) m2 (fun y m3 => WP (setSubM x y v) m3 (fun _ m4 => K (.nxt r) m4) (fun c ks vs m1 => K (.exc c ks vs r) m1)) (fun c ks vs m1 => K (.exc c ks vs r) m1)) (fun c ks vs m1 => K (.exc c ks vs r) m1)) (fun c ks vs m1 => K (.exc c ks vs r) m1) := by
  unfold WS; rw [s_setSub, w_then]; simp only [w_bind]
@[simp] theorem ws_setAt (F : D → D → M Unit) : WS (.setAt F a c) r m K = WP (ev c r) m (fun v m1 => WP (ev a r) m1 (fun x m2 => WP (F x v) m2 (fun _ m4 => K (.nxt r) m4) (fun c ks vs m1 => K (.exc c ks vs r) m1)) (fun c ks vs m1 => K (.exc c ks vs r) m1)) (fun c ks vs m1 => K (.exc c ks vs r) m1) := by
  unfold WS; simp only [evS]; rw [w_then]; simp only [w_bind]
@[simp] theorem wb_nm (i : Nat) (d : D) : WB (.nm i) p d r m K = WSs p (r.set i (some d)) m K := by with_unfolding_all exact nrfl rfl
@[simp] theorem wb_tp (is : List Nat) (ds : List D) : WB (.tp is) p (.tup ds) r m K = (if ds.length = is.length then WSs p ((is.zip ds).foldl (fun r p => r.set p.1 (some p.2)) r) m K else False) := by
  by_cases h : ds.length = is.length <;> simp [WB, bodyF, asgG, WSs, h]
/-- a def -/
theorem w_run {np n : Nat} {body : MSs} {ds : List D} {Q : D → Store → Prop} {E : EX} : WP (runF np n body ds) m Q E = (if ds.length = np then WSs body (ds.map some ++ List.replicate (n - np) none) m (fun f m' => match f with
    | .nxt _ => Q .non m'
    | .ret d => Q d m'
    | .exc c ks vs _ => E c ks vs m'
    | _ => False) else False) := by
  unfold WP runF WSs
  split
  · cases evSs body (ds.map some ++ List.replicate (n - np) none) m with
    | none => rfl
    | some x =>
      obtain ⟨f, m'⟩ := x
      cases f <;> rfl
  · rfl
/-- a for by an invariant over what is left -/
theorem wf_inv {t : Itm} {g : MG} {ds : List D} (ht : t.lk = none) (I : List D → Env → Store → Prop) (h0 : I ds r m)
    (hs : ∀ d ds r m, I (d :: ds) r m → WB g p d r m (fun f m' => match f with
      | .nxt r' => I ds r' m'
      | .cnt r' => I ds r' m'
      | .brk r' => K (.nxt r') m'
      | o => K o m')) (hd : ∀ r m, I [] r m → K (.nxt r) m) : WF t g p ds r m K := by
  induction ds generalizing r m with
  | nil =>
    have : t.ok m := by unfold Itm.ok; rw [ht]; trivial
    unfold WF
    simp only [forM, this, if_true]
    exact hd _ _ h0
  | cons d ds ih =>
    have ok : t.ok m := by unfold Itm.ok; rw [ht]; trivial
    have h1 := hs _ _ _ _ h0
    unfold WF
    unfold WB at h1
    simp only [forM, ok, if_true]
    cases e : bodyF g p d r m with
    | none => rw [e] at h1; exact h1.elim
    | some x =>
      obtain ⟨f, m'⟩ := x
      rw [e] at h1
      cases f with
      | nxt r' => exact ih (r := r') (m := m') h1
      | cnt r' => exact ih (r := r') (m := m') h1
      | brk r' => exact h1
      | ret d => exact h1
      | exc c ks vs r => exact h1
/-- the same where the walked list stands in a cell -/
theorem wf_invL {n : Nat} {ds0 ds1 ds : List D} {g : MG} (I : List D → Env → Store → Prop) (hm : m[n]? = some (.lst ds0)) (h0 : I ds r m)
    (hs : ∀ d ds r m, m[n]? = some (.lst ds0) → I (d :: ds) r m → WB g p d r m (fun f m' => match f with
      | .nxt r' => m'[n]? = some (.lst ds0) ∧ I ds r' m'
      | .cnt r' => m'[n]? = some (.lst ds0) ∧ I ds r' m'
      | .brk r' => K (.nxt r') m'
      | o => K o m')) (hd : ∀ r m, m[n]? = some (.lst ds0) → I [] r m → K (.nxt r) m) : WF ⟨ds1, some (n, ds0)⟩ g p ds r m K := by
  induction ds generalizing r m with
  | nil =>
    have : Itm.ok ⟨ds1, some (n, ds0)⟩ m := hm
    unfold WF
    simp only [forM, this, if_true]
    exact hd _ _ hm h0
  | cons d ds ih =>
    have ok : Itm.ok ⟨ds1, some (n, ds0)⟩ m := hm
    have h1 := hs _ _ _ _ hm h0
    unfold WF
    unfold WB at h1
    simp only [forM, ok, if_true]
    cases e : bodyF g p d r m with
    | none => rw [e] at h1; exact h1.elim
    | some x =>
      obtain ⟨f, m'⟩ := x
      rw [e] at h1
      cases f with
      | nxt r' => exact ih (r := r') (m := m') h1.1 h1.2
      | cnt r' => exact ih (r := r') (m := m') h1.1 h1.2
      | brk r' => exact h1
      | ret d => exact h1
      | exc c ks vs r => exact h1
/-- turn by turn -/
theorem wf_nil {t : Itm} {g : MG} (ht : t.lk = none) (h : K (.nxt r) m) : WF t g p [] r m K := wf_inv ht (fun ds r' m' => ds = [] ∧ r' = r ∧ m' = m) ⟨rfl, rfl, rfl⟩ (fun d ds _ _ h => by cases h.1) fun _ _ ⟨_, h1, h2⟩ => by rw [h1, h2]; exact h
theorem wf_cons {t : Itm} {g : MG} {d : D} {ds : List D} (ht : t.lk = none) (h : WB g p d r m (fun f m' => match f with
      | .nxt r' => WF t g p ds r' m' K
      | .cnt r' => WF t g p ds r' m' K
      | .brk r' => K (.nxt r') m'
      | o => K o m')) : WF t g p (d :: ds) r m K := by
  have ok : t.ok m := by unfold Itm.ok; rw [ht]; trivial
  unfold WF
  unfold WB at h
  simp only [forM, ok, if_true]
  cases e : bodyF g p d r m with
  | none => rw [e] at h; exact h.elim
  | some x =>
    obtain ⟨f, m'⟩ := x
    rw [e] at h
    cases f <;> exact h
/-- a while by an invariant and a measure -/
theorem ww_inv {n : Nat} (I : Env → Store → Prop) (μ : Env → Store → Nat) (h0 : I r m) (hn : μ r m < n)
    (hs : ∀ r m, I r m → WP (evT t r) m (fun k m1 => if k = true then WSs p r m1 (fun f m' => match f with
      | .nxt r' => I r' m' ∧ μ r' m' < μ r m
      | .cnt r' => I r' m' ∧ μ r' m' < μ r m
      | .brk r' => K (.nxt r') m'
      | o => K o m') else K (.nxt r) m1) (fun c ks vs m1 => K (.exc c ks vs r) m1)) : WW t p n r m K := by
  induction n generalizing r m with
  | zero => omega
  | succ n ih =>
    have h1 := hs _ _ h0
    unfold WW
    simp only [whileM]
    unfold WP at h1
    cases e : evT t r m with
    | stuck => rw [e] at h1; exact h1.elim
    | exc c ks vs m1 => rw [e] at h1; exact h1
    | ok k m1 =>
      rw [e] at h1
      cases k with
      | false => exact h1
      | true =>
        simp only [wR_ok, if_true] at h1
        unfold WSs at h1
        simp only
        cases e2 : evSs p r m1 with
        | none => rw [e2] at h1; exact h1.elim
        | some x =>
          obtain ⟨f, m'⟩ := x
          rw [e2] at h1
          cases f with
          | nxt r' => exact ih (r := r') (m := m') h1.1 (by omega)
          | cnt r' => exact ih (r := r') (m := m') h1.1 (by omega)
          | brk r' => exact h1
          | ret d => exact h1
          | exc c ks vs r => exact h1
end
/-! ### comprehensions -/
section
variable {r : Env} {m : Store} {E : EX} {t : Itm} {Q : List D → Store → Prop}
theorem wc_body {own : List Nat} {g : MG} {c : MTO} {e : ME} {d : D} {Q : Option D → Store → Prop} : WP (bodyC own g c e r d) m Q E = (match asgG g d (wipeE r own) with
    | some r' => WP (evTO c r') m (fun k m1 => if k = true then WP (ev e r') m1 (fun y m2 => Q (some y) m2) E else Q none m1) E
    | none => False) := by
  unfold bodyC
  cases asgG g d (wipeE r own) <;> simp [w_bind, w_ite, w_pure]
/-- a pure one: what it gives, item by item -/
theorem wc_pure {α : Type} {f : D → M (Option D)} {l : List α} {g : α → D} {h : α → Option D} (ht : t.lk = none) (hf : ∀ x ∈ l, WP (f (g x)) m (fun o m' => o = h x ∧ m' = m) noE) (hq : Q (l.filterMap h) m) : WP (compM t f (l.map g)) m Q E := by
  have e : compM t f (l.map g) m = .ok (l.filterMap h) m := by
    clear hq
    induction l with
    | nil =>
      have : t.ok m := by unfold Itm.ok; rw [ht]; trivial
      simp only [List.map_nil, compM, this, if_true]; rfl
    | cons x l ih =>
      have ok : t.ok m := by unfold Itm.ok; rw [ht]; trivial
      have h1 := (hf x (List.mem_cons_self ..)).eq
      have h2 := ih fun y hy => hf y (List.mem_cons_of_mem _ hy)
      simp only [List.map_cons, compM, ok, if_true, h1, h2]
      cases e : h x with
      | none => rw [List.filterMap_cons_none e]
      | some y => rw [List.filterMap_cons_some e]
  rw [w_ok e]
  exact hq
theorem wc_map {α : Type} {f : D → M (Option D)} {l : List α} {g : α → D} {h : α → D} (ht : t.lk = none) (hf : ∀ x ∈ l, WP (f (g x)) m (fun o m' => o = some (h x) ∧ m' = m) noE) (hq : Q (l.map h) m) : WP (compM t f (l.map g)) m Q E :=
  wc_pure (h := fun x => some (h x)) ht hf (by rw [List.filterMap_eq_map']; exact hq)
/-- a filter: item x is given as y x where p x -/
theorem wc_filt {α : Type} {f : D → M (Option D)} {l : List α} {g : α → D} {p : α → Bool} {y : α → D} (ht : t.lk = none) (hf : ∀ x ∈ l, WP (f (g x)) m (fun o m' => o = (if p x = true then some (y x) else none) ∧ m' = m) noE) (hq : Q ((l.filter p).map y) m) : WP (compM t f (l.map g)) m Q E := by
  refine wc_pure (h := fun x => if p x = true then some (y x) else none) ht hf ?_
  have : l.filterMap (fun x => if p x = true then some (y x) else none) = (l.filter p).map y := by
    clear hq hf
    induction l with
    | nil => rfl
    | cons x l ih => by_cases hp : p x = true <;> simp [List.filterMap_cons, List.filter_cons, hp, ih]
  rw [this]; exact hq
/-- with effects: an invariant of the store, a relation of item and answer -/
theorem wc_inv {α : Type} {f : D → M (Option D)} {l : List α} {g : α → D} (ht : t.lk = none) (I : List α → List D → Store → Prop) (h0 : I l [] m)
    (hs : ∀ x l acc m, I (x :: l) acc m → WP (f (g x)) m (fun o m' => I l (acc ++ o.toList) m') noE) (hq : ∀ acc m, I [] acc m → Q acc m) : WP (compM t f (l.map g)) m Q E := by
  have key : ∀ (l : List α) (acc : List D) (m : Store), I l acc m → ∃ ys m', compM t f (l.map g) m = .ok ys m' ∧ I [] (acc ++ ys) m' := by
    intro l
    induction l with
    | nil =>
      intro acc m h
      have : t.ok m := by unfold Itm.ok; rw [ht]; trivial
      exact ⟨[], m, by simp only [List.map_nil, compM, this, if_true], by rw [List.append_nil]; exact h⟩
    | cons x l ih =>
      intro acc m h
      have ok : t.ok m := by unfold Itm.ok; rw [ht]; trivial
      obtain ⟨o, m1, e1, i1⟩ := (hs x l acc m h).ex
      obtain ⟨ys, m2, e2, i2⟩ := ih _ _ i1
      cases o with
      | none => exact ⟨ys, m2, by simp only [List.map_cons, compM, ok, if_true, e1, e2], by simpa using i2⟩
      | some y => exact ⟨y :: ys, m2, by simp only [List.map_cons, compM, ok, if_true, e1, e2], by simpa [List.append_assoc] using i2⟩
  obtain ⟨ys, m', e, i⟩ := key l [] m h0
  rw [w_ok e]
  exact hq _ _ (by simpa using i)
end
/-! ### more -/
@[simp] theorem asgG_nm (i : Nat) (d : D) (r : Env) : asgG (.nm i) d r = some (r.set i (some d)) := rfl
@[simp] theorem asgG_tp (is : List Nat) (ds : List D) (r : Env) : asgG (.tp is) (.tup ds) r = if ds.length = is.length then some ((is.zip ds).foldl (fun r p => r.set p.1 (some p.2)) r) else none := rfl
@[simp] theorem wipeE_nil (r : Env) : wipeE r [] = r := rfl
@[simp] theorem wipeE_cons (r : Env) (v : Nat) (vs : List Nat) : wipeE r (v :: vs) = (wipeE r vs).set v none := rfl
theorem wc_n {t : Itm} {f : D → M (Option D)} {m : Store} {Q : List D → Store → Prop} {E : EX} : WP (compM t f []) m Q E = (t.ok m ∧ Q [] m) := by
  unfold WP
  simp only [compM]
  split <;> simp [*]
theorem wc_c {t : Itm} {f : D → M (Option D)} {d : D} {ds : List D} {m : Store} {Q : List D → Store → Prop} {E : EX} : WP (compM t f (d :: ds)) m Q E = (t.ok m ∧ WP (f d) m (fun o m1 => WP (compM t f ds) m1 (fun r m2 => Q (o.toList ++ r) m2) noE) noE) := by
  unfold WP
  simp only [compM]
  split
  · rename_i h
    simp only [h, true_and]
    cases f d m with
    | ok o m1 =>
      simp only [wR_ok]
      cases compM t f ds m1 with
      | ok r m2 => cases o <;> rfl
      | exc => rfl
      | stuck => rfl
    | exc => rfl
    | stuck => rfl
  · rename_i h
    simp [h]
@[simp] theorem Itm.ok_none (ds : List D) (m : Store) : Itm.ok ⟨ds, none⟩ m = True := rfl
@[simp] theorem Itm.ok_some (ds : List D) (p : Nat × List D) (m : Store) : Itm.ok ⟨ds, some p⟩ m = (m[p.1]? = some (.lst p.2)) := rfl
theorem wf_n {t : Itm} {g : MG} {p : MSs} {r : Env} {m : Store} {K : Fl → Store → Prop} : WF t g p [] r m K = (t.ok m ∧ K (.nxt r) m) := by
  unfold WF
  simp only [forM]
  by_cases h : t.ok m <;> simp [h]
theorem wf_c {t : Itm} {g : MG} {p : MSs} {d : D} {ds : List D} {r : Env} {m : Store} {K : Fl → Store → Prop} : WF t g p (d :: ds) r m K = (t.ok m ∧ WB g p d r m (fun f m' => match f with
      | .nxt r' => WF t g p ds r' m' K
      | .cnt r' => WF t g p ds r' m' K
      | .brk r' => K (.nxt r') m'
      | o => K o m')) := by
  unfold WF WB
  simp only [forM]
  by_cases h : t.ok m
  · simp only [h, if_true, true_and]
    cases bodyF g p d r m with
    | none => rfl
    | some x =>
      obtain ⟨f, m'⟩ := x
      cases f <;> rfl
  · simp [h]
/-- a for by an invariant that keeps what is walked -/
theorem wf_invG {t : Itm} {g : MG} {p : MSs} {ds : List D} {r : Env} {m : Store} {K : Fl → Store → Prop} (I : List D → Env → Store → Prop) (h0 : I ds r m) (hok : ∀ ds r m, I ds r m → t.ok m)
    (hs : ∀ d ds r m, I (d :: ds) r m → WB g p d r m (fun f m' => match f with
      | .nxt r' => I ds r' m'
      | .cnt r' => I ds r' m'
      | .brk r' => K (.nxt r') m'
      | o => K o m')) (hd : ∀ r m, I [] r m → K (.nxt r) m) : WF t g p ds r m K := by
  induction ds generalizing r m with
  | nil => rw [wf_n]; exact ⟨hok _ _ _ h0, hd _ _ h0⟩
  | cons d ds ih =>
    rw [wf_c]
    refine ⟨hok _ _ _ h0, ?_⟩
    have h1 := hs _ _ _ _ h0
    unfold WB at h1 ⊢
    cases e : bodyF g p d r m with
    | none => rw [e] at h1; exact h1.elim
    | some x =>
      obtain ⟨f, m'⟩ := x
      rw [e] at h1
      cases f with
      | nxt r' => exact ih (r := r') (m := m') h1
      | cnt r' => exact ih (r := r') (m := m') h1
      | brk r' => exact h1
      | ret d => exact h1
      | exc c ks vs r => exact h1
theorem WSs.mono {s : MSs} {r : Env} {m : Store} {K K' : Fl → Store → Prop} (h : WSs s r m K) (k : ∀ f m', K f m' → K' f m') : WSs s r m K' := by
  unfold WSs at h ⊢
  cases e : evSs s r m with
  | none => rw [e] at h; exact h
  | some x => rw [e] at h; exact k _ _ h
/-- a pure comprehension over what a cell may hold -/
theorem wc_pureG {α : Type} {t : Itm} {m : Store} {E : EX} {Q : List D → Store → Prop} {f : D → M (Option D)} {l : List α} {g : α → D} {h : α → Option D} (ht : t.ok m) (hf : ∀ x ∈ l, WP (f (g x)) m (fun o m' => o = h x ∧ m' = m) noE) (hq : Q (l.filterMap h) m) : WP (compM t f (l.map g)) m Q E := by
  have e : compM t f (l.map g) m = .ok (l.filterMap h) m := by
    clear hq
    induction l with
    | nil =>
      simp only [List.map_nil, compM, ht, if_true]; rfl
    | cons x l ih =>
      have h1 := (hf x (List.mem_cons_self ..)).eq
      have h2 := ih fun y hy => hf y (List.mem_cons_of_mem _ hy)
      simp only [List.map_cons, compM, ht, if_true, h1, h2]
      cases e : h x with
      | none => rw [List.filterMap_cons_none e]
      | some y => rw [List.filterMap_cons_some e]
  rw [w_ok e]
  exact hq
theorem wc_mapG {t : Itm} {m : Store} {E : EX} {Q : List D → Store → Prop} {f : D → M (Option D)} {l : List D} {h : D → D} (ht : t.ok m) (hf : ∀ x ∈ l, WP (f x) m (fun o m' => o = some (h x) ∧ m' = m) noE) (hq : Q (l.map h) m) : WP (compM t f l) m Q E := by
  have := wc_pureG (E := E) (Q := Q) (g := fun x : D => x) (l := l) (h := fun x => some (h x)) ht hf (by rw [List.filterMap_eq_map']; exact hq)
  simpa using this
end Fs

/-! FpB: what the primitives answer, by simp. -/
namespace Fs
open PySem PySem.Spec PyProof.Rows L2
open Classical
section
variable {m : Store} {E : EX} {Q : D → Store → Prop} {QT : Bool → Store → Prop} {QO : Option Int → Store → Prop} {QI : Itm → Store → Prop} {QU : Unit → Store → Prop}
/-! ### from WP to answers -/
@[simp] theorem w_binM (o : Bop) (a b : D) : WP (binM o a b) m Q E = wR (binM o a b m) Q E := by with_unfolding_all exact nrfl rfl
@[simp] theorem w_negM (a : D) : WP (negM a) m Q E = wR (negM a m) Q E := by with_unfolding_all exact nrfl rfl
@[simp] theorem w_cmpM (o : Cop) (a b : D) : WP (cmpM o a b) m QT E = wR (cmpM o a b m) QT E := by with_unfolding_all exact nrfl rfl
@[simp] theorem w_blM (a : D) : WP (blM a) m QT E = wR (blM a m) QT E := by with_unfolding_all exact nrfl rfl
@[simp] theorem w_truM (a : D) : WP (truM a) m QT E = wR (truM a m) QT E := by with_unfolding_all exact nrfl rfl
@[simp] theorem w_intO (a : D) : WP (intO a) m QO E = wR (intO a m) QO E := by with_unfolding_all exact nrfl rfl
@[simp] theorem w_idxM (a b : D) : WP (idxM a b) m Q E = wR (idxM a b m) Q E := by with_unfolding_all exact nrfl rfl
@[simp] theorem w_slcM (a : D) (l h : Option Int) : WP (slcM a l h) m Q E = wR (slcM a l h m) Q E := by with_unfolding_all exact nrfl rfl
@[simp] theorem w_itmM (a : D) : WP (itmM a) m QI E = wR (itmM a m) QI E := by with_unfolding_all exact nrfl rfl
@[simp] theorem w_rng1M (a : D) : WP (rng1M a) m QI E = wR (rng1M a m) QI E := by with_unfolding_all exact nrfl rfl
@[simp] theorem w_rng2M (a b : D) : WP (rng2M a b) m QI E = wR (rng2M a b m) QI E := by with_unfolding_all exact nrfl rfl
@[simp] theorem w_enmM (a : D) : WP (enmM a) m QI E = wR (enmM a m) QI E := by with_unfolding_all exact nrfl rfl
@[simp] theorem w_zipM (a b : D) : WP (zipM a b) m QI E = wR (zipM a b m) QI E := by with_unfolding_all exact nrfl rfl
@[simp] theorem w_frzM (a : D) : WP (frzM a) m Q E = wR (frzM a m) Q E := by with_unfolding_all exact nrfl rfl
@[simp] theorem w_augM (o : Bop) (a b : D) : WP (augM o a b) m Q E = wR (augM o a b m) Q E := by with_unfolding_all exact nrfl rfl
@[simp] theorem w_setSubM (a b c : D) : WP (setSubM a b c) m QU E = wR (setSubM a b c m) QU E := by with_unfolding_all exact nrfl rfl
@[simp] theorem w_setFldM (cs : List Nat) (j : Nat) (a c : D) : WP (setFldM cs j a c) m QU E = wR (setFldM cs j a c m) QU E := by with_unfolding_all exact nrfl rfl
@[simp] theorem w_fldM (cs : List Nat) (j : Nat) (a : D) : WP (fldM cs j a) m Q E = wR (fldM cs j a m) Q E := by with_unfolding_all exact nrfl rfl
@[simp] theorem w_un1 (f : D → M D) (d : D) : WP (un1 f [d]) m Q E = WP (f d) m Q E := by with_unfolding_all exact nrfl rfl
@[simp] theorem w_un2 (f : D → D → M D) (d e : D) : WP (un2 f [d, e]) m Q E = WP (f d e) m Q E := by with_unfolding_all exact nrfl rfl
@[simp] theorem w_un1m (f : D → D → M D) (o d : D) : WP (un1m f o [d]) m Q E = WP (f o d) m Q E := by with_unfolding_all exact nrfl rfl
@[simp] theorem w_un2m (f : D → D → D → M D) (o d e : D) : WP (un2m f o [d, e]) m Q E = WP (f o d e) m Q E := by with_unfolding_all exact nrfl rfl
@[simp] theorem w_un0m (f : D → M D) (o : D) : WP (un0m f o []) m Q E = WP (f o) m Q E := by with_unfolding_all exact nrfl rfl
@[simp] theorem w_selfF (F : List D → M D) (d : D) (ds : List D) : WP (selfF F d ds) m Q E = WP (F (d :: ds)) m Q E := by with_unfolding_all exact nrfl rfl
@[simp] theorem w_lenM (a : D) : WP (lenM a) m Q E = wR (lenM a m) Q E := by with_unfolding_all exact nrfl rfl
@[simp] theorem w_allM (a : D) : WP (allM a) m Q E = wR (allM a m) Q E := by with_unfolding_all exact nrfl rfl
@[simp] theorem w_anyM (a : D) : WP (anyM a) m Q E = wR (anyM a m) Q E := by with_unfolding_all exact nrfl rfl
@[simp] theorem w_listM (a : D) : WP (listM a) m Q E = wR (listM a m) Q E := by with_unfolding_all exact nrfl rfl
@[simp] theorem w_listNM (a : D) : WP (listNM a) m Q E = wR (listNM a m) Q E := by with_unfolding_all exact nrfl rfl
@[simp] theorem w_tupleM (a : D) : WP (tupleM a) m Q E = wR (tupleM a m) Q E := by with_unfolding_all exact nrfl rfl
@[simp] theorem w_intM (a : D) : WP (intM a) m Q E = wR (intM a m) Q E := by with_unfolding_all exact nrfl rfl
@[simp] theorem w_strM (a : D) : WP (strM a) m Q E = wR (strM a m) Q E := by with_unfolding_all exact nrfl rfl
@[simp] theorem w_fmtM (a : D) : WP (fmtM a) m Q E = wR (fmtM a m) Q E := by with_unfolding_all exact nrfl rfl
@[simp] theorem w_revM (a : D) : WP (revM a) m Q E = wR (revM a m) Q E := by with_unfolding_all exact nrfl rfl
@[simp] theorem w_sortedM (a : D) : WP (sortedM a) m Q E = wR (sortedM a m) Q E := by with_unfolding_all exact nrfl rfl
@[simp] theorem w_sortSetM (a : D) : WP (sortSetM a) m Q E = wR (sortSetM a m) Q E := by with_unfolding_all exact nrfl rfl
@[simp] theorem w_isiM (cs : List Nat) (T : BT) (a : D) : WP (isiM cs T a) m Q E = wR (isiM cs T a m) Q E := by with_unfolding_all exact nrfl rfl
@[simp] theorem w_isiC (cs : List (Nat × Bool)) (a : D) : WP (isiC cs a) m Q E = wR (isiC cs a m) Q E := by with_unfolding_all exact nrfl rfl
@[simp] theorem w_appendM (o e : D) : WP (appendM o e) m Q E = wR (appendM o e m) Q E := by with_unfolding_all exact nrfl rfl
@[simp] theorem w_insertM (o i e : D) : WP (insertM o i e) m Q E = wR (insertM o i e m) Q E := by with_unfolding_all exact nrfl rfl
@[simp] theorem w_clearM (o : D) : WP (clearM o) m Q E = wR (clearM o m) Q E := by with_unfolding_all exact nrfl rfl
@[simp] theorem w_joinM (o e : D) : WP (joinM o e) m Q E = wR (joinM o e m) Q E := by with_unfolding_all exact nrfl rfl
@[simp] theorem w_joinS (l : List D) : WP (joinS l) m Q E = wR (joinS l m) Q E := by with_unfolding_all exact nrfl rfl
@[simp] theorem w_inD (a b : D) : WP (inD a b) m Q E = wR (inD a b m) Q E := by with_unfolding_all exact nrfl rfl
@[simp] theorem w_ninD (a b : D) : WP (ninD a b) m Q E = wR (ninD a b m) Q E := by with_unfolding_all exact nrfl rfl
@[simp] theorem w_dnewM (t : Bool) (l : List D) : WP (dnewM t l) m Q E = Q (.obj m.length) (m ++ [.dct t [] []]) := by with_unfolding_all exact nrfl rfl
/-! ### reading -/
@[simp] theorem readL_lst (ds : List D) : readL m (.lst ds) = some ds := rfl
@[simp] theorem readL_tup (ds : List D) : readL m (.tup ds) = none := rfl
@[simp] theorem readL_str (x : List Char) : readL m (.str x) = none := rfl
@[simp] theorem readL_int (x : Int) : readL m (.int x) = none := rfl
@[simp] theorem readL_bl (x : Bool) : readL m (.bl x) = none := rfl
@[simp] theorem readL_non : readL m .non = none := rfl
@[simp] theorem readL_dct (t : Bool) (ks vs : List D) : readL m (.dct t ks vs) = none := rfl
theorem readL_obj {n : Nat} {ds : List D} (h : m[n]? = some (.lst ds)) : readL m (.obj n) = some ds := by simp [readL, h]
theorem readL_objd {n : Nat} {t : Bool} {ks ds : List D} (h : m[n]? = some (.dct t ks ds)) : readL m (.obj n) = none := by simp [readL, h]
@[simp] theorem readQ_tup (ds : List D) : readQ m (.tup ds) = some ds := rfl
@[simp] theorem readQ_lst (ds : List D) : readQ m (.lst ds) = some ds := rfl
@[simp] theorem readQ_str (x : List Char) : readQ m (.str x) = none := rfl
@[simp] theorem readQ_int (x : Int) : readQ m (.int x) = none := rfl
@[simp] theorem readQ_bl (x : Bool) : readQ m (.bl x) = none := rfl
@[simp] theorem readQ_non : readQ m .non = none := rfl
@[simp] theorem readQ_obj (n : Nat) : readQ m (.obj n) = readL m (.obj n) := rfl
@[simp] theorem readQ_dct (t : Bool) (ks vs : List D) : readQ m (.dct t ks vs) = none := rfl
@[simp] theorem readDct_dct (t : Bool) (ks vs : List D) : readDct m (.dct t ks vs) = some (t, ks, vs) := rfl
theorem readDct_obj {n : Nat} {t : Bool} {ks vs : List D} (h : m[n]? = some (.dct t ks vs)) : readDct m (.obj n) = some (t, ks, vs) := by simp [readDct, h]
/-! ### numbers, texts -/
@[simp] theorem a_addI (i j : Int) : binM .add (.int i) (.int j) m = .ok (.int (i + j)) m := by with_unfolding_all exact nrfl rfl
@[simp] theorem a_subI (i j : Int) : binM .sub (.int i) (.int j) m = .ok (.int (i - j)) m := by with_unfolding_all exact nrfl rfl
@[simp] theorem a_mulI (i j : Int) : binM .mul (.int i) (.int j) m = if i.natAbs.log2 + j.natAbs.log2 < 1000000 then .ok (.int (i * j)) m else .stuck := by with_unfolding_all exact nrfl rfl
@[simp] theorem a_modI (i j : Int) : binM .mod (.int i) (.int j) m = if 0 < j then .ok (.int (i % j)) m else .stuck := by with_unfolding_all exact nrfl rfl
@[simp] theorem a_fdvI (i j : Int) : binM .fdv (.int i) (.int j) m = if 0 < j ∧ j.natAbs.log2 < 9000 then .ok (.int (i / j)) m else .stuck := by with_unfolding_all exact nrfl rfl
@[simp] theorem a_powI (i j : Int) : binM .pow (.int i) (.int j) m = if 0 ≤ j ∧ j ≤ 1000000 ∧ i.natAbs < 2 ^ 64 then .ok (.int (i ^ j.toNat)) m else .stuck := by with_unfolding_all exact nrfl rfl
@[simp] theorem a_addS (x y : List Char) : binM .add (.str x) (.str y) m = if x.length + y.length ≤ 16777216 then .ok (.str (x ++ y)) m else .stuck := by simp only [binM, addM, sizeLine_eq]
@[simp] theorem a_addT (x y : List D) : binM .add (.tup x) (.tup y) m = if x.length + y.length ≤ 16777216 then .ok (.tup (x ++ y)) m else .stuck := by simp only [binM, addM, catM, sizeLine_eq]
@[simp] theorem a_addL (x y : List D) : binM .add (.lst x) (.lst y) m = if x.length + y.length ≤ 16777216 then .ok (.lst (x ++ y)) m else .stuck := by simp only [binM, addM, catM, readL, sizeLine_eq]
theorem a_addOL {n : Nat} {x y : List D} (h : m[n]? = some (.lst x)) : binM .add (.obj n) (.lst y) m = if x.length + y.length ≤ 16777216 then .ok (.lst (x ++ y)) m else .stuck := by simp only [binM, addM, catM, readL, h, sizeLine_eq]
theorem a_addLO {n : Nat} {x y : List D} (h : m[n]? = some (.lst y)) : binM .add (.lst x) (.obj n) m = if x.length + y.length ≤ 16777216 then .ok (.lst (x ++ y)) m else .stuck := by simp only [binM, addM, catM, readL, h, sizeLine_eq]
@[simp] theorem a_negI (i : Int) : negM (.int i) m = .ok (.int (-i)) m := by with_unfolding_all exact nrfl rfl
@[simp] theorem a_bl (b : Bool) : blM (.bl b) m = .ok b m := by with_unfolding_all exact nrfl rfl
@[simp] theorem a_intO (i : Int) : intO (.int i) m = .ok (some i) m := by with_unfolding_all exact nrfl rfl
@[simp] theorem a_augI (i j : Int) : augM .add (.int i) (.int j) m = .ok (.int (i + j)) m := by with_unfolding_all exact nrfl rfl
@[simp] theorem a_augSI (i j : Int) : augM .sub (.int i) (.int j) m = .ok (.int (i - j)) m := by with_unfolding_all exact nrfl rfl
@[simp] theorem a_augS (x y : List Char) : augM .add (.str x) (.str y) m = if x.length + y.length ≤ 16777216 then .ok (.str (x ++ y)) m else .stuck := by simp only [augM, sizeLine_eq]
/-! ### truth -/
@[simp] theorem a_truB (b : Bool) : truM (.bl b) m = .ok b m := by with_unfolding_all exact nrfl rfl
@[simp] theorem a_truN : truM .non m = .ok false m := by with_unfolding_all exact nrfl rfl
@[simp] theorem a_truI (i : Int) : truM (.int i) m = .ok (i != 0) m := by with_unfolding_all exact nrfl rfl
@[simp] theorem a_truS (x : List Char) : truM (.str x) m = .ok (!x.isEmpty) m := by with_unfolding_all exact nrfl rfl
@[simp] theorem a_truL (x : List D) : truM (.lst x) m = .ok (!x.isEmpty) m := by with_unfolding_all exact nrfl rfl
@[simp] theorem a_truT (x : List D) : truM (.tup x) m = .ok (!x.isEmpty) m := by with_unfolding_all exact nrfl rfl
/-! ### comparison -/
@[simp] theorem c_lt (i j : Int) : cmpM .lt (.int i) (.int j) m = .ok (decide (i < j)) m := by with_unfolding_all exact nrfl rfl
@[simp] theorem c_le (i j : Int) : cmpM .le (.int i) (.int j) m = .ok (decide (i ≤ j)) m := by with_unfolding_all exact nrfl rfl
@[simp] theorem c_gt (i j : Int) : cmpM .gt (.int i) (.int j) m = .ok (decide (j < i)) m := by with_unfolding_all exact nrfl rfl
@[simp] theorem c_ge (i j : Int) : cmpM .ge (.int i) (.int j) m = .ok (decide (j ≤ i)) m := by with_unfolding_all exact nrfl rfl
@[simp] theorem c_ltS (i j : List Char) : cmpM .lt (.str i) (.str j) m = .ok (ltT i j) m := by with_unfolding_all exact nrfl rfl
@[simp] theorem c_leS (i j : List Char) : cmpM .le (.str i) (.str j) m = .ok (!ltT j i) m := by with_unfolding_all exact nrfl rfl
@[simp] theorem c_isN (a : D) : cmpM .is a .non m = .ok (isNonD a) m := rfl
@[simp] theorem c_isntN (a : D) : cmpM .isnt a .non m = .ok (!isNonD a) m := rfl
@[simp] theorem isNonD_non : isNonD .non = true := rfl
@[simp] theorem isNonD_bl (b : Bool) : isNonD (.bl b) = false := rfl
@[simp] theorem isNonD_int (b : Int) : isNonD (.int b) = false := rfl
@[simp] theorem isNonD_str (b : List Char) : isNonD (.str b) = false := rfl
@[simp] theorem isNonD_lst (b : List D) : isNonD (.lst b) = false := rfl
@[simp] theorem isNonD_tup (b : List D) : isNonD (.tup b) = false := rfl
@[simp] theorem isNonD_ins (c : Nat) (ks : List Nat) (vs : List D) : isNonD (.ins c ks vs) = false := rfl
@[simp] theorem isNonD_obj (n : Nat) : isNonD (.obj n) = false := rfl
/-- plain data of little depth -/
def pd (d : D) : Prop := plain d = true ∧ dep d ≤ 64
theorem c_eq {a b : D} (ha : pd a) (hb : pd b) : cmpM .eq a b m = .ok (eqD a b) m := by
  have da : deref m a = a := by cases a <;> first | rfl | (have := ha.1; simp [plain] at this)
  have db : deref m b = b := by cases b <;> first | rfl | (have := hb.1; simp [plain] at this)
  simp only [cmpM, eqM, da, db, ha.1, ha.2, hb.1, hb.2, and_self, if_true]
theorem c_ne {a b : D} (ha : pd a) (hb : pd b) : cmpM .ne a b m = .ok (!eqD a b) m := by
  have h : eqM a b m = .ok (eqD a b) m := c_eq ha hb
  simp only [cmpM, h]
@[simp] theorem c_eqI (i j : Int) : cmpM .eq (.int i) (.int j) m = .ok (i == j) m := by rw [c_eq ⟨rfl, by simp [dep]⟩ ⟨rfl, by simp [dep]⟩]; simp only [eqD]
@[simp] theorem c_neI (i j : Int) : cmpM .ne (.int i) (.int j) m = .ok (!(i == j)) m := by rw [c_ne ⟨rfl, by simp [dep]⟩ ⟨rfl, by simp [dep]⟩]; simp only [eqD]
@[simp] theorem c_eqS (i j : List Char) : cmpM .eq (.str i) (.str j) m = .ok (i == j) m := by rw [c_eq ⟨rfl, by simp [dep]⟩ ⟨rfl, by simp [dep]⟩]; simp only [eqD]
@[simp] theorem c_neS (i j : List Char) : cmpM .ne (.str i) (.str j) m = .ok (!(i == j)) m := by rw [c_ne ⟨rfl, by simp [dep]⟩ ⟨rfl, by simp [dep]⟩]; simp only [eqD]
@[simp] theorem c_eqB (i j : Bool) : cmpM .eq (.bl i) (.bl j) m = .ok (i == j) m := by rw [c_eq ⟨rfl, by simp [dep]⟩ ⟨rfl, by simp [dep]⟩]; simp only [eqD]
@[simp] theorem c_neB (i j : Bool) : cmpM .ne (.bl i) (.bl j) m = .ok (!(i == j)) m := by rw [c_ne ⟨rfl, by simp [dep]⟩ ⟨rfl, by simp [dep]⟩]; simp only [eqD]
@[simp] theorem c_inS (c : Char) (y : List Char) : cmpM .in_ (.str [c]) (.str y) m = .ok (decide (c ∈ y)) m := by with_unfolding_all exact nrfl rfl
@[simp] theorem c_ninS (c : Char) (y : List Char) : cmpM .nin (.str [c]) (.str y) m = .ok (!decide (c ∈ y)) m := by with_unfolding_all exact nrfl rfl
theorem c_inL {a : D} {ds : List D} (ha : pd a) (hd : plains ds = true ∧ deps ds < 64) : cmpM .in_ a (.lst ds) m = .ok (ds.any fun e => eqD e a) m := by
  simp only [cmpM, inM, readL, ha.1, ha.2, hd.1, hd.2, and_self, if_true]
theorem c_ninL {a : D} {ds : List D} (ha : pd a) (hd : plains ds = true ∧ deps ds < 64) : cmpM .nin a (.lst ds) m = .ok (!(ds.any fun e => eqD e a)) m := by
  simp only [cmpM, inM, readL, ha.1, ha.2, hd.1, hd.2, and_self, if_true]
theorem c_inO {n : Nat} {a : D} {ds : List D} (hm : m[n]? = some (.lst ds)) (ha : pd a) (hd : plains ds = true ∧ deps ds < 64) : cmpM .in_ a (.obj n) m = .ok (ds.any fun e => eqD e a) m := by
  simp only [cmpM, inM, readL, hm, ha.1, ha.2, hd.1, hd.2, and_self, if_true]
theorem c_ninO {n : Nat} {a : D} {ds : List D} (hm : m[n]? = some (.lst ds)) (ha : pd a) (hd : plains ds = true ∧ deps ds < 64) : cmpM .nin a (.obj n) m = .ok (!(ds.any fun e => eqD e a)) m := by
  simp only [cmpM, inM, readL, hm, ha.1, ha.2, hd.1, hd.2, and_self, if_true]
theorem c_inT {a : D} {ds : List D} (ha : flatD a = true) (hd : ds.all flatD = true) : cmpM .in_ a (.tup ds) m = .ok (ds.any fun e => eqD e a) m := by
  simp only [cmpM, inM, ha, hd, and_self, if_true]
theorem c_ninT {a : D} {ds : List D} (ha : flatD a = true) (hd : ds.all flatD = true) : cmpM .nin a (.tup ds) m = .ok (!(ds.any fun e => eqD e a)) m := by
  simp only [cmpM, inM, ha, hd, and_self, if_true]
/-! ### items -/
@[simp] theorem x_idxT (ds : List D) (i : Int) : idxM (.tup ds) (.int i) m = (match atI ds i with
    | some d => .ok d m
    | none => .stuck) := rfl
@[simp] theorem x_idxL (ds : List D) (i : Int) : idxM (.lst ds) (.int i) m = (match atI ds i with
    | some d => .ok d m
    | none => .stuck) := rfl
@[simp] theorem x_idxS (x : List Char) (i : Int) : idxM (.str x) (.int i) m = (match atI x i with
    | some c => .ok (.str [c]) m
    | none => .stuck) := rfl
theorem x_idxO {n : Nat} {ds : List D} {i : Int} (h : m[n]? = some (.lst ds)) : idxM (.obj n) (.int i) m = (match atI ds i with
    | some d => .ok d m
    | none => .stuck) := by simp only [idxM, readQ, readL, h] <;> rfl
@[simp] theorem x_slcS (x : List Char) (l h : Option Int) : slcM (.str x) l h m = .ok (.str (cutL x l h)) m := by with_unfolding_all exact nrfl rfl
@[simp] theorem x_slcT (x : List D) (l h : Option Int) : slcM (.tup x) l h m = .ok (.tup (cutL x l h)) m := by with_unfolding_all exact nrfl rfl
@[simp] theorem x_slcL (x : List D) (l h : Option Int) : slcM (.lst x) l h m = .ok (.lst (cutL x l h)) m := by with_unfolding_all exact nrfl rfl
theorem x_slcO {n : Nat} {ds : List D} {l h : Option Int} (hm : m[n]? = some (.lst ds)) : slcM (.obj n) l h m = .ok (.lst (cutL ds l h)) m := by simp only [slcM, readL, hm]
@[simp] theorem atI_0 {α : Type} (x : α) (l : List α) : atI (x :: l) 0 = some x := by simp [atI, ixN]
@[simp] theorem atI_1 {α : Type} (x y : α) (l : List α) : atI (x :: y :: l) 1 = some y := atI_nat' (by decide) rfl
@[simp] theorem atI_2 {α : Type} (x y z : α) (l : List α) : atI (x :: y :: z :: l) 2 = some z := atI_nat' (by decide) rfl
@[simp] theorem atI_3 {α : Type} (x y z u : α) (l : List α) : atI (x :: y :: z :: u :: l) 3 = some u := atI_nat' (by decide) rfl
theorem atI_get {α : Type} {l : List α} {i : Int} (h0 : 0 ≤ i) (h1 : i < l.length) : atI l i = some (l[i.toNat]'(by omega)) := by
  refine atI_nat' h0 ?_
  simp
theorem atI_nat {α : Type} {l : List α} {i : Nat} (h1 : i < l.length) : atI l (i : Int) = some l[i] := by
  rw [atI_get (by omega) (by omega)]; rfl
/-! ### walked -/
@[simp] theorem j_str (x : List Char) : itmM (.str x) m = .ok ⟨x.map fun c => .str [c], none⟩ m := by with_unfolding_all exact nrfl rfl
@[simp] theorem j_lst (x : List D) : itmM (.lst x) m = .ok ⟨x, none⟩ m := by with_unfolding_all exact nrfl rfl
@[simp] theorem j_tup (x : List D) : itmM (.tup x) m = .ok ⟨x, none⟩ m := by with_unfolding_all exact nrfl rfl
@[simp] theorem j_frz (x : List D) : itmM (.frz x) m = .ok ⟨x, none⟩ m := by with_unfolding_all exact nrfl rfl
theorem j_obj {n : Nat} {ds : List D} (h : m[n]? = some (.lst ds)) : itmM (.obj n) m = .ok ⟨ds, some (n, ds)⟩ m := by simp only [itmM, h]
@[simp] theorem j_enm (x : List D) : enmM (.lst x) m = .ok ⟨enL 0 x, none⟩ m := by with_unfolding_all exact nrfl rfl
@[simp] theorem j_enmT (x : List D) : enmM (.tup x) m = .ok ⟨enL 0 x, none⟩ m := by with_unfolding_all exact nrfl rfl
@[simp] theorem j_enmS (x : List Char) : enmM (.str x) m = .ok ⟨enL 0 (x.map fun c => .str [c]), none⟩ m := by with_unfolding_all exact nrfl rfl
theorem j_enmO {n : Nat} {ds : List D} (h : m[n]? = some (.lst ds)) : enmM (.obj n) m = .ok ⟨enL 0 ds, some (n, ds)⟩ m := by simp only [enmM, h]
@[simp] theorem j_zipL (x y : List D) : zipM (.lst x) (.lst y) m = .ok ⟨(x.zip y).map fun p => .tup [p.1, p.2], none⟩ m := by with_unfolding_all exact nrfl rfl
@[simp] theorem j_zipT (x y : List D) : zipM (.tup x) (.tup y) m = .ok ⟨(x.zip y).map fun p => .tup [p.1, p.2], none⟩ m := by with_unfolding_all exact nrfl rfl
@[simp] theorem j_rng (j : Int) : rng1M (.int j) m = if -(2 ^ 62) ≤ j ∧ j < 2 ^ 62 ∧ j.toNat ≤ 16777216 then .ok ⟨(List.range j.toNat).map fun (i : Nat) => .int i, none⟩ m else .stuck := by
  simp only [rng1M, rngL, sizeLine_eq, Int.zero_add]
@[simp] theorem j_rng2 (i j : Int) : rng2M (.int i) (.int j) m = if -(2 ^ 62) ≤ i ∧ i < 2 ^ 62 ∧ -(2 ^ 62) ≤ j ∧ j < 2 ^ 62 ∧ (j - i).toNat ≤ 16777216 then .ok ⟨rngL i (j - i).toNat, none⟩ m else .stuck := by simp only [rng2M, sizeLine_eq]
/-! ### built-ins -/
@[simp] theorem b_lenS (x : List Char) : lenM (.str x) m = .ok (.int x.length) m := by with_unfolding_all exact nrfl rfl
@[simp] theorem b_lenL (x : List D) : lenM (.lst x) m = .ok (.int x.length) m := by with_unfolding_all exact nrfl rfl
@[simp] theorem b_lenT (x : List D) : lenM (.tup x) m = .ok (.int x.length) m := by with_unfolding_all exact nrfl rfl
theorem b_lenO {n : Nat} {x : List D} (h : m[n]? = some (.lst x)) : lenM (.obj n) m = .ok (.int x.length) m := by simp only [lenM, readQ, readL, h]
@[simp] theorem b_list (x : List D) : listM (.lst x) m = .ok (.lst x) m := by with_unfolding_all exact nrfl rfl
@[simp] theorem b_listT (x : List D) : listM (.tup x) m = .ok (.lst x) m := by with_unfolding_all exact nrfl rfl
@[simp] theorem b_listS (x : List Char) : listM (.str x) m = .ok (.lst (x.map fun c => .str [c])) m := by with_unfolding_all exact nrfl rfl
@[simp] theorem b_listN (x : List D) : listNM (.lst x) m = .ok (.obj m.length) (m ++ [.lst x]) := by with_unfolding_all exact nrfl rfl
@[simp] theorem b_listNT (x : List D) : listNM (.tup x) m = .ok (.obj m.length) (m ++ [.lst x]) := by with_unfolding_all exact nrfl rfl
@[simp] theorem b_tuple (x : List D) : tupleM (.lst x) m = .ok (.tup x) m := by with_unfolding_all exact nrfl rfl
@[simp] theorem b_tupleT (x : List D) : tupleM (.tup x) m = .ok (.tup x) m := by with_unfolding_all exact nrfl rfl
theorem b_tupleO {n : Nat} {x : List D} (h : m[n]? = some (.lst x)) : tupleM (.obj n) m = .ok (.tup x) m := by simp only [tupleM, readL, h]
@[simp] theorem b_int (x : Int) : intM (.int x) m = .ok (.int x) m := by with_unfolding_all exact nrfl rfl
@[simp] theorem b_strI (i : Int) : strM (.int i) m = if i.natAbs.log2 < 1920 ∧ (strI i).length ≤ 16777216 then .ok (.str (strI i)) m else .stuck := by simp only [strM, sizeLine_eq]
@[simp] theorem b_strS (x : List Char) : strM (.str x) m = .ok (.str x) m := by with_unfolding_all exact nrfl rfl
@[simp] theorem b_fmtI (i : Int) : fmtM (.int i) m = if i.natAbs.log2 < 1920 ∧ (strI i).length ≤ 1000 then .ok (.str (strI i)) m else .stuck := by with_unfolding_all exact nrfl rfl
@[simp] theorem b_fmtS (x : List Char) : fmtM (.str x) m = if x.length ≤ 1000 then .ok (.str x) m else .stuck := by with_unfolding_all exact nrfl rfl
@[simp] theorem b_rev (x : List D) : revM (.lst x) m = .ok (.lst x.reverse) m := by with_unfolding_all exact nrfl rfl
@[simp] theorem b_append (n : Nat) (e : D) : appendM (.obj n) e m = (match m[n]? with
    | some (.lst ds) => if ds.length < 16777216 then .ok .non (m.set n (.lst (ds ++ [e]))) else .stuck
    | _ => .stuck) := by simp only [appendM, sizeLine_eq] <;> rfl
@[simp] theorem b_insert (n : Nat) (i : Int) (e : D) : insertM (.obj n) (.int i) e m = (match m[n]? with
    | some (.lst ds) => if ds.length < 16777216 ∧ 0 ≤ i ∧ i < 2 ^ 63 then .ok .non (m.set n (.lst (ds.take i.toNat ++ [e] ++ ds.drop i.toNat))) else .stuck
    | _ => .stuck) := by simp only [insertM, sizeLine_eq] <;> rfl
@[simp] theorem b_clear (n : Nat) : clearM (.obj n) m = (match m[n]? with
    | some (.lst _) => .ok .non (m.set n (.lst []))
    | _ => .stuck) := rfl
@[simp] theorem isStrD_str (x : List Char) : isStrD m (.str x) = true := by with_unfolding_all exact nrfl rfl
@[simp] theorem isLst_obj (n : Nat) : isLst m (.obj n) = (match m[n]? with
    | some (.lst _) => true
    | _ => false) := rfl
@[simp] theorem isIns_ins (c j c' : Nat) (ks : List Nat) (vs : List D) : isIns c j m (.ins c' ks vs) = (decide (c' = c) && decide (j ∉ ks)) := by with_unfolding_all exact nrfl rfl
@[simp] theorem isIns_obj (c j n : Nat) : isIns c j m (.obj n) = (match insOf m (.obj n) with
    | some (c', ks, _) => decide (c' = c) && decide (j ∉ ks)
    | none => false) := rfl
@[simp] theorem insOf_ins (c : Nat) (ks : List Nat) (vs : List D) : insOf m (.ins c ks vs) = some (c, ks, vs) := by with_unfolding_all exact nrfl rfl
theorem insOf_obj {n c : Nat} {ks : List Nat} {vs : List D} (h : m[n]? = some (.ins c ks vs)) : insOf m (.obj n) = some (c, ks, vs) := by simp only [insOf, h]
theorem insOf_objL {n : Nat} {vs : List D} (h : m[n]? = some (.lst vs)) : insOf m (.obj n) = none := by simp only [insOf, h]
@[simp] theorem insOf_lst (x : List D) : insOf m (.lst x) = none := by with_unfolding_all exact nrfl rfl
@[simp] theorem insOf_tup (x : List D) : insOf m (.tup x) = none := by with_unfolding_all exact nrfl rfl
@[simp] theorem insOf_str (x : List Char) : insOf m (.str x) = none := by with_unfolding_all exact nrfl rfl
@[simp] theorem insOf_int (x : Int) : insOf m (.int x) = none := by with_unfolding_all exact nrfl rfl
@[simp] theorem insOf_bl (x : Bool) : insOf m (.bl x) = none := by with_unfolding_all exact nrfl rfl
@[simp] theorem insOf_non : insOf m .non = none := by with_unfolding_all exact nrfl rfl
@[simp] theorem x_fldI (cs : List Nat) (j c : Nat) (ks : List Nat) (vs : List D) : fldM cs j (.ins c ks vs) m = if c ∈ cs then (match fldD j ks vs with
    | some x => .ok x m
    | none => .stuck) else .stuck := rfl
@[simp] theorem x_fldO' (cs : List Nat) (j n : Nat) : fldM cs j (.obj n) m = (match m[n]? with
    | some (.ins c ks vs) => if c ∈ cs then (match fldD j ks vs with
      | some x => .ok x m
      | none => .stuck) else .stuck
    | _ => .stuck) := by
  simp only [fldM, insOf]
  cases m[n]? with
  | none => rfl
  | some c => cases c <;> rfl
theorem x_fldO {cs : List Nat} {j n c : Nat} {ks : List Nat} {vs : List D} (h : m[n]? = some (.ins c ks vs)) : fldM cs j (.obj n) m = if c ∈ cs then (match fldD j ks vs with
    | some x => .ok x m
    | none => .stuck) else .stuck := by simp only [fldM, insOf, h] <;> rfl
@[simp] theorem x_setFld (cs : List Nat) (j n : Nat) (e : D) : setFldM cs j (.obj n) e m = (match m[n]? with
    | some (.ins c ks vs) => if c ∈ cs ∧ ks.length < 1000 then .ok () (m.set n (.ins c (putFD j e ks vs).1 (putFD j e ks vs).2)) else .stuck
    | _ => .stuck) := rfl
@[simp] theorem fldD_cons (j k : Nat) (ks : List Nat) (v : D) (vs : List D) : fldD j (k :: ks) (v :: vs) = if k = j then some v else fldD j ks vs := by with_unfolding_all exact nrfl rfl
@[simp] theorem fldD_nil (j : Nat) (vs : List D) : fldD j [] vs = none := by with_unfolding_all exact nrfl rfl
@[simp] theorem putFD_cons (j : Nat) (e : D) (k : Nat) (ks : List Nat) (v : D) (vs : List D) : putFD j e (k :: ks) (v :: vs) = if k = j then (k :: ks, e :: vs) else (k :: (putFD j e ks vs).1, v :: (putFD j e ks vs).2) := by with_unfolding_all exact nrfl rfl
@[simp] theorem putFD_nil (j : Nat) (e : D) : putFD j e [] [] = ([j], [e]) := by with_unfolding_all exact nrfl rfl
@[simp] theorem x_frzO (n : Nat) : frzM (.obj n) m = (match m[n]? with
    | some (.lst ds) => .ok (.lst ds) (m.set n .dead)
    | some (.dct t ks vs) => .ok (.dct t ks vs) (m.set n .dead)
    | some (.ins c ks vs) => .ok (.ins c ks vs) (m.set n .dead)
    | _ => .stuck) := rfl
@[simp] theorem x_frzL (x : List D) : frzM (.lst x) m = .ok (.lst x) m := by with_unfolding_all exact nrfl rfl
@[simp] theorem x_frzT (x : List D) : frzM (.tup x) m = .ok (.tup x) m := by with_unfolding_all exact nrfl rfl
@[simp] theorem x_frzS (x : List Char) : frzM (.str x) m = .ok (.str x) m := by with_unfolding_all exact nrfl rfl
@[simp] theorem x_frzI (x : Int) : frzM (.int x) m = .ok (.int x) m := by with_unfolding_all exact nrfl rfl
@[simp] theorem x_frzB (x : Bool) : frzM (.bl x) m = .ok (.bl x) m := by with_unfolding_all exact nrfl rfl
@[simp] theorem x_frzN : frzM .non m = .ok .non m := by with_unfolding_all exact nrfl rfl
@[simp] theorem x_frzIns (c : Nat) (ks : List Nat) (vs : List D) : frzM (.ins c ks vs) m = .ok (.ins c ks vs) m := by with_unfolding_all exact nrfl rfl
/-! ### isinstance -/
@[simp] theorem isiB_b (T t : BT) : isiB T (.b t) = (decide (t = T) || (decide (t = .bool) && decide (T = .int))) := rfl
@[simp] theorem isiB_non (T : BT) : isiB T .non = false := rfl
@[simp] theorem s_non (cs : List Nat) (T : BT) : isiM cs T .non m = .ok (.bl false) m := by with_unfolding_all exact nrfl rfl
@[simp] theorem s_bl (cs : List Nat) (T : BT) (b : Bool) : isiM cs T (.bl b) m = .ok (.bl (isiB T (.b .bool))) m := rfl
@[simp] theorem s_int (cs : List Nat) (T : BT) (b : Int) : isiM cs T (.int b) m = .ok (.bl (isiB T (.b .int))) m := rfl
@[simp] theorem s_str (cs : List Nat) (T : BT) (b : List Char) : isiM cs T (.str b) m = .ok (.bl (isiB T (.b .str))) m := rfl
@[simp] theorem s_lst (cs : List Nat) (T : BT) (b : List D) : isiM cs T (.lst b) m = .ok (.bl (isiB T (.b .list))) m := rfl
@[simp] theorem s_tup (cs : List Nat) (T : BT) (b : List D) : isiM cs T (.tup b) m = .ok (.bl (isiB T (.b .tuple))) m := rfl
@[simp] theorem s_ins (cs : List Nat) (T : BT) (c : Nat) (ks : List Nat) (vs : List D) : isiM cs T (.ins c ks vs) m = if c ∈ cs then .ok (.bl false) m else .stuck := by with_unfolding_all exact nrfl rfl
theorem s_objL {cs : List Nat} {T : BT} {n : Nat} {x : List D} (h : m[n]? = some (.lst x)) : isiM cs T (.obj n) m = .ok (.bl (isiB T (.b .list))) m := by simp only [isiM, dty, h]
@[simp] theorem k_non (cs : List (Nat × Bool)) : isiC cs .non m = .ok (.bl false) m := by with_unfolding_all exact nrfl rfl
@[simp] theorem k_bl (cs : List (Nat × Bool)) (b : Bool) : isiC cs (.bl b) m = .ok (.bl false) m := by with_unfolding_all exact nrfl rfl
@[simp] theorem k_int (cs : List (Nat × Bool)) (b : Int) : isiC cs (.int b) m = .ok (.bl false) m := by with_unfolding_all exact nrfl rfl
@[simp] theorem k_str (cs : List (Nat × Bool)) (b : List Char) : isiC cs (.str b) m = .ok (.bl false) m := by with_unfolding_all exact nrfl rfl
@[simp] theorem k_lst (cs : List (Nat × Bool)) (b : List D) : isiC cs (.lst b) m = .ok (.bl false) m := by with_unfolding_all exact nrfl rfl
@[simp] theorem k_tup (cs : List (Nat × Bool)) (b : List D) : isiC cs (.tup b) m = .ok (.bl false) m := by with_unfolding_all exact nrfl rfl
@[simp] theorem k_ins (cs : List (Nat × Bool)) (c : Nat) (ks : List Nat) (vs : List D) : isiC cs (.ins c ks vs) m = (match cs.lookup c with
    | some b => .ok (.bl b) m
    | none => .stuck) := rfl
/-! ### all, any, join, sorted of known lists -/
@[simp] theorem blsO_bl {α : Type} (f : α → Bool) (l : List α) : blsO (l.map fun x => D.bl (f x)) = some (l.map f) := blsO_map f l
@[simp] theorem blsO_nil : blsO [] = some [] := by with_unfolding_all exact nrfl rfl
@[simp] theorem blsO_cons (b : Bool) (l : List D) : blsO (.bl b :: l) = (blsO l).map (b :: ·) := by with_unfolding_all exact nrfl rfl
@[simp] theorem b_allL (l : List D) : allM (.lst l) m = (match blsO l with
    | some bs => .ok (.bl (bs.all id)) m
    | none => .stuck) := rfl
@[simp] theorem b_anyL (l : List D) : anyM (.lst l) m = (match blsO l with
    | some bs => .ok (.bl (bs.any id)) m
    | none => .stuck) := rfl
theorem intsO_map {α : Type} (f : α → Int) : ∀ l : List α, intsO (l.map fun x => D.int (f x)) = some (l.map f)
  | [] => rfl
  | x :: l => by simp only [List.map_cons, intsO, intsO_map f l]; rfl
@[simp] theorem b_sortSet {α : Type} (f : α → Int) (l : List α) : sortSetM (.lst (l.map fun x => D.int (f x))) m = if l.length < 64 then .ok (.lst ((sortSet (l.map f)).map .int)) m else .stuck := by
  simp only [sortSetM, readL, intsO_map, List.length_map]
@[simp] theorem b_sortSetI (l : List Int) : sortSetM (.lst (l.map D.int)) m = if l.length < 64 then .ok (.lst ((sortSet l).map .int)) m else .stuck := by
  have := b_sortSet (m := m) (fun x : Int => x) l
  simpa using this
@[simp] theorem b_sorted {α : Type} (f : α → Int) (l : List α) : sortedM (.lst (l.map fun x => D.int (f x))) m = .ok (.lst ((sortI (l.map f)).map .int)) m := by
  simp only [sortedM, readL, intsO_map]
@[simp] theorem b_sortedI (l : List Int) : sortedM (.lst (l.map D.int)) m = .ok (.lst ((sortI l).map .int)) m := by
  have := b_sorted (m := m) (fun x : Int => x) l
  simpa using this
@[simp] theorem catL_nil (acc : List Char) : catL acc [] = some acc := rfl
@[simp] theorem catL_cons (acc x : List Char) (l : List D) : catL acc (.str x :: l) = catL (acc ++ x) l := rfl
@[simp] theorem joinS_ap (l : List D) : joinS l m = (match catL [] l with
    | some x => .ok (.str x) m
    | none => .stuck) := rfl
theorem strsO_mapS : ∀ l : List (List Char), strsO (l.map D.str) = some l
  | [] => rfl
  | x :: l => by simp only [List.map_cons, strsO, strsO_mapS l]; rfl
theorem glue_flat : ∀ l : List (List Char), glue [] l = l.flatten
  | [] => rfl
  | [x] => by simp [glue]
  | x :: y :: l => by
    have := glue_flat (y :: l)
    simp only [glue, this, List.flatten_cons, List.append_nil, List.append_assoc]
/-- ''.join -/
@[simp] theorem b_join0 (l : List (List Char)) : joinM (.str []) (.lst (l.map D.str)) m = if l.flatten.length ≤ 1000000 then .ok (.str l.flatten) m else .stuck := by
  simp only [joinM, readQ, readL, strsO_mapS, glue_flat, List.length_flatten, List.length_nil, Nat.mul_zero, Nat.add_zero]
end
end Fs

/-! FpC: stores that grow; sequences by what they hold; keys of dicts. -/
namespace Fs
open PySem PySem.Spec PyProof.Rows L2
open Classical
@[simp] theorem get_set (m : Store) (n : Nat) (c : Cell) : (m.set n c)[n]? = if (m[n]?).isSome = true then some c else none := by
  by_cases h : n < m.length
  · simp [h]
  · rw [List.getElem?_eq_none (by simp; omega), List.getElem?_eq_none (by omega)]; rfl
structure Ext (m m' : Store) : Prop where
  len : m.length ≤ m'.length
  same : ∀ i, i < m.length → m'[i]? = m[i]?
theorem Ext.refl (m : Store) : Ext m m := ⟨Nat.le_refl _, fun _ _ => rfl⟩
theorem Ext.trans {m m1 m2 : Store} (a : Ext m m1) (b : Ext m1 m2) : Ext m m2 := ⟨Nat.le_trans a.len b.len, fun i h => (b.same i (Nat.lt_of_lt_of_le h a.len)).trans (a.same i h)⟩
theorem Ext.app {m m1 : Store} (a : Ext m m1) (c : List Cell) : Ext m (m1 ++ c) := ⟨by have := a.len; simp; omega, fun i h => by rw [List.getElem?_append_left (Nat.lt_of_lt_of_le h a.len)]; exact a.same i h⟩
theorem Ext.set {m m1 : Store} (a : Ext m m1) {n : Nat} (h : m.length ≤ n) (c : Cell) : Ext m (m1.set n c) := ⟨by have := a.len; simpa using this, fun i hi => by rw [List.getElem?_set_ne (by omega)]; exact a.same i hi⟩
theorem Ext.get {m m' : Store} (e : Ext m m') {n : Nat} {c : Cell} (h : m[n]? = some c) : m'[n]? = some c := by
  have : n < m.length := by
    rcases Nat.lt_or_ge n m.length with z | z
    · exact z
    · rw [List.getElem?_eq_none z] at h; cases h
  rw [e.same n this]; exact h
theorem lt_of_get {m : Store} {n : Nat} {c : Cell} (h : m[n]? = some c) : n < m.length := by
  rcases Nat.lt_or_ge n m.length with z | z
  · exact z
  · rw [List.getElem?_eq_none z] at h; cases h
theorem BagAt.ext {m m' : Store} {n : Nat} (b : BagAt m n) (e : Ext m m') : BagAt m' n := by
  obtain ⟨l, h, q⟩ := b
  exact ⟨l, e.get h, q⟩
theorem Sim.ext {n : Nat} {m m' : Store} (b : BagAt m n) (e : Ext m m') : Sim n m m' := ⟨b.ext e, e.len, fun i _ h => e.same i h⟩
theorem Sim.get {n : Nat} {m m' : Store} (s : Sim n m m') {i : Nat} {c : Cell} (hi : i ≠ n) (h : m[i]? = some c) : m'[i]? = some c := by
  rw [s.same i hi (lt_of_get h)]; exact h
theorem Sim.set' {n k : Nat} {m m1 : Store} (s : Sim n m m1) (h : m.length ≤ k) (hk : k ≠ n) (c : Cell) : Sim n m (m1.set k c) := by
  refine ⟨?_, by have := s.len; simpa using this, fun i hi hl => by rw [List.getElem?_set_ne (by omega)]; exact s.same i hi hl⟩
  obtain ⟨l, e, q⟩ := s.bag
  exact ⟨l, by rw [List.getElem?_set_ne hk]; exact e, q⟩
theorem Sim.app {n : Nat} {m m1 : Store} (s : Sim n m m1) (c : List Cell) : Sim n m (m1 ++ c) := s.trans (Sim.ext s.bag ((Ext.refl m1).app c))
theorem readL_ext {m m' : Store} (e : Ext m m') {d : D} {ds : List D} (h : readL m d = some ds) : readL m' d = some ds := by
  cases d with
  | obj n =>
    simp only [readL] at h ⊢
    split at h
    · rename_i l hm; rw [e.get hm]; exact h
    · cases h
  | lst l => exact h
  | _ => cases h
theorem readQ_ext {m m' : Store} (e : Ext m m') {d : D} {ds : List D} (h : readQ m d = some ds) : readQ m' d = some ds := by
  cases d with
  | tup l => exact h
  | wtp l => exact h
  | lst l => exact h
  | obj n => exact readL_ext (d := .obj n) e (show readL m (.obj n) = some ds from h)
  | _ => cases h
/-- a sequence walked -/
theorem itm_seq {m : Store} {d : D} {ds : List D} (h : readQ m d = some ds) : ∃ lk, (∀ m', Ext m m' → itmM d m' = .ok ⟨ds, lk⟩ m') ∧ ∀ (xs : List D) (m' : Store), Ext m m' → Itm.ok ⟨xs, lk⟩ m' := by
  cases d with
  | tup l => cases h; exact ⟨none, fun _ _ => rfl, fun _ _ _ => trivial⟩
  | wtp l => cases h; exact ⟨none, fun _ _ => rfl, fun _ _ _ => trivial⟩
  | lst l => cases h; exact ⟨none, fun _ _ => rfl, fun _ _ _ => trivial⟩
  | obj n =>
    simp only [readQ, readL] at h
    split at h
    · rename_i l hm
      cases h
      exact ⟨some (n, ds), fun m' e => by simp only [itmM, e.get hm], fun xs m' e => e.get hm⟩
    · cases h
  | _ => cases h
theorem enm_seq {m : Store} {d : D} {ds : List D} (h : readQ m d = some ds) : ∃ lk, (∀ m', Ext m m' → enmM d m' = .ok ⟨enL 0 ds, lk⟩ m') ∧ ∀ (xs : List D) (m' : Store), Ext m m' → Itm.ok ⟨xs, lk⟩ m' := by
  cases d with
  | tup l => cases h; exact ⟨none, fun _ _ => rfl, fun _ _ _ => trivial⟩
  | wtp l => cases h; exact ⟨none, fun _ _ => rfl, fun _ _ _ => trivial⟩
  | lst l => cases h; exact ⟨none, fun _ _ => rfl, fun _ _ _ => trivial⟩
  | obj n =>
    simp only [readQ, readL] at h
    split at h
    · rename_i l hm
      cases h
      exact ⟨some (n, ds), fun m' e => by simp only [enmM, e.get hm], fun xs m' e => e.get hm⟩
    · cases h
  | _ => cases h
theorem tuple_seq {m : Store} {d : D} {ds : List D} (h : readQ m d = some ds) (hw : ∀ l, d ≠ .wtp l) : tupleM d m = .ok (.tup ds) m := by
  cases d with
  | tup l => cases h; rfl
  | wtp l => exact absurd rfl (hw l)
  | lst l => cases h; rfl
  | obj n => simp only [readQ] at h; simp only [tupleM, h]
  | _ => cases h
theorem isi_list {m : Store} {cs : List Nat} {d : D} {ds : List D} (h : readL m d = some ds) : isiM cs .list d m = .ok (.bl true) m := by
  cases d with
  | lst l => rfl
  | obj n =>
    simp only [readL] at h
    split at h
    · rename_i l hm; simp [isiM, dty, hm]
    · cases h
  | _ => cases h
/-! ### keys -/
theorem idxK_none {κ : Type} [DecidableEq κ] {k : κ} : ∀ {l : List (Option κ)}, some k ∉ l → idxK k l = none
  | [], _ => rfl
  | o :: l, h => by
    simp only [List.mem_cons, not_or] at h
    simp only [idxK]
    rw [if_neg (fun e => h.1 e.symm), idxK_none h.2]
    rfl
theorem idxK_some {κ : Type} [DecidableEq κ] {k : κ} : ∀ {l : List (Option κ)}, some k ∈ l → ∃ i, idxK k l = some i
  | [], h => by simp at h
  | o :: l, h => by
    simp only [idxK]
    by_cases e : o = some k
    · exact ⟨0, by rw [if_pos e]⟩
    · rw [if_neg e]
      have : some k ∈ l := by
        rcases List.mem_cons.mp h with z | z
        · exact absurd z.symm e
        · exact z
      obtain ⟨i, hi⟩ := idxK_some this
      exact ⟨i + 1, by rw [hi]; rfl⟩
theorem sortSet_mem {k : Int} {ns : List Int} : k ∈ sortSet ns ↔ k ∈ ns := by
  unfold sortSet
  rw [(sortI_perm _).mem_iff, dedI_mem]
theorem sortSet_lt (ns : List Int) : (sortSet ns).Pairwise (· < ·) := by
  have h1 := sortI_sorted (dedI ns)
  have h2 : (sortI (dedI ns)).Nodup := (sortI_perm _).nodup_iff.mpr (dedI_nodup ns)
  exact (h1.and h2).imp fun h => by omega
theorem sortSet_of {ns l : List Int} (h : l.Pairwise (· < ·)) (hm : ∀ k, k ∈ l ↔ k ∈ ns) : sortSet ns = l := (sortSet_uniq h hm).symm
end Fs

/-! FpD: normal data: == is equality. -/
namespace Fs
open PySem PySem.Spec PyProof.Rows L2
open Classical
mutual
def nrmD : D → Bool
  | .non => true
  | .int _ => true
  | .str _ => true
  | .lst ds => nrmDs ds
  | .tup ds => nrmDs ds
  | _ => false
def nrmDs : List D → Bool
  | [] => true
  | d :: ds => nrmD d && nrmDs ds
end
@[simp] theorem nrm_non : nrmD .non = true := rfl
@[simp] theorem nrm_int (i : Int) : nrmD (.int i) = true := rfl
@[simp] theorem nrm_str (i : List Char) : nrmD (.str i) = true := rfl
@[simp] theorem nrm_lst (i : List D) : nrmD (.lst i) = nrmDs i := rfl
@[simp] theorem nrm_tup (i : List D) : nrmD (.tup i) = nrmDs i := rfl
@[simp] theorem nrms_nil : nrmDs [] = true := rfl
@[simp] theorem nrms_cons (d : D) (ds : List D) : nrmDs (d :: ds) = (nrmD d && nrmDs ds) := rfl
@[simp] theorem nrms_app : ∀ (x y : List D), nrmDs (x ++ y) = (nrmDs x && nrmDs y)
  | [], y => by simp
  | d :: x, y => by simp [nrms_app x y, Bool.and_assoc]
theorem nrms_all : ∀ {ds : List D}, nrmDs ds = true ↔ ∀ d ∈ ds, nrmD d = true
  | [] => by simp
  | d :: ds => by simp [nrms_all (ds := ds)]
theorem nrms_map {α : Type} {f : α → D} (h : ∀ x, nrmD (f x) = true) (l : List α) : nrmDs (l.map f) = true := nrms_all.mpr fun d hd => by
  obtain ⟨x, _, rfl⟩ := List.mem_map.mp hd
  exact h x
@[simp] theorem nrms_ints (l : List Int) : nrmDs (l.map D.int) = true := nrms_map (fun _ => rfl) l
@[simp] theorem nrms_strs (l : List (List Char)) : nrmDs (l.map D.str) = true := nrms_map (fun _ => rfl) l
mutual
theorem nrm_plain : ∀ {d : D}, nrmD d = true → plain d = true
  | .non, _ => rfl
  | .int _, _ => rfl
  | .str _, _ => rfl
  | .lst ds, h => by simp only [plain]; exact nrms_plain (by simpa using h)
  | .tup ds, h => by simp only [plain]; exact nrms_plain (by simpa using h)
  | .bl _, h => by cases h
  | .frz _, h => by cases h
  | .wtp _, h => by cases h
  | .set _, h => by cases h
  | .dct _ _ _, h => by cases h
  | .ins _ _ _, h => by cases h
  | .obj _, h => by cases h
  | .fn _, h => by cases h
theorem nrms_plain : ∀ {ds : List D}, nrmDs ds = true → plains ds = true
  | [], _ => rfl
  | d :: ds, h => by
    simp only [nrms_cons, Bool.and_eq_true] at h
    simp only [plains, nrm_plain h.1, nrms_plain h.2, Bool.and_self]
end
mutual
theorem eqD_nrm : ∀ {a b : D}, nrmD a = true → nrmD b = true → eqD a b = decide (a = b)
  | .non, b, h, k => by cases b <;> simp_all [eqD, nrmD]
  | .int i, b, h, k => by cases b <;> simp_all [eqD, nrmD]; rw [Bool.eq_iff_iff]; simp
  | .str i, b, h, k => by cases b <;> simp_all [eqD, nrmD]; rw [Bool.eq_iff_iff]; simp
  | .lst ds, b, h, k => by
    cases b with
    | lst es =>
      simp only [eqD]
      rw [eqDs_nrm (by simpa using h) (by simpa using k)]
      simp
    | _ => first | (cases k; done) | (simp [eqD])
  | .tup ds, b, h, k => by
    cases b with
    | tup es =>
      simp only [eqD]
      rw [eqDs_nrm (by simpa using h) (by simpa using k)]
      simp
    | _ => first | (cases k; done) | (simp [eqD])
  | .bl _, _, h, _ => by cases h
  | .frz _, _, h, _ => by cases h
  | .wtp _, _, h, _ => by cases h
  | .set _, _, h, _ => by cases h
  | .dct _ _ _, _, h, _ => by cases h
  | .ins _ _ _, _, h, _ => by cases h
  | .obj _, _, h, _ => by cases h
  | .fn _, _, h, _ => by cases h
theorem eqDs_nrm : ∀ {a b : List D}, nrmDs a = true → nrmDs b = true → eqDs a b = decide (a = b)
  | [], [], _, _ => by simp [eqDs]
  | [], _ :: _, _, _ => by simp [eqDs]
  | _ :: _, [], _, _ => by simp [eqDs]
  | x :: xs, y :: ys, h, k => by
    simp only [nrms_cons, Bool.and_eq_true] at h k
    simp only [eqDs]
    rw [eqD_nrm h.1 k.1, eqDs_nrm h.2 k.2, Bool.eq_iff_iff]
    simp
end
@[simp] theorem dep_non : dep .non = 0 := rfl
@[simp] theorem dep_int (i : Int) : dep (.int i) = 0 := rfl
@[simp] theorem dep_str (i : List Char) : dep (.str i) = 0 := rfl
@[simp] theorem dep_bl (i : Bool) : dep (.bl i) = 0 := rfl
@[simp] theorem dep_lst (i : List D) : dep (.lst i) = deps i + 1 := rfl
@[simp] theorem dep_tup (i : List D) : dep (.tup i) = deps i + 1 := rfl
@[simp] theorem deps_nil : deps [] = 0 := rfl
@[simp] theorem deps_cons (d : D) (ds : List D) : deps (d :: ds) = max (dep d) (deps ds) := rfl
theorem deps_le {k : Nat} : ∀ {ds : List D}, (∀ d ∈ ds, dep d ≤ k) → deps ds ≤ k
  | [], _ => Nat.zero_le _
  | d :: ds, h => by
    have h1 := h d (List.mem_cons_self ..)
    have h2 := deps_le (ds := ds) (k := k) fun e he => h e (List.mem_cons_of_mem _ he)
    simp only [deps_cons]; omega
theorem deps_map {α : Type} {f : α → D} {k : Nat} (h : ∀ x, dep (f x) ≤ k) (l : List α) : deps (l.map f) ≤ k := deps_le fun d hd => by
  obtain ⟨x, _, rfl⟩ := List.mem_map.mp hd
  exact h x
@[simp] theorem deps_ints (l : List Int) : deps (l.map D.int) = 0 := Nat.le_zero.mp (deps_map (f := D.int) (k := 0) (fun _ => Nat.le_refl _) l)
@[simp] theorem deps_strs (l : List (List Char)) : deps (l.map D.str) = 0 := Nat.le_zero.mp (deps_map (f := D.str) (k := 0) (fun _ => Nat.le_refl _) l)
section
variable {m : Store}
theorem pd_nrm {a : D} (h : nrmD a = true) (k : dep a ≤ 64) : pd a := ⟨nrm_plain h, k⟩
theorem c_eqN {a b : D} (ha : nrmD a = true) (hb : nrmD b = true) (ka : dep a ≤ 64) (kb : dep b ≤ 64) : cmpM .eq a b m = .ok (decide (a = b)) m := by
  rw [c_eq (pd_nrm ha ka) (pd_nrm hb kb), eqD_nrm ha hb]
theorem c_neN {a b : D} (ha : nrmD a = true) (hb : nrmD b = true) (ka : dep a ≤ 64) (kb : dep b ≤ 64) : cmpM .ne a b m = .ok (!decide (a = b)) m := by
  rw [c_ne (pd_nrm ha ka) (pd_nrm hb kb), eqD_nrm ha hb]
theorem any_nrm {a : D} {ds : List D} (ha : nrmD a = true) (hd : nrmDs ds = true) : (ds.any fun e => eqD e a) = decide (a ∈ ds) := by
  rw [Bool.eq_iff_iff, List.any_eq_true, decide_eq_true_iff]
  constructor
  · rintro ⟨e, he, h⟩
    rw [eqD_nrm (nrms_all.mp hd e he) ha] at h
    have := of_decide_eq_true h
    exact this ▸ he
  · intro h
    exact ⟨a, h, by rw [eqD_nrm ha ha]; simp⟩
theorem c_inN {a : D} {ds : List D} (ha : nrmD a = true) (hd : nrmDs ds = true) (ka : dep a ≤ 64) (kd : deps ds < 64) : cmpM .in_ a (.lst ds) m = .ok (decide (a ∈ ds)) m := by
  rw [c_inL (pd_nrm ha ka) ⟨nrms_plain hd, kd⟩, any_nrm ha hd]
theorem c_ninN {a : D} {ds : List D} (ha : nrmD a = true) (hd : nrmDs ds = true) (ka : dep a ≤ 64) (kd : deps ds < 64) : cmpM .nin a (.lst ds) m = .ok (!decide (a ∈ ds)) m := by
  rw [c_ninL (pd_nrm ha ka) ⟨nrms_plain hd, kd⟩, any_nrm ha hd]
theorem c_inON {n : Nat} {a : D} {ds : List D} (hm : m[n]? = some (.lst ds)) (ha : nrmD a = true) (hd : nrmDs ds = true) (ka : dep a ≤ 64) (kd : deps ds < 64) : cmpM .in_ a (.obj n) m = .ok (decide (a ∈ ds)) m := by
  rw [c_inO hm (pd_nrm ha ka) ⟨nrms_plain hd, kd⟩, any_nrm ha hd]
theorem c_ninON {n : Nat} {a : D} {ds : List D} (hm : m[n]? = some (.lst ds)) (ha : nrmD a = true) (hd : nrmDs ds = true) (ka : dep a ≤ 64) (kd : deps ds < 64) : cmpM .nin a (.obj n) m = .ok (!decide (a ∈ ds)) m := by
  rw [c_ninO hm (pd_nrm ha ka) ⟨nrms_plain hd, kd⟩, any_nrm ha hd]
theorem flat_ints (l : List Int) : (l.map D.int).all flatD = true := by simp [flatD]
theorem c_inTI {i : Int} {l : List Int} : cmpM .in_ (.int i) (.tup (l.map D.int)) m = .ok (decide (i ∈ l)) m := by
  rw [c_inT rfl (flat_ints l), any_nrm rfl (nrms_ints l)]
  simp
theorem c_inLI {i : Int} {l : List Int} : cmpM .in_ (.int i) (.lst (l.map D.int)) m = .ok (decide (i ∈ l)) m := by
  rw [c_inN rfl (nrms_ints l) (by simp) (by simp)]
  simp
end
theorem j_rngN {P : Nat} {m : Store} (h : P ≤ 16777216) : rng1M (.int P) m = .ok ⟨(List.range P).map fun (i : Nat) => .int i, none⟩ m := by
  rw [j_rng, if_pos ⟨by omega, by omega, by omega⟩, Int.toNat_natCast]
/-! ### the comparison of a law -/
mutual
theorem nrm_okS : ∀ {d : D}, nrmD d = true → okS d = true
  | .non, _ => rfl
  | .int _, _ => rfl
  | .str _, _ => rfl
  | .lst ds, h => by simp only [okS]; exact nrms_okS (by simpa using h)
  | .tup ds, h => by simp only [okS]; exact nrms_okS (by simpa using h)
  | .bl _, h => by cases h
  | .frz _, h => by cases h
  | .wtp _, h => by cases h
  | .set _, h => by cases h
  | .dct _ _ _, h => by cases h
  | .ins _ _ _, h => by cases h
  | .obj _, h => by cases h
  | .fn _, h => by cases h
theorem nrms_okS : ∀ {ds : List D}, nrmDs ds = true → okSs ds = true
  | [], _ => rfl
  | d :: ds, h => by
    simp only [nrms_cons, Bool.and_eq_true] at h
    simp only [okSs, nrm_okS h.1, nrms_okS h.2, Bool.and_self]
end
end Fs

/-! FpE: own comparisons, properties, drawn permutations, ascending lists. -/
namespace Fs
open PySem PySem.Spec PyProof.Rows L2
open Classical
section
variable {m m' : Store} {a b d x : D} {c : Nat} {ks : List Nat} {vs : List D} {F : List D → M D} {tab : Tb} {cs : List Nat} {k : Bool} {Q : D → Store → Prop} {E : EX}
theorem noExc_ok {f : M D} (e : f m = .ok x m') : noExc f m = .ok x m' := by unfold noExc; rw [e]
theorem prop_ok (h : insOf m d = some (c, ks, vs)) (e : F [d] m = .ok x m') : propM c F d m = .ok x m' := by
  simp only [propM, h, if_true]
  exact noExc_ok e
theorem eqO_ins {t : DT} (h : insOf m a = some (c, ks, vs)) (hF : tab.lookup c = some F) (hb : dty m b = some t) (ht : ∀ c', t = .c c' → c' ∈ cs) (e : F [a, b] m = .ok (.bl k) m') : eqO tab cs a b m = .ok (.bl k) m' := by
  simp only [eqO, h, hF, hb]
  cases t with
  | c c' => simp only [ht c' rfl, if_true]; rw [e]; rfl
  | non => show asBl _ = _; rw [e]; rfl
  | b _ => show asBl _ = _; rw [e]; rfl
theorem eqO_cmp (h : insOf m a = none) (e : cmpM .eq a b m = .ok k m) : eqO tab cs a b m = .ok (.bl k) m := by
  simp only [eqO, h]
  have : WP (cmpM .eq a b >>= fun k => pure (.bl k) : M D) m (fun y m1 => y = .bl k ∧ m1 = m) noE := by
    rw [w_bind, w_ok e, w_pure]
    exact ⟨rfl, rfl⟩
  exact this.eq
theorem neO_of (e : eqO tab cs a b m = .ok (.bl k) m') : neO tab cs a b m = .ok (.bl (!k)) m' := by
  unfold neO
  rw [e]
  rfl
theorem own1_ins {g : R D → R D} {f : D → M D} (h : insOf m d = some (c, ks, vs)) (hF : tab.lookup c = some F) : own1 tab g f d m = g (F [d] m) := by
  simp only [own1, h, hF]
theorem own1_none {g : R D → R D} {f : D → M D} (h : insOf m d = none) : own1 tab g f d m = f d m := by
  simp only [own1, h]
@[simp] theorem w_eqO : WP (eqO tab cs a b) m Q E = wR (eqO tab cs a b m) Q E := by with_unfolding_all exact nrfl rfl
@[simp] theorem w_neO : WP (neO tab cs a b) m Q E = wR (neO tab cs a b m) Q E := by with_unfolding_all exact nrfl rfl
@[simp] theorem w_own1 {g : R D → R D} {f : D → M D} : WP (own1 tab g f d) m Q E = wR (own1 tab g f d m) Q E := by with_unfolding_all exact nrfl rfl
end
/-! ### lists of numbers -/
def toI : D → Int
  | .int i => i
  | _ => 0
/-- a permutation of numbers is one of numbers -/
theorem perm_ints {l : List D} {ns : List Int} (h : l.Perm (ns.map .int)) : ∃ is : List Int, l = is.map .int ∧ is.Perm ns := by
  refine ⟨l.map toI, ?_, ?_⟩
  · rw [List.map_map]
    have : ∀ d ∈ l, (D.int ∘ toI) d = d := fun d hd => by
      obtain ⟨i, _, rfl⟩ := List.mem_map.mp (h.subset hd)
      rfl
    rw [List.map_congr_left this, List.map_id']
  · have := h.map toI
    rw [List.map_map] at this
    have e : ns.map (toI ∘ D.int) = ns := by
      rw [show (toI ∘ D.int) = id from rfl, List.map_id]
    rwa [e] at this
/-- an ascending list between two bounds -/
theorem asc_len : ∀ {l : List Int} {a b : Int}, l.Pairwise (· < ·) → (∀ x ∈ l, a ≤ x ∧ x < b) → a ≤ b → (l.length : Int) ≤ b - a
  | [], a, b, _, _, h => by simp; omega
  | x :: l, a, b, hp, hm, h => by
    rw [List.pairwise_cons] at hp
    have h1 := hm x (List.mem_cons_self ..)
    have := asc_len (a := x + 1) (b := b) hp.2 (fun y hy => ⟨by have := hp.1 y hy; omega, (hm y (List.mem_cons_of_mem _ hy)).2⟩) (by omega)
    simp
    omega
theorem sortI_asc {l : List Int} (h : l.Pairwise (· < ·)) : sortI l = l := (sortI_uniq (List.Perm.refl _) (h.imp fun h => by omega)).symm
theorem sortSet_asc {l : List Int} (h : l.Pairwise (· < ·)) : sortSet l = l := sortSet_of h fun _ => Iff.rfl
theorem cut_to {α : Type} (l : List α) (k : Nat) : cutL l none (some (k : Int)) = l.take k := by
  unfold cutL
  rw [HT.sIx_none, HT.sIx_nat, List.drop_zero, Nat.sub_zero]
  by_cases h : k ≤ l.length
  · rw [Nat.min_eq_left h]
  · rw [Nat.min_eq_right (by omega), List.take_length, List.take_of_length_le (by omega)]
theorem cut_from {α : Type} (l : List α) (k : Nat) : cutL l (some (k : Int)) none = l.drop k := by
  unfold cutL
  rw [HT.sIx_none, HT.sIx_nat]
  by_cases h : k ≤ l.length
  · rw [Nat.min_eq_left h, List.take_of_length_le (by simp)]
  · rw [Nat.min_eq_right (by omega), Nat.sub_self, List.take_zero, List.drop_of_length_le (by omega)]
@[simp] theorem cut_no1 {α : Type} (l : List α) : cutL l none (some 1) = l.take 1 := cut_to l 1
@[simp] theorem cut_1no {α : Type} (l : List α) : cutL l (some 1) none = l.drop 1 := cut_from l 1
@[simp] theorem app_nil (es : MEs) : MEs.app .nil es = es := rfl
@[simp] theorem app_cons (e : ME) (es fs : MEs) : MEs.app (.cons e es) fs = .cons e (MEs.app es fs) := rfl
theorem makeM_eq {c : Nat} {F G : List D → M D} {ds ds' : List D} (h : ∀ x, G (x :: ds) = F (x :: ds')) : makeM c G ds = makeM c F ds' := by
  funext m
  unfold makeM
  rw [h]
theorem get_set2 (m : Store) (i j : Nat) (c : Cell) : (m.set i c)[j]? = if i = j then (if (m[j]?).isSome = true then some c else none) else m[j]? := by
  by_cases h : i = j
  · subst h
    rw [get_set, if_pos rfl]
  · rw [List.getElem?_set_ne h, if_neg h]
theorem strI_nat (n : Nat) : strI n = Nat.toDigits 10 n := by
  unfold strI
  show (Nat.repr n).toList = _
  simp [Nat.repr]
theorem digits_100 : ∀ i : Fin 101, (Nat.toDigits 10 i).length ≤ 3 := by
  decide +kernel
theorem strI_len {i : Nat} (h : i ≤ 100) : (strI i).length ≤ 3 ∧ i.log2 < 1920 := by
  refine ⟨?_, ?_⟩
  · rw [strI_nat]; exact digits_100 ⟨i, by omega⟩
  · exact Nat.lt_of_le_of_lt (Nat.log2_le_self i) (by omega)
end Fs

/-! FuA: several except clauses with a name each. -/
namespace Fs
open PySem PySem.Spec PyProof.Rows L2
def endsAs (D : Ends) (i : Nat) : Ends := { nx := fun σ' H' => D.nx (σ'.set i none) H', rt := D.rt, bk := fun σ' H' => D.bk (σ'.set i none) H', ct := fun σ' H' => D.ct (σ'.set i none) H' }
def wManyAs (K : PySem.W.Frag) (i : Nat) (Wout : WX) (D : Ends) : List (Value × (Addr → Value → Option Addr → TS)) → WX
  | [] => Wout
  | (c, ts) :: r => fun cls d σ H => ∃ b, PySem.W.exmOne K cls c = some b ∧ (b = true → ∀ a, H a = none → ts a cls d (endsAs D i) (σ.set i (some (.ref a))) H) ∧ (b = false → wManyAs K i Wout D r cls d σ H)
inductive HdsAs (X : Cx) (n : Str) : List ExceptHandler → List (Value × (Addr → Value → Option Addr → TS)) → Prop
  | nil : HdsAs X n [] []
  | cons {x : Str} {c : Value} {ts : Addr → Value → Option Addr → TS} {b₀ : Stmt} {suite : List Stmt} {np pos' : Pos} {hds : List ExceptHandler} {l : List (Value × (Addr → Value → Option Addr → TS))} (hc : Names X x c)
      (hsu : ∀ (a : Addr) (oe : Obj) (cls : Value) (d : Option Addr) (pn : List (Addr × Obj)), Zc cls d oe → (∃ vs, oe.data = .fields vs) → PSs (X.suite a ((a, oe) :: pn)) (b₀ :: suite) (ts a cls d)) (r : HdsAs X n hds l) :
      HdsAs X n (.ExceptHandler (some (.Name x np)) (some n) (b₀ :: suite) pos' :: hds) ((c, ts) :: l)
section
variable {X : Cx} {n : Str} {i : Nat} {body : List Stmt} {h₀ : ExceptHandler} {hds : List ExceptHandler} {l : List (Value × (Addr → Value → Option Addr → TS))} {pos : Pos} {tb : WX → TS} {Wout : WX}
theorem ps_try_manyAs (hs : X.stack = X.env :: X.outer) (hf : X.env.frame = some X.env.locals) (hN : X.N.Nodup) (hi : X.N[i]? = some n) (hln : X.env.kindOf n = some .local) (tk : Takes X Wout)
    (hb : ∀ (W : WX) (pn : List (Addr × Obj)) (xe : Value → Shared → Prop), Takes (X.tr pn xe) W → PassesOwn (model X.prog X.w) X.A X.env xe → PSs (X.tr pn xe) body (tb W))
    (hh : HdsAs X n (h₀ :: hds) l) : PS X (.Try body (h₀ :: hds) [] [] pos) (fun D σ H => tb (wManyAs X.K i Wout D l) D σ H) := by
  refine ⟨fun pins s σ H D I h => ?_⟩
  have ok := I.ok
  have hfr : X.A.frames = some (X.env :: X.outer) := by rw [ok.frames, hs]
  have hloc : Loc X.env.scope n := .inl hln
  refine wpAny_Try_except ?_
  refine wpAny_mono ((hb (wManyAs X.K i Wout D l) (X.pn ++ pins) (fun e s₁ => wpAny (model X.prog X.w) X.A (noteFrame e X.env) (fun _ s₂ => wpAny (model X.prog X.w) X.A (setFlight e none) (fun _ s₃ =>
    wpAny (model X.prog X.w) X.A (handleBy e X.env (h₀ :: hds)) (SP X pins D) X.xe s₃) X.xe s₂) X.xe s₁) (fun u s' xx => ?_) PassesOwn.looking).run [] s σ H D (I.toTry _) h) (fun f s1 hsp => ?_) (fun e s1 he => he)
  · -- the catch
    obtain ⟨a, B, sI, pins', σ', H', cls, d, rfl, J', nb, up, sky, na, os, ag, w⟩ := xx
    have J : Inv X pins σ' H' sI := J'.ofTry ok
    have sky' : Sky B (X.env :: X.outer) a (Zc cls d) X.env.locals s'.heap := by rw [← hs]; exact sky
    show wpAny (model X.prog X.w) X.A (noteFrame (.ref a) X.env) _ _ _
    refine Sky.land Zc.steady hfr hf sky' fun h3 fl3 up3 => ?_
    have J3 : Inv X pins σ' H' { s' with heap := h3 } := J.landed nb fl3.1 (up.trans up3) os ag
    obtain ⟨oe3, vs3, he3, hz3, hd3⟩ := fl3.there
    have notFr : ∀ {h : Heap} {o : Obj} {vs : Array Value}, h.FunFrames B (X.env :: X.outer) → h.get? a = some o → o.data = .fields vs → a ∉ frs (X.env :: X.outer) := fun {h o vs} ff e dd hm => by
      obtain ⟨_, o', e', hnf⟩ := ff.mem hm
      rw [e] at e'; cases e'
      exact hnf _ dd
    have nfr := notFr fl3.2.2.1 he3 hd3
    have nL : a ≠ X.env.locals := fun z => nfr (List.mem_filterMap.mpr ⟨X.env, List.mem_cons_self, by rw [hf, z]⟩)
    have nF : a ∉ X.fs := fun hm => by
      obtain ⟨e, he, q⟩ := List.mem_filterMap.mp hm
      exact nfr (List.mem_filterMap.mpr ⟨e, List.mem_cons_of_mem _ he, q⟩)
    have S3 := J3.suite he3 hd3 na nL nF
    have go : ∀ {hds' : List ExceptHandler} {l' : List (Value × (Addr → Value → Option Addr → TS))}, HdsAs X n hds' l' → wManyAs X.K i Wout D l' cls d σ' H' →
        wpAny (model X.prog X.w) X.A (handleBy (.ref a) X.env hds') (SP X pins D) X.xe { s' with heap := h3 } := by
      intro hds' l' hk
      induction hk with
      | nil =>
        intro w
        refine wpAny_handleBy_nil ?_
        obtain ⟨k1, k2, k3, oe, vs, T, oT, ts', he, hz, hd, h1, hr⟩ := id fl3
        unfold PySem.passOn
        refine wpAny_bind (wpAny_field he hd h1 ?_)
        rw [if_neg (show ¬ ((Value.ref T == Value.none) = true) from by simp)]
        have fin : wpAny (model X.prog X.w) X.A (setFlight (.ref a) X.env.frame) (fun _ s4 => wpAny (model X.prog X.w) X.A (throw (.ref a) : Sem Flow) (SP X pins D) X.xe s4) X.xe { s' with heap := h3 } := by
          rw [hf]
          refine HandSPX.setFlight_upZ fl3 fun h4 hh4 up4 => wpAny_throw (tk _ _ ?_)
          exact ⟨a, B, sI, pins, σ', H', cls, d, rfl, J, nb, (up.trans up3).trans up4, .inr (.inr (by rw [hs]; exact hh4)), na, os, ag, w⟩
        first
          | exact wpAny_bind (wpAny_pure (wpAny_bind fin))
          | exact wpAny_bind fin
      | @cons x c ts b₀ suite np pos' hds2 l2 hc hsu r ih =>
        intro w
        obtain ⟨b, hb1, hyes, hno⟩ := w
        refine wpAny_handleBy_cons (codeAny_handlers_test ?_) (by intro q; cases q)
        have LT : PySem.W.Looks (model X.prog X.w) h3 (typeOf (.ref a)) cls := fun A Q E s k q => wpAny_typeOf_ref (k _ _ he3) (by rw [hz3.1]; exact q)
        have LM := PySem.W.exm_one (M := model X.prog X.w) (J3.kIn) LT hb1
        have test : ∀ {Q : Value → Shared → Prop} {E : Value → Shared → Prop}, Q c { s' with heap := h3 } → wpAny (model X.prog X.w) (X.A.mark (some (.ref a))) (eval (.Name x np) X.env) Q E { s' with heap := h3 } := fun {Q E} q => by
          obtain ⟨hg, hdbg, hm | ⟨hm, hv, hnn⟩⟩ := hc
          · exact ld_glob (X := X.suite a ((a, oe3) :: (X.pn ++ pins))) S3 hg hm q hdbg
          · exact ld_blt (X := X.suite a ((a, oe3) :: (X.pn ++ pins))) S3 hg hm hv q hnn hdbg
        refine test (LM.here ?_)
        cases b with
        | true =>
          refine codeAny_handlers_suite_as ?_
          refine HandSPX.lands_againZ fl3 fun h4 fl4 up4 => ?_
          have J4 : Inv X pins σ' H' { s' with heap := h4 } := J.landed nb fl4.1 ((up.trans up3).trans up4) os ag
          obtain ⟨oe4, vs4, he4, hz4, hd4⟩ := fl4.there
          have S4 := J4.suite he4 hd4 na nL nF
          refine store_ok (X := X.suite a ((a, oe4) :: (X.pn ++ pins))) (v := .ref a) S4 hN hi hloc rfl (fun s5 S5 => ?_) (.inr hln)
          refine wpAny_mono ((hsu a oe4 cls d (X.pn ++ pins) hz4 ⟨_, hd4⟩).run [] s5 _ H' _ S5 (hyes rfl a na)) (fun f s6 hsp => ?_) (fun _ _ z => False.elim z)
          have end_ : ∀ {σ6 : L2.St} {H6 : Hp} {Q : Shared → Prop}, Inv (X.suite a ((a, oe4) :: (X.pn ++ pins))) [] σ6 H6 s6 → (∀ s7, Inv X pins (σ6.set i none) H6 s7 → Q s7) →
              wpAny (model X.prog X.w) X.A (do bindName X.env n .none; unbindBehindTheSuite X.env n pos') (fun _ s7 => Q s7) X.xe s6 := fun {σ6 H6 Q} S6 hq => gone_ok (S6.unsuite ok) hN hi hln hq
          cases f with
          | next =>
            obtain ⟨σ6, H6, S6, q6⟩ := hsp
            exact end_ S6 fun s7 J7 => ⟨_, _, J7, q6⟩
          | brk =>
            obtain ⟨σ6, H6, S6, q6⟩ := hsp
            exact end_ S6 fun s7 J7 => ⟨_, _, J7, q6⟩
          | cont =>
            obtain ⟨σ6, H6, S6, q6⟩ := hsp
            exact end_ S6 fun s7 J7 => ⟨_, _, J7, q6⟩
          | ret u =>
            obtain ⟨v6, σ6, H6, S6, r6, q6⟩ := hsp
            exact end_ S6 fun s7 J7 => ⟨_, _, _, J7, r6, q6⟩
        | false =>
          show wpAny _ X.A (handleBy (.ref a) X.env hds2) _ _ _
          exact ih (hno rfl)
    exact go hh w
  · cases f with
    | next =>
      obtain ⟨σ', H', J', q⟩ := hsp
      exact wpAny_execs_nil ⟨σ', H', J'.ofTry ok, q⟩
    | brk =>
      obtain ⟨σ', H', J', q⟩ := hsp
      exact ⟨σ', H', J'.ofTry ok, q⟩
    | cont =>
      obtain ⟨σ', H', J', q⟩ := hsp
      exact ⟨σ', H', J'.ofTry ok, q⟩
    | ret u =>
      obtain ⟨v, σ', H', J', r, q⟩ := hsp
      exact ⟨v, σ', H', J'.ofTry ok, r, q⟩
end
end Fs

/-! FuB: a lambda is made, its table stands in the store. -/
namespace Fs
open PySem PySem.Spec PyProof.Rows L2 LamX
theorem upd_comm {H : Hp} {a b : Addr} {o u : HO} (h : a ≠ b) : upd (upd H a o) b u = upd (upd H b u) a o := by
  funext c
  by_cases h1 : c = a
  · subst h1
    rw [upd_ne h, upd_same, upd_same]
  · by_cases h2 : c = b
    · subst h2
      rw [upd_same, upd_ne h1, upd_same]
    · rw [upd_ne h2, upd_ne h1, upd_ne h1, upd_ne h2]
section
variable {C : Ct} {X : Cx} {pins : List (Addr × Obj)} {σ : L2.St} {S : Ws} {s : Shared}
theorem Wf.addr (w : Wf C S) {k : Nat} {c : Cell} (h : S.mu[k]? = some c) : ∃ a, S.ad[k]? = some a := by
  have := (List.getElem?_eq_some_iff.mp h).1
  rw [← w.len] at this
  exact ⟨_, List.getElem?_eq_getElem this⟩
theorem lam_make3 {k j : Nat} {c P : Addr} {params : Arguments} {body : Expr} {scope : Scope} {pos : Pos} {E : Value → Shared → Prop} {Q : Value → Shared → Prop} (w : Wf C S) (hm : S.mu[k]? = some (.tab j)) (hj : C.tb j = (P, X.env.qual ++ "<lambda>"))
    (I : Inv X pins σ S.H s) (TB : TabB X.base X.mg c P) (hcode : X.env.code = .ref c) (hdef : defaultsOf params X.env = ([], [])) (hfree : ∀ y ∈ scope.names, y.2 = .free → ∃ c, X.env.cells.lookup y.1 = some c)
    (h : ∀ (f c' : Addr) (pm ctv : Value) (S' : Ws) (s' : Shared), S'.mu = S.mu → Wf C S' → Step S S' → Inv X pins σ S'.H s' →
      s'.heap.get? f = some (PySem.W.kla_obj "<lambda>" (X.env.qual ++ "<lambda>") params body scope (cloFrom X.env.cells scope.names []) pm c' ctv) → S'.H f = none → f ∉ frs X.stack → Fx S' c' (CodeO c' (X.env.qual ++ "<lambda>")) → Q (.ref f) s') :
    wpAny (model X.prog X.w) X.A (eval (.Lambda params body scope pos) X.env) Q E s := by
  obtain ⟨a, ha⟩ := w.addr hm
  obtain ⟨ea, ps, hP, ht, hc0⟩ := w.cell k _ a hm ha
  rw [hj] at ea
  have ea : a = P := ea
  subst ea
  rw [hj] at hc0
  have hc0 : ∀ (pos : Pos) (cv : Value), codeAmong pos ps.toList = some cv → ∃ c, cv = .ref c ∧ Fx S c (CodeO c (X.env.qual ++ "<lambda>")) := hc0
  refine PySem.W.kla_eval hdef ?_
  have bP : s.heap.BuiltinsAt X.mg a := TB.bm.keeps I.bk
  have hP' : s.heap.get? a = some { cls := .none, data := .fields ps } := I.hok a _ hP
  have nofr : ∀ f, s.heap.objs.size ≤ f → f ∉ frs X.stack := fun f hf z => by
    rcases List.mem_cons.mp (I.stkSub _ z) with e | e
    · have h1 := I.lt
      rw [← e] at h1
      exact Nat.lt_irrefl _ (Nat.lt_of_lt_of_le h1 hf)
    · exact I.nofs hf e
  cases hc : codeAmong pos ps.toList with
  | none =>
    refine PySem.W.kla_makeFunction (mg := X.mg) (c := c) (P := a) (ps := ps) (closure_ok hfree) I.ok.glob (I.mod.glob.keeps I.bk) hcode (TB.code.keeps I.bk) hP' ht hc TB.gP bP fun c' ctv h' tk hx hge hlt hrec htb => ?_
    obtain ⟨c2, oc, vs, t, e2, hoc, hd, hv⟩ := hrec
    cases e2
    have hsz : s.heap.objs.size ≤ h'.objs.size := Nat.le_trans hge (Nat.le_of_lt hlt)
    have nC : S.H c' = none := I.hok.fresh hge
    have nPc : a ≠ c' := ne_of_none hP nC
    have I1 := inv_table (t' := tk) (more := #[rawInt pos.line, rawInt pos.col, .ref c']) (h' := h'.push (PySem.W.kla_obj "<lambda>" (X.env.qual ++ "<lambda>") params body scope (cloFrom X.env.cells scope.names []) ((X.mg "__name__").getD .none) c' ctv)) I hP
      (fun b o hb e => Heap.get?_push_of_some _ (hx b o hb e)) (Heap.get?_push_of_some _ htb) hge ⟨oc, vs, t, Heap.get?_push_of_some _ hoc, hd, hv⟩
    have eL : (ps ++ #[rawInt pos.line, rawInt pos.col, .ref c']).toList = ps.toList ++ [rawInt pos.line, rawInt pos.col, .ref c'] := by simp
    -- the store behind it
    have w1 : Wf C (S.new c' (CodeO c' (X.env.qual ++ "<lambda>"))) := w.new nC
    have st1 : Step S (S.new c' (CodeO c' (X.env.qual ++ "<lambda>"))) := Step.new w nC
    have live : (Cell.tab j).live = true := rfl
    have hm1 : (S.new c' (CodeO c' (X.env.qual ++ "<lambda>"))).mu[k]? = some (.tab j) := hm
    have ha1 : (S.new c' (CodeO c' (X.env.qual ++ "<lambda>"))).ad[k]? = some a := ha
    have st2 := Step.put (o := .tbl (ps ++ #[rawInt pos.line, rawInt pos.col, .ref c'])) (c := .tab j) w1 hm1 live ha1
    have fxc : Fx (S.new c' (CodeO c' (X.env.qual ++ "<lambda>"))) c' (CodeO c' (X.env.qual ++ "<lambda>")) := Fx.new w nC
    have w2 := Wf.put (o := .tbl (ps ++ #[rawInt pos.line, rawInt pos.col, .ref c'])) (c := .tab j) w1 hm1 live ha1 ⟨by rw [hj], by
      rw [hj]
      refine ⟨_, upd_same, by rw [eL]; exact PySem.TriplesOk_snoc _ _ _ _ ht, fun p' cv hcv => ?_⟩
      rw [eL] at hcv
      rcases among_app _ ht hcv with z | z
      · obtain ⟨c0, e1, e2⟩ := hc0 p' cv z
        exact ⟨c0, e1, st2.fx (st1.fx e2)⟩
      · exact ⟨c', z, st2.fx fxc⟩⟩
    have eH : upd (upd S.H a (.tbl (ps ++ #[rawInt pos.line, rawInt pos.col, .ref c']))) c' (CodeO c' (X.env.qual ++ "<lambda>")) = ((S.new c' (CodeO c' (X.env.qual ++ "<lambda>"))).put k a (.tbl (ps ++ #[rawInt pos.line, rawInt pos.col, .ref c'])) (.tab j)).H := upd_comm nPc
    rw [eH] at I1
    refine h h'.objs.size c' ((X.mg "__name__").getD .none) ctv _ _ ?_ w2 (st1.trans st2) I1 (Heap.get?_push_size _ rfl) ?_ (nofr _ hsz) (st2.fx fxc)
    · show S.mu.set k (.tab j) = S.mu
      have hk := (List.getElem?_eq_some_iff.mp hm)
      obtain ⟨h1, h2⟩ := hk
      rw [← h2, List.set_getElem_self]
    · have n1 : h'.objs.size ≠ c' := Nat.ne_of_gt hlt
      have n2 : h'.objs.size ≠ a := Nat.ne_of_gt (Nat.lt_of_lt_of_le (Heap.lt_size hP') hsz)
      rw [← eH, upd_ne n1, upd_ne n2]
      exact I.hok.fresh hsz
  | some cv =>
    obtain ⟨c', e, hco⟩ := hc0 pos cv hc
    subst e
    refine PySem.W.kla_makeFunctionHit (mg := X.mg) (c := c) (P := a) (ps := ps) (closure_ok hfree) I.ok.glob (I.mod.glob.keeps I.bk) hcode (TB.code.keeps I.bk) hP' ht hc bP fun ctv h' tk hx hsz => ?_
    have I1 : Inv X pins σ S.H { s with heap := h'.push (PySem.W.kla_obj "<lambda>" (X.env.qual ++ "<lambda>") params body scope (cloFrom X.env.cells scope.names []) ((X.mg "__name__").getD .none) c' ctv), toks := tk } := I.kept fun b o e => Heap.get?_push_of_some _ (hx b o e)
    exact h h'.objs.size c' ((X.mg "__name__").getD .none) ctv S _ rfl w (Step.refl S) I1 (Heap.get?_push_size _ rfl) (I.hok.fresh hsz) (nofr _ hsz) hco
end
end Fs

/-! FuC: within an except suite: the fields of the exception, a def called. -/
namespace Fs
open PySem PySem.Spec PyProof.Rows L2 L2H LamX
/-- err.f wherever the exception is pinned -/
theorem pe_xfG {X : Cx} {a C : Addr} {oe : Obj} {cls : Value} {d : Option Addr} {e : Expr} {te : TE} {pos : Pos} {n : Str} (hm : (a, oe) ∈ X.pn) (T : XfC X.K C) (hno : PySem.W.findIn X.K (.ref C) n = some none)
    (hz : Zc cls d oe) (hf : ∃ vs, oe.data = .fields vs) (he : PE X e te) (hb : attributeBase e n X.env (eval e X.env) = eval e X.env) :
    PE X (.Attribute e n pos) (tXf a cls d C n te) := by
  refine ⟨fun pins s σ H Q I h => ?_⟩
  refine attr_of hb (thn (he.run pins s σ H _ I h) fun u s1 hh => ?_)
  obtain ⟨x, H1, I1, rx, ex, ec, dd, fs, v, ed, ea, l, q⟩ := hh
  subst ex
  obtain rfl : u = Value.ref a := rx
  subst ec
  subst ed
  obtain ⟨ha, _⟩ := I1.pin (a, oe) (List.mem_append_left _ hm)
  obtain ⟨vs, hd⟩ := hf
  have hx : ObjOk X.prog X.w H1 s1.heap dd (.xd fs) := I1.hok dd _ ea
  obtain ⟨mA, hns, hr⟩ := hx
  obtain ⟨od, ho, hl⟩ := lookIn_ns hns
  obtain ⟨u, hu, ru⟩ := RelO.some_of (v := v) (o := mA n) (by rw [← l]; exact hr n)
  have J : PySem.W.InstAt s1.heap a oe C (some od) := ⟨ha, hz.1, by unfold PySem.W.notCls; rw [hd] <;> rfl, by rw [hz.2]; exact ho⟩
  exact HandSPX.exc_get I1.kIn J T.ga T.gg T.exC (PySem.W.findObj_own T.hdC hno rfl (by rw [hl, hu])) (handed_of ru) ⟨v, H1, I1.tok _, ru, q⟩
/-- the exception is .fn 0, its j-th field's value, where it is an object, .fn (j + 1) -/
def exCt (C : Ct) (a dd : Addr) (fs : List (Str × V)) : Ct where
  K := C.K
  nm := C.nm
  tb := C.tb
  fr := fun k S v => match k with
    | 0 => v = .ref a ∧ Fx S dd (.xd fs)
    | j + 1 => (∃ b, v = .ref b) ∧ ∃ p : Str × V, fs[j]? = some p ∧ p.2 = v
  frm := fun k S S' v st h => by
    cases k with
    | zero => exact ⟨h.1, st.fx h.2⟩
    | succ j => exact h
  frr := fun k S v h => by
    cases k with
    | zero => exact ⟨a, h.1⟩
    | succ j => exact h.1
def xfM (L : List (Nat × D)) (j : Nat) (d : D) : M D := match d with
  | .fn 0 => (match L.lookup j with
    | some x => pure x
    | none => stuckM)
  | _ => stuckM
structure LOk (C : Ct) (a dd : Addr) (fs : List (Str × V)) (c : Nat) (L : List (Nat × D)) : Prop where
  val : ∀ j x, L.lookup j = some x → ∃ v, fs.lookup (C.nm j) = some v ∧ ∀ S, Rep (exCt C a dd fs) S x v
  no : ∀ j x, L.lookup j = some x → PySem.W.findIn C.K (.ref (He.ga C.K (C.nm c))) (C.nm j) = some none
  xc : XfC C.K (He.ga C.K (C.nm c))
theorem se_xf {C : Ct} {X : Cx} {a dd : Addr} {fs : List (Str × V)} {oe : Obj} {c j : Nat} {L : List (Nat × D)} {o : Expr} {mo : ME} {pos : Pos} (hK : X.K = C.K) (hm : (a, oe) ∈ X.pn) (hz : Zc (.ref (He.ga C.K (C.nm c))) (some dd) oe) (hf : ∃ vs, oe.data = .fields vs) (hL : LOk C a dd fs c L)
    (ho : SE (exCt C a dd fs) X o mo) (hb : attributeBase o (C.nm j) X.env (eval o X.env) = eval o X.env) : SE (exCt C a dd fs) X (.Attribute o (C.nm j) pos) (.attr (xfM L j) mo) := fun W tk => by
  have key : ∀ (d : D), xfM L j d = stuckM ∨ (d = .fn 0 ∧ ∃ x, L.lookup j = some x ∧ xfM L j d = pure x) := fun d => by
    cases d with
    | fn k =>
      cases k with
      | zero =>
        cases q : L.lookup j with
        | none => exact .inl (by simp only [xfM, q])
        | some x => exact .inr ⟨rfl, x, rfl, by simp only [xfM, q]⟩
      | succ k => exact .inl rfl
    | _ => exact .inl rfl
  cases q : L.lookup j with
  | none =>
    refine ⟨fun pins s σ H Q I h => ?_⟩
    refine attr_of hb (thn ((ho W tk).run pins s σ H (fun _ _ => False) I ?_) fun u s1 hh => ?_)
    · obtain ⟨r, S, hH, w, sr, h⟩ := h
      subst hH
      simp only [ev] at h
      refine dnE_intro r w sr (h.bind.imp fun v1 H1 q1 => ?_)
      obtain ⟨S1, d1, e1, w1, st1, r1, h1⟩ := q1
      rcases key d1 with k | ⟨_, x, k, _⟩
      · rw [k] at h1
        exact h1
      · rw [q] at k; cases k
    · obtain ⟨_, _, _, _, z⟩ := hh
      exact z.elim
  | some x =>
    refine PEw (pe_xfG hm (by rw [hK]; exact hL.xc) (by rw [hK]; exact hL.no j x q) hz hf (ho W tk) hb) fun σ H Q ⟨r, S, hH, w, sr, h⟩ => ?_
    subst hH
    simp only [ev] at h
    refine dnE_intro r w sr (h.bind.imp fun v1 H1 q1 => ?_)
    obtain ⟨S1, d1, e1, w1, st1, r1, h1⟩ := q1
    subst e1
    rcases key d1 with k | ⟨e0, x', k, e2⟩
    · rw [k] at h1
      exact h1.elim
    · subst e0
      rw [q] at k
      cases k
      rw [e2] at h1
      simp only [Rep] at r1
      have r1 : v1 = .ref a ∧ Fx S1 dd (.xd fs) := r1
      obtain ⟨v, hv, hr⟩ := hL.val j x q
      exact ⟨r1.1, rfl, dd, fs, v, rfl, r1.2.1, hv, PostE.pure w1 h1 (hr S1)⟩
/-- a def called where the handled exception is pinned -/
theorem run_hot {C : Ct} {X : Cx} {m : MSs} {p : Addr × Obj} {x qual : Str} {params : Arguments} {body : List Stmt} {scope : Scope} {f : Addr} {fd : FuncData} {N ps : List Str} {k : Nat} {pins : List (Addr × Obj)} {σ : L2.St} {s : Shared} {S : Ws} {us : List Value} {vs : List V} {ds : List D} {Q : VK}
    (F : FunD C.K x qual params body scope [] [] f fd) (Sc : FnScope N ps scope) (hK : X.K = C.K) (hp : p ∈ X.pn) (hr : RoomH (k + 1) X.A) (hb : Binds X.K fd ps [])
    (hbody : ∀ (cdv : Value) (A : Around) (outer : List PySem.Env) (s : Shared) (H : Hp) (E : XK), RoomH k (A.deeper (envOfC qual scope s.heap.objs.size f cdv)) → SSs C (cxH (L2.CX X.prog X.w) X.prog X.w X.K X.mg X.base N qual scope f cdv A outer s H E p) body m)
    (I : Inv X pins σ S.H s) (r : Vals vs us) (w : Wf C S) (rs : Reps C S ds vs) (hn : vs.length = ps.length) (h : PostE C S (runF ps.length N.length m ds S.mu) (fun _ _ _ => False) Q) :
    wpAny (model X.prog X.w) X.A (call (.ref f) us) (EP X pins σ Q) X.xe s := by
  obtain ⟨oc, od, dV, kV, doc, pm, an, cdv, ct, osl, rfl, lk, hcd, _, _⟩ := F.ex
  rw [← hK] at lk hcd
  have hl : us.length = ps.length := by rw [← r.length]; exact hn
  have b := hb s us I.kIn (by rw [List.append_nil]; exact hl)
  rw [List.append_nil] at b
  have P1 := I.pin p (List.mem_append_left _ hp)
  have hpin : PinOk X.stack S.H s p := ⟨P1.1, P1.2.1, fun hm => (List.mem_cons.mp (I.stkSub p.1 hm)).elim P1.2.2.1 P1.2.2.2.1, P1.2.2.2.2⟩
  have e0 := I.env0
  have KX : X.K.In s.heap := e0.mod.kin.keeps fun b o e => (e0.bs b o e).1
  have lim : s.heap.NoLimit := e0.mod.nolimit.keeps fun b o e => (e0.bs b o e).1
  have hkind : ∀ y ∈ ps.zip us, scope.names.lookup y.1 = some .local ∨ (scope.names.lookup y.1 = some .cell ∧ ((cellsFrom (s.heap.objs.size + 1) scope.names []).lookup y.1).isSome = true) := fun ⟨n, v⟩ hy => by
    rcases Sc.par n (List.of_mem_zip hy).1 with q | q
    · exact .inl q
    · exact .inr ⟨q, PySem.W.cellsFrom_some _ _ _ (.inl q)⟩
  have rc : codeAny (model X.prog X.w) X.A (.call (.ref f) ⟨us, []⟩) (CR (L2.CX X.prog X.w) X.stack X.prog X.w S.H s Q fun _ _ _ => False) s := by
    refine codeAny_call_function hr.depth (KX _ _ lk) rfl Sc.co Sc.gen rfl (PySem.W.codeRec_of KX hcd) (b _ _ _ _ ?_)
    refine wpAny_newFunctionEnv_cells Sc.kind hkind fun env he s1 xx => ?_
    subst he
    refine ⟨lim.keeps xx.toInCall.keep, codeAny_func ?_⟩
    have hs := hbody cdv X.A X.stack s S.H (fun _ _ _ => False) (hr.deeper _) (fun _ _ _ _ => False) L2.takes0
    have I1 : Inv (cxH (L2.CX X.prog X.w) X.prog X.w X.K X.mg X.base N qual scope f cdv X.A X.stack s S.H (fun _ _ _ => False) p) [] (L2.start N vs) S.H s1 := inv_startH Sc hpin e0 hn r xx
    have ht : dnS C (evSs m) (fun _ _ _ _ => False) { nx := fun _ H' => Q .non H', rt := Q } (L2.start N vs) S.H := by
      refine dnS_intro _ w (start_rep rs N ps.length hn) ?_
      unfold runF at h
      rw [if_pos (by rw [rs.len, hn])] at h
      cases e : evSs m (ds.map some ++ List.replicate (N.length - ps.length) none) S.mu with
      | none => rw [e] at h; exact h
      | some pp =>
        obtain ⟨fl, m'⟩ := pp
        rw [e] at h
        intro S' hm w' st
        cases fl with
        | nxt r' => exact fun σ' sr => h S' .non hm w' st (by simp only [Rep])
        | ret d => exact fun v rv => h S' v hm w' st rv
        | brk r' => exact h.elim
        | cnt r' => exact h.elim
        | exc c ks ds' r' => exact fun σ' dx sr ea => h S' dx hm w' st ea
    refine wpAny_mono (hs.run [] s1 (L2.start N vs) S.H _ I1 ht) (fun fl s' hq => ?_) fun e s' hq => hq
    have fin : ∀ {σ' : L2.St} {H' : Hp} {v : V} {u : Value}, Inv (cxH (L2.CX X.prog X.w) X.prog X.w X.K X.mg X.base N qual scope f cdv X.A X.stack s S.H (fun _ _ _ => False) p) [] σ' H' s' → RelV v u → Q v H' → CE X.stack X.prog X.w S.H s Q u s' :=
      fun {σ' H' v u} J rv q => ⟨v, H', J.os, J.bare, J.base, J.hok, rv, q⟩
    cases fl with
    | ret u =>
      obtain ⟨v, σ', H', J, rv, q⟩ := hq
      exact fin J rv q
    | next =>
      obtain ⟨σ', H', J, q⟩ := hq
      exact fin (v := V.non) (u := Value.none) J rfl q
    | brk =>
      obtain ⟨_, _, _, q⟩ := hq
      exact False.elim q
    | cont =>
      obtain ⟨_, _, _, q⟩ := hq
      exact False.elim q
  refine wpAny_call (codeAny_mono rc fun r s' hq => ?_)
  cases r with
  | error e =>
    have hq : L2.CX X.prog X.w X.stack S.H s (fun _ _ _ => False) e s' := hq
    obtain ⟨_, _, _, _, _, _, _, _, _, _, _, _, z⟩ := hq
    exact z.elim
  | ok fl =>
    cases fl with
    | ret u => exact I.after hq
    | next => exact False.elim hq
    | brk => exact False.elim hq
    | cont => exact False.elim hq
end Fs

/-! FuD: what _law_field tells (printed by mkFuD.py). -/
namespace Fs
open PySem PySem.Spec PyProof.Rows L2
open Classical
noncomputable def mField (L : List (Nat × D)) : MSs :=
  (.cons (.ite (.cmp .in_ (.attr (xfM L 3) (.var 0)) (.lst (.cons (.con (.str ['I', 'n', 'v', 'a', 'l', 'i', 'd', 'A', 'l', 'p', 'h', 'a', 'b', 'e', 't'])) (.cons (.con (.str ['I', 'n', 'v', 'a', 'l', 'i', 'd', 'C', 'o', 'u', 'n', 't'])) (.cons (.con (.str ['I', 'n', 'v', 'a', 'l', 'i', 'd', 'W', 'o', 'r', 'd'])) .nil))))) (.cons (.ret (.attr (xfM L 4) (.var 0))) .nil) .nil) (.cons (.ite (.cmp .in_ (.attr (xfM L 3) (.var 0)) (.lst (.cons (.con (.str ['I', 'n', 'v', 'a', 'l', 'i', 'd', 'R', 'o', 'p', 'e'])) (.cons (.con (.str ['I', 'n', 'v', 'a', 'l', 'i', 'd', 'A', 'r', 'r', 'o', 'w'])) (.cons (.con (.str ['I', 'n', 'v', 'a', 'l', 'i', 'd', 'P', 'a', 't', 't', 'e', 'r', 'n'])) .nil))))) (.cons (.ret (.attr (xfM L 9) (.var 0))) .nil) .nil) (.cons (.ite (.cmp .in_ (.attr (xfM L 3) (.var 0)) (.lst (.cons (.con (.str ['I', 'n', 'v', 'a', 'l', 'i', 'd', 'N', 'a', 'm', 'e'])) (.cons (.con (.str ['D', 'u', 'p', 'l', 'i', 'c', 'a', 't', 'e', 'N', 'a', 'm', 'e'])) (.cons (.con (.str ['U', 'n', 'k', 'n', 'o', 'w', 'n', 'N', 'a', 'm', 'e'])) .nil))))) (.cons (.ret (.attr (xfM L 20) (.var 0))) .nil) .nil) (.cons (.ite (.cmp .in_ (.attr (xfM L 3) (.var 0)) (.lst (.cons (.con (.str ['C', 'a', 'p', 'a', 'c', 'i', 't', 'y', 'E', 'x', 'c', 'e', 'e', 'd', 'e', 'd'])) (.cons (.con (.str ['I', 'n', 'v', 'a', 'l', 'i', 'd', 'L', 'i', 'm', 'i', 't'])) .nil)))) (.cons (.ret (.attr (xfM L 23) (.var 0))) .nil) .nil) (.cons (.ite (.cmp .eq (.attr (xfM L 3) (.var 0)) (.con (.str ['T', 'o', 'o', 'M', 'a', 'n', 'y']))) (.cons (.ret (.attr (xfM L 17) (.var 0))) .nil) .nil) (.cons (.ite (.cmp .eq (.attr (xfM L 3) (.var 0)) (.con (.str ['I', 'n', 'v', 'a', 'l', 'i', 'd', 'C', 'o', 'm', 'm', 'a', 'n', 'd']))) (.cons (.ret (.attr (xfM L 26) (.var 0))) .nil) .nil) (.cons (.ret (.ite (.cmp .eq (.attr (xfM L 3) (.var 0)) (.con (.str ['P', 'a', 'r', 's', 'e', 'E', 'r', 'r', 'o', 'r']))) (.attr (xfM L 28) (.var 0)) (.con .non))) .nil)))))))
/-- the tag is t, the fields are L -/
noncomputable def fieldO (t : List Char) (L : List (Nat × D)) : Option D :=
  if t = ['I', 'n', 'v', 'a', 'l', 'i', 'd', 'A', 'l', 'p', 'h', 'a', 'b', 'e', 't'] ∨ t = ['I', 'n', 'v', 'a', 'l', 'i', 'd', 'C', 'o', 'u', 'n', 't'] ∨ t = ['I', 'n', 'v', 'a', 'l', 'i', 'd', 'W', 'o', 'r', 'd'] then L.lookup 4 else if t = ['I', 'n', 'v', 'a', 'l', 'i', 'd', 'R', 'o', 'p', 'e'] ∨ t = ['I', 'n', 'v', 'a', 'l', 'i', 'd', 'A', 'r', 'r', 'o', 'w'] ∨ t = ['I', 'n', 'v', 'a', 'l', 'i', 'd', 'P', 'a', 't', 't', 'e', 'r', 'n'] then L.lookup 9 else if t = ['I', 'n', 'v', 'a', 'l', 'i', 'd', 'N', 'a', 'm', 'e'] ∨ t = ['D', 'u', 'p', 'l', 'i', 'c', 'a', 't', 'e', 'N', 'a', 'm', 'e'] ∨ t = ['U', 'n', 'k', 'n', 'o', 'w', 'n', 'N', 'a', 'm', 'e'] then L.lookup 20 else if t = ['C', 'a', 'p', 'a', 'c', 'i', 't', 'y', 'E', 'x', 'c', 'e', 'e', 'd', 'e', 'd'] ∨ t = ['I', 'n', 'v', 'a', 'l', 'i', 'd', 'L', 'i', 'm', 'i', 't'] then L.lookup 23 else if t = ['T', 'o', 'o', 'M', 'a', 'n', 'y'] then L.lookup 17 else if t = ['I', 'n', 'v', 'a', 'l', 'i', 'd', 'C', 'o', 'm', 'm', 'a', 'n', 'd'] then L.lookup 26 else if t = ['P', 'a', 'r', 's', 'e', 'E', 'r', 'r', 'o', 'r'] then L.lookup 28 else some .non
theorem xfM_ap (L : List (Nat × D)) (j : Nat) (m : Store) (Q : D → Store → Prop) (E : EX) : WP (xfM L j (.fn 0)) m Q E = (match L.lookup j with
    | some x => Q x m
    | none => False) := by
  unfold xfM
  cases L.lookup j <;> simp
theorem field_run {L : List (Nat × D)} {t : List Char} {x : D} {m : Store} (h : L.lookup 3 = some (.str t)) (hx : fieldO t L = some x) : runF 1 1 (mField L) [.fn 0] m = .ok x m := by
  have nI : ∀ (a : List Char) (l : List (List Char)) (m : Store), cmpM .in_ (.str a) (.lst (l.map D.str)) m = .ok (decide (a ∈ l)) m := fun a l m => by
    rw [c_inN rfl (nrms_strs l) (by simp) (by simp)]
    simp
  refine WP.eq ?_
  rw [w_run, mField]
  simp [xfM_ap, h]
  unfold fieldO at hx
  rw [show [D.str ['I', 'n', 'v', 'a', 'l', 'i', 'd', 'A', 'l', 'p', 'h', 'a', 'b', 'e', 't'], D.str ['I', 'n', 'v', 'a', 'l', 'i', 'd', 'C', 'o', 'u', 'n', 't'], D.str ['I', 'n', 'v', 'a', 'l', 'i', 'd', 'W', 'o', 'r', 'd']] = List.map D.str [['I', 'n', 'v', 'a', 'l', 'i', 'd', 'A', 'l', 'p', 'h', 'a', 'b', 'e', 't'], ['I', 'n', 'v', 'a', 'l', 'i', 'd', 'C', 'o', 'u', 'n', 't'], ['I', 'n', 'v', 'a', 'l', 'i', 'd', 'W', 'o', 'r', 'd']] from rfl, nI, wR_ok]
  simp only [decide_eq_true_eq, List.mem_cons, List.not_mem_nil, or_false]
  by_cases h1 : t = ['I', 'n', 'v', 'a', 'l', 'i', 'd', 'A', 'l', 'p', 'h', 'a', 'b', 'e', 't'] ∨ t = ['I', 'n', 'v', 'a', 'l', 'i', 'd', 'C', 'o', 'u', 'n', 't'] ∨ t = ['I', 'n', 'v', 'a', 'l', 'i', 'd', 'W', 'o', 'r', 'd']
  · rw [if_pos h1] at hx
    rw [if_pos h1, hx]
    exact ⟨rfl, trivial⟩
  rw [if_neg h1] at hx
  rw [if_neg h1]
  clear h1
  rw [show [D.str ['I', 'n', 'v', 'a', 'l', 'i', 'd', 'R', 'o', 'p', 'e'], D.str ['I', 'n', 'v', 'a', 'l', 'i', 'd', 'A', 'r', 'r', 'o', 'w'], D.str ['I', 'n', 'v', 'a', 'l', 'i', 'd', 'P', 'a', 't', 't', 'e', 'r', 'n']] = List.map D.str [['I', 'n', 'v', 'a', 'l', 'i', 'd', 'R', 'o', 'p', 'e'], ['I', 'n', 'v', 'a', 'l', 'i', 'd', 'A', 'r', 'r', 'o', 'w'], ['I', 'n', 'v', 'a', 'l', 'i', 'd', 'P', 'a', 't', 't', 'e', 'r', 'n']] from rfl, nI, wR_ok]
  simp only [decide_eq_true_eq, List.mem_cons, List.not_mem_nil, or_false]
  by_cases h1 : t = ['I', 'n', 'v', 'a', 'l', 'i', 'd', 'R', 'o', 'p', 'e'] ∨ t = ['I', 'n', 'v', 'a', 'l', 'i', 'd', 'A', 'r', 'r', 'o', 'w'] ∨ t = ['I', 'n', 'v', 'a', 'l', 'i', 'd', 'P', 'a', 't', 't', 'e', 'r', 'n']
  · rw [if_pos h1] at hx
    rw [if_pos h1, hx]
    exact ⟨rfl, trivial⟩
  rw [if_neg h1] at hx
  rw [if_neg h1]
  clear h1
  rw [show [D.str ['I', 'n', 'v', 'a', 'l', 'i', 'd', 'N', 'a', 'm', 'e'], D.str ['D', 'u', 'p', 'l', 'i', 'c', 'a', 't', 'e', 'N', 'a', 'm', 'e'], D.str ['U', 'n', 'k', 'n', 'o', 'w', 'n', 'N', 'a', 'm', 'e']] = List.map D.str [['I', 'n', 'v', 'a', 'l', 'i', 'd', 'N', 'a', 'm', 'e'], ['D', 'u', 'p', 'l', 'i', 'c', 'a', 't', 'e', 'N', 'a', 'm', 'e'], ['U', 'n', 'k', 'n', 'o', 'w', 'n', 'N', 'a', 'm', 'e']] from rfl, nI, wR_ok]
  simp only [decide_eq_true_eq, List.mem_cons, List.not_mem_nil, or_false]
  by_cases h1 : t = ['I', 'n', 'v', 'a', 'l', 'i', 'd', 'N', 'a', 'm', 'e'] ∨ t = ['D', 'u', 'p', 'l', 'i', 'c', 'a', 't', 'e', 'N', 'a', 'm', 'e'] ∨ t = ['U', 'n', 'k', 'n', 'o', 'w', 'n', 'N', 'a', 'm', 'e']
  · rw [if_pos h1] at hx
    rw [if_pos h1, hx]
    exact ⟨rfl, trivial⟩
  rw [if_neg h1] at hx
  rw [if_neg h1]
  clear h1
  rw [show [D.str ['C', 'a', 'p', 'a', 'c', 'i', 't', 'y', 'E', 'x', 'c', 'e', 'e', 'd', 'e', 'd'], D.str ['I', 'n', 'v', 'a', 'l', 'i', 'd', 'L', 'i', 'm', 'i', 't']] = List.map D.str [['C', 'a', 'p', 'a', 'c', 'i', 't', 'y', 'E', 'x', 'c', 'e', 'e', 'd', 'e', 'd'], ['I', 'n', 'v', 'a', 'l', 'i', 'd', 'L', 'i', 'm', 'i', 't']] from rfl, nI, wR_ok]
  simp only [decide_eq_true_eq, List.mem_cons, List.not_mem_nil, or_false]
  by_cases h1 : t = ['C', 'a', 'p', 'a', 'c', 'i', 't', 'y', 'E', 'x', 'c', 'e', 'e', 'd', 'e', 'd'] ∨ t = ['I', 'n', 'v', 'a', 'l', 'i', 'd', 'L', 'i', 'm', 'i', 't']
  · rw [if_pos h1] at hx
    rw [if_pos h1, hx]
    exact ⟨rfl, trivial⟩
  rw [if_neg h1] at hx
  rw [if_neg h1]
  clear h1
  by_cases h1 : t = ['T', 'o', 'o', 'M', 'a', 'n', 'y']
  · rw [if_pos h1] at hx
    rw [if_pos h1, hx]
    exact ⟨rfl, trivial⟩
  rw [if_neg h1] at hx
  rw [if_neg h1]
  clear h1
  by_cases h1 : t = ['I', 'n', 'v', 'a', 'l', 'i', 'd', 'C', 'o', 'm', 'm', 'a', 'n', 'd']
  · rw [if_pos h1] at hx
    rw [if_pos h1, hx]
    exact ⟨rfl, trivial⟩
  rw [if_neg h1] at hx
  rw [if_neg h1]
  clear h1
  by_cases h1 : t = ['P', 'a', 'r', 's', 'e', 'E', 'r', 'r', 'o', 'r']
  · rw [if_pos h1] at hx
    rw [if_pos h1, hx]
    exact ⟨rfl, trivial⟩
  rw [if_neg h1] at hx
  rw [if_neg h1]
  clear h1
  cases hx
  exact ⟨rfl, trivial⟩
end Fs

/-! FuE: _law_try(lambda: ..): what it answers. -/
namespace Fs
open PySem PySem.Spec PyProof.Rows L2 L2H LamX
open Classical
/-- the i-th field's value, where it is an object only its place -/
def opq (i : Nat) : D → D
  | .non => .non
  | .bl b => .bl b
  | .int n => .int n
  | .str x => .str x
  | _ => .fn (i + 1)
def opqs : Nat → List D → List D
  | _, [] => []
  | i, d :: ds => opq i d :: opqs (i + 1) ds
theorem opq_rep {C : Ct} {S : Ws} {a dd : Addr} {fs : List (Str × V)} {i : Nat} {d : D} {v : V} {n : Str} (hi : fs[i]? = some (n, v)) (r : Rep C S d v) (S' : Ws) :
    Rep (exCt C a dd fs) S' (opq i d) v ∧ ∀ v', Rep (exCt C a dd fs) S' (opq i d) v' → v' = v := by
  have obj : (∃ b, v = .ref b) → Rep (exCt C a dd fs) S' (.fn (i + 1)) v ∧ ∀ v', Rep (exCt C a dd fs) S' (.fn (i + 1)) v' → v' = v := fun hb => by
    simp only [Rep]
    refine ⟨⟨hb, _, hi, rfl⟩, fun v' h => ?_⟩
    obtain ⟨_, p, h1, h2⟩ := h
    rw [hi] at h1
    cases h1
    exact h2.symm
  cases d with
  | non => simp only [opq, Rep] at r ⊢; subst r; exact ⟨rfl, fun _ h => h⟩
  | bl b => simp only [opq, Rep] at r ⊢; subst r; exact ⟨rfl, fun _ h => h⟩
  | int b => simp only [opq, Rep] at r ⊢; subst r; exact ⟨rfl, fun _ h => h⟩
  | str b => simp only [opq, Rep] at r ⊢; obtain ⟨rfl, l⟩ := r; exact ⟨⟨rfl, l⟩, fun _ h => h.1⟩
  | lst ds => exact obj (by simp only [Rep] at r; obtain ⟨b, _, e, _⟩ := r; exact ⟨b, e⟩)
  | tup ds => exact obj (by simp only [Rep] at r; obtain ⟨b, _, e, _⟩ := r; exact ⟨b, e⟩)
  | wtp ds => exact obj (by simp only [Rep] at r; obtain ⟨b, _, e, _⟩ := r; exact ⟨b, e⟩)
  | frz ds => exact obj (by simp only [Rep] at r; obtain ⟨b, _, e, _⟩ := r; exact ⟨b, e⟩)
  | set ds => simp only [Rep] at r
  | dct t ks ds => exact obj (by simp only [Rep] at r; obtain ⟨b, e, _⟩ := r; exact ⟨b, e⟩)
  | ins c ks ds => exact obj (by simp only [Rep] at r; obtain ⟨b, _, _, e, _⟩ := r; exact ⟨b, e⟩)
  | obj n => exact obj (by simp only [Rep] at r; obtain ⟨b, _, e⟩ := r; exact ⟨b, e⟩)
  | fn k => exact obj (by simp only [Rep] at r; exact C.frr _ _ _ r)
/-- x stands for v, y for v alone, wherever -/
def OqR (C : Ct) (S : Ws) (a dd : Addr) (fs : List (Str × V)) (x y : D) : Prop := ∃ v, Rep C S x v ∧ ∀ S', Rep (exCt C a dd fs) S' y v ∧ ∀ v', Rep (exCt C a dd fs) S' y v' → v' = v
theorem oq_non {C : Ct} {S : Ws} {a dd : Addr} {fs : List (Str × V)} : OqR C S a dd fs .non .non := ⟨.non, by simp only [Rep], fun S' => ⟨by simp only [Rep], fun v' h => by simpa only [Rep] using h⟩⟩
theorem look_pair {C : Ct} {j : Nat} (nok : ∀ i, C.nm i = C.nm j → i = j) {S : Ws} {a dd : Addr} {fs0 : List (Str × V)} : ∀ {ks : List Nat} {ds : List D} {fs : List (Str × V)} {i : Nat}, fs.map (·.1) = ks.map C.nm → Reps C S ds (fs.map (·.2)) → (∀ k : Nat, fs[k]? = fs0[i + k]?) →
    ((ks.zip ds).lookup j = none ∧ (ks.zip (opqs i ds)).lookup j = none) ∨ ∃ x y v, (ks.zip ds).lookup j = some x ∧ (ks.zip (opqs i ds)).lookup j = some y ∧ fs.lookup (C.nm j) = some v ∧ (∃ i', y = opq i' x) ∧ Rep C S x v ∧ ∀ S', Rep (exCt C a dd fs0) S' y v ∧ ∀ v', Rep (exCt C a dd fs0) S' y v' → v' = v
  | [], ds, fs, i, h1, h2, h3 => .inl ⟨by simp, by simp⟩
  | k :: ks, [], fs, i, h1, h2, h3 => .inl ⟨by simp, by simp [opqs]⟩
  | k :: ks, d :: ds, [], i, h1, h2, h3 => by simp at h1
  | k :: ks, d :: ds, (n, v) :: fs, i, h1, h2, h3 => by
    simp only [List.map_cons, List.cons.injEq] at h1
    obtain ⟨e1, h1⟩ := h1
    obtain ⟨v', vs', ev, r, rs⟩ := h2
    simp only [List.map_cons, List.cons.injEq] at ev
    obtain ⟨rfl, rfl⟩ := ev
    by_cases hj : j = k
    · subst hj
      refine .inr ⟨d, opq i d, v, by simp, by simp [opqs], by simp [List.lookup_cons, e1], ⟨i, rfl⟩, r, fun S' => opq_rep (n := n) ?_ r S'⟩
      have := h3 0
      simpa using this.symm
    · have hb : (j == k) = false := by simpa using hj
      have hn : (C.nm j == n) = false := by
        have : C.nm j ≠ n := fun z => hj (nok k (z.trans e1).symm).symm
        simpa using this
      rcases look_pair nok (i := i + 1) h1 rs (fun m => by
        have := h3 (m + 1)
        rw [show i + 1 + m = i + (m + 1) by omega]
        simpa using this) with ⟨q1, q2⟩ | ⟨x, y, w, q1, q2, q3, q4⟩
      · refine .inl ⟨?_, ?_⟩
        · show List.lookup j ((k, d) :: ks.zip ds) = none
          rw [List.lookup_cons, hb]
          exact q1
        · show List.lookup j ((k, opq i d) :: ks.zip (opqs (i + 1) ds)) = none
          rw [List.lookup_cons, hb]
          exact q2
      · refine .inr ⟨x, y, w, ?_, ?_, ?_, q4⟩
        · show List.lookup j ((k, d) :: ks.zip ds) = _
          rw [List.lookup_cons, hb]
          exact q1
        · show List.lookup j ((k, opq i d) :: ks.zip (opqs (i + 1) ds)) = _
          rw [List.lookup_cons, hb]
          exact q2
        · rw [List.lookup_cons, hn]
          exact q3
theorem fieldO_rel {t : List Char} {L1 L2 : List (Nat × D)} {R : D → D → Prop} (hR : R .non .non) (h : ∀ j, j < 30 → (L1.lookup j = none ∧ L2.lookup j = none) ∨ ∃ x y, L1.lookup j = some x ∧ L2.lookup j = some y ∧ R x y) {x : D} (hx : fieldO t L1 = some x) : ∃ y, fieldO t L2 = some y ∧ R x y := by
  have key : ∀ j, j < 30 → L1.lookup j = some x → ∃ y, L2.lookup j = some y ∧ R x y := fun j hl hj => by
    rcases h j hl with ⟨q, _⟩ | ⟨x', y, q1, q2, q3⟩
    · rw [q] at hj; cases hj
    · rw [q1] at hj
      cases hj
      exact ⟨y, q2, q3⟩
  unfold fieldO at hx ⊢
  repeat' split at hx
  all_goals simp_all
end Fs

/-! FuF: the suites of _law_try. -/
namespace Fs
open PySem PySem.Spec PyProof.Rows L2 L2H LamX
/-- a store without cells at H -/
def S0 (H : Hp) : Ws := ⟨[], [], [], H⟩
theorem wf0 {C : Ct} (H : Hp) : Wf C (S0 H) := ⟨rfl, fun n c a h => by simp [S0] at h, fun n k c d a h => by simp [S0] at h, fun a h => by simp [S0] at h, List.nodup_nil⟩
theorem nl0 {H : Hp} {a : Addr} : ¬ (S0 H).L a := fun h => by
  rcases h with h | ⟨n, c, h, _⟩
  · simp [S0] at h
  · simp [S0] at h
theorem step0_keep {H : Hp} {S' : Ws} (st : Step (S0 H) S') : ∀ a o, H a = some o → S'.H a = some o := fun a o e => (st.keep a o e nl0).1
/-- the def that tells the field -/
structure FieldD (C : Ct) (P : Program) (w : World) (mg : Str → Option Value) (base : Heap) (k : Nat) (x : Str) : Prop where
  ex : ∃ (qual : Str) (params : Arguments) (body : List Stmt) (scope : Scope) (f : Addr) (fd : FuncData) (N ps : List Str), FunD C.K x qual params body scope [] [] f fd ∧ FnScope N ps scope ∧ mg x = some (.ref f) ∧ PySem.W.keepIn C.K (.ref f) = true ∧ Binds C.K fd ps [] ∧ ps.length = 1 ∧ N.length = 1 ∧
    ∀ (a dd : Addr) (fs : List (Str × V)) (c : Nat) (L : List (Nat × D)) (oe : Obj), LOk C a dd fs c L → Zc (.ref (He.ga C.K (C.nm c))) (some dd) oe → (∃ vs, oe.data = .fields vs) → ∀ (cdv : Value) (A : Around) (outer : List PySem.Env) (s : Shared) (H : Hp) (E : XK), RoomH k (A.deeper (envOfC qual scope s.heap.objs.size f cdv)) →
      SSs (exCt C a dd fs) (cxH (L2.CX P w) P w C.K mg base N qual scope f cdv A outer s H E (a, oe)) body (mField L)
section
variable {C : Ct} {X : Cx} {a dd : Addr} {fs : List (Str × V)} {c k i : Nat} {L : List (Nat × D)} {oe : Obj} {x e : Str} {p1 p2 p3 p4 : Pos}
theorem pe_field (F : FieldD C X.prog X.w X.mg X.base k x) (hK : X.K = C.K) (hm : (a, oe) ∈ X.pn) (hz : Zc (.ref (He.ga C.K (C.nm c))) (some dd) oe) (hf : ∃ vs, oe.data = .fields vs) (hL : LOk C a dd fs c L) (hr : RoomH (k + 1) X.A) (hg : glB X x = true) (hv : varB X i e = true) :
    PE X (.Call (.Name x p1) [.Name e p2] [] p3) (fun σ H Q => i < σ.length ∧ σ[i]? = some (some (.ref a)) ∧ H dd = some (.xd fs) ∧ ∃ t y, L.lookup 3 = some (.str t) ∧ fieldO t L = some y ∧ ∀ H' v, (∀ b o, H b = some o → H' b = some o) → Rep (exCt C a dd fs) (S0 H') y v → Q v H') := by
  obtain ⟨qual, params, body, scope, f, fd, N, ps, F1, F2, F3, F4, F5, F6, F7, F8⟩ := F.ex
  rw [← hK] at F4
  refine ⟨fun pins s σ H Q I ⟨hl, hs, hd, t, y, h1, h2, hq⟩ => ?_⟩
  have ha : SA (exCt C a dd fs) X [.Name e p2] (.cons (.var i) .nil) := sa_cons (sv hv) sa_nil (by rfl)
  refine wpAny_Call_Name_kw (ld_glob I (glB_ok hg).1 F3 ?_ (glB_ok hg).2)
  have sr : SRep (exCt C a dd fs) (S0 H) ((List.replicate σ.length none).set i (some (.fn 0))) σ := by
    refine ⟨by simp, fun j d h => ?_⟩
    rw [List.getElem?_set] at h
    split at h
    · rename_i ej
      subst ej
      split at h
      · cases h
        refine ⟨_, hs, ?_⟩
        simp only [Rep]
        exact ⟨rfl, hd, nl0⟩
      · cases h
    · rw [List.getElem?_replicate] at h
      split at h <;> cases h
  have hev : evs (.cons (.var i) .nil) ((List.replicate σ.length none).set i (some (.fn 0))) (S0 H).mu = .ok [.fn 0] (S0 H).mu := by
    exact WP.eq (by simp [hl])
  have hp : dnA (exCt C a dd fs) (evs (.cons (.var i) .nil)) (fun _ _ _ _ => False) σ H (fun vs H1 => (∀ b o, H b = some o → H1 b = some o) ∧ ∃ v, vs = [v] ∧ v = .ref a) := by
    refine ⟨_, S0 H, rfl, wf0 H, sr, ?_⟩
    rw [hev]
    intro S' vs hmu w' st rs
    obtain ⟨v, vs', e1, r1, r2⟩ := rs
    have : vs' = [] := by simpa [Reps] using r2
    subst this
    simp only [Rep] at r1
    exact ⟨step0_keep st, v, e1, r1.1⟩
  refine PySem.W.callWith_K (h₀ := X.base) I.ok.mod.kin F4 (thn ((ha _ L2.takes0).run p3 pins s σ H _ I hp) fun us s1 ⟨vs, H1, I1, r, q⟩ => ⟨I1.kIn, ?_⟩) (by rfl) (by rfl)
  obtain ⟨e1, v, e2, e3⟩ := q
  subst e2 e3
  have rs : Reps (exCt C a dd fs) (S0 H1) [.fn 0] [.ref a] := Reps.cons (by simp only [Rep]; exact ⟨rfl, e1 _ _ hd, nl0⟩) Reps.nil
  refine run_hot (C := exCt C a dd fs) (m := mField L) (S := S0 H1) (p := (a, oe)) F1 F2 hK hm hr (by rw [hK]; exact F5) (fun cdv A outer s H E hr => ?_) I1 r (wf0 H1) rs (by rw [F6]; rfl) ?_
  · have := F8 a dd fs c L oe hL hz hf cdv A outer s H E hr
    rw [← hK] at this
    exact this
  · rw [F6, F7]
    have e := field_run (m := (S0 H1).mu) h1 h2
    rw [e]
    intro S' v hmu w' st rv
    refine hq _ v (fun b o z => step0_keep st b o (e1 b o z)) ?_
    obtain ⟨ad, mu, ex, H'⟩ := S'
    have hex : ex = [] := st.exs
    have had : ad.length = mu.length := w'.len
    have hmu : mu = [] := hmu
    subst hmu hex
    have : ad = [] := by simpa using had
    subst this
    exact rv
end
end Fs

/-! FuG: the suites. -/
namespace Fs
open PySem PySem.Spec PyProof.Rows L2 L2H LamX
/-- what a suite wishes: the exception is in slot i; its class, its fields; with field or without -/
def tsTry (C : Ct) (i : Nat) (fld : Bool) (a : Addr) (cls : Value) (d : Option Addr) : TS := fun Z σ H => (∃ σ' : L2.St, σ = σ'.set i (some (.ref a))) ∧ ∃ (c : Nat) (dd : Addr) (fs : List (Str × V)) (L : List (Nat × D)) (t : List Char),
  cls = .ref (He.ga C.K (C.nm c)) ∧ d = some dd ∧ H dd = some (.xd fs) ∧ LOk C a dd fs c L ∧ L.lookup 3 = some (.str t) ∧ t.length ≤ sizeLine ∧
  (if fld = true then ∃ y, fieldO t L = some y ∧ ∀ H' v, (∀ b o, H b = some o → H' b = some o) → Rep (exCt C a dd fs) (S0 H') y v → ∀ p, H' p = none → Z.rt (.ref p) (upd H' p (.tup [.str (toS t), v]))
   else ∀ H', (∀ b o, H b = some o → H' b = some o) → ∀ p, H' p = none → Z.rt (.ref p) (upd H' p (.tup [.str (toS t), .non])))
section
variable {C : Ct} {X : Cx} {a : Addr} {k i : Nat} {oe : Obj} {x e : Str} {p1 p2 p3 p4 p5 p6 p7 : Pos} {j1 : Nat}
/-- the reading of the tag -/
theorem pe_tag {dd : Addr} {fs : List (Str × V)} {c : Nat} {L : List (Nat × D)} (hK : X.K = C.K) (hn : C.nm 3 = "tag") (hm : (a, oe) ∈ X.pn) (hz : Zc (.ref (He.ga C.K (C.nm c))) (some dd) oe) (hf : ∃ vs, oe.data = .fields vs) (hL : LOk C a dd fs c L) (hv : varB X i e = true) :
    PE X (.Attribute (.Name e p1) "tag" p2) (fun σ H Q => i < σ.length ∧ σ[i]? = some (some (.ref a)) ∧ H dd = some (.xd fs) ∧ ∃ t, L.lookup 3 = some (.str t) ∧ ∀ H' v, (∀ b o, H b = some o → H' b = some o) → v = .str (toS t) → Q v H') := by
  refine ⟨fun pins s σ H Q I ⟨hl, hs, hd, t, h1, hq⟩ => ?_⟩
  have ha : SE (exCt C a dd fs) X (.Attribute (.Name e p1) "tag" p2) (.attr (xfM L 3) (.var i)) := by
    have := se_xf (X := X) (j := 3) (pos := p2) hK hm hz hf hL (sv (pos := p1) hv) (by rfl)
    rwa [hn] at this
  refine (ha _ L2.takes0).run pins s σ H Q I ⟨(List.replicate σ.length none).set i (some (.fn 0)), S0 H, rfl, wf0 H, ?_, ?_⟩
  · refine ⟨by simp, fun j d h => ?_⟩
    rw [List.getElem?_set] at h
    split at h
    · rename_i ej
      subst ej
      split at h
      · cases h
        refine ⟨_, hs, ?_⟩
        simp only [Rep]
        exact ⟨rfl, hd, nl0⟩
      · cases h
    · rw [List.getElem?_replicate] at h
      split at h <;> cases h
  · have hev : ev (.attr (xfM L 3) (.var i)) ((List.replicate σ.length none).set i (some (.fn 0))) (S0 H).mu = .ok (.str t) (S0 H).mu := WP.eq (by simp [hl, xfM_ap, h1])
    rw [hev]
    intro S' v hmu w' st rv
    exact hq _ v (fun b o z => step0_keep st b o z) (rep_str.mp rv).1
theorem slot_of {pins : List (Addr × Obj)} {σ σ' : L2.St} {H : Hp} {s : Shared} (I : Inv X pins σ H s) (hv : varB X i e = true) (h : σ = σ'.set i (some (.ref a))) : i < σ.length ∧ σ[i]? = some (some (.ref a)) := by
  have hl : σ.length = X.N.length := I.len
  have hi : i < X.N.length := by
    unfold varB at hv
    cases q : X.N[i]? with
    | none => rw [q] at hv; simp at hv
    | some y => exact (List.getElem?_eq_some_iff.mp q).1
  refine ⟨by omega, ?_⟩
  rw [h, List.length_set] at hl
  rw [h, List.getElem?_set_self (by omega)]
theorem suite_f (F : FieldD C X.prog X.w X.mg X.base k x) (hK : X.K = C.K) (hn : C.nm 3 = "tag") (hm : (a, oe) ∈ X.pn) {cls : Value} {d : Option Addr} (hz : Zc cls d oe) (hf : ∃ vs, oe.data = .fields vs) (hr : RoomH (k + 1) X.A) (hg : glB X x = true) (hv : varB X i e = true) :
    PSs X [.Return (some (.Tuple [.Attribute (.Name e p1) "tag" p2, .Call (.Name x p3) [.Name e p4] [] p5] j1 p6)) p7] (tsTry C i true a cls d) := by
  refine ⟨fun pins s σ H D I ⟨⟨σ', es⟩, c, dd, fs, L, t, e1, e2, hd, hL, h3, ht, hq⟩ => ?_⟩
  obtain ⟨hl, hs⟩ := slot_of I hv es
  subst e1 e2
  obtain ⟨y, hy, hq⟩ := by simpa using hq
  refine (pss_one (ps_ret (pos := p7) (pe_tup (x1 := j1) (pos := p6) (pa_cons (pe_tag (p1 := p1) (p2 := p2) hK hn hm hz hf hL hv) (pa_cons (pe_field (p1 := p3) (p2 := p4) (p3 := p5) F hK hm hz hf hL hr hg hv) pa_nil (by rfl)) (by rfl))))).run pins s σ H D I ?_
  refine ⟨hl, hs, hd, t, h3, fun H1 v1 k1 ev1 => ?_⟩
  refine ⟨hl, hs, k1 _ _ hd, t, y, h3, hy, fun H2 v2 k2 r2 => ?_⟩
  refine ⟨by simp [sizeLine_eq], fun p hp => ?_⟩
  subst ev1
  exact hq H2 v2 (fun b o z => k2 b o (k1 b o z)) r2 p hp
theorem suite_n (hK : X.K = C.K) (hn : C.nm 3 = "tag") (hm : (a, oe) ∈ X.pn) {cls : Value} {d : Option Addr} (hz : Zc cls d oe) (hf : ∃ vs, oe.data = .fields vs) (hv : varB X i e = true) :
    PSs X [.Return (some (.Tuple [.Attribute (.Name e p1) "tag" p2, .Constant .none j1 p3] j1 p6)) p7] (tsTry C i false a cls d) := by
  refine ⟨fun pins s σ H D I ⟨⟨σ', es⟩, c, dd, fs, L, t, e1, e2, hd, hL, h3, ht, hq⟩ => ?_⟩
  obtain ⟨hl, hs⟩ := slot_of I hv es
  subst e1 e2
  simp only [Bool.false_eq_true, if_false] at hq
  refine (pss_one (ps_ret (pos := p7) (pe_tup (x1 := j1) (pos := p6) (pa_cons (pe_tag (p1 := p1) (p2 := p2) hK hn hm hz hf hL hv) (pa_cons (pe_non) pa_nil (by rfl)) (by rfl))))).run pins s σ H D I ?_
  refine ⟨hl, hs, hd, t, h3, fun H1 v1 k1 ev1 => ?_⟩
  refine ⟨by simp [sizeLine_eq], fun p hp => ?_⟩
  subst ev1
  exact hq H1 k1 p hp
end
end Fs

/-! FuH: the body of _law_try. -/
namespace Fs
open PySem PySem.Spec PyProof.Rows L2 L2H LamX
structure TryScope (sg : Scope) : Prop where
  ask : sg.names.lookup ("_law_ask" : Str) = some .local
  e : sg.names.lookup ("_law_e" : Str) = some .local
  f : sg.names.lookup ("_law_field" : Str) = some .globalImplicit
  c1 : sg.names.lookup ("StepError" : Str) = some .globalImplicit
  c2 : sg.names.lookup ("Missing" : Str) = some .globalImplicit
  c3 : sg.names.lookup ("NothingLeft" : Str) = some .globalImplicit
abbrev NTry : List Str := ["_law_ask", "_law_e"]
abbrev valueS : Str := "value"
theorem law_try_body {C : Ct} {X : Cx} {qg : Str} {sg : Scope} {g f c' : Addr} {cdg v1 v2 v3 : Value} {s : Shared} {H : Hp} {k : Nat} {q : Str} {tl : XK → Hp → VK → Prop} (sc : TryScope sg) (tlm : ∀ (E : XK) (H : Hp) (Q Q' : VK), (∀ v H, Q v H → Q' v H) → tl E H Q → tl E H Q') (F : FieldD C X.prog X.w X.mg X.base k "_law_field") (hK : X.K = C.K) (hn : C.nm 3 = "tag")
    (m1 : X.mg ("StepError" : Str) = some v1) (m2 : X.mg ("Missing" : Str) = some v2) (m3 : X.mg ("NothingLeft" : Str) = some v3) (hr : RoomH (k + 1) (X.A.deeper (envOfC qg sg s.heap.objs.size g cdg)))
    (act : ∀ (W : WX) (pn : List (Addr × Obj)) (xe : Value → Shared → Prop) (E : XK) (p1 p2 : Pos), Takes ((cxOf C8.CX0 X.prog X.w X.K X.mg X.base NTry qg sg g cdg X.A X.stack s H C8.E0).tr pn xe) W → (∀ cls d σ' H', E cls d H' → W cls d σ' H') →
      PE ((cxOf C8.CX0 X.prog X.w X.K X.mg X.base NTry qg sg g cdg X.A X.stack s H C8.E0).tr pn xe) (.Call (.Name "_law_ask" p1) [] [] p2) (fun σZ HZ Q => σZ[0]? = some (some (.ref f)) ∧ HZ c' = some (CodeO c' q) ∧ tl E HZ Q))
    {j1 j2 j3 : Nat} {a1 a2 a3 a4 a5 b1 b2 b3 b4 b5 b6 b7 b8 b9 d1 d2 d3 d4 d5 d6 d7 d8 d9 e1 e2 e3 e4 e5 e6 e7 pos : Pos} :
    PS (cxOf C8.CX0 X.prog X.w X.K X.mg X.base NTry qg sg g cdg X.A X.stack s H C8.E0).nox
      (.Try [.Return (some (.Tuple [.Constant (.str valueS) j1 a1, .Call (.Name "_law_ask" a2) [] [] a3] j1 a4)) a5]
        [.ExceptHandler (some (.Name "StepError" b8)) (some "_law_e") [.Return (some (.Tuple [.Attribute (.Name "_law_e" b1) "tag" b2, .Call (.Name "_law_field" b3) [.Name "_law_e" b4] [] b5] j1 b6)) b7] b9,
         .ExceptHandler (some (.Name "Missing" d8)) (some "_law_e") [.Return (some (.Tuple [.Attribute (.Name "_law_e" d1) "tag" d2, .Call (.Name "_law_field" d3) [.Name "_law_e" d4] [] d5] j1 d6)) d7] d9,
         .ExceptHandler (some (.Name "NothingLeft" e6)) (some "_law_e") [.Return (some (.Tuple [.Attribute (.Name "_law_e" e1) "tag" e2, .Constant .none j1 e3] j1 e4)) e5] e7] [] [] pos)
      (fun D σ HZ => ∃ Ech : XK, (∀ cls d σ' H', Ech cls d H' → wManyAs X.K 1 (fun _ _ _ _ => False) D [(v1, tsTry C 1 true), (v2, tsTry C 1 true), (v3, tsTry C 1 false)] cls d σ' H') ∧ σ[0]? = some (some (.ref f)) ∧ HZ c' = some (CodeO c' q) ∧
        tl Ech HZ (fun v H' => ∀ p, H' p = none → D.rt (.ref p) (upd H' p (.tup [.str valueS, v])))) := by
  have hv : ∀ (A : Around) (pn : List (Addr × Obj)), varB ({ (cxOf C8.CX0 X.prog X.w X.K X.mg X.base NTry qg sg g cdg X.A X.stack s H C8.E0).nox with A := A, calm := false, pn := pn, xe := fun _ _ => False }) 1 ("_law_e" : Str) = true := fun A pn => by
    show (((("_law_e" : Str) == ("_law_e" : Str)) && (match sg.names.lookup ("_law_e" : Str) with
      | some .local => true
      | some .cell => true
      | some .free => true
      | _ => false)) && !(("_law_e" : Str) == ("__debug__" : Str)) && !(("_law_e" : Str) == ("__classdict__" : Str))) = true
    rw [sc.e]
    decide
  have hg : ∀ (A : Around) (pn : List (Addr × Obj)), glB ({ (cxOf C8.CX0 X.prog X.w X.K X.mg X.base NTry qg sg g cdg X.A X.stack s H C8.E0).nox with A := A, calm := false, pn := pn, xe := fun _ _ => False }) ("_law_field" : Str) = true := fun A pn => by
    show ((match sg.names.lookup ("_law_field" : Str) with
      | some .globalImplicit => true
      | _ => false) && !(("_law_field" : Str) == ("__debug__" : Str))) = true
    rw [sc.f]
    decide
  refine PSw (ps_try_manyAs (i := 1) (tb := fun W D σ HZ => ∃ Ech : XK, (∀ cls d σ' H', Ech cls d H' → W cls d σ' H') ∧ σ[0]? = some (some (V.ref f)) ∧ HZ c' = some (CodeO c' q) ∧ tl Ech HZ (fun v H' => ∀ p, H' p = none → D.rt (.ref p) (upd H' p (.tup [.str valueS, v]))))
    (l := [(v1, tsTry C 1 true), (v2, tsTry C 1 true), (v3, tsTry C 1 false)]) rfl rfl (show NTry.Nodup by decide) rfl sc.e L2.takes0 (fun W pn xe tk _ => ?_) ?_) fun D σ HZ h => h
  · refine ⟨fun pins s' σ H' D I h' => ?_⟩
    obtain ⟨Ech, hW, h1, h2, h3⟩ := h'
    refine (pss_one (ps_ret (pos := a5) (pe_tup (x1 := j1) (pos := a4) (pa_cons (pe_str) (pa_cons (act W pn xe Ech a2 a3 tk hW) pa_nil (by rfl)) (by rfl))))).run pins s' σ H' D I ?_
    exact ⟨h1, h2, tlm _ _ _ _ (fun v H1 hq => ⟨by simp [sizeLine_eq], fun p hp => hq p hp⟩) h3⟩
  · refine .cons ⟨sc.c1, by decide, .inl m1⟩ (fun a oe cls d pn hz hf => suite_f (X := (cxOf C8.CX0 X.prog X.w X.K X.mg X.base NTry qg sg g cdg X.A X.stack s H C8.E0).nox.suite a ((a, oe) :: pn)) F hK hn (List.mem_cons_self ..) hz hf ⟨hr.dp, hr.un⟩ (hg _ ((a, oe) :: pn)) (hv _ ((a, oe) :: pn))) (.cons ⟨sc.c2, by decide, .inl m2⟩ (fun a oe cls d pn hz hf => suite_f (X := (cxOf C8.CX0 X.prog X.w X.K X.mg X.base NTry qg sg g cdg X.A X.stack s H C8.E0).nox.suite a ((a, oe) :: pn)) F hK hn (List.mem_cons_self ..) hz hf ⟨hr.dp, hr.un⟩ (hg _ ((a, oe) :: pn)) (hv _ ((a, oe) :: pn)))
      (.cons ⟨sc.c3, by decide, .inl m3⟩ (fun a oe cls d pn hz hf => suite_n (X := (cxOf C8.CX0 X.prog X.w X.K X.mg X.base NTry qg sg g cdg X.A X.stack s H C8.E0).nox.suite a ((a, oe) :: pn)) hK hn (List.mem_cons_self ..) hz hf (hv _ ((a, oe) :: pn))) .nil))
end Fs

/-! FuI: _law_try(lambda: ..) as a construct. -/
namespace Fs
open PySem PySem.Spec PyProof.Rows L2 L2H LamX
open Classical
/-- hk: class -> (with field or without, its fields); j: the table's cell -/
noncomputable def tryG (hk : List (Nat × (Bool × List Nat))) (j : Nat) (m : Store) (x : R D) : R D := match m[j]? with
  | some (.tab k) => if k = j then (match x with
    | .ok d m' => .ok (.tup [.str ['v', 'a', 'l', 'u', 'e'], d]) m'
    | .exc c ks ds m' => (match hk.lookup c with
      | some (b, ks') => if ks = ks' then (match (ks.zip ds).lookup 3 with
        | some (.str t) => if b = true then (match fieldO t (ks.zip ds) with
          | some y => .ok (.tup [.str t, y]) m'
          | none => .stuck) else .ok (.tup [.str t, .non]) m'
        | _ => .stuck) else .stuck
      | none => .stuck)
    | .stuck => .stuck) else .stuck
  | _ => .stuck
/-- which of the three clauses takes the class c -/
structure HandAt (C : Ct) (v1 v2 v3 : Value) (c : Nat) (b : Bool) (ks : List Nat) : Prop where
  h : (b = true ∧ PySem.W.exmOne C.K (.ref (He.ga C.K (C.nm c))) v1 = some true) ∨
    (b = true ∧ PySem.W.exmOne C.K (.ref (He.ga C.K (C.nm c))) v1 = some false ∧ PySem.W.exmOne C.K (.ref (He.ga C.K (C.nm c))) v2 = some true) ∨
    (b = false ∧ PySem.W.exmOne C.K (.ref (He.ga C.K (C.nm c))) v1 = some false ∧ PySem.W.exmOne C.K (.ref (He.ga C.K (C.nm c))) v2 = some false ∧ PySem.W.exmOne C.K (.ref (He.ga C.K (C.nm c))) v3 = some true)
  xc : XfC C.K (He.ga C.K (C.nm c))
  no : ∀ j ∈ ks, PySem.W.findIn C.K (.ref (He.ga C.K (C.nm c))) (C.nm j) = some none
/-- a heap that grew -/
theorem ext_ws {C : Ct} {S : Ws} {H' : Hp} (w : Wf C S) (h : ∀ b o, S.H b = some o → H' b = some o) : Wf C ⟨S.ad, S.mu, S.ex, H'⟩ ∧ Step S ⟨S.ad, S.mu, S.ex, H'⟩ := by
  have st : Step S ⟨S.ad, S.mu, S.ex, H'⟩ := ⟨⟨fun a o e n => ⟨h a o e, n⟩, fun _ _ e => e⟩, rfl, fun a ha => by
    obtain ⟨⟨o, e⟩, _⟩ := w.exh a ha
    show H' a = S.H a
    rw [e, h a o e]⟩
  refine ⟨⟨w.len, fun n c a hm ha => ?_, w.inj, fun a ha => ?_, w.exd⟩, st⟩
  · have z := w.cell n c a hm ha
    cases le : c.live with
    | false =>
      cases c with
      | dead => trivial
      | _ => cases le
    | true =>
      obtain ⟨o, e⟩ := z.has le
      refine z.keep st.toStep0 ?_
      show H' a = S.H a
      rw [e, h a o e]
  · obtain ⟨⟨o, e⟩, k⟩ := w.exh a ha
    exact ⟨⟨o, h a o e⟩, k⟩
theorem zip_mem {ks : List Nat} {ds : List D} {j : Nat} {x : D} (h : (ks.zip ds).lookup j = some x) : j ∈ ks := by
  induction ks generalizing ds with
  | nil => simp at h
  | cons k ks ih =>
    cases ds with
    | nil => simp at h
    | cons d ds =>
      rw [List.zip_cons_cons, List.lookup_cons] at h
      by_cases hj : j = k
      · exact hj ▸ List.mem_cons_self ..
      · have hb : (j == k) = false := by simpa using hj
        rw [hb] at h
        exact List.mem_cons_of_mem _ (ih h)
end Fs

/-! FuJ: an exception of the lambda's body is taken. -/
namespace Fs
open PySem PySem.Spec PyProof.Rows L2 L2H LamX
open Classical
theorem rep_pair {C : Ct} {S : Ws} (w : Wf C S) {t : List Char} {y : D} {v : V} {p : Addr} (hp : S.H p = none) (ht : t.length ≤ sizeLine) (r : Rep C S y v) : Rep C (S.new p (.tup [.str (toS t), v])) (.tup [.str t, y]) (.ref p) :=
  rep_tup_new (Fx.new w hp) (by simp [sizeLine_eq]) (Reps.cons (rep_str.mpr ⟨rfl, ht⟩) (Reps.cons (r.mono (Step.new w hp)) Reps.nil))
theorem try_exc {C : Ct} {n : Nat} (nok : NmOk C n) (h30 : 30 ≤ n) {v1 v2 v3 : Value} {c : Nat} {b : Bool} {ks : List Nat} {ds : List D} {t : List Char} (HA : HandAt C v1 v2 v3 c b ks) (hks : ∀ j ∈ ks, j < n) {S2 : Ws} (w2 : Wf C S2) {dx : Addr} {fvs : List (Str × V)}
    (fx : Fx S2 dx (.xd fvs)) (hnm : fvs.map (·.1) = ks.map C.nm) (hre : Reps C S2 ds (fvs.map (·.2))) (ht : (ks.zip ds).lookup 3 = some (.str t)) {y : D} (hy : if b = true then fieldO t (ks.zip ds) = some y else y = .non) {Z : Ends}
    (hq : ∀ (S3 : Ws) (v : V), S3.mu = S2.mu → Wf C S3 → Step S2 S3 → Rep C S3 (.tup [.str t, y]) v → Z.rt v S3.H) (σ' : L2.St) :
    wManyAs C.K 1 (fun _ _ _ _ => False) Z [(v1, tsTry C 1 true), (v2, tsTry C 1 true), (v3, tsTry C 1 false)] (.ref (He.ga C.K (C.nm c))) (some dx) σ' S2.H := by
  have look := fun (a : Addr) (j : Nat) (hj : j < n) => look_pair (C := C) (j := j) (fun i e => nok i j hj e) (S := S2) (a := a) (dd := dx) (fs0 := fvs) (i := 0) hnm hre (fun k => by rw [Nat.zero_add])
  have tag : ∀ a : Addr, (ks.zip (opqs 0 ds)).lookup 3 = some (.str t) ∧ t.length ≤ sizeLine := fun a => by
    rcases look a 3 (by omega) with ⟨q, _⟩ | ⟨x, y, v, q1, q2, q3, ⟨i', q4⟩, q5, q6⟩
    · rw [ht] at q; cases q
    · rw [ht] at q1
      cases q1
      have : y = .str t := q4
      rw [this] at q2
      exact ⟨q2, (rep_str.mp q5).2⟩
  have lok : ∀ a : Addr, LOk C a dx fvs c (ks.zip (opqs 0 ds)) := fun a => by
    refine ⟨fun j x hx => ?_, fun j x hx => HA.no j (zip_mem hx), HA.xc⟩
    rcases look a j (hks j (zip_mem hx)) with ⟨_, q⟩ | ⟨x', y', v, q1, q2, q3, _, q5, q6⟩
    · rw [hx] at q; cases q
    · rw [hx] at q2
      cases q2
      exact ⟨v, q3, fun S => (q6 S).1⟩
  have fin : ∀ a : Addr, tsTry C 1 b a (.ref (He.ga C.K (C.nm c))) (some dx) (endsAs Z 1) (σ'.set 1 (some (.ref a))) S2.H := fun a => by
    refine ⟨⟨σ', rfl⟩, c, dx, fvs, ks.zip (opqs 0 ds), t, rfl, rfl, fx.1, lok a, (tag a).1, (tag a).2, ?_⟩
    cases b with
    | true =>
      rw [if_pos rfl] at hy ⊢
      obtain ⟨y', hy', v0, r0, ru⟩ := fieldO_rel (R := OqR C S2 a dx fvs) (L2 := ks.zip (opqs 0 ds)) oq_non (fun j hj => by
        rcases look a j (by omega) with q | ⟨x, y, v, q1, q2, q3, _, q5, q6⟩
        · exact .inl q
        · exact .inr ⟨x, y, q1, q2, v, q5, q6⟩) hy
      refine ⟨y', hy', fun H' v hE rv p hp => ?_⟩
      have ev : v = v0 := (ru _).2 v rv
      subst ev
      obtain ⟨w3, st3⟩ := ext_ws w2 hE
      exact hq (Ws.new ⟨S2.ad, S2.mu, S2.ex, H'⟩ p (.tup [.str (toS t), v])) (.ref p) rfl (w3.new hp) (st3.trans (Step.new w3 hp)) (rep_pair w3 hp (tag a).2 (r0.mono st3))
    | false =>
      simp only [Bool.false_eq_true, if_false] at hy ⊢
      intro H' hE p hp
      obtain ⟨w3, st3⟩ := ext_ws w2 hE
      subst hy
      exact hq (Ws.new ⟨S2.ad, S2.mu, S2.ex, H'⟩ p (.tup [.str (toS t), .non])) (.ref p) rfl (w3.new hp) (st3.trans (Step.new w3 hp)) (rep_pair w3 hp (tag a).2 (rep_non.mpr rfl))
  rcases HA.h with ⟨eb, h1⟩ | ⟨eb, h1, h2⟩ | ⟨eb, h1, h2, h3⟩
  · subst eb
    exact ⟨true, h1, fun _ a _ => fin a, fun z => by cases z⟩
  · subst eb
    exact ⟨false, h1, (fun z => by cases z), fun _ => ⟨true, h2, fun _ a _ => fin a, fun z => by cases z⟩⟩
  · subst eb
    exact ⟨false, h1, (fun z => by cases z), fun _ => ⟨false, h2, (fun z => by cases z), fun _ => ⟨true, h3, fun _ a _ => fin a, fun z => by cases z⟩⟩⟩
end Fs

/-! FuK: _law_try(lambda: e). -/
namespace Fs
open PySem PySem.Spec PyProof.Rows L2 L2H LamX
open Classical
/-- the def _law_try as it stands in the program -/
structure TryD (C : Ct) (P : Program) (w : World) (mg : Str → Option Value) (base : Heap) (k n : Nat) (hk : List (Nat × (Bool × List Nat))) : Prop where
  ex : ∃ (g : Addr) (fd : FuncData) (pg : Arguments) (sg : Scope) (v1 v2 v3 : Value) (j1 : Nat) (a1 a2 a3 a4 a5 b1 b2 b3 b4 b5 b6 b7 b8 b9 d1 d2 d3 d4 d5 d6 d7 d8 d9 e1 e2 e3 e4 e5 e6 e7 pos : Pos),
    FunD C.K "_law_try" "_law_try" pg
      [.Try [.Return (some (.Tuple [.Constant (.str valueS) j1 a1, .Call (.Name "_law_ask" a2) [] [] a3] j1 a4)) a5]
        [.ExceptHandler (some (.Name "StepError" b8)) (some "_law_e") [.Return (some (.Tuple [.Attribute (.Name "_law_e" b1) "tag" b2, .Call (.Name "_law_field" b3) [.Name "_law_e" b4] [] b5] j1 b6)) b7] b9,
         .ExceptHandler (some (.Name "Missing" d8)) (some "_law_e") [.Return (some (.Tuple [.Attribute (.Name "_law_e" d1) "tag" d2, .Call (.Name "_law_field" d3) [.Name "_law_e" d4] [] d5] j1 d6)) d7] d9,
         .ExceptHandler (some (.Name "NothingLeft" e6)) (some "_law_e") [.Return (some (.Tuple [.Attribute (.Name "_law_e" e1) "tag" e2, .Constant .none j1 e3] j1 e4)) e5] e7] [] [] pos] sg [] [] g fd ∧
    mg ("_law_try" : Str) = some (.ref g) ∧ Binds C.K fd ["_law_ask"] [] ∧ FnScope NTry ["_law_ask"] sg ∧ TryScope sg ∧ FieldD C P w mg base k "_law_field" ∧ mg ("StepError" : Str) = some v1 ∧ mg ("Missing" : Str) = some v2 ∧ mg ("NothingLeft" : Str) = some v3 ∧
    ∀ c b ks, hk.lookup c = some (b, ks) → HandAt C v1 v2 v3 c b ks ∧ ∀ j ∈ ks, j < n
noncomputable def tryG0 (hk : List (Nat × (Bool × List Nat))) (x : R D) : R D := match x with
  | .ok d m' => .ok (.tup [.str ['v', 'a', 'l', 'u', 'e'], d]) m'
  | .exc c ks ds m' => (match hk.lookup c with
    | some (b, ks') => if ks = ks' then (match (ks.zip ds).lookup 3 with
      | some (.str t) => if b = true then (match fieldO t (ks.zip ds) with
        | some y => .ok (.tup [.str t, y]) m'
        | none => .stuck) else .ok (.tup [.str t, .non]) m'
      | _ => .stuck) else .stuck
    | none => .stuck)
  | .stuck => .stuck
theorem tryG_eq (hk : List (Nat × (Bool × List Nat))) (j : Nat) (m : Store) (x : R D) : tryG hk j m x = (match m[j]? with
  | some (.tab k) => if k = j then tryG0 hk x else .stuck
  | _ => .stuck) := rfl
theorem se_lawtry {C : Ct} {X : Cx} {k n j : Nat} {hk : List (Nat × (Bool × List Nat))} {c P : Addr} {params : Arguments} {body : Expr} {scope : Scope} {mb : ME} {p lpos pos : Pos} (T : TryD C X.prog X.w X.mg X.base k n hk) (hK : X.K = C.K) (hn : C.nm 3 = "tag") (nok : NmOk C n) (h30 : 30 ≤ n)
    (hg : Gl X "_law_try") (TB : TabB X.base X.mg c P) (hcode : X.env.code = .ref c) (hj : C.tb j = (P, X.env.qual ++ "<lambda>")) (hr : Room (k + 3) X.A) (L : LamS X.env.scope scope) (hdef : defaultsOf params X.env = ([], []))
    (hbind : ∀ (q : Str) (cl : List (Str × Addr)) (pm cv ctv : Value), bindArgs (PySem.W.kla_fn "<lambda>" q params body scope cl pm cv ctv) ⟨[], []⟩ = pure [])
    (hbody : ∀ (A : Around) (outer : List PySem.Env) (s : Shared) (H : Hp) (E : XK) (f c' : Addr), Room (k + 1) (A.deeper (lamEnv X scope s.heap.objs.size f c')) → SE C (lamCx X A outer s H E scope f c') body mb) :
    SE C X (.Call (.Name "_law_try" p) [.Lambda params body scope lpos] [] pos) (.tryx (tryG hk j) mb) := fun W tk => by
  obtain ⟨g, fd, pg, sg, v1, v2, v3, j1, a1, a2, a3, a4, a5, b1, b2, b3, b4, b5, b6, b7, b8, b9, d1, d2, d3, d4, d5, d6, d7, d8, d9, e1, e2, e3, e4, e5, e6, e7, tpos, FD, hm, hb, Sg, sc, FF, m1, m2, m3, hH⟩ := T.ex
  obtain ⟨oc, od, dV, kV, doc, pm, an, cdv, ct, osl, rfl, lk, hcg, _, _⟩ := FD.ex
  have hkp := FD.kp
  rw [← hK] at lk hcg hkp hb
  refine ⟨fun pins s σ H Q I ⟨r, S, hS, w, sr, h⟩ => ?_⟩
  subst hS
  simp only [ev] at h
  obtain ⟨kk, hm0, ekk⟩ : ∃ kk, S.mu[j]? = some (.tab kk) ∧ kk = j := by
    unfold tryG at h
    split at h
    · rename_i kk e
      split at h
      · rename_i e2; exact ⟨kk, e, e2⟩
      · exact h.elim
    · exact h.elim
  subst ekk
  rw [tryG_eq, hm0] at h
  simp only [if_true] at h
  unfold tryG0 at h
  refine wpAny_Call_Name_kw (ld_glob I hg hm ?_ (by decide))
  refine PySem.W.callWith_K (h₀ := X.base) I.ok.mod.kin hkp ?_ (by rfl) (by rfl)
  show wpAny _ _ (spliced ((false, eval (.Lambda params body scope lpos) X.env) :: backTo pos (starEach [] X.env))) _ _ s
  refine Calls.spliced_cons (lam_make3 w hm0 hj I TB hcode hdef (L.has I.ok) fun f c' pm' ctv S1 s' hmu w1 st1 I1 hf hfn hfr hco => ?_)
  refine Calls.spliced_nil ⟨I1.kIn, ?_⟩
  have rc : codeAny (model X.prog X.w) X.A (.call (.ref g) ⟨[.ref f], []⟩) (CR C8.CX0 X.stack X.prog X.w S1.H s' Q C8.E0) s' := by
    refine run_ofS (N := NTry) (ps := ["_law_ask"]) (us := [.ref f]) (vs := [.ref f]) lk hcg Sg hr I1.env0 (hb s' [.ref f] I1.kIn rfl) (.cons rfl .nil) rfl fun hr' => ?_
    refine ⟨_, (pss_one (law_try_body (j2 := 0) (j3 := 0) (X := X) (C := C) (k := k) (f := f) (c' := c') (q := X.env.qual ++ "<lambda>") (tl := fun E HZ Q' => dnE C (ev mb) (fun cls d _ H => E cls d H) σ HZ Q') sc (fun E H Q1 Q2 hQ hd => ?_) FF hK hn m1 m2 m3 ⟨by have := hr'.dp; omega, by have := hr'.un; omega⟩ (fun W pn xe E p1 p2 tk hW => ?_))).nox, ?_⟩
    · obtain ⟨r2, S2, h1, h2, h3, h4⟩ := hd
      exact ⟨r2, S2, h1, h2, h3, h4.imp hQ⟩
    · exact pe_act (i := 0) I1 L hf hfn hfr (hbind _ _ _ _ _) tk hW (k := k + 1) hr' (fun A outer s H hr2 => hbody A outer s H E f c' hr2 _ (takes_of rfl rfl rfl rfl)) rfl (.inl sc.ask) (by decide) (by decide)
    · refine ⟨fun cls d H' => ∀ σ', wManyAs X.K 1 (fun _ _ _ _ => False) { nx := fun _ H' => Q .non H', rt := Q } [(v1, tsTry C 1 true), (v2, tsTry C 1 true), (v3, tsTry C 1 false)] cls d σ' H', fun cls d σ' H' z => z σ', rfl, hco.1, ?_⟩
      refine ⟨r, S1, rfl, w1, sr.mono st1, ?_⟩
      rw [hmu]
      cases e : ev mb r S.mu with
      | ok d m' =>
        rw [e] at h
        intro S2 v em w2 st2 rv p hp
        exact h (S2.new p (.tup [.str valueS, v])) (.ref p) em (w2.new hp) ((st1.trans st2).trans (Step.new w2 hp)) (rep_pair (t := ['v', 'a', 'l', 'u', 'e']) w2 hp (by decide) rv)
      | stuck => rw [e] at h; exact h.elim
      | exc cc ks ds m' =>
        rw [e] at h
        dsimp only at h
        cases eh : hk.lookup cc with
        | none => rw [eh] at h; exact h.elim
        | some bk =>
          obtain ⟨b, ks'⟩ := bk
          rw [eh] at h
          dsimp only at h
          split at h
          case isFalse => exact h.elim
          rename_i ek
          subst ek
          obtain ⟨HA, hks⟩ := hH cc b ks eh
          intro S2 dx em w2 st2 ⟨fvs, fx, hnm, hre⟩ σ'
          rw [hK]
          cases et : (ks.zip ds).lookup 3 with
          | none => rw [et] at h; exact h.elim
          | some dt =>
            rw [et] at h
            cases dt with
            | str t =>
              dsimp only at h
              cases b with
              | true =>
                simp only [if_true] at h
                cases ey : fieldO t (ks.zip ds) with
                | none => rw [ey] at h; exact h.elim
                | some y =>
                  rw [ey] at h
                  exact try_exc nok h30 HA hks w2 fx hnm hre et (y := y) (by simpa using ey) (fun S3 v em3 w3 st3 rv => h S3 v (em3.trans em) w3 ((st1.trans st2).trans st3) rv) σ'
              | false =>
                simp only [Bool.false_eq_true, if_false] at h
                exact try_exc nok h30 HA hks w2 fx hnm hre et (y := .non) (by simp) (fun S3 v em3 w3 st3 rv => h S3 v (em3.trans em) w3 ((st1.trans st2).trans st3) rv) σ'
            | _ => exact h.elim
  refine wpAny_call (codeAny_mono rc fun rr s2 hq => ?_)
  cases rr with
  | error e => exact (show False from hq).elim
  | ok fl =>
    cases fl with
    | ret u => exact I1.after hq
    | next => exact False.elim hq
    | brk => exact False.elim hq
    | cont => exact False.elim hq
end Fs

/-! FuL: the tables of code objects at the head, the defs that hold lambdas, the end. -/
namespace Fs
open PySem PySem.Spec PyProof.Rows L2 He LamX
open Classical
/-- a def's code object and its table -/
def tabAt (K : PySem.W.Frag) (cd : Value) : Option (Addr × Addr) := match cd with
  | .ref c => (match K.lookup c with
    | some ⟨_, _, .fields vs, _⟩ => (match vs.getD 11 .none with
      | .ref P => some (c, P)
      | _ => none)
    | _ => none)
  | _ => none
theorem tabAt_ref {K : PySem.W.Frag} {cd : Value} {p : Addr × Addr} (e : tabAt K cd = some p) : cd = .ref p.1 := by
  unfold tabAt at e
  split at e
  · split at e
    · split at e
      · cases e; rfl
      · cases e
    · cases e
  · cases e
def tabOf (K : PySem.W.Frag) (d : AD) : Option (Addr × Addr) := match K.lookup (d.ad K) with
  | some ⟨_, _, .func fd, _⟩ => tabAt K fd.code
  | _ => none
def codeHdB (K : PySem.W.Frag) (c P : Addr) : Bool := (match K.lookup c with
  | some ⟨.type "code", _, .fields vs, _⟩ => decide (11 < vs.size) && (match vs.getD 11 .none, vs.getD 18 .none, vs.getD 7 .none, vs.getD 9 .none, vs.getD 10 .none with
    | .ref Q, .str _ _, .int _ _, .bool _, .int _ _ => decide (Q = P)
    | _, _, _, _, _ => false)
  | _ => false) && !decide (c = P)
theorem codeHd_of {K : PySem.W.Frag} {h : Heap} {c P : Addr} (X : K.In h) (e : codeHdB K c P = true) : PySem.W.CodeHd h c P := by
  unfold codeHdB at e
  rw [Bool.and_eq_true] at e
  obtain ⟨e, hne⟩ := e
  have hne : c ≠ P := by simpa using hne
  split at e
  · rename_i od vs osl hk
    rw [Bool.and_eq_true] at e
    obtain ⟨e0, e⟩ := e
    have e0 : 11 < vs.size := of_decide_eq_true e0
    split at e
    · rename_i Q f1 t1 n1 t2 b1 n2 t3 g1 g2 g3 g4 g5
      have e : Q = P := of_decide_eq_true e
      subst e
      refine ⟨_, vs, f1, t1, n1, t2, b1, n2, t3, X _ _ hk, rfl, rfl, ?_, g1, g2, g3, g4, g5, hne⟩
      have : vs.getD 11 .none = vs[11] := by simp [Array.getD, e0]
      rw [this] at g1
      rw [Array.getElem?_eq_getElem e0, g1]
    · cases e
  · cases e
def emptyTab (o : Option Obj) : Bool := match o with
  | some ⟨.none, none, .fields a, sl⟩ => (a.size == 0) && (sl.size == 0)
  | _ => false
theorem emptyTab_ok {o : Option Obj} (h : emptyTab o = true) : o = some { cls := .none, data := .fields #[] } := by
  unfold emptyTab at h
  split at h
  · rename_i a sl
    simp only [Bool.and_eq_true, beq_iff_eq] at h
    have h1 : a = #[] := Array.eq_empty_of_size_eq_zero h.1
    have h2 : sl = #[] := Array.eq_empty_of_size_eq_zero h.2
    subst h1 h2
    rfl
  · cases h
/-- a part without some addresses -/
def cutF (K : PySem.W.Frag) (as : List Addr) : PySem.W.Frag := K.filter fun p => !as.contains p.1
theorem cutF_no {K : PySem.W.Frag} {as : List Addr} {a : Addr} (h : a ∈ as) : (cutF K as).lookup a = none := by
  unfold cutF
  induction K with
  | nil => rfl
  | cons p K ih =>
    rw [List.filter_cons]
    by_cases hp : p.1 ∈ as
    · have : (!as.contains p.1) = false := by simp [hp]
      rw [this]
      simpa using ih
    · have : (!as.contains p.1) = true := by simp [hp]
      rw [this]
      simp only [if_true]
      have hn : (a == p.1) = false := by
        simp
        intro e
        exact hp (e ▸ h)
      obtain ⟨x, y⟩ := p
      rw [List.lookup_cons, hn]
      exact ih
theorem lookup_memG {l : List (Addr × Obj)} {a : Addr} {o : Obj} (h : l.lookup a = some o) : (a, o) ∈ l := by
  induction l with
  | nil => cases h
  | cons p l ih =>
    obtain ⟨x, y⟩ := p
    rw [List.lookup_cons] at h
    split at h
    · rename_i e
      cases h
      rw [beq_iff_eq] at e
      subst e
      exact List.mem_cons_self ..
    · exact List.mem_cons_of_mem _ (ih h)
theorem cutF_in {K : PySem.W.Frag} {as : List Addr} {h : Heap} (X : K.In h) (nd : True := trivial) : ∀ (a : Addr) (o : Obj), (cutF K as).lookup a = some o → (∀ p ∈ K, h.get? p.1 = some p.2) → h.get? a = some o := fun a o e k => by
  have hm : (a, o) ∈ cutF K as := lookup_memG e
  exact k _ (List.mem_filter.mp hm).1
theorem frG_mem {g : Addr → Option Obj} {as : List Addr} : ∀ p ∈ frG g as, g p.1 = some p.2 := fun p hp => by
  unfold frG at hp
  rw [List.mem_filterMap] at hp
  obtain ⟨a, _, e⟩ := hp
  cases q : g a with
  | none => rw [q] at e; cases e
  | some o =>
    rw [q] at e
    simp only [Option.map_some, Option.some.injEq] at e
    subst e
    exact q
def tabsOf (K : PySem.W.Frag) (ts : List AD) : List (Addr × Addr) := ts.filterMap (tabOf K)
structure TabsOk (K : PySem.W.Frag) (ts : List AD) (l : List (Addr × Addr)) (h : Heap) : Prop where
  ts_ : ts.map (tabOf K) = l.map some
  cd : ∀ p ∈ l, codeHdB K p.1 p.2 = true
  em : ∀ p ∈ l, h.get? p.2 = some { cls := .none, data := .fields #[] }
  no : ∀ p ∈ l, K.lookup p.2 = none
  nd : (l.map (·.2)).Nodup
def tabsB (K : PySem.W.Frag) (ts : List AD) (l : List (Addr × Addr)) (g : Addr → Option Obj) : Bool := decide (ts.map (tabOf K) = l.map some) && ((l.all fun p => codeHdB K p.1 p.2) && ((l.all fun p => emptyTab (g p.2)) && decide (l.map (·.2)).Nodup))
def obsT (n : Nat) (fa : List Fa) (fn : List AD) (ex : PySem.W.Frag → Bool) (ts : List AD) (g : Addr → Option Obj) : AlP :=
  let K := frG g (asP g n)
  let l := tabsOf K ts
  let K' := cutF K (l.map (·.2))
  let o := obsP fa fn ex K'
  (tabsB K' ts l g && o.1, o.2)
def SaysT (fa : List Fa) (fn : List AD) (ex : PySem.W.Frag → Bool) (ts : List AD) (h : Heap) : Prop := ∃ (K : PySem.W.Frag) (l : List (Addr × Addr)), K.In h ∧ SaysP fa fn ex K ∧ TabsOk K ts l h
theorem saysT_of {n : Nat} {fa : List Fa} {fn : List AD} {ex : PySem.W.Frag → Bool} {ts : List AD} {h : Heap} (e : obsT n fa fn ex ts h.get? = valP fn) : SaysT fa fn ex ts h := by
  unfold obsT at e
  simp only at e
  generalize hl : tabsOf (frG h.get? (asP h.get? n)) ts = l at e
  generalize hK : cutF (frG h.get? (asP h.get? n)) (l.map (·.2)) = K at e
  have e1 : (tabsB K ts l h.get? && (obsP fa fn ex K).1) = true := congrArg (fun z : AlP => z.1) e
  have e2 : (obsP fa fn ex K).2 = fn.map AD.val := congrArg (fun z : AlP => z.2) e
  rw [Bool.and_eq_true] at e1
  obtain ⟨k1, k2⟩ := e1
  unfold tabsB at k1
  simp only [Bool.and_eq_true, decide_eq_true_eq, List.all_eq_true] at k1
  obtain ⟨h1, h2, h3, h4⟩ := k1
  refine ⟨K, l, fun a o q => ?_, Prod.ext k2 e2, h1, h2, fun p hp => emptyTab_ok (h3 p hp), fun p hp => ?_, h4⟩
  · rw [← hK] at q
    exact cutF_in (h := h) frG_in trivial a o q frG_mem
  · rw [← hK]
    exact cutF_no (List.mem_map.mpr ⟨p, hp, rfl⟩)
def hookT (n : Nat) (fa : List Fa) (fn : List AD) (ex : PySem.W.Frag → Bool) (ts : List AD) : PySem.W.Hook where
  α := AlP
  obs := fun s => obsT n fa fn ex ts s.heap.get?
  val := fun _ => valP fn
  says := fun _ h => SaysT fa fn ex ts h
  of := fun _ _ e => saysT_of e
  keeps := fun _ _ _ ⟨K, l, hK, c, t⟩ k => ⟨K, l, PySem.W.Frag.In.keeps hK k, c, t.ts_, t.cd, fun p hp => k _ _ (t.em p hp), t.no, t.nd⟩
theorem obsT_eq {n : Nat} {fa : List Fa} {fn : List AD} {ex : PySem.W.Frag → Bool} {ts : List AD} {g : Addr → Option Obj} {s : Shared} (h : ∀ a, g a = s.heap.get? a) : obsT n fa fn ex ts g = (hookT n fa fn ex ts).obs s := by
  have e : g = s.heap.get? := funext h
  rw [e] <;> rfl
/-! ### a def that holds lambdas -/
section
variable {P : Program} {w : World} {mg : Str → Option Value} {base : Heap} {k : Nat} {x qual : Str} {params : Arguments} {body : List Stmt} {scope : Scope} {f c : Addr} {fd : FuncData} {N ps : List Str} {dvs : List V} {kws : List (Str × V)} {K : PySem.W.Frag}
theorem code_of (F : FunD K x qual params body scope dvs kws f fd) {ts : List AD} {l : List (Addr × Addr)} {h : Heap} {d : AD} {i : Nat} {p : Addr × Addr} (T : TabsOk K ts l h) (hd : ts[i]? = some d) (hp : l[i]? = some p) (ha : d.ad K = f) : fd.code = .ref p.1 := by
  obtain ⟨oc, od, dV, kV, doc, pm, an, cdv, ct, osl, rfl, lk, hcd, _, _⟩ := F.ex
  have e : (ts.map (tabOf K))[i]? = (l.map some)[i]? := by rw [T.ts_]
  rw [List.getElem?_map, List.getElem?_map, hd, hp] at e
  simp only [Option.map_some, Option.some.injEq] at e
  unfold tabOf at e
  rw [ha, lk] at e
  exact tabAt_ref e
/-- what is promised whatever the lambdas of the frame are -/
def spR {ρ : Type} (CR : ρ → Ct) (n : Nat) (F : List D → M D) : Sp := fun vs H Q E => vs.length = n ∧ ∀ R, ∃ S ds, S.H = H ∧ Wf (CR R) S ∧ Reps (CR R) S ds vs ∧ PostE (CR R) S (F ds S.mu) E Q
theorem fn_MR {ρ : Type} (CR : ρ → Ct) (r0 : ρ) (F : FunD K x qual params body scope dvs kws f fd) (hc : fd.code = .ref c) (Sc : FnScope N ps scope) (m : MSs)
    (hbody : ∀ (A : Around) (outer : List PySem.Env) (s : Shared) (H : Hp) (E : XK), Room k (A.deeper (envOfC qual scope s.heap.objs.size f (.ref c))) → ∃ R, SSs (CR R) (cxOf (L2.CX P w) P w K mg base N qual scope f (.ref c) A outer s H E) body m) :
    FnOk P w K mg base (L2.CX P w) (k + 1) f fd ps (spR CR ps.length (runF ps.length N.length m)) := by
  obtain ⟨oc, od, dV, kV, doc, pm, an, cdv, ct, osl, rfl, lk, hcd, _, _⟩ := F.ex
  have hc : cdv = .ref c := hc
  subst hc
  refine fn_of lk hcd Sc (fun vs H Q E h => h.1) fun A outer s H vs Q E hr h => ?_
  obtain ⟨R, hb⟩ := hbody A outer s H E hr
  refine ⟨_, hb _ (takes_of rfl rfl rfl rfl), ?_⟩
  obtain ⟨hn, h⟩ := h
  obtain ⟨S, ds, hH, w, r, z⟩ := h R
  subst hH
  refine dnS_intro _ w (start_rep r N ps.length hn) ?_
  unfold runF at z
  rw [if_pos (by rw [r.len, hn])] at z
  cases e : evSs m (ds.map some ++ List.replicate (N.length - ps.length) none) S.mu with
  | none => rw [e] at z; exact z
  | some p =>
    obtain ⟨fl, m'⟩ := p
    rw [e] at z
    intro S' hm w' st
    cases fl with
    | nxt r' => exact fun σ' sr => z S' .non hm w' st (by simp only [Rep])
    | ret d => exact fun v rv => z S' v hm w' st rv
    | brk r' => exact z.elim
    | cnt r' => exact z.elim
    | exc c ks ds' r' => exact fun σ' dx sr ea => z S' dx hm w' st ea
/-- the same, the lambdas being none that are kept -/
theorem fn_MT {C : Ct} (F : FunD C.K x qual params body scope dvs kws f fd) (hc : fd.code = .ref c) (Sc : FnScope N ps scope) (m : MSs)
    (hbody : ∀ (A : Around) (outer : List PySem.Env) (s : Shared) (H : Hp) (E : XK), Room k (A.deeper (envOfC qual scope s.heap.objs.size f (.ref c))) → SSs C (cxOf (L2.CX P w) P w C.K mg base N qual scope f (.ref c) A outer s H E) body m) :
    FnOk P w C.K mg base (L2.CX P w) (k + 1) f fd ps (spM C ps.length (runF ps.length N.length m)) :=
  (fn_MR (fun _ : Unit => C) () F hc Sc m fun A outer s H E hr => ⟨(), hbody A outer s H E hr⟩).imp fun vs H Q E h => ⟨h.1, fun _ => h.2⟩
end
/-! ### the end -/
def tabCells : Nat → Nat → List Cell
  | 0, _ => []
  | n + 1, j => .tab j :: tabCells n (j + 1)
theorem tabCells_len : ∀ n j, (tabCells n j).length = n
  | 0, _ => rfl
  | n + 1, j => by simp [tabCells, tabCells_len n]
theorem tabCells_get : ∀ n j i, i < n → (tabCells n j)[i]? = some (.tab (j + i))
  | 0, _, _, h => absurd h (Nat.not_lt_zero _)
  | n + 1, j, 0, _ => rfl
  | n + 1, j, i + 1, h => by
    show (tabCells n (j + 1))[i]? = _
    rw [tabCells_get n (j + 1) i (by omega)]
    rw [show j + 1 + i = j + (i + 1) by omega]
theorem nodup_inj {α : Type} {l : List α} {a : α} : ∀ {i j : Nat}, l.Nodup → l[i]? = some a → l[j]? = some a → i = j := by
  induction l with
  | nil => intro i j _ h _; simp at h
  | cons x l ih =>
    intro i j nd h1 h2
    rw [List.nodup_cons] at nd
    cases i with
    | zero =>
      cases j with
      | zero => rfl
      | succ j =>
        simp at h1 h2
        exact absurd (List.mem_of_getElem? h2) (h1 ▸ nd.1)
    | succ i =>
      cases j with
      | zero =>
        simp at h1 h2
        exact absurd (List.mem_of_getElem? h1) (h2 ▸ nd.1)
      | succ j =>
        simp at h1 h2
        rw [ih nd.2 h1 h2]
theorem law_endT {K : PySem.W.Frag} {ρ : Type} {CR : ρ → Ct} {F : List D → M D} {n : Nat} {l : List (Addr × Addr)} (hn : l.length = n) (nd : (l.map (·.2)).Nodup) (hT : ∀ R i p, l[i]? = some p → ((CR R).tb i).1 = p.2)
    (hKR : ∀ R, (CR R).K = K) (nK : ∀ p ∈ l, K.lookup p.2 = none)
    (hF : ∀ ns : List Int, ns.length ≤ 63 → ∃ m, F [.frz (ns.map .int)] (tabCells n 0) = .ok (.bl true) m) (H : Hp) (a : Addr) (ns : List Int) (hl : ns.length ≤ 63) (hb : ∀ z ∈ ns, Builtin.Int.intBits z ≤ 1048576)
    (hH : ∀ p ∈ l, H p.2 = some (.tbl #[])) (hS : SqL K H a (ns.map V.int)) :
    spR CR 1 F [.ref a] H (fun v _ => v = .bl true) fun _ _ _ => False := by
  obtain ⟨m, e⟩ := hF ns hl
  refine ⟨rfl, fun R => ⟨⟨l.map (·.2), tabCells n 0, [], H⟩, [.frz (ns.map .int)], rfl, ⟨?_, fun i c b hi hb => ?_, fun i j c d b hi _ hb hj _ hb' => ?_, fun a h => by simp at h, List.nodup_nil⟩, ?_, ?_⟩⟩
  · show (l.map (·.2)).length = (tabCells n 0).length
    rw [List.length_map, tabCells_len, hn]
  · have hi' : i < n := by
      have := (List.getElem?_eq_some_iff.mp hi).1
      rwa [tabCells_len] at this
    have hi : (tabCells n 0)[i]? = some c := hi
    rw [tabCells_get n 0 i hi'] at hi
    cases hi
    have hb : (l.map (·.2))[i]? = some b := hb
    rw [List.getElem?_map] at hb
    cases q : l[i]? with
    | none => rw [q] at hb; cases hb
    | some p =>
      rw [q] at hb
      cases hb
      rw [Nat.zero_add]
      exact ⟨(hT R i p q).symm, #[], hH p (List.mem_of_getElem? q), True.intro, fun pos cv hc => by
        have z : codeAmong pos [] = some cv := hc
        simp [codeAmong] at z⟩
  · have hb : (l.map (·.2))[i]? = some b := hb
    have hb' : (l.map (·.2))[j]? = some b := hb'
    obtain ⟨h1, h2⟩ := List.getElem?_eq_some_iff.mp hb
    obtain ⟨h3, h4⟩ := List.getElem?_eq_some_iff.mp hb'
    exact nodup_inj nd hb hb'
  · refine Reps.cons ?_ Reps.nil
    simp only [Rep]
    refine ⟨a, ns.map V.int, rfl, ?_, by rw [List.length_map, sizeLine_eq]; omega, rep_ints ns⟩
    have na : ∀ o, H a = some o → (∀ ps, o ≠ .tbl ps) → ¬ Ws.L ⟨l.map (·.2), tabCells n 0, [], H⟩ a := fun o ho hne h => by
      rcases h with h | ⟨i, c, h, _, h2⟩
      · simp at h
      · have h2 : (l.map (·.2))[i]? = some a := h2
        obtain ⟨p, hp, ep⟩ := List.mem_map.mp (List.mem_of_getElem? h2)
        have := hH p hp
        rw [ep, ho] at this
        cases this
        exact hne _ rfl
    rw [hKR]
    rcases hS with h | h
    · rcases h with h | ⟨o, h⟩
      · exact .inr (.inr ⟨h, na _ h (fun ps z => by cases z)⟩)
      · exact .inl ⟨o, h, na _ h (fun ps z => by cases z)⟩
    · exact .inr (.inl h)
  · show PostE (CR R) _ (F [.frz (ns.map .int)] (tabCells n 0)) _ _
    rw [e]
    intro S' v _ _ _ rv
    rwa [rep_bl] at rv
end Fs

/-! FuM: _law_try and _law_field as the printed proofs name them. -/
namespace Fs
open PySem PySem.Spec PyProof.Rows L2 L2H LamX He
open Classical
theorem mkFieldD {C : Ct} {P : Program} {w : World} {mg : Str → Option Value} {base : Heap} {k : Nat} {params : Arguments} {body : List Stmt} {scope : Scope} {f : Addr} {fd : FuncData} (D_ : FunD C.K "_law_field" "_law_field" params body scope [] [] f fd) (Sc : FnScope ["_law_e"] ["_law_e"] scope)
    (hg : mg ("_law_field" : Str) = some (.ref f)) (bd : Binds C.K fd ["_law_e"] [])
    (hb : ∀ (a dd : Addr) (fs : List (Str × V)) (c : Nat) (L : List (Nat × D)) (oe : Obj), LOk C a dd fs c L → Zc (.ref (He.ga C.K (C.nm c))) (some dd) oe → (∃ vs, oe.data = .fields vs) → ∀ (cdv : Value) (A : Around) (outer : List PySem.Env) (s : Shared) (H : Hp) (E : XK), RoomH k (A.deeper (envOfC "_law_field" scope s.heap.objs.size f cdv)) →
      SSs (exCt C a dd fs) (cxH (L2.CX P w) P w C.K mg base ["_law_e"] "_law_field" scope f cdv A outer s H E (a, oe)) body (mField L)) : FieldD C P w mg base k "_law_field" :=
  ⟨⟨"_law_field", params, body, scope, f, fd, ["_law_e"], ["_law_e"], D_, Sc, hg, D_.kp, bd, rfl, rfl, hb⟩⟩
/-- the class x is taken by the m-th clause; no field of an exception is hidden by the class -/
def handB (K : PySem.W.Frag) (x : Str) (m : Nat) (fs : List Str) : Bool := (match m with
  | 0 => decide (PySem.W.exmOne K (.ref (ga K x)) (.ref (ga K "StepError")) = some true)
  | 1 => decide (PySem.W.exmOne K (.ref (ga K x)) (.ref (ga K "StepError")) = some false) && decide (PySem.W.exmOne K (.ref (ga K x)) (.ref (ga K "Missing")) = some true)
  | _ => decide (PySem.W.exmOne K (.ref (ga K x)) (.ref (ga K "StepError")) = some false) && (decide (PySem.W.exmOne K (.ref (ga K x)) (.ref (ga K "Missing")) = some false) && decide (PySem.W.exmOne K (.ref (ga K x)) (.ref (ga K "NothingLeft")) = some true))) &&
  (xfB K (ga K x) && fs.all fun f => decide (PySem.W.findIn K (.ref (ga K x)) f = some none))
theorem handB_ok {C : Ct} {c m : Nat} {ks : List Nat} (h : handB C.K (C.nm c) m (ks.map C.nm) = true) : HandAt C (.ref (ga C.K "StepError")) (.ref (ga C.K "Missing")) (.ref (ga C.K "NothingLeft")) c (decide (m < 2)) ks := by
  unfold handB at h
  obtain ⟨h1, h2⟩ := ba h
  obtain ⟨h3, h4⟩ := ba h2
  refine ⟨?_, xfB_ok h3, fun j hj => of_decide_eq_true (List.all_eq_true.mp h4 (C.nm j) (List.mem_map.mpr ⟨j, hj, rfl⟩))⟩
  split at h1
  · exact .inl ⟨rfl, of_decide_eq_true h1⟩
  · obtain ⟨k1, k2⟩ := ba h1
    exact .inr (.inl ⟨rfl, of_decide_eq_true k1, of_decide_eq_true k2⟩)
  · rename_i n0 n1
    obtain ⟨k1, k2⟩ := ba h1
    obtain ⟨k3, k4⟩ := ba k2
    refine .inr (.inr ⟨?_, of_decide_eq_true k1, of_decide_eq_true k3, of_decide_eq_true k4⟩)
    have : ¬ m < 2 := fun z => by
      have : m = 0 ∨ m = 1 := by omega
      rcases this with z | z
      · exact n0 z
      · exact n1 z
    simp [this]
abbrev hkOf (l : List (Nat × (Nat × List Nat))) : List (Nat × (Bool × List Nat)) := l.map fun p => (p.1, (decide (p.2.1 < 2), p.2.2))
def hksB (K : PySem.W.Frag) (nm : Nat → Str) (l : List (Nat × (Nat × List Nat))) : Bool := l.all fun p => handB K (nm p.1) p.2.1 (p.2.2.map nm)
theorem hksB_ok {C : Ct} {n : Nat} {l : List (Nat × (Nat × List Nat))} (h : hksB C.K C.nm l = true) (hn : (l.all fun p => p.2.2.all fun j => decide (j < n)) = true) : ∀ c b ks, (hkOf l).lookup c = some (b, ks) → HandAt C (.ref (ga C.K "StepError")) (.ref (ga C.K "Missing")) (.ref (ga C.K "NothingLeft")) c b ks ∧ ∀ j ∈ ks, j < n := by
  intro c b ks hl
  have hm := lookup_mem hl
  obtain ⟨⟨c', m, ks'⟩, hp, e⟩ := List.mem_map.mp hm
  simp only [Prod.mk.injEq] at e
  obtain ⟨rfl, rfl, rfl⟩ := e
  exact ⟨handB_ok (List.all_eq_true.mp h _ hp), fun j hj => of_decide_eq_true (List.all_eq_true.mp (List.all_eq_true.mp hn _ hp) j hj)⟩
/-- the tables of the frames' defs, as the store knows them -/
def tbF (l : List (Addr × Addr)) (qs : List Str) (i : Nat) : Addr × Str := match l[i]?, qs[i]? with
  | some p, some q => (p.2, q)
  | _, _ => (0, "")
theorem tbF_at {l : List (Addr × Addr)} {qs : List Str} {i : Nat} {p : Addr × Addr} {q : Str} (h : l[i]? = some p) (hq : qs[i]? = some q) : tbF l qs i = (p.2, q) := by
  unfold tbF
  rw [h, hq]
theorem tab_at {K : PySem.W.Frag} {ts : List AD} {l : List (Addr × Addr)} {h : Heap} (T : TabsOk K ts l h) {i : Nat} (hi : i < ts.length) : ∃ p, l[i]? = some p := by
  have : l.length = ts.length := by
    have := congrArg List.length T.ts_
    simpa using this.symm
  exact ⟨_, List.getElem?_eq_getElem (by omega)⟩
theorem tbF_fst {K : PySem.W.Frag} {ts : List AD} {l : List (Addr × Addr)} {h : Heap} {qs : List Str} {i : Nat} {p : Addr × Addr} (T : TabsOk K ts l h) (hp : l[i]? = some p) (hl : qs.length = ts.length) : (tbF l qs i).1 = p.2 := by
  have h1 := (List.getElem?_eq_some_iff.mp hp).1
  have h2 : l.length = ts.length := by
    have := congrArg List.length T.ts_
    simpa using this.symm
  unfold tbF
  rw [hp, List.getElem?_eq_getElem (by omega)]
theorem rh_u {k : Nat} {A : Around} (h : RoomH k A) : A.units + 65 < cLine := by have := h.un; omega
theorem slt {C : Ct} {X : Cx} {k n j i : Nat} {hk : List (Nat × (Bool × List Nat))} {c P : Addr} {params : Arguments} {body : Expr} {scope : Scope} {mb : ME} {p lpos pos : Pos} (T : TryD C X.prog X.w X.mg X.base k n hk) (hr : Room i X.A) (hi : k + 3 ≤ i) (hK : X.K = C.K) (hn : C.nm 3 = "tag") (nok : NmOk C n) (h30 : 30 ≤ n)
    (hg : glB X "_law_try" = true) (TB : TabB X.base X.mg c P) (hcode : X.env.code = .ref c) (hj : C.tb j = (P, X.env.qual ++ "<lambda>")) (L : lamSB X.env.scope scope = true) (hdef : defaultsOf params X.env = ([], []))
    (hbind : ∀ (q : Str) (cl : List (Str × Addr)) (pm cv ctv : Value), bindArgs (PySem.W.kla_fn "<lambda>" q params body scope cl pm cv ctv) ⟨[], []⟩ = pure [])
    (hbody : ∀ (A : Around) (outer : List PySem.Env) (s : Shared) (H : Hp) (E : XK) (f c' : Addr), Room (k + 1) (A.deeper (lamEnv X scope s.heap.objs.size f c')) → SE C (lamCx X A outer s H E scope f c') body mb) :
    SE C X (.Call (.Name "_law_try" p) [.Lambda params body scope lpos] [] pos) (.tryx (tryG hk j) mb) :=
  se_lawtry T hK hn nok h30 (glB_ok hg).1 TB hcode hj (hr.mono hi) (lamS_by L) hdef hbind hbody
end Fs

/-! FuN: sum, min; comprehensions of two clauses; answers of the new primitives. -/
namespace Fs
open PySem PySem.Spec PyProof.Rows L2
open Classical
theorem tk_len {K : PySem.W.Frag} {ts : List AD} {l : List (Addr × Addr)} {h : Heap} (T : TabsOk K ts l h) : l.length = ts.length := by
  have := congrArg List.length T.ts_
  simpa using this.symm
def sumM (d : D) : M D := fun m => match readL m d with
  | some ds => (match intsO ds with
    | some ns => .ok (.int ns.sum) m
    | none => .stuck)
  | none => .stuck
section
variable {C : Ct} {X : Cx} {S : Ws} {d : D} {v : V} {W : XK} {Q : VK}
theorem sum_ok (w : Wf C S) (r : Rep C S d v) (h : PostE C S (sumM d S.mu) W Q) : rSum C.K [v] S.H Q := by
  unfold sumM at h
  split at h
  · rename_i ds hd
    split at h
    · rename_i ns hn
      obtain ⟨p, vs, e, f, l, q⟩ := readL_rep w hd r
      have := ints_rep hn q
      subst this
      subst e
      exact ⟨p, ns, rfl, SqL.of f, PostE.pure w h (rep_int.mpr rfl)⟩
    · exact h.elim
  · exact h.elim
theorem co_sum (hc : X.calm = true) (hK : X.K = C.K) (hm : X.mg "sum" = none) : CallOk1 C X "sum" (un1 sumM) :=
  callOk_B (cr_sum hc) hm PyProof.Rows.boot_sum (fun _ => rfl) (by decide) (by decide) fun S ds vs W Q w rs h => by
    rw [hK]
    exact un1_ok (fun d v r h => sum_ok w r h) rs h
theorem co_min2 (hc : X.calm = true) (hm : X.mg "min" = none) : CallOk1 C X "min" (bi2 fun i j => if j < i then j else i) :=
  callOk_B (call_min2 hc) hm PyProof.Rows.boot_min (fun _ => rfl) (by decide) (by decide) fun S ds vs W Q w rs h => bi2_ok w rs h
end
/-! ### answers -/
section
variable {α : Type} {m : Store} {E : EX} {Q : D → Store → Prop} {r : Env}
@[simp] theorem w_sumM (d : D) : WP (sumM d) m Q E = wR (sumM d m) Q E := by with_unfolding_all exact nrfl rfl
@[simp] theorem intsO_ints : ∀ l : List Int, intsO (l.map D.int) = some l
  | [] => rfl
  | i :: l => by simp [intsO, intsO_ints l]
theorem b_sum (l : List Int) : sumM (.lst (l.map D.int)) m = .ok (.int l.sum) m := by simp [sumM]
@[simp] theorem w_bi2 (f : Int → Int → Int) (i j : Int) : WP (bi2 f [.int i, .int j]) m Q E = Q (.int (f i j)) m := by with_unfolding_all exact nrfl rfl
@[simp] theorem a_mulSI (x : List Char) (j : Int) : binM .mul (.str x) (.int j) m = if j < 2 ^ 62 ∧ -(2 ^ 62) ≤ j ∧ x.length * j.toNat ≤ 16777216 then .ok (.str (repL j.toNat x)) m else .stuck := by simp only [binM]
@[simp] theorem a_mulTI (x : List D) (j : Int) : binM .mul (.tup x) (.int j) m = if 2 ≤ j ∧ j ≤ 1000 ∧ 0 < x.length ∧ x.length ≤ 1000 then .ok (.tup (repL j.toNat x)) m else .stuck := by simp only [binM]
@[simp] theorem a_mulLI (x : List D) (j : Int) : binM .mul (.lst x) (.int j) m = if j < 2 ^ 62 ∧ -(2 ^ 62) ≤ j ∧ x.length * j.toNat ≤ 16777216 then .ok (.lst (repL j.toNat x)) m else .stuck := by simp only [binM, readL]
/-- the evaluator's new words -/
theorem w_tryx (G : Store → R D → R D) (e : ME) : WP (ev (.tryx G e) r) m Q E = wR (G m (ev e r m)) Q E := by unfold WP; simp only [ev]
theorem WP_fun {x : M D} {m : Store} {P Q : D → Store → Prop} {E : EX} (h : ∀ a m1, P a m1 = Q a m1) : WP x m P E = WP x m Q E := by
  have : P = Q := by funext a b; exact h a b
  rw [this]
@[simp] theorem w_fnx (G : R D → R D) (bs : MEs) (e : ME) : WP (ev (.fnx G bs e) r) m Q E = WP (ev e r) m (fun x m1 => match x with
    | .fn k => wR (G (evn bs k r m1)) Q E
    | _ => False) E := by
  simp only [ev, w_bind]
  apply WP_fun
  intro x m1
  cases x with
  | fn k => unfold WP; rfl
  | _ => simp
/-- what _law_try tells of an exception -/
noncomputable def tryE (hk : List (Nat × (Bool × List Nat))) (c : Nat) (ks : List Nat) (vs : List D) : Option D := match hk.lookup c with
  | some (b, ks') => if ks = ks' then (match (ks.zip vs).lookup 3 with
    | some (.str t) => if b = true then (match fieldO t (ks.zip vs) with
      | some y => some (.tup [.str t, y])
      | none => none) else some (.tup [.str t, .non])
    | _ => none) else none
  | none => none
theorem tryG0_eq (hk : List (Nat × (Bool × List Nat))) (x : R D) : tryG0 hk x = (match x with
  | .ok d m' => .ok (.tup [.str ['v', 'a', 'l', 'u', 'e'], d]) m'
  | .exc c ks ds m' => (match tryE hk c ks ds with
    | some y => .ok y m'
    | none => .stuck)
  | .stuck => .stuck) := by
  unfold tryG0 tryE
  cases x with
  | ok d m => rfl
  | stuck => rfl
  | exc c ks ds m =>
    simp only
    cases hk.lookup c with
    | none => rfl
    | some p =>
      obtain ⟨b, ks'⟩ := p
      simp only
      by_cases h : ks = ks'
      · rw [if_pos h, if_pos h]
        cases (ks.zip ds).lookup 3 with
        | none => rfl
        | some d =>
          cases d with
          | str t =>
            simp only
            cases b with
            | true =>
              simp only [if_true]
              cases fieldO t (ks.zip ds) <;> rfl
            | false => simp
          | _ => rfl
      · rw [if_neg h, if_neg h]
theorem wp_try0 {hk : List (Nat × (Bool × List Nat))} {x : M D}
    (h : WP x m (fun d m' => Q (.tup [.str ['v', 'a', 'l', 'u', 'e'], d]) m') (fun c ks vs m' => match tryE hk c ks vs with
      | some y => Q y m'
      | none => False)) : wR (tryG0 hk (x m)) Q E := by
  rw [tryG0_eq]
  unfold WP at h
  cases q : x m with
  | ok d m' => rw [q] at h; exact h
  | stuck => rw [q] at h; exact h.elim
  | exc c ks vs m' =>
    rw [q] at h
    have h : (match tryE hk c ks vs with
      | some y => Q y m'
      | none => False) := h
    simp only
    cases e1 : tryE hk c ks vs with
    | none => rw [e1] at h; exact h.elim
    | some y => rw [e1] at h; exact h
/-- a wish for what _law_try tells -/
theorem wp_try {hk : List (Nat × (Bool × List Nat))} {j : Nat} {e : ME} (ht : m[j]? = some (.tab j))
    (h : WP (ev e r) m (fun d m' => Q (.tup [.str ['v', 'a', 'l', 'u', 'e'], d]) m') (fun c ks vs m' => match tryE hk c ks vs with
      | some y => Q y m'
      | none => False)) : WP (ev (.tryx (tryG hk j) e) r) m Q E := by
  rw [w_tryx, tryG_eq, ht]
  simp only [if_true]
  exact wp_try0 h
end
end Fs

/-! FuO: lambdas that are kept: made. -/
namespace Fs
open PySem PySem.Spec PyProof.Rows L2 LamX
/-- a lambda of a frame -/
structure LamI where
  params : Arguments
  body : Expr
  scope : Scope
/-- the function at f -/
def FnO (f : Addr) (o : Obj) : HO := .ext fun h => h.get? f = some o
theorem fnO_ok {P : Program} {w : World} {H : Hp} {h : Heap} {f : Addr} {o : Obj} (e : h.get? f = some o) : ObjOk P w H h f (FnO f o) := ⟨e, ⟨o, e⟩, fun h1 h2 e1 k => k _ e1⟩
abbrev lamO (q : Str) (l : LamI) (cl : List (Str × Addr)) (dV doc pm : Value) (c' : Addr) (ctv : Value) : Obj := PySem.W.kdv_obj "<lambda>" q l.params (.expr l.body) l.scope cl dV doc pm c' ctv
def DfOk (S : Ws) (l : LamI) (dV : Value) : Prop := if l.params.defaults.isEmpty = true then dV = .none else ∃ t, dV = .ref t ∧ Fx S t (.tup [.int 0])
theorem DfOk.mono {S S' : Ws} (st : Step0 S S') {l : LamI} {dV : Value} (h : DfOk S l dV) : DfOk S' l dV := by
  unfold DfOk at h ⊢
  split at h
  · rename_i e; rw [if_pos e]; exact h
  · rename_i e
    rw [if_neg e]
    obtain ⟨t, e1, e2⟩ := h
    exact ⟨t, e1, st.fx e2⟩
/-- v is the k-th lambda of the frame whose cells are cells -/
def frL (ls : List LamI) (q : Str) (cells : List (Str × Addr)) (k : Nat) (S : Ws) (v : V) : Prop := ∃ (l : LamI) (f c' : Addr) (dV doc pm ctv : Value), ls[k]? = some l ∧ v = .ref f ∧ Fx S f (FnO f (lamO q l (cloFrom cells l.scope.names []) dV doc pm c' ctv)) ∧ Fx S c' (CodeO c' q) ∧ DfOk S l dV
structure FR where
  fr : Nat → Ws → V → Prop
  frm : ∀ (k : Nat) (S S' : Ws) (v : V), Step0 S S' → fr k S v → fr k S' v
  frr : ∀ (k : Nat) (S : Ws) (v : V), fr k S v → ∃ a, v = .ref a
def FR.none : FR := ⟨fun _ _ _ => False, fun _ _ _ _ _ h => h, fun _ _ _ h => h.elim⟩
def FR.lam (ls : List LamI) (q : Str) (cells : List (Str × Addr)) : FR where
  fr := frL ls q cells
  frm := fun k S S' v st ⟨l, f, c', dV, doc, pm, ctv, h1, h2, h3, h4, h5⟩ => ⟨l, f, c', dV, doc, pm, ctv, h1, h2, st.fx h3, st.fx h4, h5.mono st⟩
  frr := fun k S v ⟨l, f, c', dV, doc, pm, ctv, h1, h2, _⟩ => ⟨f, h2⟩
section
variable {C : Ct} {X : Cx} {pins : List (Addr × Obj)} {σ : L2.St} {S : Ws} {s : Shared}
theorem tail_make {k j : Nat} {c P : Addr} {l : LamI} {dV : Value} {pos : Pos} {E : Value → Shared → Prop} {Q : Value → Shared → Prop} (w : Wf C S) (hm : S.mu[k]? = some (.tab j)) (hj : C.tb j = (P, X.env.qual ++ "<lambda>"))
    (I : Inv X pins σ S.H s) (TB : TabB X.base X.mg c P) (hcode : X.env.code = .ref c) (hfree : ∀ y ∈ l.scope.names, y.2 = .free → ∃ c, X.env.cells.lookup y.1 = some c)
    (h : ∀ (f c' : Addr) (doc pm ctv : Value) (S' : Ws) (s' : Shared), S'.mu = S.mu → Wf C S' → Step S S' → Inv X pins σ S'.H s' →
      Fx S' f (FnO f (lamO (X.env.qual ++ "<lambda>") l (cloFrom X.env.cells l.scope.names []) dV doc pm c' ctv)) → Fx S' c' (CodeO c' (X.env.qual ++ "<lambda>")) → Q (.ref f) s') :
    wpAny (model X.prog X.w) X.A (makeTail "<lambda>" (X.env.qual ++ "<lambda>") l.params (.expr l.body) l.scope X.env dV .none none pos pos.line) Q E s := by
  obtain ⟨a, ha⟩ := w.addr hm
  obtain ⟨ea, ps, hP, ht, hc0⟩ := w.cell k _ a hm ha
  rw [hj] at ea
  have ea : a = P := ea
  subst ea
  rw [hj] at hc0
  have hc0 : ∀ (pos : Pos) (cv : Value), codeAmong pos ps.toList = some cv → ∃ c, cv = .ref c ∧ Fx S c (CodeO c (X.env.qual ++ "<lambda>")) := hc0
  have bP : s.heap.BuiltinsAt X.mg a := TB.bm.keeps I.bk
  have hP' : s.heap.get? a = some { cls := .none, data := .fields ps } := I.hok a _ hP
  -- the function itself, laid on a heap that is well
  have last : ∀ (S2 : Ws) (h' : Heap) (tk tk2 : Tok) (c' : Addr) (doc pm ctv : Value), S2.mu = S.mu → Wf C S2 → Step S S2 → Inv X pins σ S2.H { s with heap := h', toks := tk } → Fx S2 c' (CodeO c' (X.env.qual ++ "<lambda>")) →
      Q (.ref h'.objs.size) { s with heap := h'.push (lamO (X.env.qual ++ "<lambda>") l (cloFrom X.env.cells l.scope.names []) dV doc pm c' ctv), toks := tk2 } := fun S2 h' tk tk2 c' doc pm ctv em w2 st2 I2 hc => by
    have nF : S2.H h'.objs.size = none := I2.hok.fresh (Nat.le_refl _)
    have I3 := Inv.laid (a := h'.objs.size) (t' := tk2) (o := FnO h'.objs.size (lamO (X.env.qual ++ "<lambda>") l (cloFrom X.env.cells l.scope.names []) dV doc pm c' ctv)) (h' := h'.push (lamO (X.env.qual ++ "<lambda>") l (cloFrom X.env.cells l.scope.names []) dV doc pm c' ctv)) I2
      (fun b u e => Heap.get?_push_of_some _ e) (Nat.le_refl _) (fnO_ok (Heap.get?_push_size _ rfl))
    have st3 := Step.new w2 (o := FnO h'.objs.size (lamO (X.env.qual ++ "<lambda>") l (cloFrom X.env.cells l.scope.names []) dV doc pm c' ctv)) nF
    exact h h'.objs.size c' doc pm ctv (S2.new h'.objs.size (FnO h'.objs.size (lamO (X.env.qual ++ "<lambda>") l (cloFrom X.env.cells l.scope.names []) dV doc pm c' ctv))) _ em (w2.new nF) (st2.trans st3) I3 (Fx.new w2 nF) (st3.fx hc)
  cases hc : codeAmong pos ps.toList with
  | none =>
    refine PySem.W.kdv_makeTail (mg := X.mg) (c := c) (P := a) (ps := ps) (closure_ok hfree) I.ok.glob (I.mod.glob.keeps I.bk) hcode (TB.code.keeps I.bk) hP' ht hc TB.gP bP fun c' ctv doc h' tk hx hge hlt hrec htb => ?_
    obtain ⟨c2, oc, vs, t, e2, hoc, hd, hv⟩ := hrec
    cases e2
    have nC : S.H c' = none := I.hok.fresh hge
    have nPc : a ≠ c' := ne_of_none hP nC
    have I1 := inv_table (t' := tk) (more := #[rawInt pos.line, rawInt pos.col, .ref c']) (h' := h') I hP hx htb hge ⟨oc, vs, t, hoc, hd, hv⟩
    have eL : (ps ++ #[rawInt pos.line, rawInt pos.col, .ref c']).toList = ps.toList ++ [rawInt pos.line, rawInt pos.col, .ref c'] := by simp
    have w1 : Wf C (S.new c' (CodeO c' (X.env.qual ++ "<lambda>"))) := w.new nC
    have st1 : Step S (S.new c' (CodeO c' (X.env.qual ++ "<lambda>"))) := Step.new w nC
    have live : (Cell.tab j).live = true := rfl
    have hm1 : (S.new c' (CodeO c' (X.env.qual ++ "<lambda>"))).mu[k]? = some (.tab j) := hm
    have ha1 : (S.new c' (CodeO c' (X.env.qual ++ "<lambda>"))).ad[k]? = some a := ha
    have st2 := Step.put (o := .tbl (ps ++ #[rawInt pos.line, rawInt pos.col, .ref c'])) (c := .tab j) w1 hm1 live ha1
    have fxc : Fx (S.new c' (CodeO c' (X.env.qual ++ "<lambda>"))) c' (CodeO c' (X.env.qual ++ "<lambda>")) := Fx.new w nC
    have w2 := Wf.put (o := .tbl (ps ++ #[rawInt pos.line, rawInt pos.col, .ref c'])) (c := .tab j) w1 hm1 live ha1 ⟨by rw [hj], by
      rw [hj]
      refine ⟨_, upd_same, by rw [eL]; exact PySem.TriplesOk_snoc _ _ _ _ ht, fun p' cv hcv => ?_⟩
      rw [eL] at hcv
      rcases among_app _ ht hcv with z | z
      · obtain ⟨c0, e1, e2⟩ := hc0 p' cv z
        exact ⟨c0, e1, st2.fx (st1.fx e2)⟩
      · exact ⟨c', z, st2.fx fxc⟩⟩
    have eH : upd (upd S.H a (.tbl (ps ++ #[rawInt pos.line, rawInt pos.col, .ref c']))) c' (CodeO c' (X.env.qual ++ "<lambda>")) = ((S.new c' (CodeO c' (X.env.qual ++ "<lambda>"))).put k a (.tbl (ps ++ #[rawInt pos.line, rawInt pos.col, .ref c'])) (.tab j)).H := upd_comm nPc
    rw [eH] at I1
    refine last _ h' tk tk c' doc _ ctv ?_ w2 (st1.trans st2) I1 (st2.fx fxc)
    show S.mu.set k (.tab j) = S.mu
    obtain ⟨h1, h2⟩ := List.getElem?_eq_some_iff.mp hm
    rw [← h2, List.set_getElem_self]
  | some cv =>
    obtain ⟨c', e, hco⟩ := hc0 pos cv hc
    subst e
    refine PySem.W.kdv_makeTailHit (mg := X.mg) (c := c) (P := a) (ps := ps) (closure_ok hfree) I.ok.glob (I.mod.glob.keeps I.bk) hcode (TB.code.keeps I.bk) hP' ht hc bP fun ctv doc h' tk hx hsz => ?_
    exact last S h' tk tk c' doc _ ctv rfl w (Step.refl S) (I.kept hx) hco
/-- a lambda is made; it may bring a parameter of the default 0 -/
theorem lam_makeK {k j n : Nat} {c P : Addr} {ls : List LamI} {l : LamI} {pos : Pos} {E : Value → Shared → Prop} {Q : Value → Shared → Prop} (w : Wf C S) (hm : S.mu[k]? = some (.tab j)) (hj : C.tb j = (P, X.env.qual ++ "<lambda>"))
    (I : Inv X pins σ S.H s) (TB : TabB X.base X.mg c P) (hcode : X.env.code = .ref c) (hfree : ∀ y ∈ l.scope.names, y.2 = .free → ∃ c, X.env.cells.lookup y.1 = some c) (hl : ls[n]? = some l)
    (hdf : l.params.kw_defaults = [] ∧ (l.params.defaults = [] ∨ ∃ kd p, l.params.defaults = [.Constant (.int 0) kd p]))
    (h : ∀ (v : V) (u : Value) (S' : Ws) (s' : Shared), S'.mu = S.mu → Wf C S' → Step S S' → Inv X pins σ S'.H s' → frL ls (X.env.qual ++ "<lambda>") X.env.cells n S' v → RelV v u → Q u s') :
    wpAny (model X.prog X.w) X.A (eval (.Lambda l.params l.body l.scope pos) X.env) Q E s := by
  obtain ⟨hk0, hd⟩ := hdf
  rcases hd with hd | ⟨kd, p, hd⟩
  · refine PySem.W.kla_eval (by rw [defaultsOf_eq, hk0, hd]; rfl) ?_
    rw [makeFunction_eq]
    simp only [List.zip_nil_right, List.filterMap_nil, List.isEmpty_nil, if_true, pure_bind]
    refine tail_make w hm hj I TB hcode hfree fun f c' doc pm ctv S' s' em w' st' I' hf hc => ?_
    exact h (.ref f) (.ref f) S' s' em w' st' I' ⟨l, f, c', .none, doc, pm, ctv, hl, rfl, hf, hc, by unfold DfOk; rw [hd]; rfl⟩ rfl
  · refine PySem.W.kdv_lam (by rw [hd]; rfl) hk0 ?_
    rw [hd]
    refine PySem.W.kdv_all1 (thn ((pe_int (i := 0) (j := kd) (pos := p) (X := X)).run pins s σ S.H (fun v H => v = .int 0 ∧ H = S.H) I ⟨rfl, rfl⟩) fun u s1 ⟨v, H1, I1, rv, ev, eH⟩ => ?_)
    subst ev eH
    refine PySem.W.kdv_all0 ?_
    rw [makeFunction_eq]
    simp only [List.zip_nil_right, List.filterMap_nil, List.isEmpty_nil, if_true, pure_bind, List.isEmpty_cons, Bool.false_eq_true, if_false]
    refine wpAny_bind (wpAny_newTextTuple ?_)
    have nT : S.H s1.heap.objs.size = none := I1.hok.fresh (Nat.le_refl _)
    have I2 := Inv.laid (a := s1.heap.objs.size) (t' := s1.toks) (o := .tup [.int 0]) (h' := s1.heap.push { cls := .type "tuple", data := .seq [u].toArray }) I1
      (fun b u e => Heap.get?_push_of_some _ e) (Nat.le_refl _) ⟨by simp [sizeLine_eq], [u], .cons rv .nil, _, Heap.get?_push_size _ rfl, rfl, _, rfl⟩
    have st1 := Step.new w (o := .tup [.int 0]) nT
    refine tail_make (S := S.new s1.heap.objs.size (.tup [.int 0])) (w.new nT) hm hj I2 TB hcode hfree fun f c' doc pm ctv S' s' em w' st' I' hf hc => ?_
    refine h (.ref f) (.ref f) S' s' em w' (st1.trans st') I' ⟨l, f, c', _, doc, pm, ctv, hl, rfl, hf, hc, ?_⟩ rfl
    unfold DfOk
    rw [hd]
    exact ⟨_, rfl, st'.fx (Fx.new w nT)⟩
end
end Fs

/-! FuP: lambdas that are kept: called. -/
namespace Fs
open PySem PySem.Spec PyProof.Rows L2 L2H LamX
/-- a lambda's names against the frame that it was made in: own ones are none of the frame's -/
structure LamN (N : List Str) (sc scope : Scope) : Prop where
  kind : scope.kind = .function
  co : scope.isCoroutine = false
  gen : scope.isGenerator = false
  own : ∀ y ∈ scope.names, y.2 ≠ .cell ∧ (y.2 = .local → y.1 ∉ N)
  free : ∀ y ∈ scope.names, y.2 = .free → sc.names.lookup y.1 = some .cell ∨ sc.names.lookup y.1 = some .free
def lamNB (N : List Str) (sc scope : Scope) : Bool :=
  decide (scope.kind = .function) && !scope.isCoroutine && !scope.isGenerator && scope.names.all fun y => !decide (y.2 = .cell) && (!decide (y.2 = .local) || !N.contains y.1) && (!decide (y.2 = .free) || decide (sc.names.lookup y.1 = some .cell) || decide (sc.names.lookup y.1 = some .free))
theorem lamN_by {N : List Str} {sc scope : Scope} (h : lamNB N sc scope = true) : LamN N sc scope := by
  unfold lamNB at h
  simp only [Bool.and_eq_true, Bool.or_eq_true, Bool.not_eq_true', decide_eq_true_eq, decide_eq_false_iff_not, List.all_eq_true] at h
  obtain ⟨⟨⟨h1, h2⟩, h3⟩, h4⟩ := h
  refine ⟨h1, h2, h3, fun y hy => ⟨(h4 y hy).1.1, fun e z => ?_⟩, fun y hy e => ?_⟩
  · rcases (h4 y hy).1.2 with q | q
    · exact q e
    · simp at q
      exact q z
  · rcases (h4 y hy).2 with (z | z) | z
    · exact absurd e z
    · exact .inl z
    · exact .inr z
theorem LamN.has {N : List Str} {X : Cx} {scope : Scope} (L : LamN N X.env.scope scope) (ok : X.Ok) : ∀ y ∈ scope.names, y.2 = .free → ∃ c, X.env.cells.lookup y.1 = some c := fun y hy e => by
  rcases L.free y hy e with k | k
  · exact ok.has _ (.inl k)
  · exact ok.has _ (.inr k)
/-- what is captured, as the slots tell it -/
structure Cap (X : Cx) (scope : Scope) (σ : L2.St) (H : Hp) (h : Heap) : Prop where
  loc : ∀ (i : Nat) (y : Str) (v : V) (c : Addr), (y, NameKind.free) ∈ scope.names → X.env.cells.lookup y = some c → X.N[i]? = some y → σ[i]? = some (some v) → ∃ u, RelV v u ∧ h.IsCell c (some u)
  cell : ∀ y c, X.env.cells.lookup y = some c → ∃ v, h.IsCell c v
  no : ∀ y c, X.env.cells.lookup y = some c → H c = none
theorem Cap.of {X : Cx} {pins : List (Addr × Obj)} {σ : L2.St} {H : Hp} {s : Shared} {scope : Scope} (I : Inv X pins σ H s) (L : LamN X.N X.env.scope scope) : Cap X scope σ H s.heap where
  cell := I.cell
  no := I.freeC
  loc := fun i y v c hy hc e1 e2 => by
    obtain ⟨m, hn, hl⟩ := I.loc
    have hvis : Vis X.env.scope y := (L.free _ hy rfl).elim (fun k => .inr (.inl k)) (fun k => .inr (.inr k))
    obtain ⟨u, r, q⟩ := hl i y v e1 e2 hvis
    refine ⟨u, r, ?_⟩
    rcases q with ⟨k', _⟩ | ⟨_, c3, e', z⟩
    · have k' : X.env.scope.names.lookup y = some .local := k'
      rcases L.free _ hy rfl with k2 | k2 <;> rw [show X.env.scope.names.lookup y = _ from k2] at k' <;> cases k'
    · rw [hc] at e'
      cases e'
      exact z
theorem Cap.un {X : Cx} {scope : Scope} {σ : L2.St} {H H' : Hp} {h h' : Heap} {fs ex : List Addr} (c0 : Cap X scope σ H h) (u : Un fs ex H H' h h') (hex : ∀ b ∈ ex, ∀ y c, X.env.cells.lookup y = some c → c ≠ b) : Cap X scope σ H' h' := by
  have nex : ∀ y c, X.env.cells.lookup y = some c → c ∉ ex := fun y c e z => hex c z y c e rfl
  have ck : ∀ y c v, X.env.cells.lookup y = some c → h.IsCell c v → h'.IsCell c v := fun y c v e ⟨o, ho, hd⟩ => by
    obtain ⟨sl, q⟩ := u.any ho (c0.no y c e) (nex y c e)
    exact ⟨_, q, hd⟩
  refine ⟨fun i y v c hy hc e1 e2 => ?_, fun y c e => ?_, fun y c e => ?_⟩
  · obtain ⟨w', r, z⟩ := c0.loc i y v c hy hc e1 e2
    exact ⟨w', r, ck y c _ hc z⟩
  · obtain ⟨v, z⟩ := c0.cell y c e
    exact ⟨v, ck y c v e z⟩
  · obtain ⟨v, o, ho, hd⟩ := c0.cell y c e
    exact u.free c o ho (c0.no y c e) (nex y c e)
/-- other slots that tell the same of what is captured -/
theorem Cap.slots {X : Cx} {scope : Scope} {σ σ' : L2.St} {H : Hp} {h : Heap} (c0 : Cap X scope σ H h) (k : ∀ (i : Nat) (y : Str) (v : V), (y, NameKind.free) ∈ scope.names → X.N[i]? = some y → σ'[i]? = some (some v) → σ[i]? = some (some v)) : Cap X scope σ' H h :=
  ⟨fun i y v c hy hc e1 e2 => c0.loc i y v c hy hc e1 (k i y v hy e1 e2), c0.cell, c0.no⟩
/-- the lambda's frame is entered -/
theorem lam_enter {X : Cx} {scope : Scope} {σ : L2.St} {HZ : Hp} {s1 : Shared} {A : Around} {outer : List PySem.Env} {E : XK} {f c' : Addr} {h₁ : Heap} {tk : Nat} {bs : List (Str × Value)} (ok : X.Ok) (len : σ.length = X.N.length) (cap : Cap X scope σ HZ s1.heap) (L : LamN X.N X.env.scope scope)
    (e0 : Env0 X.prog X.w X.K X.mg X.base A outer s1 HZ) (hd : A.handled = none) (hns : h₁.Ns s1.heap.objs.size fun y => bs.reverse.lookup y) (kp : ∀ b o, s1.heap.get? b = some o → h₁.get? b = some o) :
    Inv (lamCx X A outer s1 HZ E scope f c') [] σ HZ { s1 with heap := h₁, toks := tk } := by
  have hfree := L.has ok
  have cm : ∀ {y c}, (cloFrom X.env.cells scope.names []).lookup y = some c → (y, NameKind.free) ∈ scope.names ∧ X.env.cells.lookup y = some c := fun {y c} e => by
    rcases cloFrom_mem (PySem.mem_of_lookup e) with hm | ⟨h1, h2⟩
    · cases hm
    · obtain ⟨c1, hc⟩ := hfree _ h1 rfl
      have hc : X.env.cells.lookup y = some c1 := hc
      have e2 : c = c1 := by
        rw [h2, hc] <;> rfl
      rw [e2]
      exact ⟨h1, hc⟩
  have look : ∀ {y}, scope.names.lookup y = some .free → ∃ c, (cloFrom X.env.cells scope.names []).lookup y = some c := fun {y} hl => by
    have hy : (y, NameKind.free) ∈ scope.names := PySem.mem_of_lookup hl
    exact mem_lookup (cloFrom_has (cells := X.env.cells) (acc := []) hy)
  have cellK : ∀ {c : Addr} {v : Option Value}, s1.heap.IsCell c v → h₁.IsCell c v := fun {c v} ⟨o, ho, hd⟩ => ⟨o, kp _ _ ho, hd⟩
  have noA : ∀ b : Addr, b ∉ (lamCx X A outer s1 HZ E scope f c').ex := fun b z => absurd (show b ∈ ([] : List Addr) from z) (by simp)
  refine ⟨⟨e0.mod, L.kind, rfl, rfl, Nat.le_refl _, fun y z c e1 e2 => ok.inj y z c (cm e1).2 (cm e2).2, fun y hy => ?_, fun y c z _ => ?_, fun _ => hd, Around.frames_deeper e0.frames, .inr ⟨rfl, rfl⟩, fun b z => absurd z (noA b), e0.bs, e0.bsz, fun b _ _ => noA b,
      fun b z => absurd z (noA b), e0.funs, e0.frf⟩,
    rfl, e0.bare, Un.kept kp, ⟨_, hns, fun i y v e1 e2 e3 => ?_⟩, fun y c e => ?_, e0.hok.fresh (Nat.le_refl _), fun y c e => cap.no y c (cm e).2, fun q hq => absurd (show q ∈ ([] : List (Addr × Obj)) ++ [] from hq) (by simp), e0.hok.kept kp, len⟩
  · have hy : scope.names.lookup y = some .cell ∨ scope.names.lookup y = some .free := hy
    rcases hy with hy | hy
    · exact absurd rfl (L.own _ (PySem.mem_of_lookup hy)).1
    · exact look hy
  · have z : false = true := z
    cases z
  · have e3 : Vis scope y := e3
    have e1 : X.N[i]? = some y := e1
    rcases e3 with k | k | k
    · exact absurd (List.mem_of_getElem? e1) ((L.own _ (PySem.mem_of_lookup k)).2 rfl)
    · exact absurd rfl (L.own _ (PySem.mem_of_lookup k)).1
    · obtain ⟨c2, h2⟩ := look k
      obtain ⟨w', r, z⟩ := cap.loc i y v c2 (cm h2).1 (cm h2).2 e1 e2
      exact ⟨w', r, .inr ⟨.inr k, c2, h2, cellK z⟩⟩
  · obtain ⟨v, z⟩ := cap.cell y c (cm e).2
    exact ⟨v, cellK z⟩
/-- how a lambda's parameters are bound when none is handed in -/
def LamBd (l : LamI) : Prop := (l.params.defaults.isEmpty = true ∧ ∀ (q : Str) (cl : List (Str × Addr)) (doc pm cv ctv : Value), bindArgs (PySem.W.kdv_fn "<lambda>" q l.params (.expr l.body) l.scope cl .none doc pm cv ctv) ⟨[], []⟩ = pure []) ∨
  (l.params.defaults.isEmpty = false ∧ ∃ a : Str, l.scope.names.lookup a = some .local ∧ ∀ (q : Str) (cl : List (Str × Addr)) (t : Addr) (doc pm cv ctv v : Value), ∃ k, bindArgs (PySem.W.kdv_fn "<lambda>" q l.params (.expr l.body) l.scope cl (.ref t) doc pm cv ctv) ⟨[], []⟩ = seqItems? (.ref t) >>= k ∧ k (some #[v]) = pure [(a, v)])
/-- a() within _law_try: the def that got the lambda is entered at s over the frames stk -/
theorem pe_actK {X : Cx} {CXg : CXT} {Eg : XK} {Ng : List Str} {qg : Str} {sg : Scope} {g f c' : Addr} {cdg : Value} {dV doc pm ctv : Value} {l : LamI} {k i : Nat} {a : Str} {pn : List (Addr × Obj)} {xe : Value → Shared → Prop} {W : WX} {E : XK} {tb : TE} {p1 p2 : Pos} {A : Around} {stk : List PySem.Env} {s : Shared} {H : Hp} {σ : L2.St}
    (ok : X.Ok) (len : σ.length = X.N.length) (cap : Cap X l.scope σ H s.heap) (L : LamN X.N X.env.scope l.scope) (hB : LamBd l)
    (tk : Takes ((cxOf CXg X.prog X.w X.K X.mg X.base Ng qg sg g cdg A stk s H Eg).tr pn xe) W) (hW : ∀ cls d σ' H', E cls d H' → W cls d σ' H') (hr : Room (k + 1) (A.deeper (envOfC qg sg s.heap.objs.size g cdg)))
    (hbody : ∀ (A : Around) (outer : List PySem.Env) (s : Shared) (H : Hp), Room k (A.deeper (lamEnv X l.scope s.heap.objs.size f c')) → PE (lamCx X A outer s H E l.scope f c') l.body tb)
    (hN : Ng[i]? = some a) (hv : Vis sg a) (hd : (a == ("__debug__" : Str)) = false := by decide) (hcd : (a == ("__classdict__" : Str)) = false := by decide) :
    PE ((cxOf CXg X.prog X.w X.K X.mg X.base Ng qg sg g cdg A stk s H Eg).tr pn xe) (.Call (.Name a p1) [] [] p2)
      (fun σZ HZ Q => σZ[i]? = some (some (.ref f)) ∧ HZ c' = some (CodeO c' (X.env.qual ++ "<lambda>")) ∧ (HZ f = some (FnO f (lamO (X.env.qual ++ "<lambda>") l (cloFrom X.env.cells l.scope.names []) dV doc pm c' ctv)) ∧ DfOk ⟨[], [], [], HZ⟩ l dV ∧ tb σ HZ Q)) := by
  refine ⟨fun pinsZ sZ σZ HZ Q IZ h => ?_⟩
  obtain ⟨hs, hc, hf, hdf, ht⟩ := h
  refine wpAny_Call_Name_kw (thn ((pe_var (pos := p1) (i := i) hN hv hd hcd).run pinsZ sZ σZ HZ (fun v H1 => v = .ref f ∧ H1 = HZ) IZ ⟨.ref f, hs, rfl, rfl⟩) fun u s1 ⟨v, H1, I1, r1, q1⟩ => ?_)
  obtain ⟨ev, eH⟩ := q1
  subst ev
  rw [eH] at I1
  obtain rfl : u = Value.ref f := r1
  have of1 : s1.heap.get? f = some (lamO (X.env.qual ++ "<lambda>") l (cloFrom X.env.cells l.scope.names []) dV doc pm c' ctv) := (I1.hok f _ hf).1
  refine PySem.W.callWith_F0 ⟨_, _, _, _, of1⟩ ?_
  have un : Un (frs stk) [] H HZ s.heap s1.heap := I1.base
  have cap1 := cap.un un (fun b hb => absurd hb (by simp))
  obtain ⟨⟨oc, vs, t, hoc, hdc, hvc⟩, _, _⟩ := I1.hok c' _ hc
  -- the parameters
  obtain ⟨bs, hbs, hloc⟩ : ∃ bs : List (Str × Value), BindsTo s1 (PySem.W.kdv_fn "<lambda>" (X.env.qual ++ "<lambda>") l.params (.expr l.body) l.scope (cloFrom X.env.cells l.scope.names []) dV doc pm (.ref c') ctv) ⟨[], []⟩ bs ∧ ∀ y ∈ bs, l.scope.names.lookup y.1 = some .local := by
    unfold DfOk at hdf
    rcases hB with ⟨e, hb⟩ | ⟨e, y, hy, hb⟩
    · rw [if_pos e] at hdf
      subst hdf
      exact ⟨[], BindsTo.of_eq (hb _ _ _ _ _ _), fun y hy => absurd hy (by simp)⟩
    · rw [e] at hdf
      simp only [Bool.false_eq_true, if_false] at hdf
      obtain ⟨t0, e0, fx⟩ := hdf
      subst e0
      obtain ⟨_, its, vi, o, ho, hcl, hdo⟩ := I1.hok t0 _ fx.1
      obtain ⟨n0, hdo⟩ := hdo
      cases vi with
      | cons r0 tl =>
        cases tl
        rename_i u0
        obtain ⟨k0, b1, b2⟩ := hb (X.env.qual ++ "<lambda>") (cloFrom X.env.cells l.scope.names []) t0 doc pm (.ref c') ctv u0
        exact ⟨[(y, u0)], BindsTo.of_defaults rfl ho hdo b1 b2, fun z hz => by simp at hz; subst hz; exact hy⟩
  have rc : codeAny (model X.prog X.w) (A.deeper (envOfC qg sg s.heap.objs.size g cdg)) (.call (.ref f) ⟨[], []⟩) (CR (L2.CX X.prog X.w) (envOfC qg sg s.heap.objs.size g cdg :: stk) X.prog X.w HZ s1 Q E) s1 := by
    refine PySem.W.kla_callFunE hr.depth of1 rfl L.co L.gen rfl ⟨c', oc, vs, t, rfl, hoc, hdc, hvc⟩ (hbs _ _ _ _ ?_)
    refine wpAny_newFunctionEnv (fun y hy => (L.own y hy).1) hloc (fun h₁ hns hsb => ⟨I1.nolimit.fresh _ hsb, ?_⟩) L.kind
    show codeAny _ _ (.expr l.body (lamEnv X l.scope s1.heap.objs.size f c')) _ _
    have kp : ∀ b o, s1.heap.get? b = some o → h₁.get? b = some o := fun b o e => hsb.extBut b o (Nat.ne_of_lt (Heap.lt_size e)) (Heap.get?_push_of_some _ e)
    have J : Inv (lamCx X (A.deeper (envOfC qg sg s.heap.objs.size g cdg)) (envOfC qg sg s.heap.objs.size g cdg :: stk) s1 HZ E l.scope f c') [] σ HZ { s1 with heap := h₁, toks := s1.toks + bs.length } :=
      lam_enter ok len cap1 L I1.env0 hr.hd hns kp
    refine PySem.W.kla_codeExpr (wpAny_mono ((hbody _ _ s1 HZ (hr.deeper _)).run [] _ _ HZ Q J ht) (fun v s' hq => ?_) fun e s' hq => hq)
    obtain ⟨w', H', J', rv, q⟩ := hq
    exact ⟨w', H', J'.os, J'.bare, J'.base, J'.hok, rv, q⟩
  have hx : Passes (L2.CX X.prog X.w) ((cxOf CXg X.prog X.w X.K X.mg X.base Ng qg sg g cdg A stk s H Eg).tr pn xe) E := passes_call tk hW
  refine wpAny_call (codeAny_mono rc fun r s' hq => ?_)
  cases r with
  | error e => exact hx pinsZ σZ HZ s1 e s' I1 hq
  | ok fl =>
    cases fl with
    | ret u => exact I1.after hq
    | next => exact False.elim hq
    | brk => exact False.elim hq
    | cont => exact False.elim hq
end Fs

/-! FuQ: _law_try(x), x a lambda that is kept. -/
namespace Fs
open PySem PySem.Spec PyProof.Rows L2 L2H LamX
open Classical
/-- what the frame X knows of its lambdas -/
inductive LamsOk (C : Ct) (X : Cx) (k : Nat) : List LamI → MEs → Prop
  | nil : LamsOk C X k [] .nil
  | cons {l : LamI} {ls : List LamI} {b : ME} {bs : MEs} (hn : LamN X.N X.env.scope l.scope) (hb : LamBd l)
      (hbody : ∀ (A : Around) (outer : List PySem.Env) (s : Shared) (H : Hp) (E : XK) (f c' : Addr), Room k (A.deeper (lamEnv X l.scope s.heap.objs.size f c')) → SE C (lamCx X A outer s H E l.scope f c') l.body b) (t : LamsOk C X k ls bs) : LamsOk C X k (l :: ls) (.cons b bs)
theorem LamsOk.at {C : Ct} {X : Cx} {k : Nat} : ∀ {ls : List LamI} {bs : MEs}, LamsOk C X k ls bs → ∀ {n : Nat} {l : LamI}, ls[n]? = some l → LamN X.N X.env.scope l.scope ∧ LamBd l ∧ ∃ b, (∀ r, evn bs n r = ev b r) ∧
    ∀ (A : Around) (outer : List PySem.Env) (s : Shared) (H : Hp) (E : XK) (f c' : Addr), Room k (A.deeper (lamEnv X l.scope s.heap.objs.size f c')) → SE C (lamCx X A outer s H E l.scope f c') l.body b
  | _, _, .nil, n, l, h => by simp at h
  | _, _, .cons (l := l0) (b := b0) hn hb hbody t, 0, l, h => by
    simp at h
    subst h
    exact ⟨hn, hb, b0, fun r => by simp only [evn], hbody⟩
  | _, _, .cons (bs := bs) hn hb hbody t, n + 1, l, h => by
    obtain ⟨h1, h2, b, h3, h4⟩ := LamsOk.at t (n := n) (by simpa using h)
    exact ⟨h1, h2, b, fun r => by rw [← h3 r]; simp only [evn], h4⟩
section
variable {C : Ct} {X : Cx} {k n : Nat} {hk : List (Nat × (Bool × List Nat))} {ls : List LamI} {bs : MEs}
theorem try_code {g : Addr} {fd : FuncData} {pg : Arguments} {sg : Scope} {v1 v2 v3 : Value} {j1 : Nat} {a1 a2 a3 a4 a5 b1 b2 b3 b4 b5 b6 b7 b8 b9 d1 d2 d3 d4 d5 d6 d7 d8 d9 e1 e2 e3 e4 e5 e6 e7 pos : Pos}
    (FD : FunD C.K "_law_try" "_law_try" pg
      [.Try [.Return (some (.Tuple [.Constant (.str valueS) j1 a1, .Call (.Name "_law_ask" a2) [] [] a3] j1 a4)) a5]
        [.ExceptHandler (some (.Name "StepError" b8)) (some "_law_e") [.Return (some (.Tuple [.Attribute (.Name "_law_e" b1) "tag" b2, .Call (.Name "_law_field" b3) [.Name "_law_e" b4] [] b5] j1 b6)) b7] b9,
         .ExceptHandler (some (.Name "Missing" d8)) (some "_law_e") [.Return (some (.Tuple [.Attribute (.Name "_law_e" d1) "tag" d2, .Call (.Name "_law_field" d3) [.Name "_law_e" d4] [] d5] j1 d6)) d7] d9,
         .ExceptHandler (some (.Name "NothingLeft" e6)) (some "_law_e") [.Return (some (.Tuple [.Attribute (.Name "_law_e" e1) "tag" e2, .Constant .none j1 e3] j1 e4)) e5] e7] [] [] pos] sg [] [] g fd)
    (hb : Binds C.K fd ["_law_ask"] []) (Sg : FnScope NTry ["_law_ask"] sg) (sc : TryScope sg) (FF : FieldD C X.prog X.w X.mg X.base k "_law_field") (m1 : X.mg ("StepError" : Str) = some v1) (m2 : X.mg ("Missing" : Str) = some v2) (m3 : X.mg ("NothingLeft" : Str) = some v3)
    (hH : ∀ c b ks, hk.lookup c = some (b, ks) → HandAt C v1 v2 v3 c b ks ∧ ∀ j ∈ ks, j < n) (hK : X.K = C.K) (hn : C.nm 3 = "tag") (nok : NmOk C n) (h30 : 30 ≤ n)
    {A : Around} {stk : List PySem.Env} {s1 : Shared} {S1 : Ws} {σ : L2.St} {r : Env} {l : LamI} {f c' : Addr} {dV doc pm ctv : Value} {b : ME} {Q : VK} {WW : XK}
    (e0 : Env0 X.prog X.w X.K X.mg X.base A stk s1 S1.H) (w1 : Wf C S1) (sr : SRep C S1 r σ) (ok : X.Ok) (len : σ.length = X.N.length) (cap : Cap X l.scope σ S1.H s1.heap) (hr : Room (k + 3) A)
    (L : LamN X.N X.env.scope l.scope) (hB : LamBd l) (hf : Fx S1 f (FnO f (lamO (X.env.qual ++ "<lambda>") l (cloFrom X.env.cells l.scope.names []) dV doc pm c' ctv))) (hco : Fx S1 c' (CodeO c' (X.env.qual ++ "<lambda>"))) (hdf : DfOk S1 l dV)
    (hbody : ∀ (A : Around) (outer : List PySem.Env) (s : Shared) (H : Hp) (E : XK) (f c' : Addr), Room (k + 1) (A.deeper (lamEnv X l.scope s.heap.objs.size f c')) → SE C (lamCx X A outer s H E l.scope f c') l.body b)
    (h : PostE C S1 (tryG0 hk (ev b r S1.mu)) WW Q) :
    codeAny (model X.prog X.w) A (.call (.ref g) ⟨[.ref f], []⟩) (CR C8.CX0 stk X.prog X.w S1.H s1 Q C8.E0) s1 := by
  obtain ⟨oc, od, dW, kV, docg, pmg, an, cdv, ct, osl, rfl, lk, hcg, _, _⟩ := FD.ex
  rw [← hK] at lk hcg hb
  have dfz : DfOk ⟨[], [], [], S1.H⟩ l dV := by
    unfold DfOk at hdf ⊢
    split at hdf
    · rename_i e; rw [if_pos e]; exact hdf
    · rename_i e
      rw [if_neg e]
      obtain ⟨t, q1, q2⟩ := hdf
      exact ⟨t, q1, q2.1, nl0⟩
  refine run_ofS (N := NTry) (ps := ["_law_ask"]) (us := [.ref f]) (vs := [.ref f]) lk hcg Sg hr e0 (hb s1 [.ref f] (e0.mod.kin.keeps fun b o e => (e0.bs b o e).1) rfl) (.cons rfl .nil) rfl fun hr' => ?_
  refine ⟨_, (pss_one (law_try_body (j2 := 0) (j3 := 0) (X := { X with A := A, stack := stk }) (C := C) (k := k) (f := f) (c' := c') (q := X.env.qual ++ "<lambda>")
    (tl := fun E HZ Q' => HZ f = some (FnO f (lamO (X.env.qual ++ "<lambda>") l (cloFrom X.env.cells l.scope.names []) dV doc pm c' ctv)) ∧ DfOk ⟨[], [], [], HZ⟩ l dV ∧ dnE C (ev b) (fun cls d _ H => E cls d H) σ HZ Q') sc (fun E H Q1 Q2 hQ hd => ?_) FF hK hn m1 m2 m3 (roomH_of (hr'.mono (Nat.le_succ _))) (fun W pn xe E p1 p2 tk hW => ?_))).nox, ?_⟩
  · obtain ⟨q1, q2, r2, S2, h1, h2, h3, h4⟩ := hd
    exact ⟨q1, q2, r2, S2, h1, h2, h3, h4.imp hQ⟩
  · exact pe_actK (i := 0) (X := X) ok len cap L hB tk hW (k := k + 1) hr' (fun A outer s H hr2 => hbody A outer s H E f c' hr2 _ (takes_of rfl rfl rfl rfl)) rfl (.inl sc.ask) (by decide) (by decide)
  · refine ⟨fun cls d H' => ∀ σ', wManyAs X.K 1 (fun _ _ _ _ => False) { nx := fun _ H' => Q .non H', rt := Q } [(v1, tsTry C 1 true), (v2, tsTry C 1 true), (v3, tsTry C 1 false)] cls d σ' H', fun cls d σ' H' z => z σ', rfl, hco.1, hf.1, dfz, ?_⟩
    refine ⟨r, S1, rfl, w1, sr, ?_⟩
    unfold tryG0 at h
    cases e : ev b r S1.mu with
    | ok d m' =>
      rw [e] at h
      intro S2 v em w2 st2 rv p hp
      exact h (S2.new p (.tup [.str valueS, v])) (.ref p) em (w2.new hp) (st2.trans (Step.new w2 hp)) (rep_pair (t := ['v', 'a', 'l', 'u', 'e']) w2 hp (by decide) rv)
    | stuck => rw [e] at h; exact h.elim
    | exc cc ks ds m' =>
      rw [e] at h
      dsimp only at h
      cases eh : hk.lookup cc with
      | none => rw [eh] at h; exact h.elim
      | some bk =>
        obtain ⟨bb, ks'⟩ := bk
        rw [eh] at h
        dsimp only at h
        split at h
        case isFalse => exact h.elim
        rename_i ek
        subst ek
        obtain ⟨HA, hks⟩ := hH cc bb ks eh
        intro S2 dx em w2 st2 ⟨fvs, fx, hnm, hre⟩ σ'
        rw [hK]
        cases et : (ks.zip ds).lookup 3 with
        | none => rw [et] at h; exact h.elim
        | some dt =>
          rw [et] at h
          cases dt with
          | str t =>
            dsimp only at h
            cases bb with
            | true =>
              simp only [if_true] at h
              cases ey : fieldO t (ks.zip ds) with
              | none => rw [ey] at h; exact h.elim
              | some y =>
                rw [ey] at h
                exact try_exc nok h30 HA hks w2 fx hnm hre et (y := y) (by simpa using ey) (fun S3 v em3 w3 st3 rv => h S3 v (em3.trans em) w3 (st2.trans st3) rv) σ'
            | false =>
              simp only [Bool.false_eq_true, if_false] at h
              exact try_exc nok h30 HA hks w2 fx hnm hre et (y := .non) (by simp) (fun S3 v em3 w3 st3 rv => h S3 v (em3.trans em) w3 (st2.trans st3) rv) σ'
          | _ => exact h.elim
/-- the context Y is X with another frame -/
abbrev Cx.at (X : Cx) (Y : Cx) : Cx := { X with A := Y.A, s_0 := Y.s_0, H_0 := Y.H_0, env := Y.env, outer := Y.outer, stack := Y.stack, ex := Y.ex, fn := Y.fn, calm := Y.calm, pn := Y.pn, xe := Y.xe }
theorem pe_fnG {Y : Cx} {G : L2.St → Prop} {a : Expr} {ma : ME} {p pos : Pos} (T : TryD C X.prog X.w X.mg X.base k n hk) (hK : X.K = C.K) (hn : C.nm 3 = "tag") (nok : NmOk C n) (h30 : 30 ≤ n)
    (hg : Gl (Fs.Cx.at X Y) "_law_try") (hr : Room (k + 3) Y.A) (ok : X.Ok) (hs : isStar a = false) (hfr : ∀ j S v, C.fr j S v → frL ls (X.env.qual ++ "<lambda>") X.env.cells j S v) (hL : LamsOk C X (k + 1) ls bs)
    (hcap : ∀ pins s σ H, Inv (Fs.Cx.at X Y) pins σ H s → G σ → ∀ l ∈ ls, Cap X l.scope σ H s.heap) (ha : SE C (Fs.Cx.at X Y) a ma) {W : WX} (tk : Takes (Fs.Cx.at X Y) W) :
    PE (Fs.Cx.at X Y) (.Call (.Name "_law_try" p) [a] [] pos) (fun σ H Q => G σ ∧ dnE C (ev (.fnx (tryG0 hk) bs ma)) W σ H Q) := by
  obtain ⟨g, fd, pg, sg, v1, v2, v3, j1, a1, a2, a3, a4, a5, b1, b2, b3, b4, b5, b6, b7, b8, b9, d1, d2, d3, d4, d5, d6, d7, d8, d9, e1, e2, e3, e4, e5, e6, e7, tpos, FD, hm, hb, Sg, sc, FF, m1, m2, m3, hH⟩ := T.ex
  have hkp := FD.kp
  rw [← hK] at hkp
  refine ⟨fun pins s σ H Q I ⟨hG, r, S, hS, w, sr, h⟩ => ?_⟩
  subst hS
  simp only [ev] at h
  refine wpAny_Call_Name_kw (ld_glob I hg hm ?_ (by decide))
  refine PySem.W.callWith_K (h₀ := X.base) I.ok.mod.kin hkp ?_ (star_cons hs) (star_any (es := []) rfl)
  rw [star_cons hs]
  show wpAny _ _ (spliced ((false, eval a Y.env) :: backTo pos (starEach [] Y.env))) _ _ s
  refine Calls.spliced_cons (thn ((ha W tk).run pins s σ S.H _ I (dnE_intro r w sr (h.bind.imp fun _ _ z => z))) fun u s1 ⟨v, H1, I1, rv, S1, d, eH, w1, st1, r1, h1⟩ => ?_)
  subst eH
  refine Calls.spliced_nil ⟨I1.kIn, ?_⟩
  cases d with
  | fn j =>
    simp only [Rep] at r1
    obtain ⟨l, f, c', dV, doc, pm, ctv, hl, ev', hf, hco, hdf⟩ := hfr j S1 v r1
    subst ev'
    obtain rfl : u = Value.ref f := rv
    obtain ⟨hN, hB, b, hev, hbody⟩ := hL.at hl
    have h1 : PostE C S1 (tryG0 hk (evn bs j r S1.mu)) (fun c d H' => W c d σ H') Q := h1
    rw [hev r] at h1
    have rc := try_code (X := X) (A := Y.A) (stk := Y.stack) FD hb Sg sc FF m1 m2 m3 hH hK hn nok h30 I1.env0 w1 (sr.mono st1) ok I1.len (hcap _ _ _ _ I1 hG l (List.mem_of_getElem? hl)) hr hN hB hf hco hdf hbody h1
    refine wpAny_call (codeAny_mono rc fun rr s2 hq => ?_)
    cases rr with
    | error e => exact (show False from hq).elim
    | ok fl =>
      cases fl with
      | ret u => exact I1.after hq
      | next => exact False.elim hq
      | brk => exact False.elim hq
      | cont => exact False.elim hq
  | _ => exact h1.elim
/-- in the frame itself -/
theorem se_fn {a : Expr} {ma : ME} {p pos : Pos} (T : TryD C X.prog X.w X.mg X.base k n hk) (hK : X.K = C.K) (hn : C.nm 3 = "tag") (nok : NmOk C n) (h30 : 30 ≤ n) (hg : Gl X "_law_try") (hr : Room (k + 3) X.A) (hs : isStar a = false)
    (hfr : ∀ j S v, C.fr j S v → frL ls (X.env.qual ++ "<lambda>") X.env.cells j S v) (hL : LamsOk C X (k + 1) ls bs) (ha : SE C X a ma) : SE C X (.Call (.Name "_law_try" p) [a] [] pos) (.fnx (tryG0 hk) bs ma) := fun W tk => by
  refine ⟨fun pins s σ H Q I h => ?_⟩
  refine (pe_fnG (X := X) (Y := X) (G := fun _ => True) (p := p) (pos := pos) T hK hn nok h30 hg hr I.ok hs hfr hL (fun pins s σ H I _ l hl => ?_) ha tk).run pins s σ H Q I ⟨trivial, h⟩
  obtain ⟨n, hn⟩ := List.getElem?_of_mem hl
  exact Cap.of I (hL.at hn).1
/-- a lambda made -/
noncomputable def fnM (j i : Nat) : List D → M D := fun _ m => match m[j]? with
  | some (.tab k) => if k = j then .ok (.fn i) m else .stuck
  | _ => .stuck
theorem se_lam {l : LamI} {i j : Nat} {c P : Addr} {pos : Pos} (TB : TabB X.base X.mg c P) (hcode : X.env.code = .ref c) (hj : C.tb j = (P, X.env.qual ++ "<lambda>")) (hN : LamN X.N X.env.scope l.scope) (hi : ls[i]? = some l)
    (hfr : ∀ S v, frL ls (X.env.qual ++ "<lambda>") X.env.cells i S v → C.fr i S v) (hdf : l.params.kw_defaults = [] ∧ (l.params.defaults = [] ∨ ∃ kd p, l.params.defaults = [.Constant (.int 0) kd p])) :
    SE C X (.Lambda l.params l.body l.scope pos) (.call (fnM j i) .nil) := fun W tk => by
  refine ⟨fun pins s σ H Q I ⟨r, S, hS, w, sr, h⟩ => ?_⟩
  subst hS
  simp only [ev, evs] at h
  have h2 : PostE C S (fnM j i [] S.mu) (fun c d H' => W c d σ H') Q := h
  clear h
  unfold fnM at h2
  split at h2
  · rename_i kk e
    split at h2
    · rename_i ek
      subst ek
      refine lam_makeK (ls := ls) (n := i) w e hj I TB hcode (hN.has I.ok) hi hdf fun v u S' s' em w' st' I' hv ru => ?_
      exact ⟨v, S'.H, I', ru, h2 S' v em w' st' (by simp only [Rep]; exact hfr S' v hv)⟩
    · exact h2.elim
  · exact h2.elim
end
end Fs

/-! FuR: comprehensions whose element leans on the state at which they were entered. -/
namespace Fs
open PySem PySem.Spec PyProof.Rows L2 L2H LamX
open Classical
section
variable {X : Cx}
/-- the comprehension, the element read with what holds at its entry -/
theorem pe_lcI {elt tg iter : Expr} {scope : Scope} {own : List (Str × Nat)} {pos : Pos} {wi : TI} {g : TG} {te : L2.St → TE} (hc : X.calm = true) (hN : X.N.Nodup) (hi : PI X tg iter wi) (ok : BlkOk X.N X.env.scope scope own)
    (hg : ∀ (s : Shared) (H : Hp) (C : Addr) (cl : List (Str × Addr)) (fp : List Addr), PG (X.blk s H scope (compEnvC scope cl C X.env) fp) tg g)
    (he : ∀ (pins : List (Addr × Obj)) (σ : L2.St) (s : Shared) (H : Hp) (C : Addr) (cl : List (Str × Addr)) (fp : List Addr), Inv X pins σ H s → (∀ b ∈ fp, FpOk X pins H b) → PE (X.blk s H scope (compEnvC scope cl C X.env) fp) elt (te σ)) (hs : ∀ x, foldedSetIterable iter X.env x = pure x) :
    PE X (.ListComp elt [⟨tg, iter, [], 0⟩] scope pos) (fun σ H Q => tLc wi g tYes (te σ) (own.map (·.2)) σ H Q) := by
  refine ⟨fun pins s0 σ H0 Q I0 h0 => ?_⟩
  rw [eval_ListComp]
  have hcl : ∀ y ∈ scope.names, y.2 = .free → ∃ c, X.env.cells.lookup y.1 = some c := fun y hy e => (ok.free y hy e).elim (fun k => I0.ok.has _ (.inl k)) (fun k => I0.ok.has _ (.inr k))
  refine wpAny_comprehension_free (use := none) rfl hs (closure_ok hcl) ok.kind (fun y hy e => by rw [ok.uniq y hy, e])
    (thn (hi.run pins s0 σ H0 _ I0 h0) fun xv s1 hx => thn hx fun itv s2 h2 => ?_)
  obtain ⟨it, fp, tn, J, H2, e, I2, T, st2, f2, q⟩ := h2
  subst e
  refine wpAny_newObj_type (newEnv_comp ?_) (Nat.zero_le _)
  generalize hD : s2.heap.objs.size = D
  have nD : H2 D = none := I2.hok.fresh (Nat.le_of_eq hD)
  obtain ⟨Wt, ⟨m0, w0⟩, turn⟩ := q D nD
  generalize es3 : ({ s2 with heap := s2.heap.push { cls := .type "list", data := .seq ([] : List Value).toArray } } : Shared) = s3
  have heap3 : s3.heap = s2.heap.push { cls := .type "list", data := .seq ([] : List Value).toArray } := by rw [← es3]
  have I3 : Inv X pins σ (upd H2 D (.lst [])) s3 := by
    rw [← es3]
    refine I2.laid (t' := s2.toks) (fun b o e => Heap.get?_push_of_some _ e) (Nat.le_of_eq hD) ⟨Nat.zero_le _, [], 0, .nil, ?_⟩
    rw [← hD]
    exact Heap.get?_push_size _ rfl
  have below : ∀ b ∈ fp, b < s2.heap.objs.size := fun b hb => let ⟨o, e, _⟩ := T.obj _ _ st2 b hb; Heap.lt_size e
  have fpk : ∀ b ∈ fp, FpOk X pins (upd H2 D (.lst [])) b := fun b hb => ⟨by
    rw [upd_ne (by rw [← hD]; exact Nat.ne_of_lt (below b hb))]
    exact (f2 b hb).1, (f2 b hb).2⟩
  have f3 : ∀ b ∈ fp, FpOk X pins (upd H2 D (.lst [])) b ∧ b < s3.heap.objs.size := fun b hb => ⟨fpk b hb, by rw [heap3, Heap.size_push]; exact Nat.lt_succ_of_lt (below b hb)⟩
  have st3 : tn 0 s3.heap := T.keep _ _ _ st2 fun b _ o e => by rw [heap3]; exact Heap.get?_push_of_some _ e
  have I4 := block_start I3 ok hN f3
  have pg := hg s3 (upd H2 D (.lst [])) s3.heap.objs.size (cellsFrom (s3.heap.objs.size + 1) scope.names (cloFrom X.env.cells scope.names [])) fp
  have pe := he pins σ s3 (upd H2 D (.lst [])) s3.heap.objs.size (cellsFrom (s3.heap.objs.size + 1) scope.names (cloFrom X.env.cells scope.names [])) fp I3 fpk
  show codeAny _ _ (.compStart (.ListComp elt [⟨tg, iter, [], 0⟩] scope pos) 0 (.ref it) (.ref D) (compEnvC scope (cellsFrom (s3.heap.objs.size + 1) scope.names (cloFrom X.env.cells scope.names [])) s3.heap.objs.size X.env)) (compPost (model X.prog X.w) X.A X.xe none _ (.ref D) s3.heap.objs.size) { s3 with heap := pushCells (s3.heap.push { cls := .type "dict", data := .dict #[] }) scope.names }
  have nfp : ∀ b ∈ fp, (upd H2 D (.lst [])) b = none := fun b hb => (fpk b hb).1
  generalize ece : compEnvC scope (cellsFrom (s3.heap.objs.size + 1) scope.names (cloFrom X.env.cells scope.names [])) s3.heap.objs.size X.env = ce at I4 pg pe ⊢
  have cL : ce.locals = s3.heap.objs.size := by rw [← ece]; rfl
  generalize eH3 : upd H2 D (.lst []) = H3 at I3 I4 pg pe w0 nfp f3
  generalize es4 : ({ s3 with heap := pushCells (s3.heap.push { cls := .type "dict", data := .dict #[] }) scope.names } : Shared) = s4 at I4 ⊢
  have st4 : tn 0 s4.heap := T.keep _ _ _ st3 fun b _ o e => by rw [← es4]; exact pushCells_keeps _ _ _ _ (Heap.get?_push_of_some _ e)
  have stat : ∀ {σ' : L2.St} {H' : Hp} {s' : Shared}, Inv (X.blk s3 H3 scope ce fp) [] σ' H' s' → (∀ b ∈ fp, H' b = none) → ∀ b ∈ fp, FpOk (X.blk s3 H3 scope ce fp) [] H' b := fun {σ' H' s'} I' hn b hb =>
    ⟨hn b hb, (I'.ok.exf b hb).1, I'.ok.exfs b hb, .inl hb, fun x c e => (I'.ok.exf b hb).2 x c e, fun p hp => absurd (show p ∈ ([] : List (Addr × Obj)) ++ [] from hp) (by simp)⟩
  refine codeAny_compStart_list ?lp (T.self X.A 0 _ _ _ st4 ?lp)
  refine compLoop_any (fun n s' => ∃ i H', Inv (X.blk s3 H3 scope ce fp) [] (wipe σ (own.map (·.2))) H' s' ∧ tn i s'.heap ∧ (∀ b ∈ fp, H' b = none) ∧ Wt i n H') ?_ m0 ⟨0, H3, I4, st4, nfp, w0⟩
  rintro n s5 ⟨i, H5, I5, st5, n5, w5⟩
  rcases turn i n H5 w5 with ⟨stop, qq⟩ | ⟨go, Nx, hNx, step⟩
  · refine thnF (T.done (X.blk s3 H3 scope ce fp) rfl rfl rfl hc i [] s5 _ H5 (fun _ _ => False) I5 (stat I5 n5) st5 stop) fun r s6 ⟨hr, I6⟩ => ?_
    subst hr
    have I7 : Inv X pins σ H5 s6 := I3.call' (ch := fp) I6.os I6.base I6.hok I6.bare fun b hb => ⟨(f3 b hb).1.2.2.2.1, (f3 b hb).1.2.1, (f3 b hb).1.2.2.2.2.1, (f3 b hb).1.2.2.2.2.2⟩
    have nC : H5 s3.heap.objs.size = none := by
      have z : H5 ce.locals = none := I6.free
      rw [cL] at z
      exact z
    obtain ⟨mm, hn, _⟩ := I6.loc
    have hn : s6.heap.Ns ce.locals mm := hn
    rw [cL] at hn
    obtain ⟨k0, k1, k2, k3, k4, k5⟩ := I3.fpOk (Nat.le_refl _) nC
    exact ⟨mm, hn, fun h'' sb => ⟨.ref D, H5, I7.turned (t' := s6.toks) (fun b o hb e => (sb.2 b hb).trans e) k0 k1 k3 k4 k5, rfl, qq⟩⟩
  · refine thnF (T.item (X.blk s3 H3 scope ce fp) rfl rfl rfl hc i [] s5 _ H5 (fun _ _ => False) I5 (stat I5 n5) st5 go) fun r s6 ⟨u, hr, h6⟩ => ?_
    subst hr
    refine thnF h6 fun _ s7 ⟨x, H7, I7, r7, y7, st7, n7⟩ => ?_
    have I7' := I7.pinned (stat I7 n7) (T.obj _ _ st7)
    refine thnF (pg.run _ s7 _ H7 x u _ I7' r7 (step x H7 y7)) fun _ s8 ⟨σ8, H8, I8, hw8, q8⟩ => ?_
    refine thnF ((pts_nil (X := X.blk s3 H3 scope ce fp)).run _ s8 σ8 H8 _ I8 q8) fun b s9 ⟨H9, I9, q9⟩ => ?_
    have fin : ∀ {s' : Shared} {H' : Hp}, Inv (X.blk s3 H3 scope ce fp) ([] ++ pinsAt fp s7.heap) σ8 H' s' → Nx H' → ∃ m, m < n ∧ ∃ i H', Inv (X.blk s3 H3 scope ce fp) [] (wipe σ (own.map (·.2))) H' s' ∧ tn i s'.heap ∧ (∀ b ∈ fp, H' b = none) ∧ Wt i m H' := fun {s' H'} I' nx => by
      obtain ⟨m', hm, w'⟩ := hNx H' nx
      have pin' : ∀ b ∈ fp, ∀ o, s7.heap.get? b = some o → s'.heap.get? b = some o ∧ H' b = none := fun b hb o e =>
        let z := I'.pin (b, o) (List.mem_append_right _ (List.mem_append_right _ (mem_pinsAt hb e)))
        ⟨z.1, z.2.1⟩
      have hl : (wipe σ (own.map (·.2))).length = σ8.length := by rw [← hw8, wipe_length]
      refine ⟨m', hm, i + 1, H', (I'.unpinned (pins := [])).weak hl (fun j v e => ?_), T.keep _ _ _ st7 fun b hb o e => (pin' b hb o e).1, fun b hb => ?_, w'⟩
      · rw [← hw8] at e
        exact (wipe_some e).1
      · obtain ⟨o, e, _⟩ := T.obj _ _ st7 b hb
        exact (pin' b hb o e).2
    cases b with
    | false =>
      simp only [Bool.false_eq_true, if_false] at q9 ⊢
      exact fin I9 q9
    | true =>
      simp only [if_true] at q9 ⊢
      refine thnF (pe.run _ s9 σ8 H9 _ I9 q9) fun z s10 ⟨yv, H10, I10, r10, acc, hD10, hz10, nx⟩ => ?_
      exact app_ok (X := X.blk s3 H3 scope ce fp) I10 hD10 hz10 r10 fun s11 I11 => fin I11 nx
theorem dnG_mono {C : Ct} {g : MG} {v : V} {σ : L2.St} {H : Hp} {Q Q' : L2.St → Hp → Prop} (h : dnG C g v σ H Q) (k : ∀ σ H, Q σ H → Q' σ H) : dnG C g v σ H Q' := by
  obtain ⟨d, r, S, h1, h2, h3, h4, h5⟩ := h
  refine ⟨d, r, S, h1, h2, h3, h4, ?_⟩
  split at h5
  · exact fun σ' a b c => k _ _ (h5 σ' a b c)
  · exact h5
theorem tLc_guard {C : Ct} {wi : TI} {g : MG} {te : TE} {vs : List Nat} {σ : L2.St} {H : Hp} {Q : VK} (h : tLc wi (dnG C g) tYes te vs σ H Q) (mono : ∀ σ H (R R' : It → Hp → Prop), (∀ J H, R J H → R' J H) → wi σ H R → wi σ H R') :
    tLc wi (dnG C g) tYes (fun σ' H Q => wipe σ' vs = wipe σ vs ∧ te σ' H Q) vs σ H Q := by
  refine mono σ H _ _ (fun J H1 z D hD => ?_) h
  obtain ⟨W, h0, hw⟩ := z D hD
  refine ⟨W, h0, fun i m H hW => ?_⟩
  rcases hw i m H hW with z | ⟨z1, Nx, z2, z3⟩
  · exact .inl z
  · refine .inr ⟨z1, Nx, z2, fun x H' y => dnG_mono (z3 x H' y) fun σ2 H2 ⟨e, t⟩ => ⟨e, ?_⟩⟩
    simp only [tYes] at t ⊢
    simp only [if_true] at t ⊢
    exact ⟨e, t⟩
theorem dnI_mono {C : Ct} {f : Env → M Itm} {W : WX} : ∀ σ H (R R' : It → Hp → Prop), (∀ J H, R J H → R' J H) → dnI C f W σ H R → dnI C f W σ H R' := by
  intro σ H R R' k ⟨r, S, h1, h2, h3, h4⟩
  refine ⟨r, S, h1, h2, h3, ?_⟩
  unfold PostI at h4 ⊢
  split at h4
  · exact fun S' J em w st src => k _ _ (h4 S' J em w st src)
  · exact h4
  · exact h4
/-- the element may lean on the state at the entry, and on slots that are told as there -/
def SEf (C : Ct) (X : Cx) (own : List Nat) (scope : Scope) (elt : Expr) (e : ME) : Prop := ∀ (pins : List (Addr × Obj)) (σ : L2.St) (s : Shared) (H : Hp) (L : Addr) (cl : List (Str × Addr)) (fp : List Addr), Inv X pins σ H s → (∀ b ∈ fp, FpOk X pins H b) →
  PE (X.blk s H scope (compEnvC scope cl L X.env) fp) elt (fun σ' H Q => wipe σ' own = wipe σ own ∧ dnE C (ev e) (fun _ _ _ _ => False) σ' H Q)
theorem se_compF {C : Ct} {elt tg iter : Expr} {scope : Scope} {pos : Pos} {own : List (Str × Nat)} {mu : Bool} {g : MG} {s : MI} {e : ME} (hc : X.calm = true) (hN : X.N.Nodup) (hi : SI C X tg iter s) (ok : blkC X.N X.env.scope scope own = true)
    (hsl : ∀ j ∈ g.slots, j ∈ own.map (·.2))
    (hg : ∀ (s : Shared) (H : Hp) (L : Addr) (cl : List (Str × Addr)) (fp : List Addr), SG C (X.blk s H scope (compEnvC scope cl L X.env) fp) tg g)
    (he : SEf C X (own.map (·.2)) scope elt e) (hs : ∀ x, foldedSetIterable iter X.env x = pure x) : SE C X (.ListComp elt [⟨tg, iter, [], 0⟩] scope pos) (.comp mu (own.map (·.2)) g s .no e) := fun W tk =>
  PEw (pe_lcI (te := fun σ σ' H Q => wipe σ' (own.map (·.2)) = wipe σ (own.map (·.2)) ∧ dnE C (ev e) (fun _ _ _ _ => False) σ' H Q) hc hN (hi W tk) (blkOk_by ok) (fun s H L cl fp => hg s H L cl fp) (fun pins σ s H L cl fp I hf => he pins σ s H L cl fp I hf) hs)
    fun σ H Q h => tLc_guard (comp_tLc hsl h) dnI_mono
/-- f(_law_try(x)) .. : a word about the answer -/
theorem sef_imp {C : Ct} {own : List Nat} {scope : Scope} {elt : Expr} {e : ME} (h : ∀ (s : Shared) (H : Hp) (L : Addr) (cl : List (Str × Addr)) (fp : List Addr), SE C (X.blk s H scope (compEnvC scope cl L X.env) fp) elt e) : SEf C X own scope elt e := fun pins σ s H L cl fp I hf =>
  PEw (h s H L cl fp _ takesF) fun σ' H Q z => z.2
/-- what is captured is none of the comprehension's own names -/
def capB (N : List Str) (ls : List LamI) (own : List Nat) : Bool := ls.all fun l => l.scope.names.all fun y => !decide (y.2 = .free) || own.all fun i => !decide (N[i]? = some y.1)
theorem sef_fn {C : Ct} {k n : Nat} {hk : List (Nat × (Bool × List Nat))} {ls : List LamI} {bs : MEs} {own : List Nat} {scope : Scope} {a : Expr} {ma : ME} {p pos : Pos} (T : TryD C X.prog X.w X.mg X.base k n hk) (hK : X.K = C.K) (hn : C.nm 3 = "tag") (nok : NmOk C n) (h30 : 30 ≤ n)
    (hg : ∀ (s : Shared) (H : Hp) (L : Addr) (cl : List (Str × Addr)) (fp : List Addr), glB (X.blk s H scope (compEnvC scope cl L X.env) fp) "_law_try" = true) (hr : Room (k + 3) X.A) (hs : isStar a = false) (hfr : ∀ j S v, C.fr j S v → frL ls (X.env.qual ++ "<lambda>") X.env.cells j S v) (hL : LamsOk C X (k + 1) ls bs) (hcap : capB X.N ls own = true)
    (ha : ∀ (s : Shared) (H : Hp) (L : Addr) (cl : List (Str × Addr)) (fp : List Addr), SE C (X.blk s H scope (compEnvC scope cl L X.env) fp) a ma) : SEf C X own scope (.Call (.Name "_law_try" p) [a] [] pos) (.fnx (tryG0 hk) bs ma) := fun pins σ s H L cl fp I hf => by
  refine pe_fnG (X := X) (Y := X.blk s H scope (compEnvC scope cl L X.env) fp) (G := fun σ' => wipe σ' own = wipe σ own) (p := p) (pos := pos) T hK hn nok h30 (glB_ok (hg s H L cl fp)).1 hr I.ok hs hfr hL (fun pins' s' σ' H' I' hw l hl => ?_) (ha s H L cl fp) takesF
  obtain ⟨n', hn'⟩ := List.getElem?_of_mem hl
  have c0 := Cap.of I (hL.at hn').1
  have c1 := c0.un I'.base (fun b hb y c e => (hf b hb).2.2.2.2.1 y c e)
  refine c1.slots fun i y v hy hi hv => ?_
  have hni : i ∉ own := fun z => by
    unfold capB at hcap
    have := List.all_eq_true.mp (List.all_eq_true.mp hcap l hl) (y, .free) hy
    simp only [Bool.or_eq_true, Bool.not_eq_true', decide_eq_false_iff_not, decide_eq_true_eq, List.all_eq_true] at this
    rcases this with q | q
    · exact q trivial
    · exact q i z hi
  have e1 : (wipe σ' own)[i]? = (wipe σ own)[i]? := by rw [hw]
  rw [wipe_get, wipe_get, if_neg (fun z => hni z.1), if_neg (fun z => hni z.1)] at e1
  rw [← e1]; exact hv
end
end Fs

/-! FuS: where a lambda stands; words of the kept lambdas for the plain side. -/
namespace Fs
open PySem PySem.Spec PyProof.Rows L2 L2H LamX
open Classical
def kidsE : Expr → List Expr
  | .List es _ => es
  | .Tuple es _ _ => es
  | .BinOp a _ b _ => [a, b]
  | .Call f as _ _ => f :: as
  | .Compare a _ bs _ => a :: bs
  | .BoolOp _ es _ => es
  | .UnaryOp _ a _ => [a]
  | .IfExp c a b _ => [c, a, b]
  | .Subscript a b _ => [a, b]
  | _ => []
def kidsS : Stmt → List Expr
  | .Assign _ v _ => [v]
  | .Return (some e) _ => [e]
  | .Expr e _ => [e]
  | .If c _ _ _ => [c]
  | .For _ it _ _ _ => [it]
  | .While c _ _ _ => [c]
  | _ => []
def subsS : Stmt → List (List Stmt)
  | .If _ a b _ => [a, b]
  | .For _ _ b _ _ => [b]
  | .While _ b _ _ => [b]
  | _ => []
def goB : List Stmt → List (Nat × Nat) → List Stmt
  | b, [] => b
  | b, (i, j) :: r => match b[i]? with
    | some s => (match (subsS s)[j]? with
      | some b' => goB b' r
      | none => [])
    | none => []
def goE : Expr → List Nat → Expr
  | e, [] => e
  | e, i :: r => match (kidsE e)[i]? with
    | some e' => goE e' r
    | none => e
def lamAt (b : List Stmt) (p : List (Nat × Nat)) (i j : Nat) (q : List Nat) : LamI := match (goB b p)[i]? with
  | some s => (match (kidsS s)[j]? with
    | some e => (match goE e q with
      | .Lambda a b c _ => ⟨a, b, c⟩
      | _ => ⟨⟨[], [], none, [], [], none, []⟩, .Constant .none 0 ⟨0, 0, 0, 0⟩, ⟨.function, [], false, false, []⟩⟩)
    | none => ⟨⟨[], [], none, [], [], none, []⟩, .Constant .none 0 ⟨0, 0, 0, 0⟩, ⟨.function, [], false, false, []⟩⟩)
  | none => ⟨⟨[], [], none, [], [], none, []⟩, .Constant .none 0 ⟨0, 0, 0, 0⟩, ⟨.function, [], false, false, []⟩⟩
/-- the frame's cells -/
abbrev celL (x : Str) (sc : Scope) (n : Nat) (f : Addr) (cd : Value) : List (Str × Addr) := (envOfC x sc n f cd).cells
section
variable {m : Store} {E : EX} {Q : D → Store → Prop} {r : Env}
@[simp] theorem evn_0 (e : ME) (es : MEs) : evn (.cons e es) 0 r = ev e r := by simp only [evn]
@[simp] theorem evn_s (e : ME) (es : MEs) (k : Nat) : evn (.cons e es) (k + 1) r = evn es k r := by simp only [evn]
@[simp] theorem evn_1 (e0 e : ME) (es : MEs) : evn (.cons e0 (.cons e es)) 1 r = ev e r := by simp only [evn]
@[simp] theorem evn_2 (e0 e1 e : ME) (es : MEs) : evn (.cons e0 (.cons e1 (.cons e es))) 2 r = ev e r := by simp only [evn]
@[simp] theorem evn_3 (e0 e1 e2 e : ME) (es : MEs) : evn (.cons e0 (.cons e1 (.cons e2 (.cons e es)))) 3 r = ev e r := by simp only [evn]
@[simp] theorem evn_4 (e0 e1 e2 e3 e : ME) (es : MEs) : evn (.cons e0 (.cons e1 (.cons e2 (.cons e3 (.cons e es))))) 4 r = ev e r := by simp only [evn]
@[simp] theorem w_fnM (j i : Nat) (ds : List D) : WP (fnM j i ds) m Q E = (match m[j]? with
    | some (.tab k) => k = j ∧ Q (.fn i) m
    | _ => False) := by
  unfold WP fnM
  cases m[j]? with
  | none => rfl
  | some c =>
    cases c with
    | tab k =>
      by_cases h : k = j
      · simp [h]
      · simp [h]
    | _ => rfl
end
end Fs

/-! FuT: an instance called; .index of a list. -/
namespace Fs
open PySem PySem.Spec PyProof.Rows L2
open Classical
variable {C : Ct} {X : Cx}
/-- run_self, told of the code -/
theorem code_self {k : Nat} {P : Program} {w : World} {F : List D → M D} {pins : List (Addr × Obj)} {σ : L2.St} {s : Shared} {S : Ws} {Q : VK} {us : List Value} {vs : List V} {ds : List D} {f : Addr} {fd : FuncData} {ps : List Str} {W : WX} (tk : Takes X W)
    (h1 : FnOk X.prog X.w X.K X.mg X.base (L2.CX X.prog X.w) k f fd ps (spM C ps.length F)) (hr : Room k X.A) (hb : Binds X.K fd ps []) (h5 : ∀ ds m, ds.length ≠ ps.length → F ds m = .stuck) (I : Inv X pins σ S.H s) (r : Vals vs us) (wf : Wf C S) (rs : Reps C S ds vs)
    (h : PostE C S (F ds S.mu) (fun c d H' => W c d σ H') Q) : codeAny (model X.prog X.w) X.A (.call (.ref f) ⟨us, []⟩) (fun r s' => match r with | .ok (.ret v) => EP X pins σ Q v s' | .ok _ => False | .error e => X.xe e s') s := by
  have hsp : spM C ps.length F vs S.H Q (WE W σ) := by
    refine ⟨?_, S, ds, rfl, wf, rs, h⟩
    rw [← rs.len]
    by_cases hl : ds.length = ps.length
    · exact hl
    · rw [h5 _ _ hl] at h
      exact h.elim
  have hl : us.length = ps.length := by rw [← r.length]; exact h1.len _ _ _ _ hsp
  have hb' := hb s us I.kIn (by simpa using hl)
  rw [List.append_nil] at hb'
  refine codeAny_mono (h1.run X.A X.stack s S.H ⟨us, []⟩ us vs Q (WE W σ) hr I.env0 hb' r hsp) fun r s' hq => ?_
  cases r with
  | error e => exact passAt tk σ pins S.H s e s' I hq
  | ok fl =>
    cases fl with
    | ret u => exact I.after hq
    | next => exact False.elim hq
    | brk => exact False.elim hq
    | cont => exact False.elim hq
/-- a whole instance of a class -/
def isFz (c : Nat) (_ : Store) : D → Bool
  | .ins c' _ _ => decide (c' = c)
  | _ => false
theorem se_calli {k i c : Nat} {F : List D → M D} {fe e : Expr} {es : List Expr} {mo : ME} {mes : MEs} {pos : Pos} (u : US C X.prog X.w X.mg X.base k c "__call__" F) (hr : Room i X.A) (hk : k ≤ i) (hK : X.K = C.K) (hs : noStar (e :: es) = true)
    (ho : SE C X fe mo) (hes : SA C X (e :: es) mes)
    (ht : eval (.Call fe (e :: es) [] pos) X.env = (do callWith pos (← eval fe X.env) [] (backTo pos (starEach (e :: es) X.env)) (backToKw pos (keywordEach [] X.env)))) :
    SE C X (.Call fe (e :: es) [] pos) (.meth (isFz c) (selfF F) mo mes) := fun W tk => by
  obtain ⟨f, fd, ps, h1, h2, h3, h3', h4, h5⟩ := u.ex
  rw [← hK] at h1 h2 h3 h3' h4
  simp only [noStar, List.all_cons, Bool.and_eq_true, Bool.not_eq_true'] at hs
  refine ⟨fun pins s σ H Q I ⟨r, S, hH, w, sr, h⟩ => ?_⟩
  subst hH
  simp only [ev] at h
  refine Call_ (thn ((ho W tk).run pins s σ S.H (fun v1 H1 => ∃ S1 d1, S1.H = H1 ∧ Wf C S1 ∧ Step S S1 ∧ Rep C S1 d1 v1 ∧ PostE C S1 ((chkM (isFz c) d1 >>= fun _ => evs mes r >>= fun xs => selfF F d1 xs) S1.mu) (fun c d H' => W c d σ H') Q) I
    (dnE_intro r w sr (h.bind.imp fun _ _ z => z))) fun u1 s1 ⟨x, H1, I1, rx, S1, d1, e1, w1, st1, r1, hz⟩ => ?_) ht
  subst e1
  obtain ⟨p, h2'⟩ := hz.chk
  unfold isFz at p
  split at p
  · rename_i c' ks fs
    simp only [decide_eq_true_eq] at p
    obtain rfl := p
    have r1o := r1
    simp only [Rep] at r1
    obtain ⟨a, dx, fvs, e, g1, g2, g3⟩ := r1
    subst e
    obtain rfl : u1 = Value.ref a := rx
    refine StX.callO_with (thn ((hes W tk).run pos pins s1 σ S1.H (fun vs H2 => ∃ S2 ds, S2.H = H2 ∧ Wf C S2 ∧ Step S1 S2 ∧ Reps C S2 ds vs ∧ PostE C S2 (selfF F (.ins c' ks fs) ds S2.mu) (fun c d H' => W c d σ H') Q) I1
      (dnA_intro r w1 (sr.mono st1) (h2'.bindA.imp fun _ _ z => z))) fun us s2 ⟨vs, H2, I2, rv, S2, ds, e2, w2, st2, r2, h3q⟩ => ?_) (star_cons hs.1) (star_any hs.2)
    subst e2
    have r1' := r1o.mono st2
    have r1'' := r1'
    simp only [Rep] at r1'
    obtain ⟨a', dx', fvs', e', g1', g2', g3'⟩ := r1'
    injection e' with e'
    subst e'
    obtain ⟨ox, od, J, hd⟩ := StX.insC_at I2 (C := He.ga C.K (C.nm c')) (a := a) (.inr ⟨_, _, g1'.1⟩)
    rw [← hK] at J
    exact ⟨⟨_, ox, od, J, hd⟩, wpAny_call (PySem.W.kco_code I2.kIn J hd h2 h3 h3' (code_self (P := X.prog) (w := X.w) (us := .ref a :: us) (vs := .ref a :: vs) tk h1 (hr.mono hk) h4 h5 I2 (.cons rfl rv) w2 (Reps.cons r1'' r2) h3q))⟩
  · cases p
/-- sorted(set(ns)) that will be changed -/
def sortSetNM (d : D) : M D := fun m => match readL m d with
  | some ds => match intsO ds with
    | some is => if is.length < 64 then .ok (.obj m.length) (m ++ [.lst ((sortSet is).map .int)]) else .stuck
    | none => .stuck
  | none => .stuck
theorem se_sortSetN {e : Expr} {me : ME} {p p2 pos pos2 : Pos} (hc : X.calm = true) (hK : X.K = C.K) (hg : Gl X "sorted") (hm : X.mg "sorted" = none) (hg2 : Gl X "set") (hm2 : X.mg "set" = none) (hs : isStar e = false) (he : SE C X e me) :
    SE C X (.Call (.Name "sorted" p) [.Call (.Name "set" p2) [e] [] pos2] [] pos) (.call (un1 sortSetNM) (.cons me .nil)) := fun W tk => by
  have p1 : PE X (.Call (.Name "set" p2) [e] [] pos2) _ := pe_callTy (cr_setL hc) hg2 hm2 boot_set' (pa_cons (he W tk) pa_nil (star_cons hs)) (by decide) (by decide) (star_cons hs) rfl
  refine PEw (pe_callB (cr_sortedSet hc) hg hm PyProof.Rows.boot_sorted (pa_cons p1 pa_nil) (by decide) (by decide) rfl rfl) fun σ H Q ⟨r, S, hH, w, sr, h⟩ => ?_
  subst hH
  have e1 : ev (.call (un1 sortSetNM) (.cons me .nil)) r = (do let x ← ev me r; sortSetNM x) := by
    simp only [ev, evs]
    rw [M.bind_assoc]
    rfl
  rw [e1] at h
  refine dnE_intro r w sr (h.bind.imp fun v1 H1 ⟨S1, d1, e2, w1, st1, r1, z⟩ => ?_)
  subst e2
  unfold sortSetNM at z
  split at z
  · rename_i ds hd
    split at z
    · rename_i is hi
      split at z
      · rename_i h64
        obtain ⟨a, vs, ea, f, l, q⟩ := readL_rep w1 hd r1
        have ev := ints_rep hi q
        subst ev
        rw [hK]
        refine ⟨a, is, by rw [ea], SqL.of f, by omega, fun p c hp hcl ⟨us, u1, u2, u3⟩ => ?_⟩
        refine ⟨p, _, c, rfl, upd_same, by omega, fun ns q h1 h2 h3 hq => ?_⟩
        have en : ns = sortSet is := sortSet_uniq h1 fun k => by rw [h2]; simp
        have w2 : Wf C (S1.new p (SetO X.w p (fun j => decide (j ∈ is)) c)) := w1.new hp
        have st2 : Step S1 (S1.new p (SetO X.w p (fun j => decide (j ∈ is)) c)) := Step.new w1 hp
        have z2 := z.step st2
        subst en
        exact z2.newCell w2 hq (by
          rw [List.length_map]
          have : (sortSet is).length = c := h3
          rw [this, sizeLine_eq]; omega) (rep_ints _)
      · exact z.elim
    · exact z.elim
  · exact z.elim
section
variable {m : Store} {Q : D → Store → Prop} {E : EX}
@[simp] theorem w_sortSetNM (a : D) : WP (sortSetNM a) m Q E = wR (sortSetNM a m) Q E := by with_unfolding_all exact nrfl rfl
theorem b_sortSetN {α : Type} (f : α → Int) (l : List α) : sortSetNM (.lst (l.map fun x => D.int (f x))) m = if l.length < 64 then .ok (.obj m.length) (m ++ [.lst ((sortSet (l.map f)).map .int)]) else .stuck := by
  have e : (l.map fun x => D.int (f x)) = (l.map f).map D.int := by simp
  rw [e]
  simp only [sortSetNM, readL, intsO_ints, List.length_map]
@[simp] theorem b_sortSetNI (l : List Int) : sortSetNM (.lst (l.map D.int)) m = if l.length < 64 then .ok (.obj m.length) (m ++ [.lst ((sortSet l).map .int)]) else .stuck := by
  have := b_sortSetN (m := m) (fun x : Int => x) l
  simpa using this
end
end Fs

/-! FuU: .index of a list. -/
namespace Fs
open PySem PySem.Spec PyProof.Rows L2
open Classical
variable {C : Ct} {X : Cx}
def indexM (o e : D) : M D := fun m => match readL m o with
  | some ds => if plain e = true ∧ plains ds = true ∧ dep e ≤ 64 ∧ deps ds < 64 then (match ds.findIdx? (fun z => eqD z e) with
    | some j => .ok (.int (j : Nat)) m
    | none => .stuck) else .stuck
  | none => .stuck
def isRL (m : Store) (d : D) : Bool := (readL m d).isSome
theorem toPs_eq : ∀ ds : List D, toPs ds = ds.map toP
  | [] => by simp [toPs]
  | d :: ds => by simp [toPs, toPs_eq ds]
theorem plains_get {ds : List D} (h : plains ds = true) {d : D} (hd : d ∈ ds) : plain d = true := by
  induction ds with
  | nil => cases hd
  | cons x xs ih =>
    simp only [plains, Bool.and_eq_true] at h
    rcases List.mem_cons.mp hd with rfl | hd
    · exact h.1
    · exact ih h.2 hd
theorem index_ok {S : Ws} {o e : D} {ov ev : V} {W : XK} {Q : VK} (w : Wf C S) (ro : Rep C S o ov) (re : Rep C S e ev) (h : PostE C S (indexM o e S.mu) W Q) : rIndexD C.K ov [ev] S.H Q := by
  unfold indexM at h
  split at h
  · rename_i ds hd
    split at h
    · rename_i z
      obtain ⟨p1, p2, d1, d2⟩ := z
      split at h
      · rename_i j hj
        obtain ⟨a, vs, e1, f, l, q⟩ := readL_rep w hd ro
        subst e1
        obtain ⟨hl, hp, hn⟩ := List.findIdx?_eq_some_iff_getElem.mp hj
        have hs : SeqAt.shaped (.list (toPs ds)) = true := by
          have : SeqAt.shaped (toP (.lst ds)) = true := shaped_toP (by simp only [plain]; exact p2) (by simp only [dep]; omega)
          simpa only [toP] using this
        refine ⟨a, ev, toP e, toPs ds, j, toP ds[j], rfl, rfl, .lst (SqL.of f) (Reps.dp p2 q), Rep.dp p1 re, hs, shaped_toP p1 d1, ?_, ?_, ?_, ?_⟩
        · rw [toPs_eq, List.getElem?_map, List.getElem?_eq_getElem hl]
          rfl
        · rw [eqD_toP (plains_get p2 (List.getElem_mem hl)) p1]
          exact hp
        · intro k z' hk hz
          have hkl : k < ds.length := by omega
          rw [toPs_eq, List.getElem?_map, List.getElem?_eq_getElem hkl] at hz
          obtain rfl : toP ds[k] = z' := by simpa using hz
          rw [eqD_toP (plains_get p2 (List.getElem_mem hkl)) p1]
          simpa using hn k hk
        · exact PostE.pure w h (by simp only [Rep])
      · exact h.elim
    · exact h.elim
  · exact h.elim
theorem isRL_ty {S : Ws} {d : D} {v : V} (w : Wf C S) (r : Rep C S d v) (p : isRL S.mu d = true) : tyV C.K "list" v S.H := by
  unfold isRL at p
  obtain ⟨ds, hd⟩ := Option.isSome_iff_exists.mp p
  obtain ⟨a, vs, e, f, l, q⟩ := readL_rep w hd r
  subst e
  exact .inl ⟨rfl, vs, SqL.of f⟩
theorem se_index {o e : Expr} {mo me : ME} {apos pos : Pos} (hu : X.A.units + 65 < cLine) (ho : SE C X o mo) (he : SE C X e me) (hK : X.K = C.K) (hs : isStar e = false) (hbase : attributeBase o "index" X.env (eval o X.env) = eval o X.env) (hline : (apos.endLine == pos.line) = true) :
    SE C X (.Call (.Attribute o "index" apos) [e] [] pos) (.meth isRL (un1m indexM) mo (.cons me .nil)) := fun W tk => by
  have n1 : noStar [e] = true := by simp [noStar, hs]
  have ha : SA C X [e] (.cons me .nil) := sa_cons he sa_nil (star_cons hs)
  refine PEw (pe_bm PySem.F.plainAttrs_list PySem.F.slot_list_index PySem.F.type_list_index (mt_indexD hu) (ho W tk) (ha W tk) hbase (star_few n1 (by simp)) hline (star_cons hs) rfl) (dn_meth ?_ ?_)
  · intro S d v w r p
    rw [hK]
    exact isRL_ty w r p
  · intro S d ds v vs W Q w r rs h
    rw [hK]
    unfold un1m at h
    split at h
    · obtain ⟨v', vs', rfl, r1, r2⟩ := rs
      cases r2
      exact index_ok w r r1 h
    · exact h.elim
section
/-- all keywords are given, or those without a default -/
theorem ka_dfl0 {x qual : Str} {params : Arguments} {body : List Stmt} {scope : Scope} {f : Addr} {fd : FuncData} {ps ks : List Str} {n : Nat} {kws : List (Str × V)} (F : FunD C.K x qual params body scope [] kws f fd) (hk : kws ≠ []) (ix : List Nat)
    (h : ∀ (Dk : Addr) (doc pm : Value) (an : Option Addr) (cdv ct : Value) (us ws : List Value), us.length = n → ws.length = ks.length → bindArgs (PySem.W.fnOf x qual params body scope .none (.ref Dk) doc pm an cdv ct) ⟨us, ks.zip ws⟩ = pure (ps.zip (sel ix (us ++ ws)))) :
    KA C fd ps n ks (fun ds es => sel ix (ds ++ es)) := by
  have := ka_dfl (C := C) (ps := ps) (ks := ks) (n := n) F hk [] (by simp) [] (fun S => Reps.nil) ix (fun Dk doc pm an cdv ct us mv ws l1 l2 l3 => by
    cases mv with
    | nil =>
      rw [List.append_nil]
      exact h Dk doc pm an cdv ct us ws l1 l3
    | cons a l => simp at l2)
  simpa using this
/-- one keyword lacks -/
theorem ka_dfl1 {x qual : Str} {params : Arguments} {body : List Stmt} {scope : Scope} {f : Addr} {fd : FuncData} {ps ks : List Str} {n : Nat} {kws : List (Str × V)} (F : FunD C.K x qual params body scope [] kws f fd) (q : Str × V) (hq : q ∈ kws) (d : D) (hd : ∀ S, Rep C S d q.2) (ix : List Nat)
    (h : ∀ (Dk : Addr) (doc pm : Value) (an : Option Addr) (cdv ct : Value) (us : List Value) (v : Value) (ws : List Value), us.length = n → ws.length = ks.length →
      ∃ (β γ : Type) (k1 : Option Value → Sem β) (k2 : β → Sem γ) (k3 : γ → Sem (List (Str × Value))) (a : β), bindArgs (PySem.W.fnOf x qual params body scope .none (.ref Dk) doc pm an cdv ct) ⟨us, ks.zip ws⟩ = ((nsGet Dk q.1 >>= k1) >>= k2) >>= k3 ∧ k1 (some v) = pure a ∧ (k2 a >>= k3) = pure (ps.zip (sel ix (us ++ [v] ++ ws)))) :
    KA C fd ps n ks (fun ds es => sel ix (ds ++ [d] ++ es)) :=
  ka_dfl (C := C) (ps := ps) (ks := ks) (n := n) F (fun e => by rw [e] at hq; cases hq) [q] (fun r hr => by rw [List.mem_singleton.mp hr]; exact hq) [d] (fun S => Reps.cons (hd S) Reps.nil) ix (fun Dk doc pm an cdv ct us mv ws l1 l2 l3 => by
    match mv, l2 with
    | [v], _ => exact h Dk doc pm an cdv ct us v ws l1 l3)
end
section
variable {m : Store} {Q : D → Store → Prop} {E : EX}
@[simp] theorem w_indexM (o e : D) : WP (indexM o e) m Q E = wR (indexM o e m) Q E := by with_unfolding_all exact nrfl rfl
@[simp] theorem isRL_lst (ds : List D) : isRL m (.lst ds) = true := rfl
theorem b_index {ds : List D} {e : D} {j : Nat} (he : nrmD e = true) (hd : nrmDs ds = true) (ke : dep e ≤ 64) (kd : deps ds < 64) (hj : ds[j]? = some e) (hn : ∀ i < j, ds[i]? ≠ some e) : indexM (.lst ds) e m = .ok (.int j) m := by
  have hl := (List.getElem?_eq_some_iff.mp hj).1
  have hf : ds.findIdx? (fun z => eqD z e) = some j := by
    refine List.findIdx?_eq_some_iff_getElem.mpr ⟨hl, ?_, fun i hi => ?_⟩
    · have : ds[j] = e := by simpa [List.getElem?_eq_getElem hl] using hj
      rw [this, eqD_nrm he he]
      simp
    · have hil : i < ds.length := by omega
      have h1 := hn i hi
      rw [List.getElem?_eq_getElem hil] at h1
      rw [eqD_nrm (nrms_all.mp hd _ (List.getElem_mem hil)) he]
      simpa using h1
  simp only [indexM, readL, hf]
  rw [if_pos ⟨nrm_plain he, nrms_plain hd, ke, kd⟩]
end
end Fs

/-! FuV: a text backwards. -/
namespace Fs
open PySem PySem.Spec PyProof.Rows L2
open Classical
variable {C : Ct} {X : Cx}
theorem made_rev {x : Str} {t u : Tok} : sliceMade x t none none (some (-1, u)) = .str ⟨x.cps.toList.reverse.toArray⟩ := by
  unfold sliceMade slicePicked
  have h1 : ¬ ((((some ((-1 : Int), u)).map (·.1)).getD 1 == 1 && (Builtin.Str.strSliceIndices ((none : Option (Int × Tok)).map (·.1)) ((none : Option (Int × Tok)).map (·.1)) (((some ((-1 : Int), u)).map (·.1)).getD 1) x.length).length == x.length) = true) := by
    have : ((((some ((-1 : Int), u)).map (·.1)).getD 1 == 1)) = false := rfl
    rw [this]; simp
  rw [if_neg h1]
  show Made.str ⟨((Builtin.Str.strSliceIndices none none (-1) x.length).filterMap (x.cps[·]?)).toArray⟩ = _
  rw [picked_rev, filterMap_get, List.map_map]
  · congr 3
    apply List.ext_getElem
    · simp [Str.length]
    · intro i h1 h2
      simp [Str.length] at h1 h2 ⊢
      rw [Array.getElem?_eq_getElem (by omega)]
      rfl
  · intro i hi
    obtain ⟨k, hk, rfl⟩ := List.mem_map.mp hi
    have hk' : k < x.length := List.mem_range.mp hk
    show x.length - 1 - k < x.length
    omega
def tRevS (te : TE) : TE := fun σ H Q => te σ H fun x H1 => ∃ z : Str, x = .str z ∧ z.length ≤ sizeLine ∧ Q (.str ⟨z.cps.toList.reverse.toArray⟩) H1
theorem pe_revS {e : Expr} {te : TE} {k : Nat} {p1 p2 p3 pos : Pos} (he : PE X e te) : PE X (.Subscript e (.Slice none none (some (.UnaryOp .USub (.Constant (.int 1) k p1) p2)) p3) pos) (tRevS te) := by
  refine ⟨fun pins s σ H Q I h => ?_⟩
  refine Subscript_ (thn (he.run pins s σ H _ I h) fun v s1 ⟨x, H1, I1, r1, q1⟩ => ?_)
  obtain ⟨z, ex, hz, q⟩ := q1
  subst ex
  obtain ⟨t, rfl⟩ := r1
  have hst : PO X (some (.UnaryOp .USub (.Constant (.int 1) k p1) p2)) (tPart (tUn (rU fun i => .int (-i)) (tC (.int 1)))) := po_some (pe_un un_neg pe_int)
  refine wpAny_Slice (thn (po_none.run pins s1 σ H1 (fun o H2 => o = none ∧ H2 = H1) I1 ⟨rfl, rfl⟩) fun vl s2 ⟨l, H2, I2, pl, el, e2⟩ => ?_)
  subst el e2
  refine thn (po_none.run pins s2 σ H2 (fun o H3 => o = none ∧ H3 = H2) I2 ⟨rfl, rfl⟩) fun vu s3 ⟨u, H3, I3, pu, eu, e3⟩ => ?_
  subst eu e3
  refine thn (hst.run pins s3 σ H3 (fun o H4 => o = some (-1) ∧ H4 = H3) I3 ⟨1, rfl, -1, rfl, rfl, rfl⟩) fun vs s4 ⟨o, H4, I4, ps, eo, e4⟩ => ?_
  subst eo e4
  cases pl
  cases pu
  obtain ⟨u1, rfl⟩ : ∃ u1, vs = Value.int (-1) u1 := by
    cases ps
    exact ⟨_, rfl⟩
  have I5 : L2.Inv X pins σ H4 { s4 with heap := s4.heap.push { cls := .type "slice", data := .fields #[.none, .none, .int (-1) u1] } } := I4.kept (t' := s4.toks) fun b ob q => Heap.get?_push_of_some _ q
  show wpAny (model X.prog X.w) X.A (subscriptTail e (.Slice none none (some (.UnaryOp .USub (.Constant (.int 1) k p1) p2)) p3) (.str z t) (.ref s4.heap.objs.size)) (EP X pins σ Q) X.xe { s4 with heap := s4.heap.push { cls := .type "slice", data := .fields #[.none, .none, .int (-1) u1] } }
  refine tail_any (ops := [.ref s4.heap.objs.size, .str z t]) (typeIs_str _ z t) PySem.F.slot_str_getitem.lookup ?_ (by with_unfolding_all rfl)
  refine wpAny_getItem_str_slice (l := none) (u := none) (st := some (-1, u1)) ⟨_, Heap.get?_push_size _ rfl, rfl, rfl⟩ rfl ?_
  rw [made_rev]
  exact ⟨by simpa [Str.length] using hz, .str _, H4, I5.tok _, ⟨_, rfl⟩, q⟩
def revSM (d : D) : M D := fun m => match d with
  | .str x => .ok (.str x.reverse) m
  | _ => .stuck
theorem se_revS {e : Expr} {me : ME} {k : Nat} {p1 p2 p3 pos : Pos} (he : SE C X e me) : SE C X (.Subscript e (.Slice none none (some (.UnaryOp .USub (.Constant (.int 1) k p1) p2)) p3) pos) (.call (un1 revSM) (.cons me .nil)) := fun W tk =>
  PEw (pe_revS (he W tk)) fun σ H Q ⟨r, S, hH, w, sr, h⟩ => by
    subst hH
    rw [un1_ev] at h
    refine dnE_intro r w sr (h.bind.imp fun v1 H1 ⟨S1, d1, e2, w1, st1, r1, z⟩ => ?_)
    subst e2
    unfold revSM at z
    split at z
    · rename_i x
      rw [rep_str] at r1
      refine ⟨toS x, r1.1, by rw [toS_len]; exact r1.2, ?_⟩
      have e : (⟨(toS x).cps.toList.reverse.toArray⟩ : Str) = toS x.reverse := by
        rw [toS_cps, ← List.map_reverse]
        rfl
      rw [e]
      exact PostE.pure w1 z (rep_str.mpr ⟨rfl, by rw [List.length_reverse]; exact r1.2⟩)
    · exact z.elim
section
variable {m : Store} {Q : D → Store → Prop} {E : EX}
@[simp] theorem w_revSM (a : D) : WP (revSM a) m Q E = wR (revSM a m) Q E := by with_unfolding_all exact nrfl rfl
@[simp] theorem b_revS (x : List Char) : revSM (.str x) m = .ok (.str x.reverse) m := by with_unfolding_all exact nrfl rfl
end
end Fs

/-! FuW: calls that leave a keyword-only parameter to its default. -/
namespace Fs
open PySem PySem.Spec PyProof.Rows L2
theorem bindK2 {x1 x2 x3 : Str} {fd : FuncData} {p1 p2 p3 : Pos} {kd : List (Option Expr)} {Dk : Addr} (d1 : (x1 == x3) = false) (d2 : (x2 == x3) = false) (d3 : (x3 == x1) = false) (d4 : (x3 == x2) = false) (d5 : (x2 == x1) = false) (d6 : (x1 == x2) = false)
    (c1 : fd.params = { posonlyargs := [], args := [{ arg := x1, annotation := none, pos := p1 }, { arg := x2, annotation := none, pos := p2 }], vararg := none, kwonlyargs := [{ arg := x3, annotation := none, pos := p3 }], kw_defaults := kd, kwarg := none, defaults := [] })
    (c2 : fd.defaults = .none) (c3 : fd.kwdefaults = .ref Dk) (a b v : Value) : ∃ F : Option Value → Sem (List (Str × Value)), bindArgs fd ⟨[a, b], []⟩ = nsGet Dk x3 >>= F ∧ F (some v) = pure [(x1, a), (x2, b), (x3, v)] := by
  have n1 : seqItems? Value.none = pure none := rfl
  unfold bindArgs
  simp [c1, c2, c3, n1, List.lookup_cons, d1, d2, d3, d4, d5, d6]
  exact ⟨_, rfl, by simp [List.lookup_cons, d1, d2, d3, d4, d5, d6]⟩
open Classical
variable {C : Ct} {X : Cx}
theorem ka_dflF {x qual : Str} {params : Arguments} {body : List Stmt} {scope : Scope} {f : Addr} {fd : FuncData} {ps ks : List Str} {n : Nat} {kws : List (Str × V)} (F : FunD C.K x qual params body scope [] kws f fd) (q : Str × V) (hq : q ∈ kws) (d : D) (hd : ∀ S, Rep C S d q.2) (ix : List Nat)
    (h : ∀ (Dk : Addr) (doc pm : Value) (an : Option Addr) (cdv ct : Value) (us : List Value) (v : Value) (ws : List Value), us.length = n → ws.length = ks.length →
      ∃ F : Option Value → Sem (List (Str × Value)), bindArgs (PySem.W.fnOf x qual params body scope .none (.ref Dk) doc pm an cdv ct) ⟨us, ks.zip ws⟩ = nsGet Dk q.1 >>= F ∧ F (some v) = pure (ps.zip (sel ix (us ++ [v] ++ ws)))) :
    KA C fd ps n ks (fun ds es => sel ix (ds ++ d :: es)) := by
  have e : (fun ds es => sel ix (ds ++ d :: es)) = fun (ds es : List D) => sel ix (ds ++ [d] ++ es) := by
    funext ds es
    rw [List.append_assoc]
    rfl
  rw [e]
  exact ka_dfl1 F q hq d hd ix fun Dk doc pm an cdv ct us v ws l1 l3 => by
    obtain ⟨G, h1, h2⟩ := h Dk doc pm an cdv ct us v ws l1 l3
    exact ⟨_, _, G, pure, pure, ps.zip (sel ix (us ++ [v] ++ ws)), by rw [h1, bind_pure, bind_pure], h2, by rw [pure_bind]⟩
end Fs

namespace LK08
open PySem PySem.Spec PyProof.Rows L2 Fs
open Classical
def top (i : Nat) : Stmt := PySem.Challenge.pw_forestep_k08_roads.main.body.getD i (.Pass ⟨0, 0, 0, 0⟩)
abbrev cls : List Nat := [31]
def nmL : List Str := "StepError" :: "Missing" :: "InvalidAlphabet" :: "tag" :: "given" :: "__init__" :: "InvalidCount" :: "InvalidWord" :: "InvalidRope" :: "index" :: "InvalidEnds" :: "InvalidArrow" :: "InvalidPattern" :: "InvalidTable" :: "AlphabetsDiffer" :: "PlacesDiffer" :: "TooMany" :: "most" :: "Finished" :: "InvalidName" :: "name" :: "DuplicateName" :: "CapacityExceeded" :: "limit" :: "InvalidLimit" :: "InvalidCommand" :: "word" :: "ParseError" :: "line" :: "UnknownName" :: "NothingLeft" :: "Map" :: "signs" :: "total" :: "goals" :: "lines" :: "key" :: "accepts" :: "step" :: "first_line" :: "after" :: "MOST" :: "ARROWS" :: "alphabet" :: "places" :: "ends" :: "arrows" :: "__len__" :: "__eq__" :: "__repr__" :: "__call__" :: "road" :: "with_arrow" :: "without_arrow" :: "with_ends" :: "Table" :: "lists" :: "pairs" :: "need_same" :: "power" :: "identity" :: "of" :: "of_rope" :: "rows" :: "__mul__" :: "__pow__" :: "within" :: "__contains__" :: "__getitem__" :: "__iter__" :: "Links" :: "kinds" :: "follow" :: "heads" :: "tails" :: "walk" :: "tie" :: "walk_row" :: "Pattern" :: "form" :: "flat" :: "written" :: "times" :: "parts_of" :: "empty" :: "sign" :: "read" :: "size" :: "nullable" :: "letters" :: "text" :: "matches" :: "repeated" :: "__add__" :: "__or__" :: "Reader" :: "source" :: "at" :: "next" :: "take" :: "row" :: "item" :: "atom" :: "mark" :: "either" :: "Stepper" :: "scene" :: "far" :: "beat" :: "decide" :: "pick" :: "chart" :: "sight" :: "period" :: "choose" :: "finish" :: "Wanderer" :: "picks" :: "Walker" :: "stepper" :: "heard" :: "spot" :: "steps" :: "after_steps" :: "over" :: "go" :: "place" :: "ended" :: "good" :: "seen" :: "taken" :: "marks" :: "feed" :: "end" :: "twin" :: "Pace" :: "pending" :: "number" :: "state" :: "repeat" :: "Game" :: "opening" :: "ranks" :: "positions" :: "explored" :: "strike" :: "is_bad" :: "later" :: "beaten_later" :: "beating_sign" :: "plan_nodes" :: "is_enough" :: "Seer" :: "game" :: "Judge" :: "knots" :: "led" :: "holds" :: "Classes" :: "texts" :: "found" :: "onward" :: "triples" :: "find_long" :: "add" :: "first_words" :: "table_of" :: "LongGame" :: "classes" :: "long" :: "through" :: "first" :: "beating" :: "free_positions" :: "first_beaten" :: "TreeMaker" :: "used" :: "reached" :: "number_of" :: "whole" :: "stretches" :: "Blocks" :: "block" :: "kept" :: "TreeJudge" :: "parts" :: "is_choice" :: "are_stretches" :: "Answer" :: "second" :: "told" :: "among" :: "__bool__" :: "Enough" :: "plan" :: "Beyond" :: "Never" :: "nodes" :: "plan_for" :: "Scene" :: "base" :: "own" :: "moves" :: "aims" :: "origin" :: "width" :: "exits" :: "move" :: "is_good" :: "is_lost" :: "run" :: "choices" :: "lost_word" :: "pair_of" :: "Book" :: "held" :: "listed" :: "past" :: "ahead" :: "store" :: "working" :: "bound" :: "apply_all" :: "turn_to" :: "map_in" :: "need_fresh" :: "named" :: "table_behind" :: "need_free" :: "set_limit" :: "busy" :: "computed" :: "apply" :: "undo" :: "redo" :: "history" :: "forget" :: "names" :: "answer" :: "Desk" :: "said" :: "say" :: "answered" :: "book" :: "log" :: []
abbrev nmN : Nat := 245
def nmF : Nat → Str := fun i => nmL.getD i ""
abbrev CK (K : PySem.W.Frag) (T : Nat → Addr × Str) (R : FR) : Ct := ⟨K, nmF, T, R.fr, R.frm, R.frr⟩
theorem nok {K : PySem.W.Frag} {T : Nat → Addr × Str} {R : FR} : NmOk (CK K T R) nmN := nmOk_of (L := nmL) rfl (nodupN_ok (by kernel_rfl)) (by decide +kernel)
abbrev hkM : List (Nat × (Nat × List Nat)) := [(2, (0, [4, 3])), (6, (0, [4, 3])), (7, (0, [4, 3])), (10, (0, [3])), (11, (0, [9, 3]))]
abbrev hkL : List (Nat × (Bool × List Nat)) := [(2, (true, [4, 3])), (6, (true, [4, 3])), (7, (true, [4, 3])), (10, (true, [3])), (11, (true, [9, 3]))]
def st_law_field : Stmt := (top 31)
def st_law_try : Stmt := (top 32)
theorem b_law_field {K : PySem.W.Frag} {T : Nat → Addr × Str} {R : FR} {P : Program} {w : World} {mg : Str → Option Value} {base : Heap} {k : Nat} (a dd : Addr) (fs : List (Str × V)) (c : Nat) (L : List (Nat × D)) (oe : Obj) (hL : LOk (CK K T R) a dd fs c L) (hz : L2.Zc (.ref (He.ga K (nmF c))) (some dd) oe) (hf : ∃ vs, oe.data = .fields vs) (cdv : Value) {f : Addr} (A : Around) (outer : List PySem.Env) (s : Shared) (H : Hp) (E : XK) (hr : L2H.RoomH k (A.deeper (envOfC "_law_field" (defScope st_law_field) s.heap.objs.size f cdv))) :
    SSs (exCt (CK K T R) a dd fs) (L2H.cxH (L2.CX P w) P w K mg base ["_law_e"] "_law_field" (defScope st_law_field) f cdv A outer s H E (a, oe)) (defBody st_law_field) (mField L) := by
  have hu : _ + 65 < cLine := rh_u hr
  exact (sss_cons (ss_if (st_cmp (o := .in_) (se_xf (j := 3) rfl (List.mem_cons_self ..) hz hf hL (sv (i := 0) (by kernel_rfl)) rfl) (se_lst (sac (se_str (by kernel_rfl) (by decide)) rfl (sac (se_str (by kernel_rfl) (by decide)) rfl (sac (se_str (by kernel_rfl) (by decide)) rfl sa_nil)))) rfl hu rfl) (sss_cons (ss_ret (se_xf (j := 4) rfl (List.mem_cons_self ..) hz hf hL (sv (i := 0) (by kernel_rfl)) rfl))
    sss_nil) sss_nil)
    (sss_cons (ss_if (st_cmp (o := .in_) (se_xf (j := 3) rfl (List.mem_cons_self ..) hz hf hL (sv (i := 0) (by kernel_rfl)) rfl) (se_lst (sac (se_str (by kernel_rfl) (by decide)) rfl (sac (se_str (by kernel_rfl) (by decide)) rfl (sac (se_str (by kernel_rfl) (by decide)) rfl sa_nil)))) rfl hu rfl) (sss_cons (ss_ret (se_xf (j := 9) rfl (List.mem_cons_self ..) hz hf hL (sv (i := 0) (by kernel_rfl)) rfl))
    sss_nil) sss_nil)
    (sss_cons (ss_if (st_cmp (o := .in_) (se_xf (j := 3) rfl (List.mem_cons_self ..) hz hf hL (sv (i := 0) (by kernel_rfl)) rfl) (se_lst (sac (se_str (by kernel_rfl) (by decide)) rfl (sac (se_str (by kernel_rfl) (by decide)) rfl (sac (se_str (by kernel_rfl) (by decide)) rfl sa_nil)))) rfl hu rfl) (sss_cons (ss_ret (se_xf (j := 20) rfl (List.mem_cons_self ..) hz hf hL (sv (i := 0) (by kernel_rfl)) rfl))
    sss_nil) sss_nil)
    (sss_cons (ss_if (st_cmp (o := .in_) (se_xf (j := 3) rfl (List.mem_cons_self ..) hz hf hL (sv (i := 0) (by kernel_rfl)) rfl) (se_lst (sac (se_str (by kernel_rfl) (by decide)) rfl (sac (se_str (by kernel_rfl) (by decide)) rfl sa_nil))) rfl hu rfl) (sss_cons (ss_ret (se_xf (j := 23) rfl (List.mem_cons_self ..) hz hf hL (sv (i := 0) (by kernel_rfl)) rfl))
    sss_nil) sss_nil)
    (sss_cons (ss_if (st_cmp (o := .eq) (se_xf (j := 3) rfl (List.mem_cons_self ..) hz hf hL (sv (i := 0) (by kernel_rfl)) rfl) (se_str (by kernel_rfl) (by decide)) rfl hu rfl) (sss_cons (ss_ret (se_xf (j := 17) rfl (List.mem_cons_self ..) hz hf hL (sv (i := 0) (by kernel_rfl)) rfl))
    sss_nil) sss_nil)
    (sss_cons (ss_if (st_cmp (o := .eq) (se_xf (j := 3) rfl (List.mem_cons_self ..) hz hf hL (sv (i := 0) (by kernel_rfl)) rfl) (se_str (by kernel_rfl) (by decide)) rfl hu rfl) (sss_cons (ss_ret (se_xf (j := 26) rfl (List.mem_cons_self ..) hz hf hL (sv (i := 0) (by kernel_rfl)) rfl))
    sss_nil) sss_nil)
    (sss_cons (ss_ret (se_ite (st_cmp (o := .eq) (se_xf (j := 3) rfl (List.mem_cons_self ..) hz hf hL (sv (i := 0) (by kernel_rfl)) rfl) (se_str (by kernel_rfl) (by decide)) rfl hu rfl) (se_xf (j := 28) rfl (List.mem_cons_self ..) hz hf hL (sv (i := 0) (by kernel_rfl)) rfl) se_non))
    sss_nil)))))))
theorem sc_law_field : FnScope ["_law_e"] ["_law_e"] (defScope st_law_field) := ⟨rfl, rfl, rfl, by decide +kernel, rfl, by decide +kernel, by decide +kernel⟩
theorem sc_law_try : FnScope NTry ["_law_ask"] (defScope st_law_try) := ⟨rfl, rfl, rfl, by decide +kernel, rfl, by decide +kernel, by decide +kernel⟩
theorem sct_law_try : TryScope (defScope st_law_try) := ⟨rfl, rfl, rfl, rfl, rfl, rfl⟩
structure Bi (mg : Str → Option Value) : Prop where
  all : mg "all" = none
  bool : mg "bool" = none
  enumerate : mg "enumerate" = none
  int : mg "int" = none
  isinstance : mg "isinstance" = none
  len : mg "len" = none
  list : mg "list" = none
  range : mg "range" = none
  set : mg "set" = none
  sorted : mg "sorted" = none
  str : mg "str" = none
  super : mg "super" = none
  tuple : mg "tuple" = none
  zip : mg "zip" = none
def c_LETTERS : D := .str ['a', 'b', 'c', 'd', 'e', 'f', 'g', 'h', 'i', 'j', 'k', 'l', 'm', 'n', 'o', 'p', 'q', 'r', 's', 't', 'u', 'v', 'w', 'x', 'y', 'z']
def c_MOST_ARROWS : D := .int (60)
def c_MOST_MARK : D := .int (4)
def c_MOST_PLACES : D := .int (8)
def c_MOST_SIGNS : D := .int (3)
/-! ### _law_bag -/
def st_law_bag : Stmt := (top 27)
abbrev N_law_bag : List Str := ["_law_script", "_law_salt", "_law_cell"]
abbrev ps_law_bag : List Str := ["_law_script"]
noncomputable def m_law_bag : MSs :=
  (.cons (.set (.nm 1) (.con (.int (3840)))) (.cons (.for_ (.nm 2) (.val (.slc (.var 0) .no (.yes (.con (.int (63)))))) (.cons (.set (.nm 1) (.bin .mod (.call (un1 intM) (.cons (.bin .add (.bin .add (.bin .mul (.var 1) (.con (.int (47629)))) (.bin .mod (.call (un1 intM) (.cons (.var 2) .nil)) (.con (.int (2147483489))))) (.con (.int (29)))) .nil)) (.con (.int (2147483629))))) .nil)) (.cons (.ret (.new (.cons (.call (un1 listM) (.cons (.slc (.var 0) .no (.yes (.con (.int (63))))) .nil)) (.cons (.con (.int (0))) (.cons (.con (.int (0))) (.cons (.var 1) .nil)))))) .nil)))
noncomputable def F_law_bag : List D → M D := runF 1 3 m_law_bag
theorem ne_law_bag : ∀ ds m, ds.length ≠ ps_law_bag.length → F_law_bag ds m = .stuck := runF_ne
theorem sc_law_bag : FnScope N_law_bag ps_law_bag (defScope st_law_bag) := ⟨rfl, rfl, rfl, by decide +kernel, rfl, by decide +kernel, by decide +kernel⟩
section
variable {K : PySem.W.Frag} {T : Nat → Addr × Str} {R : FR} {P : Program} {w : World} {mg : Str → Option Value} {base : Heap}
theorem b_law_bag (B : Bi mg) {f : Addr} {cdv : Value} {A : Around} {outer : List PySem.Env} {s : Shared} {H : Hp} {E : XK} (hr : Room 0 (A.deeper (envOfC "_law_bag" (defScope st_law_bag) s.heap.objs.size f cdv))) :
    SSs (CK K T R) (cxOf (L2.CX P w) P w K mg base N_law_bag "_law_bag" (defScope st_law_bag) f cdv A outer s H E) (defBody st_law_bag) m_law_bag := by
  have hu := rm_u hr
  have hu1 := rm_u1 hr
  have hN := sc_law_bag.nd
  exact (sss_cons (sst (i := 1) hN (by kernel_rfl) se_int rfl)
    (sss_cons (ss_for (passes_of rfl) rfl (si_val (se_slc (sv (i := 0) (by kernel_rfl)) so_no (so_yes se_int) rfl) rfl) (tgn (i := 2) hN (by kernel_rfl)) (sss_cons (sst (i := 1) hN (by kernel_rfl) (se_bin (o := .mod) (scl (co_int B.int) (by kernel_rfl) rfl (sac (se_bin (o := .add) (se_bin (o := .add) (se_bin (o := .mul) (sv (i := 1) (by kernel_rfl)) se_int rfl) (se_bin (o := .mod) (scl (co_int B.int) (by kernel_rfl) rfl (sac (sv (i := 2) (by kernel_rfl)) rfl sa_nil)) se_int rfl) rfl) se_int rfl) rfl sa_nil)) se_int rfl) rfl)
    sss_nil) (fun _ => rfl))
    (sss_cons (ss_ret (se_new (sac (scl (co_list rfl rfl B.list) (by kernel_rfl) rfl (sac (se_slc (sv (i := 0) (by kernel_rfl)) so_no (so_yes se_int) rfl) rfl sa_nil)) rfl (sac se_int rfl (sac se_int rfl (sac (sv (i := 1) (by kernel_rfl)) rfl sa_nil))))))
    sss_nil)))
theorem k_law_bag {f : Addr} {fd : FuncData} (B : Bi mg) (D_ : FunD K "_law_bag" "_law_bag" (defArgs st_law_bag) (defBody st_law_bag) (defScope st_law_bag) [] [] f fd) : FnOk P w K mg base (L2.CX P w) 1 f fd ps_law_bag (spM (CK K T R) ps_law_bag.length F_law_bag) :=
  fn_M (C := CK K T R) D_ sc_law_bag m_law_bag fun cdv A outer s H E hr => b_law_bag B hr
end
/-! ### _law_pull -/
def st_law_pull : Stmt := (top 28)
abbrev N_law_pull : List Str := ["_law_bag_here", "_law_amount", "_law_cell", "_law_got", "_law_seed"]
abbrev ps_law_pull : List Str := ["_law_bag_here", "_law_amount"]
noncomputable def m_law_pull : MSs :=
  (.cons (.ite (.and (.cmp .eq (.idx (.var 0) (.con (.int (2)))) (.con (.int (0)))) (.cmp .lt (.idx (.var 0) (.con (.int (1)))) (.call (un1 lenM) (.cons (.idx (.var 0) (.con (.int (0)))) .nil)))) (.cons (.set (.nm 2) (.idx (.idx (.var 0) (.con (.int (0)))) (.idx (.var 0) (.con (.int (1)))))) (.cons (.setSub (.var 0) (.con (.int (1))) (.bin .add (.idx (.var 0) (.con (.int (1)))) (.con (.int (1))))) (.cons (.ite (.cmp .ge (.var 2) (.bin .pow (.con (.int (10))) (.con (.int (18))))) (.cons (.setSub (.var 0) (.con (.int (2))) (.var 2)) .nil) (.cons (.setSub (.var 0) (.con (.int (3))) (.bin .mod (.call (un1 intM) (.cons (.bin .add (.bin .add (.bin .mul (.idx (.var 0) (.con (.int (3)))) (.con (.int (46349)))) (.bin .mul (.bin .mod (.call (un1 intM) (.cons (.var 2) .nil)) (.con (.int (2147483489)))) (.con (.int (1201))))) (.con (.int (19)))) .nil)) (.con (.int (2147483629))))) .nil)) .nil))) .nil) (.cons (.ite (.cmp .gt (.idx (.var 0) (.con (.int (2)))) (.con (.int (0)))) (.cons (.set (.nm 3) (.bin .mod (.call (un1 intM) (.cons (.idx (.var 0) (.con (.int (2)))) .nil)) (.var 1))) (.cons (.setSub (.var 0) (.con (.int (2))) (.bin .fdv (.idx (.var 0) (.con (.int (2)))) (.var 1))) (.cons (.ret (.var 3)) .nil))) .nil) (.cons (.set (.nm 4) (.idx (.var 0) (.con (.int (3))))) (.cons (.setSub (.var 0) (.con (.int (3))) (.bin .mod (.call (un1 intM) (.cons (.bin .add (.bin .add (.bin .mul (.var 4) (.var 4)) (.bin .mul (.var 4) (.con (.int (30011))))) (.con (.int (1300021)))) .nil)) (.con (.int (2147483629))))) (.cons (.ret (.bin .mod (.call (un1 intM) (.cons (.bin .add (.bin .fdv (.idx (.var 0) (.con (.int (3)))) (.con (.int (73)))) (.bin .mul (.bin .mod (.call (un1 intM) (.cons (.idx (.var 0) (.con (.int (3)))) .nil)) (.con (.int (8089)))) (.con (.int (59))))) .nil)) (.var 1))) .nil)))))
noncomputable def F_law_pull : List D → M D := runF 2 5 m_law_pull
theorem ne_law_pull : ∀ ds m, ds.length ≠ ps_law_pull.length → F_law_pull ds m = .stuck := runF_ne
theorem sc_law_pull : FnScope N_law_pull ps_law_pull (defScope st_law_pull) := ⟨rfl, rfl, rfl, by decide +kernel, rfl, by decide +kernel, by decide +kernel⟩
section
variable {K : PySem.W.Frag} {T : Nat → Addr × Str} {R : FR} {P : Program} {w : World} {mg : Str → Option Value} {base : Heap}
theorem b_law_pull (B : Bi mg) {f : Addr} {cdv : Value} {A : Around} {outer : List PySem.Env} {s : Shared} {H : Hp} {E : XK} (hr : Room 0 (A.deeper (envOfC "_law_pull" (defScope st_law_pull) s.heap.objs.size f cdv))) :
    SSs (CK K T R) (cxOf (L2.CX P w) P w K mg base N_law_pull "_law_pull" (defScope st_law_pull) f cdv A outer s H E) (defBody st_law_pull) m_law_pull := by
  have hu := rm_u hr
  have hu1 := rm_u1 hr
  have hN := sc_law_pull.nd
  exact (sss_cons (ss_if (st_sw (sw_and (st_cmp (o := .eq) (se_idx (sv (i := 0) (by kernel_rfl)) se_int rfl hu (fun _ _ => rfl)) se_int rfl hu rfl) (sw_one (st_cmp (o := .lt) (se_idx (sv (i := 0) (by kernel_rfl)) se_int rfl hu (fun _ _ => rfl)) (scl (co_len rfl B.len) (by kernel_rfl) rfl (sac (se_idx (sv (i := 0) (by kernel_rfl)) se_int rfl hu (fun _ _ => rfl)) rfl sa_nil)) rfl hu rfl)))) (sss_cons (sst (i := 2) hN (by kernel_rfl) (se_idx (se_idx (sv (i := 0) (by kernel_rfl)) se_int rfl hu (fun _ _ => rfl)) (se_idx (sv (i := 0) (by kernel_rfl)) se_int rfl hu (fun _ _ => rfl)) rfl hu (fun _ _ => rfl)) rfl)
    (sss_cons (ss_setSub (sv (i := 0) (by kernel_rfl)) se_int (se_bin (o := .add) (se_idx (sv (i := 0) (by kernel_rfl)) se_int rfl hu (fun _ _ => rfl)) se_int rfl) hu1 (fun _ => rfl) rfl rfl)
    (sss_cons (ss_if (st_cmp (o := .ge) (sv (i := 2) (by kernel_rfl)) (se_bin (o := .pow) se_int se_int rfl) rfl hu rfl) (sss_cons (ss_setSub (sv (i := 0) (by kernel_rfl)) se_int (sv (i := 2) (by kernel_rfl)) hu1 (fun _ => rfl) rfl rfl)
    sss_nil) (sss_cons (ss_setSub (sv (i := 0) (by kernel_rfl)) se_int (se_bin (o := .mod) (scl (co_int B.int) (by kernel_rfl) rfl (sac (se_bin (o := .add) (se_bin (o := .add) (se_bin (o := .mul) (se_idx (sv (i := 0) (by kernel_rfl)) se_int rfl hu (fun _ _ => rfl)) se_int rfl) (se_bin (o := .mul) (se_bin (o := .mod) (scl (co_int B.int) (by kernel_rfl) rfl (sac (sv (i := 2) (by kernel_rfl)) rfl sa_nil)) se_int rfl) se_int rfl) rfl) se_int rfl) rfl sa_nil)) se_int rfl) hu1 (fun _ => rfl) rfl rfl)
    sss_nil))
    sss_nil))) sss_nil)
    (sss_cons (ss_if (st_cmp (o := .gt) (se_idx (sv (i := 0) (by kernel_rfl)) se_int rfl hu (fun _ _ => rfl)) se_int rfl hu rfl) (sss_cons (sst (i := 3) hN (by kernel_rfl) (se_bin (o := .mod) (scl (co_int B.int) (by kernel_rfl) rfl (sac (se_idx (sv (i := 0) (by kernel_rfl)) se_int rfl hu (fun _ _ => rfl)) rfl sa_nil)) (sv (i := 1) (by kernel_rfl)) rfl) rfl)
    (sss_cons (ss_setSub (sv (i := 0) (by kernel_rfl)) se_int (se_bin (o := .fdv) (se_idx (sv (i := 0) (by kernel_rfl)) se_int rfl hu (fun _ _ => rfl)) (sv (i := 1) (by kernel_rfl)) rfl) hu1 (fun _ => rfl) rfl rfl)
    (sss_cons (ss_ret (sv (i := 3) (by kernel_rfl)))
    sss_nil))) sss_nil)
    (sss_cons (sst (i := 4) hN (by kernel_rfl) (se_idx (sv (i := 0) (by kernel_rfl)) se_int rfl hu (fun _ _ => rfl)) rfl)
    (sss_cons (ss_setSub (sv (i := 0) (by kernel_rfl)) se_int (se_bin (o := .mod) (scl (co_int B.int) (by kernel_rfl) rfl (sac (se_bin (o := .add) (se_bin (o := .add) (se_bin (o := .mul) (sv (i := 4) (by kernel_rfl)) (sv (i := 4) (by kernel_rfl)) rfl) (se_bin (o := .mul) (sv (i := 4) (by kernel_rfl)) se_int rfl) rfl) se_int rfl) rfl sa_nil)) se_int rfl) hu1 (fun _ => rfl) rfl rfl)
    (sss_cons (ss_ret (se_bin (o := .mod) (scl (co_int B.int) (by kernel_rfl) rfl (sac (se_bin (o := .add) (se_bin (o := .fdv) (se_idx (sv (i := 0) (by kernel_rfl)) se_int rfl hu (fun _ _ => rfl)) se_int rfl) (se_bin (o := .mul) (se_bin (o := .mod) (scl (co_int B.int) (by kernel_rfl) rfl (sac (se_idx (sv (i := 0) (by kernel_rfl)) se_int rfl hu (fun _ _ => rfl)) rfl sa_nil)) se_int rfl) se_int rfl) rfl) rfl sa_nil)) (sv (i := 1) (by kernel_rfl)) rfl))
    sss_nil)))))
theorem k_law_pull {f : Addr} {fd : FuncData} (B : Bi mg) (D_ : FunD K "_law_pull" "_law_pull" (defArgs st_law_pull) (defBody st_law_pull) (defScope st_law_pull) [] [] f fd) : FnOk P w K mg base (L2.CX P w) 1 f fd ps_law_pull (spM (CK K T R) ps_law_pull.length F_law_pull) :=
  fn_M (C := CK K T R) D_ sc_law_pull m_law_pull fun cdv A outer s H E hr => b_law_pull B hr
end
/-! ### is_alphabet -/
def st_is_alphabet : Stmt := (top 15)
abbrev N_is_alphabet : List Str := ["value", "sign", "at"]
abbrev ps_is_alphabet : List Str := ["value"]
noncomputable def m_is_alphabet : MSs :=
  (.cons (.ite (.or (.not (.val (.call (un1 (isiM cls .str)) (.cons (.var 0) .nil)))) (.not (.cmp2 .le .le (.con (.int (1))) (.call (un1 lenM) (.cons (.var 0) .nil)) (.con c_MOST_SIGNS)))) (.cons (.ret (.con (.bl false))) .nil) .nil) (.cons (.ret (.and (.call (un1 allM) (.cons (.comp false [1] (.nm 1) (.val (.var 0)) .no (.cmp .in_ (.var 1) (.con c_LETTERS))) .nil)) (.call (un1 allM) (.cons (.comp false [2] (.nm 2) (.rng1 (.bin .sub (.call (un1 lenM) (.cons (.var 0) .nil)) (.con (.int (1))))) .no (.cmp .lt (.idx (.var 0) (.var 2)) (.idx (.var 0) (.bin .add (.var 2) (.con (.int (1))))))) .nil)))) .nil))
noncomputable def F_is_alphabet : List D → M D := runF 1 3 m_is_alphabet
theorem ne_is_alphabet : ∀ ds m, ds.length ≠ ps_is_alphabet.length → F_is_alphabet ds m = .stuck := runF_ne
theorem sc_is_alphabet : FnScope N_is_alphabet ps_is_alphabet (defScope st_is_alphabet) := ⟨rfl, rfl, rfl, by decide +kernel, rfl, by decide +kernel, by decide +kernel⟩
section
variable {K : PySem.W.Frag} {T : Nat → Addr × Str} {R : FR} {P : Program} {w : World} {mg : Str → Option Value} {base : Heap}
theorem b_is_alphabet (B : Bi mg) (g_LETTERS : GV (CK K T R) mg "LETTERS" c_LETTERS) (g_MOST_SIGNS : GV (CK K T R) mg "MOST_SIGNS" c_MOST_SIGNS) (hcls : ∀ c ∈ cls, ClsI (CK K T R) c) {f : Addr} {cdv : Value} {A : Around} {outer : List PySem.Env} {s : Shared} {H : Hp} {E : XK} (hr : Room 0 (A.deeper (envOfC "is_alphabet" (defScope st_is_alphabet) s.heap.objs.size f cdv))) :
    SSs (CK K T R) (cxOf (L2.CX P w) P w K mg base N_is_alphabet "is_alphabet" (defScope st_is_alphabet) f cdv A outer s H E) (defBody st_is_alphabet) m_is_alphabet := by
  have hu := rm_u hr
  have hu1 := rm_u1 hr
  have hN := sc_is_alphabet.nd
  exact (sss_cons (ss_if (st_sw (sw_or (st_not (st_val (sis (T := .str) hcls B.isinstance B.str boot_str rfl (by kernel_rfl) rfl (sv (i := 0) (by kernel_rfl))) rfl (fun _ => rfl))) (sw_one (st_not (st_cmp2 (o1 := .le) (o2 := .le) se_int (scl (co_len rfl B.len) (by kernel_rfl) rfl (sac (sv (i := 0) (by kernel_rfl)) rfl sa_nil)) (sgl g_MOST_SIGNS (by kernel_rfl)) rfl hu rfl))))) (sss_cons (ss_ret se_bl)
    sss_nil) sss_nil)
    (sss_cons (ss_ret (se_and (scl (co_all rfl rfl B.all) (by kernel_rfl) rfl (sac (se_comp rfl hN (si_val (sv (i := 0) (by kernel_rfl)) rfl) (own := [(("sign" : Str), 1)]) (g := (.nm 1)) (by kernel_rfl) (by decide) (fun _ _ _ _ _ => (tgn (i := 1) hN (by kernel_rfl))) (fun _ _ _ _ _ => rfl) (fun _ _ _ _ _ => (se_cmp (o := .in_) (sv (i := 1) (by kernel_rfl)) (sgl g_LETTERS (by kernel_rfl)) rfl hu rfl)) (fun _ => rfl)) rfl sa_nil)) (se_one (scl (co_all rfl rfl B.all) (by kernel_rfl) rfl (sac (se_comp rfl hN (ir1 B.range (by kernel_rfl) rfl (se_bin (o := .sub) (scl (co_len rfl B.len) (by kernel_rfl) rfl (sac (sv (i := 0) (by kernel_rfl)) rfl sa_nil)) se_int rfl)) (own := [(("at" : Str), 2)]) (g := (.nm 2)) (by kernel_rfl) (by decide) (fun _ _ _ _ _ => (tgn (i := 2) hN (by kernel_rfl))) (fun _ _ _ _ _ => rfl) (fun _ _ _ _ _ => (se_cmp (o := .lt) (se_idx (sv (i := 0) (by kernel_rfl)) (sv (i := 2) (by kernel_rfl)) rfl hu (fun _ _ => rfl)) (se_idx (sv (i := 0) (by kernel_rfl)) (se_bin (o := .add) (sv (i := 2) (by kernel_rfl)) se_int rfl) rfl hu (fun _ _ => rfl)) rfl hu rfl)) (fun _ => rfl)) rfl sa_nil)))))
    sss_nil))
theorem k_is_alphabet {f : Addr} {fd : FuncData} (B : Bi mg) (g_LETTERS : GV (CK K T R) mg "LETTERS" c_LETTERS) (g_MOST_SIGNS : GV (CK K T R) mg "MOST_SIGNS" c_MOST_SIGNS) (hcls : ∀ c ∈ cls, ClsI (CK K T R) c) (D_ : FunD K "is_alphabet" "is_alphabet" (defArgs st_is_alphabet) (defBody st_is_alphabet) (defScope st_is_alphabet) [] [] f fd) : FnOk P w K mg base (L2.CX P w) 1 f fd ps_is_alphabet (spM (CK K T R) ps_is_alphabet.length F_is_alphabet) :=
  fn_M (C := CK K T R) D_ sc_is_alphabet m_is_alphabet fun cdv A outer s H E hr => b_is_alphabet B g_LETTERS g_MOST_SIGNS hcls hr
end
/-! ### is_within -/
def st_is_within : Stmt := (top 13)
abbrev N_is_within : List Str := ["value", "low", "high"]
abbrev ps_is_within : List Str := ["value", "low", "high"]
noncomputable def m_is_within : MSs :=
  (.cons (.ret (.and (.call (un1 (isiM cls .int)) (.cons (.var 0) .nil)) (.and (.not (.call (un1 (isiM cls .bool)) (.cons (.var 0) .nil))) (.cmp2 .le .le (.var 1) (.var 0) (.var 2))))) .nil)
noncomputable def F_is_within : List D → M D := runF 3 3 m_is_within
theorem ne_is_within : ∀ ds m, ds.length ≠ ps_is_within.length → F_is_within ds m = .stuck := runF_ne
theorem sc_is_within : FnScope N_is_within ps_is_within (defScope st_is_within) := ⟨rfl, rfl, rfl, by decide +kernel, rfl, by decide +kernel, by decide +kernel⟩
section
variable {K : PySem.W.Frag} {T : Nat → Addr × Str} {R : FR} {P : Program} {w : World} {mg : Str → Option Value} {base : Heap}
theorem b_is_within (B : Bi mg) (hcls : ∀ c ∈ cls, ClsI (CK K T R) c) {f : Addr} {cdv : Value} {A : Around} {outer : List PySem.Env} {s : Shared} {H : Hp} {E : XK} (hr : Room 0 (A.deeper (envOfC "is_within" (defScope st_is_within) s.heap.objs.size f cdv))) :
    SSs (CK K T R) (cxOf (L2.CX P w) P w K mg base N_is_within "is_within" (defScope st_is_within) f cdv A outer s H E) (defBody st_is_within) m_is_within := by
  have hu := rm_u hr
  have hu1 := rm_u1 hr
  have hN := sc_is_within.nd
  exact (sss_cons (ss_ret (se_and (sis (T := .int) hcls B.isinstance B.int boot_int rfl (by kernel_rfl) rfl (sv (i := 0) (by kernel_rfl))) (se_and (se_not (sis (T := .bool) hcls B.isinstance B.bool boot_bool rfl (by kernel_rfl) rfl (sv (i := 0) (by kernel_rfl)))) (se_one (se_cmp2 (o1 := .le) (o2 := .le) (sv (i := 1) (by kernel_rfl)) (sv (i := 0) (by kernel_rfl)) (sv (i := 2) (by kernel_rfl)) rfl hu rfl)))))
    sss_nil)
theorem k_is_within {f : Addr} {fd : FuncData} (B : Bi mg) (hcls : ∀ c ∈ cls, ClsI (CK K T R) c) (D_ : FunD K "is_within" "is_within" (defArgs st_is_within) (defBody st_is_within) (defScope st_is_within) [] [] f fd) : FnOk P w K mg base (L2.CX P w) 1 f fd ps_is_within (spM (CK K T R) ps_is_within.length F_is_within) :=
  fn_M (C := CK K T R) D_ sc_is_within m_is_within fun cdv A outer s H E hr => b_is_within B hcls hr
end
/-! ### is_mark -/
def st_is_mark : Stmt := (top 23)
abbrev N_is_mark : List Str := ["value", "sign"]
abbrev ps_is_mark : List Str := ["value"]
noncomputable def m_is_mark : MSs :=
  (.cons (.ret (.and (.call (un1 (isiM cls .str)) (.cons (.var 0) .nil)) (.and (.cmp .le (.call (un1 lenM) (.cons (.var 0) .nil)) (.con c_MOST_MARK)) (.call (un1 allM) (.cons (.comp false [1] (.nm 1) (.val (.var 0)) .no (.cmp .in_ (.var 1) (.con c_LETTERS))) .nil))))) .nil)
noncomputable def F_is_mark : List D → M D := runF 1 2 m_is_mark
theorem ne_is_mark : ∀ ds m, ds.length ≠ ps_is_mark.length → F_is_mark ds m = .stuck := runF_ne
theorem sc_is_mark : FnScope N_is_mark ps_is_mark (defScope st_is_mark) := ⟨rfl, rfl, rfl, by decide +kernel, rfl, by decide +kernel, by decide +kernel⟩
section
variable {K : PySem.W.Frag} {T : Nat → Addr × Str} {R : FR} {P : Program} {w : World} {mg : Str → Option Value} {base : Heap}
theorem b_is_mark (B : Bi mg) (g_LETTERS : GV (CK K T R) mg "LETTERS" c_LETTERS) (g_MOST_MARK : GV (CK K T R) mg "MOST_MARK" c_MOST_MARK) (hcls : ∀ c ∈ cls, ClsI (CK K T R) c) {f : Addr} {cdv : Value} {A : Around} {outer : List PySem.Env} {s : Shared} {H : Hp} {E : XK} (hr : Room 0 (A.deeper (envOfC "is_mark" (defScope st_is_mark) s.heap.objs.size f cdv))) :
    SSs (CK K T R) (cxOf (L2.CX P w) P w K mg base N_is_mark "is_mark" (defScope st_is_mark) f cdv A outer s H E) (defBody st_is_mark) m_is_mark := by
  have hu := rm_u hr
  have hu1 := rm_u1 hr
  have hN := sc_is_mark.nd
  exact (sss_cons (ss_ret (se_and (sis (T := .str) hcls B.isinstance B.str boot_str rfl (by kernel_rfl) rfl (sv (i := 0) (by kernel_rfl))) (se_and (se_cmp (o := .le) (scl (co_len rfl B.len) (by kernel_rfl) rfl (sac (sv (i := 0) (by kernel_rfl)) rfl sa_nil)) (sgl g_MOST_MARK (by kernel_rfl)) rfl hu rfl) (se_one (scl (co_all rfl rfl B.all) (by kernel_rfl) rfl (sac (se_comp rfl hN (si_val (sv (i := 0) (by kernel_rfl)) rfl) (own := [(("sign" : Str), 1)]) (g := (.nm 1)) (by kernel_rfl) (by decide) (fun _ _ _ _ _ => (tgn (i := 1) hN (by kernel_rfl))) (fun _ _ _ _ _ => rfl) (fun _ _ _ _ _ => (se_cmp (o := .in_) (sv (i := 1) (by kernel_rfl)) (sgl g_LETTERS (by kernel_rfl)) rfl hu rfl)) (fun _ => rfl)) rfl sa_nil))))))
    sss_nil)
theorem k_is_mark {f : Addr} {fd : FuncData} (B : Bi mg) (g_LETTERS : GV (CK K T R) mg "LETTERS" c_LETTERS) (g_MOST_MARK : GV (CK K T R) mg "MOST_MARK" c_MOST_MARK) (hcls : ∀ c ∈ cls, ClsI (CK K T R) c) (D_ : FunD K "is_mark" "is_mark" (defArgs st_is_mark) (defBody st_is_mark) (defScope st_is_mark) [] [] f fd) : FnOk P w K mg base (L2.CX P w) 1 f fd ps_is_mark (spM (CK K T R) ps_is_mark.length F_is_mark) :=
  fn_M (C := CK K T R) D_ sc_is_mark m_is_mark fun cdv A outer s H E hr => b_is_mark B g_LETTERS g_MOST_MARK hcls hr
end
/-! ### is_word -/
def st_is_word : Stmt := (top 17)
abbrev N_is_word : List Str := ["alphabet", "value", "sign"]
abbrev ps_is_word : List Str := ["alphabet", "value"]
noncomputable def m_is_word : MSs :=
  (.cons (.ret (.and (.call (un1 (isiM cls .str)) (.cons (.var 1) .nil)) (.call (un1 allM) (.cons (.comp false [2] (.nm 2) (.val (.var 1)) .no (.cmp .in_ (.var 2) (.var 0))) .nil)))) .nil)
noncomputable def F_is_word : List D → M D := runF 2 3 m_is_word
theorem ne_is_word : ∀ ds m, ds.length ≠ ps_is_word.length → F_is_word ds m = .stuck := runF_ne
theorem sc_is_word : FnScope N_is_word ps_is_word (defScope st_is_word) := ⟨rfl, rfl, rfl, by decide +kernel, rfl, by decide +kernel, by decide +kernel⟩
section
variable {K : PySem.W.Frag} {T : Nat → Addr × Str} {R : FR} {P : Program} {w : World} {mg : Str → Option Value} {base : Heap}
theorem b_is_word (B : Bi mg) (hcls : ∀ c ∈ cls, ClsI (CK K T R) c) {f : Addr} {cdv : Value} {A : Around} {outer : List PySem.Env} {s : Shared} {H : Hp} {E : XK} (hr : Room 0 (A.deeper (envOfC "is_word" (defScope st_is_word) s.heap.objs.size f cdv))) :
    SSs (CK K T R) (cxOf (L2.CX P w) P w K mg base N_is_word "is_word" (defScope st_is_word) f cdv A outer s H E) (defBody st_is_word) m_is_word := by
  have hu := rm_u hr
  have hu1 := rm_u1 hr
  have hN := sc_is_word.nd
  exact (sss_cons (ss_ret (se_and (sis (T := .str) hcls B.isinstance B.str boot_str rfl (by kernel_rfl) rfl (sv (i := 1) (by kernel_rfl))) (se_one (scl (co_all rfl rfl B.all) (by kernel_rfl) rfl (sac (se_comp rfl hN (si_val (sv (i := 1) (by kernel_rfl)) rfl) (own := [(("sign" : Str), 2)]) (g := (.nm 2)) (by kernel_rfl) (by decide) (fun _ _ _ _ _ => (tgn (i := 2) hN (by kernel_rfl))) (fun _ _ _ _ _ => rfl) (fun _ _ _ _ _ => (se_cmp (o := .in_) (sv (i := 2) (by kernel_rfl)) (sv (i := 0) (by kernel_rfl)) rfl hu rfl)) (fun _ => rfl)) rfl sa_nil)))))
    sss_nil)
theorem k_is_word {f : Addr} {fd : FuncData} (B : Bi mg) (hcls : ∀ c ∈ cls, ClsI (CK K T R) c) (D_ : FunD K "is_word" "is_word" (defArgs st_is_word) (defBody st_is_word) (defScope st_is_word) [] [] f fd) : FnOk P w K mg base (L2.CX P w) 1 f fd ps_is_word (spM (CK K T R) ps_is_word.length F_is_word) :=
  fn_M (C := CK K T R) D_ sc_is_word m_is_word fun cdv A outer s H E hr => b_is_word B hcls hr
end
/-! ### Map.first_line -/
def st_Map_first_line : Stmt := ((clsS (top 25)).getD 15 (.Pass ⟨0, 0, 0, 0⟩))
abbrev N_Map_first_line : List Str := ["self", "origin", "sign", "goals", "index", "line"]
abbrev ps_Map_first_line : List Str := ["self", "origin", "sign", "goals"]
noncomputable def m_Map_first_line : MSs :=
  (.cons (.for_ (.tp [4, 5]) (.enm (.attr (fldM [31] 35) (.var 0))) (.cons (.ite (.and (.cmp .eq (.idx (.var 5) (.con (.int (0)))) (.var 1)) (.and (.cmp .eq (.idx (.var 5) (.con (.int (1)))) (.var 2)) (.cmp .in_ (.idx (.var 5) (.con (.int (2)))) (.var 3)))) (.cons (.ret (.var 4)) .nil) .nil) .nil)) (.cons (.ret (.con .non)) .nil))
noncomputable def F_Map_first_line : List D → M D := runF 4 6 m_Map_first_line
theorem ne_Map_first_line : ∀ ds m, ds.length ≠ ps_Map_first_line.length → F_Map_first_line ds m = .stuck := runF_ne
theorem sc_Map_first_line : FnScope N_Map_first_line ps_Map_first_line (defScope st_Map_first_line) := ⟨rfl, rfl, rfl, by decide +kernel, rfl, by decide +kernel, by decide +kernel⟩
section
variable {K : PySem.W.Frag} {T : Nat → Addr × Str} {R : FR} {P : Program} {w : World} {mg : Str → Option Value} {base : Heap}
theorem b_Map_first_line (B : Bi mg) (fd_lines : ∀ c ∈ ([31] : List Nat), FldC (CK K T R) c 35) {f : Addr} {cdv : Value} {A : Around} {outer : List PySem.Env} {s : Shared} {H : Hp} {E : XK} (hr : Room 0 (A.deeper (envOfC "Map.first_line" (defScope st_Map_first_line) s.heap.objs.size f cdv))) :
    SSs (CK K T R) (cxOf (L2.CX P w) P w K mg base N_Map_first_line "Map.first_line" (defScope st_Map_first_line) f cdv A outer s H E) (defBody st_Map_first_line) m_Map_first_line := by
  have hu := rm_u hr
  have hu1 := rm_u1 hr
  have hN := sc_Map_first_line.nd
  exact (sss_cons (ss_for (passes_of rfl) rfl (ien B.enumerate rfl (by kernel_rfl) rfl (se_fld (n := nmN) (j := 35) (cs := [31]) nok (by decide) fd_lines (sv (i := 0) (by kernel_rfl)) rfl rfl)) (sg_tp hN rfl rfl (nmc (i := 4) (by kernel_rfl) (nmc (i := 5) (by kernel_rfl) .nil))) (sss_cons (ss_if (st_sw (sw_and (st_cmp (o := .eq) (se_idx (sv (i := 5) (by kernel_rfl)) se_int rfl hu (fun _ _ => rfl)) (sv (i := 1) (by kernel_rfl)) rfl hu rfl) (sw_and (st_cmp (o := .eq) (se_idx (sv (i := 5) (by kernel_rfl)) se_int rfl hu (fun _ _ => rfl)) (sv (i := 2) (by kernel_rfl)) rfl hu rfl) (sw_one (st_cmp (o := .in_) (se_idx (sv (i := 5) (by kernel_rfl)) se_int rfl hu (fun _ _ => rfl)) (sv (i := 3) (by kernel_rfl)) rfl hu rfl))))) (sss_cons (ss_ret (sv (i := 4) (by kernel_rfl)))
    sss_nil) sss_nil)
    sss_nil) (fun _ => rfl))
    (sss_cons (ss_ret se_non)
    sss_nil))
theorem k_Map_first_line {f : Addr} {fd : FuncData} (B : Bi mg) (fd_lines : ∀ c ∈ ([31] : List Nat), FldC (CK K T R) c 35) (D_ : FunD K "first_line" "Map.first_line" (defArgs st_Map_first_line) (defBody st_Map_first_line) (defScope st_Map_first_line) [] [] f fd) : FnOk P w K mg base (L2.CX P w) 1 f fd ps_Map_first_line (spM (CK K T R) ps_Map_first_line.length F_Map_first_line) :=
  fn_M (C := CK K T R) D_ sc_Map_first_line m_Map_first_line fun cdv A outer s H E hr => b_Map_first_line B fd_lines hr
end
/-! ### _law_road -/
def st_law_road : Stmt := (top 38)
abbrev N_law_road : List Str := ["_law_model", "_law_word", "_law_start_z", "_law_layers", "_law_sign", "_law_found", "_law_here", "_law_at", "_law_goals", "_law_some", "_law_line"]
abbrev ps_law_road : List Str := ["_law_model", "_law_word", "_law_start_z"]
noncomputable def m_law_road : MSs :=
  (.cons (.set (.nm 3) (.new (.cons (.call (un1 listM) (.cons (.idx (.var 0) (.con (.int (2)))) .nil)) .nil))) (.cons (.for_ (.nm 4) (.val (.call (un1 revSM) (.cons (.var 1) .nil))) (.cons (.exp (.meth isLst (un1m appendM) (.var 3) (.cons (.comp false [10] (.nm 10) (.val (.idx (.var 0) (.con (.int (3))))) (.yes (.and (.cmp .eq (.idx (.var 10) (.con (.int (1)))) (.var 4)) (.cmp .in_ (.idx (.var 10) (.con (.int (2)))) (.idx (.var 3) (.neg (.con (.int (1)))))))) (.idx (.var 10) (.con (.int (0))))) .nil))) .nil)) (.cons (.ite (.cmp .nin (.var 2) (.idx (.var 3) (.neg (.con (.int (1)))))) (.cons (.ret (.con .non)) .nil) .nil) (.cons (.set (.tp [5, 6]) (.tup (.cons (.new .nil) (.cons (.var 2) .nil)))) (.cons (.for_ (.nm 7) (.rng1 (.call (un1 lenM) (.cons (.var 1) .nil))) (.cons (.set (.nm 8) (.idx (.var 3) (.bin .sub (.bin .sub (.call (un1 lenM) (.cons (.var 1) .nil)) (.con (.int (1)))) (.var 7)))) (.cons (.set (.nm 9) (.comp false [10] (.nm 10) (.val (.idx (.var 0) (.con (.int (3))))) (.yes (.and (.cmp .eq (.slc (.var 10) .no (.yes (.con (.int (2))))) (.tup (.cons (.var 6) (.cons (.idx (.var 1) (.var 7)) .nil)))) (.cmp .in_ (.idx (.var 10) (.con (.int (2)))) (.var 8)))) (.var 10))) (.cons (.exp (.meth isLst (un1m appendM) (.var 5) (.cons (.meth isRL (un1m indexM) (.idx (.var 0) (.con (.int (3)))) (.cons (.idx (.var 9) (.con (.int (0)))) .nil)) .nil))) (.cons (.set (.nm 6) (.idx (.idx (.var 9) (.con (.int (0)))) (.con (.int (2))))) .nil))))) (.cons (.ret (.call (un1 tupleM) (.cons (.var 5) .nil))) .nil))))))
noncomputable def F_law_road : List D → M D := runF 3 11 m_law_road
theorem ne_law_road : ∀ ds m, ds.length ≠ ps_law_road.length → F_law_road ds m = .stuck := runF_ne
theorem sc_law_road : FnScope N_law_road ps_law_road (defScope st_law_road) := ⟨rfl, rfl, rfl, by decide +kernel, rfl, by decide +kernel, by decide +kernel⟩
section
variable {K : PySem.W.Frag} {T : Nat → Addr × Str} {R : FR} {P : Program} {w : World} {mg : Str → Option Value} {base : Heap}
theorem b_law_road (B : Bi mg) {f : Addr} {cdv : Value} {A : Around} {outer : List PySem.Env} {s : Shared} {H : Hp} {E : XK} (hr : Room 0 (A.deeper (envOfC "_law_road" (defScope st_law_road) s.heap.objs.size f cdv))) :
    SSs (CK K T R) (cxOf (L2.CX P w) P w K mg base N_law_road "_law_road" (defScope st_law_road) f cdv A outer s H E) (defBody st_law_road) m_law_road := by
  have hu := rm_u hr
  have hu1 := rm_u1 hr
  have hN := sc_law_road.nd
  exact (sss_cons (sst (i := 3) hN (by kernel_rfl) (se_new (sac (scl (co_list rfl rfl B.list) (by kernel_rfl) rfl (sac (se_idx (sv (i := 0) (by kernel_rfl)) se_int rfl hu (fun _ _ => rfl)) rfl sa_nil)) rfl sa_nil)) rfl)
    (sss_cons (ss_for (passes_of rfl) rfl (si_val (se_revS (sv (i := 1) (by kernel_rfl))) rfl) (tgn (i := 4) hN (by kernel_rfl)) (sss_cons (ss_exp (se_append (sv (i := 3) (by kernel_rfl)) (se_comp rfl hN (si_val (se_idx (sv (i := 0) (by kernel_rfl)) se_int rfl hu (fun _ _ => rfl)) rfl) (own := [(("_law_line" : Str), 10)]) (g := (.nm 10)) (by kernel_rfl) (by decide) (fun _ _ _ _ _ => (tgn (i := 10) hN (by kernel_rfl))) (fun _ _ _ _ _ => ⟨_, rfl, (st_sw (sw_and (st_cmp (o := .eq) (se_idx (sv (i := 10) (by kernel_rfl)) se_int rfl hu (fun _ _ => rfl)) (sv (i := 4) (by kernel_rfl)) rfl hu rfl) (sw_one (st_cmp (o := .in_) (se_idx (sv (i := 10) (by kernel_rfl)) se_int rfl hu (fun _ _ => rfl)) (se_idx (sv (i := 3) (by kernel_rfl)) (se_neg se_int) rfl hu (fun _ _ => rfl)) rfl hu rfl))))⟩) (fun _ _ _ _ _ => (se_idx (sv (i := 10) (by kernel_rfl)) se_int rfl hu (fun _ _ => rfl))) (fun _ => rfl)) rfl rfl rfl rfl) rfl)
    sss_nil) (fun _ => rfl))
    (sss_cons (ss_if (st_cmp (o := .nin) (sv (i := 2) (by kernel_rfl)) (se_idx (sv (i := 3) (by kernel_rfl)) (se_neg se_int) rfl hu (fun _ _ => rfl)) rfl hu rfl) (sss_cons (ss_ret se_non)
    sss_nil) sss_nil)
    (sss_cons (ss_asg (se_tup (sac (se_new sa_nil) rfl (sac (sv (i := 2) (by kernel_rfl)) rfl sa_nil))) (sg_tp hN rfl rfl (nmc (i := 5) (by kernel_rfl) (nmc (i := 6) (by kernel_rfl) .nil))) rfl rfl rfl)
    (sss_cons (ss_for (passes_of rfl) rfl (ir1 B.range (by kernel_rfl) rfl (scl (co_len rfl B.len) (by kernel_rfl) rfl (sac (sv (i := 1) (by kernel_rfl)) rfl sa_nil))) (tgn (i := 7) hN (by kernel_rfl)) (sss_cons (sst (i := 8) hN (by kernel_rfl) (se_idx (sv (i := 3) (by kernel_rfl)) (se_bin (o := .sub) (se_bin (o := .sub) (scl (co_len rfl B.len) (by kernel_rfl) rfl (sac (sv (i := 1) (by kernel_rfl)) rfl sa_nil)) se_int rfl) (sv (i := 7) (by kernel_rfl)) rfl) rfl hu (fun _ _ => rfl)) rfl)
    (sss_cons (ss_setLc (i := 9) rfl hN (by kernel_rfl) rfl (sw_true rfl rfl rfl rfl) (si_val (se_idx (sv (i := 0) (by kernel_rfl)) se_int rfl hu (fun _ _ => rfl)) rfl) (own := [(("_law_line" : Str), 10)]) (g := (.nm 10)) (by kernel_rfl) (by decide) (fun _ _ _ _ _ => (tgn (i := 10) hN (by kernel_rfl))) (fun _ _ _ _ _ => ⟨_, rfl, (st_sw (sw_and (st_cmp (o := .eq) (se_slc (sv (i := 10) (by kernel_rfl)) so_no (so_yes se_int) rfl) (se_tup (sac (sv (i := 6) (by kernel_rfl)) rfl (sac (se_idx (sv (i := 1) (by kernel_rfl)) (sv (i := 7) (by kernel_rfl)) rfl hu (fun _ _ => rfl)) rfl sa_nil))) rfl hu rfl) (sw_one (st_cmp (o := .in_) (se_idx (sv (i := 10) (by kernel_rfl)) se_int rfl hu (fun _ _ => rfl)) (sv (i := 8) (by kernel_rfl)) rfl hu rfl))))⟩) (fun _ _ _ _ _ => (sv (i := 10) (by kernel_rfl))) (fun _ => rfl))
    (sss_cons (ss_exp (se_append (sv (i := 5) (by kernel_rfl)) (se_index hu (se_idx (sv (i := 0) (by kernel_rfl)) se_int rfl hu (fun _ _ => rfl)) (se_idx (sv (i := 9) (by kernel_rfl)) se_int rfl hu (fun _ _ => rfl)) rfl rfl rfl rfl) rfl rfl rfl rfl) rfl)
    (sss_cons (sst (i := 6) hN (by kernel_rfl) (se_idx (se_idx (sv (i := 9) (by kernel_rfl)) se_int rfl hu (fun _ _ => rfl)) se_int rfl hu (fun _ _ => rfl)) rfl)
    sss_nil)))) (fun _ => rfl))
    (sss_cons (ss_ret (scl (co_tuple rfl B.tuple) (by kernel_rfl) rfl (sac (sv (i := 5) (by kernel_rfl)) rfl sa_nil)))
    sss_nil))))))
theorem k_law_road {f : Addr} {fd : FuncData} (B : Bi mg) (D_ : FunD K "_law_road" "_law_road" (defArgs st_law_road) (defBody st_law_road) (defScope st_law_road) [] [] f fd) : FnOk P w K mg base (L2.CX P w) 1 f fd ps_law_road (spM (CK K T R) ps_law_road.length F_law_road) :=
  fn_M (C := CK K T R) D_ sc_law_road m_law_road fun cdv A outer s H E hr => b_law_road B hr
end
/-! ### _law_of -/
def st_law_of : Stmt := (top 29)
abbrev N_law_of : List Str := ["_law_bag_here", "_law_things"]
abbrev ps_law_of : List Str := ["_law_bag_here", "_law_things"]
noncomputable def m_law_of : MSs :=
  (.cons (.ret (.idx (.var 1) (.call F_law_pull (.cons (.var 0) (.cons (.call (un1 lenM) (.cons (.var 1) .nil)) .nil))))) .nil)
noncomputable def F_law_of : List D → M D := runF 2 2 m_law_of
theorem ne_law_of : ∀ ds m, ds.length ≠ ps_law_of.length → F_law_of ds m = .stuck := runF_ne
theorem sc_law_of : FnScope N_law_of ps_law_of (defScope st_law_of) := ⟨rfl, rfl, rfl, by decide +kernel, rfl, by decide +kernel, by decide +kernel⟩
section
variable {K : PySem.W.Frag} {T : Nat → Addr × Str} {R : FR} {P : Program} {w : World} {mg : Str → Option Value} {base : Heap}
theorem b_law_of (B : Bi mg) (u_law_pull : UF (CK K T R) P w mg base 1 "_law_pull" F_law_pull) {f : Addr} {cdv : Value} {A : Around} {outer : List PySem.Env} {s : Shared} {H : Hp} {E : XK} (hr : Room 1 (A.deeper (envOfC "_law_of" (defScope st_law_of) s.heap.objs.size f cdv))) :
    SSs (CK K T R) (cxOf (L2.CX P w) P w K mg base N_law_of "_law_of" (defScope st_law_of) f cdv A outer s H E) (defBody st_law_of) m_law_of := by
  have hu := rm_u hr
  have hu1 := rm_u1 hr
  have hN := sc_law_of.nd
  exact (sss_cons (ss_ret (se_idx (sv (i := 1) (by kernel_rfl)) (scu u_law_pull hr (by omega) rfl (by kernel_rfl) rfl (sac (sv (i := 0) (by kernel_rfl)) rfl (sac (scl (co_len rfl B.len) (by kernel_rfl) rfl (sac (sv (i := 1) (by kernel_rfl)) rfl sa_nil)) rfl sa_nil))) rfl hu (fun _ _ => rfl)))
    sss_nil)
theorem k_law_of {f : Addr} {fd : FuncData} (B : Bi mg) (u_law_pull : UF (CK K T R) P w mg base 1 "_law_pull" F_law_pull) (D_ : FunD K "_law_of" "_law_of" (defArgs st_law_of) (defBody st_law_of) (defScope st_law_of) [] [] f fd) : FnOk P w K mg base (L2.CX P w) 2 f fd ps_law_of (spM (CK K T R) ps_law_of.length F_law_of) :=
  fn_M (C := CK K T R) D_ sc_law_of m_law_of fun cdv A outer s H E hr => b_law_of B u_law_pull hr
end
/-! ### is_arrow -/
def st_is_arrow : Stmt := (top 24)
abbrev N_is_arrow : List Str := ["value", "alphabet", "places", "origin", "sign", "goal", "mark"]
abbrev ps_is_arrow : List Str := ["value", "alphabet", "places"]
noncomputable def m_is_arrow : MSs :=
  (.cons (.ite (.or (.not (.val (.call (un1 (isiM cls .tuple)) (.cons (.var 0) .nil)))) (.cmp .ne (.call (un1 lenM) (.cons (.var 0) .nil)) (.con (.int (4))))) (.cons (.ret (.con (.bl false))) .nil) .nil) (.cons (.set (.tp [3, 4, 5, 6]) (.var 0)) (.cons (.ite (.or (.not (.val (.call F_is_within (.cons (.var 3) (.cons (.con (.int (0))) (.cons (.bin .sub (.var 2) (.con (.int (1)))) .nil)))))) (.or (.not (.val (.call F_is_within (.cons (.var 5) (.cons (.con (.int (0))) (.cons (.bin .sub (.var 2) (.con (.int (1)))) .nil)))))) (.not (.val (.call F_is_mark (.cons (.var 6) .nil)))))) (.cons (.ret (.con (.bl false))) .nil) .nil) (.cons (.ret (.and (.call (un1 (isiM cls .str)) (.cons (.var 4) .nil)) (.and (.cmp .eq (.call (un1 lenM) (.cons (.var 4) .nil)) (.con (.int (1)))) (.cmp .in_ (.var 4) (.var 1))))) .nil))))
noncomputable def F_is_arrow : List D → M D := runF 3 7 m_is_arrow
theorem ne_is_arrow : ∀ ds m, ds.length ≠ ps_is_arrow.length → F_is_arrow ds m = .stuck := runF_ne
theorem sc_is_arrow : FnScope N_is_arrow ps_is_arrow (defScope st_is_arrow) := ⟨rfl, rfl, rfl, by decide +kernel, rfl, by decide +kernel, by decide +kernel⟩
section
variable {K : PySem.W.Frag} {T : Nat → Addr × Str} {R : FR} {P : Program} {w : World} {mg : Str → Option Value} {base : Heap}
theorem b_is_arrow (B : Bi mg) (hcls : ∀ c ∈ cls, ClsI (CK K T R) c) (u_is_within : UF (CK K T R) P w mg base 1 "is_within" F_is_within) (u_is_mark : UF (CK K T R) P w mg base 1 "is_mark" F_is_mark) {f : Addr} {cdv : Value} {A : Around} {outer : List PySem.Env} {s : Shared} {H : Hp} {E : XK} (hr : Room 1 (A.deeper (envOfC "is_arrow" (defScope st_is_arrow) s.heap.objs.size f cdv))) :
    SSs (CK K T R) (cxOf (L2.CX P w) P w K mg base N_is_arrow "is_arrow" (defScope st_is_arrow) f cdv A outer s H E) (defBody st_is_arrow) m_is_arrow := by
  have hu := rm_u hr
  have hu1 := rm_u1 hr
  have hN := sc_is_arrow.nd
  exact (sss_cons (ss_if (st_sw (sw_or (st_not (st_val (sis (T := .tuple) hcls B.isinstance B.tuple boot_tuple rfl (by kernel_rfl) rfl (sv (i := 0) (by kernel_rfl))) rfl (fun _ => rfl))) (sw_one (st_cmp (o := .ne) (scl (co_len rfl B.len) (by kernel_rfl) rfl (sac (sv (i := 0) (by kernel_rfl)) rfl sa_nil)) se_int rfl hu rfl)))) (sss_cons (ss_ret se_bl)
    sss_nil) sss_nil)
    (sss_cons (ss_asg (sv (i := 0) (by kernel_rfl)) (sg_tp hN rfl rfl (nmc (i := 3) (by kernel_rfl) (nmc (i := 4) (by kernel_rfl) (nmc (i := 5) (by kernel_rfl) (nmc (i := 6) (by kernel_rfl) .nil))))) rfl rfl rfl)
    (sss_cons (ss_if (st_sw (sw_or (st_not (st_val (scu u_is_within hr (by omega) rfl (by kernel_rfl) rfl (sac (sv (i := 3) (by kernel_rfl)) rfl (sac se_int rfl (sac (se_bin (o := .sub) (sv (i := 2) (by kernel_rfl)) se_int rfl) rfl sa_nil)))) rfl (fun _ => rfl))) (sw_or (st_not (st_val (scu u_is_within hr (by omega) rfl (by kernel_rfl) rfl (sac (sv (i := 5) (by kernel_rfl)) rfl (sac se_int rfl (sac (se_bin (o := .sub) (sv (i := 2) (by kernel_rfl)) se_int rfl) rfl sa_nil)))) rfl (fun _ => rfl))) (sw_one (st_not (st_val (scu u_is_mark hr (by omega) rfl (by kernel_rfl) rfl (sac (sv (i := 6) (by kernel_rfl)) rfl sa_nil)) rfl (fun _ => rfl))))))) (sss_cons (ss_ret se_bl)
    sss_nil) sss_nil)
    (sss_cons (ss_ret (se_and (sis (T := .str) hcls B.isinstance B.str boot_str rfl (by kernel_rfl) rfl (sv (i := 4) (by kernel_rfl))) (se_and (se_cmp (o := .eq) (scl (co_len rfl B.len) (by kernel_rfl) rfl (sac (sv (i := 4) (by kernel_rfl)) rfl sa_nil)) se_int rfl hu rfl) (se_one (se_cmp (o := .in_) (sv (i := 4) (by kernel_rfl)) (sv (i := 1) (by kernel_rfl)) rfl hu rfl)))))
    sss_nil))))
theorem k_is_arrow {f : Addr} {fd : FuncData} (B : Bi mg) (hcls : ∀ c ∈ cls, ClsI (CK K T R) c) (u_is_within : UF (CK K T R) P w mg base 1 "is_within" F_is_within) (u_is_mark : UF (CK K T R) P w mg base 1 "is_mark" F_is_mark) (D_ : FunD K "is_arrow" "is_arrow" (defArgs st_is_arrow) (defBody st_is_arrow) (defScope st_is_arrow) [] [] f fd) : FnOk P w K mg base (L2.CX P w) 2 f fd ps_is_arrow (spM (CK K T R) ps_is_arrow.length F_is_arrow) :=
  fn_M (C := CK K T R) D_ sc_is_arrow m_is_arrow fun cdv A outer s H E hr => b_is_arrow B hcls u_is_within u_is_mark hr
end
/-! ### _law_alphabet -/
def st_law_alphabet : Stmt := (top 33)
abbrev N_law_alphabet : List Str := ["_law_bag_here"]
abbrev ps_law_alphabet : List Str := ["_law_bag_here"]
noncomputable def m_law_alphabet : MSs :=
  (.cons (.ret (.call F_law_of (.cons (.var 0) (.cons (.lst (.cons (.con (.str ['a', 'b'])) (.cons (.con (.str ['a', 'b'])) (.cons (.con (.str ['a', 'b', 'c'])) (.cons (.con (.str ['b', 'x'])) (.cons (.con (.str ['a'])) (.cons (.con (.str ['a', 'b'])) .nil))))))) .nil)))) .nil)
noncomputable def F_law_alphabet : List D → M D := runF 1 1 m_law_alphabet
theorem ne_law_alphabet : ∀ ds m, ds.length ≠ ps_law_alphabet.length → F_law_alphabet ds m = .stuck := runF_ne
theorem sc_law_alphabet : FnScope N_law_alphabet ps_law_alphabet (defScope st_law_alphabet) := ⟨rfl, rfl, rfl, by decide +kernel, rfl, by decide +kernel, by decide +kernel⟩
section
variable {K : PySem.W.Frag} {T : Nat → Addr × Str} {R : FR} {P : Program} {w : World} {mg : Str → Option Value} {base : Heap}
theorem b_law_alphabet (B : Bi mg) (u_law_of : UF (CK K T R) P w mg base 2 "_law_of" F_law_of) {f : Addr} {cdv : Value} {A : Around} {outer : List PySem.Env} {s : Shared} {H : Hp} {E : XK} (hr : Room 2 (A.deeper (envOfC "_law_alphabet" (defScope st_law_alphabet) s.heap.objs.size f cdv))) :
    SSs (CK K T R) (cxOf (L2.CX P w) P w K mg base N_law_alphabet "_law_alphabet" (defScope st_law_alphabet) f cdv A outer s H E) (defBody st_law_alphabet) m_law_alphabet := by
  have hu := rm_u hr
  have hu1 := rm_u1 hr
  have hN := sc_law_alphabet.nd
  exact (sss_cons (ss_ret (scu u_law_of hr (by omega) rfl (by kernel_rfl) rfl (sac (sv (i := 0) (by kernel_rfl)) rfl (sac (se_lst (sac (se_str (by kernel_rfl) (by decide)) rfl (sac (se_str (by kernel_rfl) (by decide)) rfl (sac (se_str (by kernel_rfl) (by decide)) rfl (sac (se_str (by kernel_rfl) (by decide)) rfl (sac (se_str (by kernel_rfl) (by decide)) rfl (sac (se_str (by kernel_rfl) (by decide)) rfl sa_nil))))))) rfl sa_nil))))
    sss_nil)
theorem k_law_alphabet {f : Addr} {fd : FuncData} (B : Bi mg) (u_law_of : UF (CK K T R) P w mg base 2 "_law_of" F_law_of) (D_ : FunD K "_law_alphabet" "_law_alphabet" (defArgs st_law_alphabet) (defBody st_law_alphabet) (defScope st_law_alphabet) [] [] f fd) : FnOk P w K mg base (L2.CX P w) 3 f fd ps_law_alphabet (spM (CK K T R) ps_law_alphabet.length F_law_alphabet) :=
  fn_M (C := CK K T R) D_ sc_law_alphabet m_law_alphabet fun cdv A outer s H E hr => b_law_alphabet B u_law_of hr
end
/-! ### _law_arrows -/
def st_law_arrows : Stmt := (top 35)
abbrev N_law_arrows : List Str := ["_law_bag_here", "_law_signs", "_law_places", "_law_many", "_law_marks", "_law_found", "_law_k", "_law_arrow"]
abbrev ps_law_arrows : List Str := ["_law_bag_here", "_law_signs", "_law_places", "_law_many", "_law_marks"]
noncomputable def m_law_arrows : MSs :=
  (.cons (.set (.nm 5) (.new .nil)) (.cons (.for_ (.nm 6) (.rng1 (.var 3)) (.cons (.set (.nm 7) (.tup (.cons (.call F_law_pull (.cons (.var 0) (.cons (.var 2) .nil))) (.cons (.call F_law_of (.cons (.var 0) (.cons (.var 1) .nil))) (.cons (.call F_law_pull (.cons (.var 0) (.cons (.var 2) .nil))) (.cons (.call F_law_of (.cons (.var 0) (.cons (.var 4) .nil))) .nil)))))) (.cons (.ite (.cmp .nin (.var 7) (.var 5)) (.cons (.exp (.meth isLst (un1m appendM) (.var 5) (.cons (.var 7) .nil))) .nil) .nil) .nil))) (.cons (.ret (.frz (.var 5))) .nil)))
noncomputable def F_law_arrows : List D → M D := runF 5 8 m_law_arrows
theorem ne_law_arrows : ∀ ds m, ds.length ≠ ps_law_arrows.length → F_law_arrows ds m = .stuck := runF_ne
theorem sc_law_arrows : FnScope N_law_arrows ps_law_arrows (defScope st_law_arrows) := ⟨rfl, rfl, rfl, by decide +kernel, rfl, by decide +kernel, by decide +kernel⟩
section
variable {K : PySem.W.Frag} {T : Nat → Addr × Str} {R : FR} {P : Program} {w : World} {mg : Str → Option Value} {base : Heap}
theorem b_law_arrows (B : Bi mg) (u_law_pull : UF (CK K T R) P w mg base 1 "_law_pull" F_law_pull) (u_law_of : UF (CK K T R) P w mg base 2 "_law_of" F_law_of) {f : Addr} {cdv : Value} {A : Around} {outer : List PySem.Env} {s : Shared} {H : Hp} {E : XK} (hr : Room 2 (A.deeper (envOfC "_law_arrows" (defScope st_law_arrows) s.heap.objs.size f cdv))) :
    SSs (CK K T R) (cxOf (L2.CX P w) P w K mg base N_law_arrows "_law_arrows" (defScope st_law_arrows) f cdv A outer s H E) (defBody st_law_arrows) m_law_arrows := by
  have hu := rm_u hr
  have hu1 := rm_u1 hr
  have hN := sc_law_arrows.nd
  exact (sss_cons (sst (i := 5) hN (by kernel_rfl) (se_new sa_nil) rfl)
    (sss_cons (ss_for (passes_of rfl) rfl (ir1 B.range (by kernel_rfl) rfl (sv (i := 3) (by kernel_rfl))) (tgn (i := 6) hN (by kernel_rfl)) (sss_cons (sst (i := 7) hN (by kernel_rfl) (se_tup (sac (scu u_law_pull hr (by omega) rfl (by kernel_rfl) rfl (sac (sv (i := 0) (by kernel_rfl)) rfl (sac (sv (i := 2) (by kernel_rfl)) rfl sa_nil))) rfl (sac (scu u_law_of hr (by omega) rfl (by kernel_rfl) rfl (sac (sv (i := 0) (by kernel_rfl)) rfl (sac (sv (i := 1) (by kernel_rfl)) rfl sa_nil))) rfl (sac (scu u_law_pull hr (by omega) rfl (by kernel_rfl) rfl (sac (sv (i := 0) (by kernel_rfl)) rfl (sac (sv (i := 2) (by kernel_rfl)) rfl sa_nil))) rfl (sac (scu u_law_of hr (by omega) rfl (by kernel_rfl) rfl (sac (sv (i := 0) (by kernel_rfl)) rfl (sac (sv (i := 4) (by kernel_rfl)) rfl sa_nil))) rfl sa_nil))))) rfl)
    (sss_cons (ss_if (st_cmp (o := .nin) (sv (i := 7) (by kernel_rfl)) (sv (i := 5) (by kernel_rfl)) rfl hu rfl) (sss_cons (ss_exp (se_append (sv (i := 5) (by kernel_rfl)) (sv (i := 7) (by kernel_rfl)) rfl rfl rfl rfl) rfl)
    sss_nil) sss_nil)
    sss_nil)) (fun _ => rfl))
    (sss_cons (ss_ret (se_frz (sv (i := 5) (by kernel_rfl))))
    sss_nil)))
theorem k_law_arrows {f : Addr} {fd : FuncData} (B : Bi mg) (u_law_pull : UF (CK K T R) P w mg base 1 "_law_pull" F_law_pull) (u_law_of : UF (CK K T R) P w mg base 2 "_law_of" F_law_of) (D_ : FunD K "_law_arrows" "_law_arrows" (defArgs st_law_arrows) (defBody st_law_arrows) (defScope st_law_arrows) [] [] f fd) : FnOk P w K mg base (L2.CX P w) 3 f fd ps_law_arrows (spM (CK K T R) ps_law_arrows.length F_law_arrows) :=
  fn_M (C := CK K T R) D_ sc_law_arrows m_law_arrows fun cdv A outer s H E hr => b_law_arrows B u_law_pull u_law_of hr
end
/-! ### need_alphabet -/
def st_need_alphabet : Stmt := (top 16)
abbrev N_need_alphabet : List Str := ["value"]
abbrev ps_need_alphabet : List Str := ["value"]
noncomputable def m_need_alphabet : MSs :=
  (.cons (.ite (.not (.val (.call F_is_alphabet (.cons (.var 0) .nil)))) (.cons (.raise (errM 2 [4, 3] ['I', 'n', 'v', 'a', 'l', 'i', 'd', 'A', 'l', 'p', 'h', 'a', 'b', 'e', 't'] 1) (.cons (.var 0) .nil)) .nil) .nil) .nil)
noncomputable def F_need_alphabet : List D → M D := runF 1 1 m_need_alphabet
theorem ne_need_alphabet : ∀ ds m, ds.length ≠ ps_need_alphabet.length → F_need_alphabet ds m = .stuck := runF_ne
theorem sc_need_alphabet : FnScope N_need_alphabet ps_need_alphabet (defScope st_need_alphabet) := ⟨rfl, rfl, rfl, by decide +kernel, rfl, by decide +kernel, by decide +kernel⟩
section
variable {K : PySem.W.Frag} {T : Nat → Addr × Str} {R : FR} {P : Program} {w : World} {mg : Str → Option Value} {base : Heap}
theorem b_need_alphabet (B : Bi mg) (u_is_alphabet : UF (CK K T R) P w mg base 1 "is_alphabet" F_is_alphabet) (ue_InvalidAlphabet : UE (CK K T R) P w mg base 2 (some "given") "InvalidAlphabet") {f : Addr} {cdv : Value} {A : Around} {outer : List PySem.Env} {s : Shared} {H : Hp} {E : XK} (hr : Room 2 (A.deeper (envOfC "need_alphabet" (defScope st_need_alphabet) s.heap.objs.size f cdv))) :
    SSs (CK K T R) (cxOf (L2.CX P w) P w K mg base N_need_alphabet "need_alphabet" (defScope st_need_alphabet) f cdv A outer s H E) (defBody st_need_alphabet) m_need_alphabet := by
  have hu := rm_u hr
  have hu1 := rm_u1 hr
  have hN := sc_need_alphabet.nd
  exact (sss_cons (ss_if (st_not (st_val (scu u_is_alphabet hr (by omega) rfl (by kernel_rfl) rfl (sac (sv (i := 0) (by kernel_rfl)) rfl sa_nil)) rfl (fun _ => rfl))) (sss_cons (ss_raise1 (c := 2) (jf := 4) (jt := 3) (tg := ['I', 'n', 'v', 'a', 'l', 'i', 'd', 'A', 'l', 'p', 'h', 'a', 'b', 'e', 't']) ue_InvalidAlphabet hr rfl rfl rfl rfl rfl (by kernel_rfl) (by decide) (by kernel_rfl) (sv (i := 0) (by kernel_rfl)) rfl)
    sss_nil) sss_nil)
    sss_nil)
theorem k_need_alphabet {f : Addr} {fd : FuncData} (B : Bi mg) (u_is_alphabet : UF (CK K T R) P w mg base 1 "is_alphabet" F_is_alphabet) (ue_InvalidAlphabet : UE (CK K T R) P w mg base 2 (some "given") "InvalidAlphabet") (D_ : FunD K "need_alphabet" "need_alphabet" (defArgs st_need_alphabet) (defBody st_need_alphabet) (defScope st_need_alphabet) [] [] f fd) : FnOk P w K mg base (L2.CX P w) 3 f fd ps_need_alphabet (spM (CK K T R) ps_need_alphabet.length F_need_alphabet) :=
  fn_M (C := CK K T R) D_ sc_need_alphabet m_need_alphabet fun cdv A outer s H E hr => b_need_alphabet B u_is_alphabet ue_InvalidAlphabet hr
end
/-! ### need_within -/
def st_need_within : Stmt := (top 14)
abbrev N_need_within : List Str := ["value", "low", "high"]
abbrev ps_need_within : List Str := ["value", "low", "high"]
noncomputable def m_need_within : MSs :=
  (.cons (.ite (.not (.val (.call F_is_within (.cons (.var 0) (.cons (.var 1) (.cons (.var 2) .nil)))))) (.cons (.raise (errM 6 [4, 3] ['I', 'n', 'v', 'a', 'l', 'i', 'd', 'C', 'o', 'u', 'n', 't'] 1) (.cons (.var 0) .nil)) .nil) .nil) .nil)
noncomputable def F_need_within : List D → M D := runF 3 3 m_need_within
theorem ne_need_within : ∀ ds m, ds.length ≠ ps_need_within.length → F_need_within ds m = .stuck := runF_ne
theorem sc_need_within : FnScope N_need_within ps_need_within (defScope st_need_within) := ⟨rfl, rfl, rfl, by decide +kernel, rfl, by decide +kernel, by decide +kernel⟩
section
variable {K : PySem.W.Frag} {T : Nat → Addr × Str} {R : FR} {P : Program} {w : World} {mg : Str → Option Value} {base : Heap}
theorem b_need_within (B : Bi mg) (u_is_within : UF (CK K T R) P w mg base 1 "is_within" F_is_within) (ue_InvalidCount : UE (CK K T R) P w mg base 6 (some "given") "InvalidCount") {f : Addr} {cdv : Value} {A : Around} {outer : List PySem.Env} {s : Shared} {H : Hp} {E : XK} (hr : Room 2 (A.deeper (envOfC "need_within" (defScope st_need_within) s.heap.objs.size f cdv))) :
    SSs (CK K T R) (cxOf (L2.CX P w) P w K mg base N_need_within "need_within" (defScope st_need_within) f cdv A outer s H E) (defBody st_need_within) m_need_within := by
  have hu := rm_u hr
  have hu1 := rm_u1 hr
  have hN := sc_need_within.nd
  exact (sss_cons (ss_if (st_not (st_val (scu u_is_within hr (by omega) rfl (by kernel_rfl) rfl (sac (sv (i := 0) (by kernel_rfl)) rfl (sac (sv (i := 1) (by kernel_rfl)) rfl (sac (sv (i := 2) (by kernel_rfl)) rfl sa_nil)))) rfl (fun _ => rfl))) (sss_cons (ss_raise1 (c := 6) (jf := 4) (jt := 3) (tg := ['I', 'n', 'v', 'a', 'l', 'i', 'd', 'C', 'o', 'u', 'n', 't']) ue_InvalidCount hr rfl rfl rfl rfl rfl (by kernel_rfl) (by decide) (by kernel_rfl) (sv (i := 0) (by kernel_rfl)) rfl)
    sss_nil) sss_nil)
    sss_nil)
theorem k_need_within {f : Addr} {fd : FuncData} (B : Bi mg) (u_is_within : UF (CK K T R) P w mg base 1 "is_within" F_is_within) (ue_InvalidCount : UE (CK K T R) P w mg base 6 (some "given") "InvalidCount") (D_ : FunD K "need_within" "need_within" (defArgs st_need_within) (defBody st_need_within) (defScope st_need_within) [] [] f fd) : FnOk P w K mg base (L2.CX P w) 3 f fd ps_need_within (spM (CK K T R) ps_need_within.length F_need_within) :=
  fn_M (C := CK K T R) D_ sc_need_within m_need_within fun cdv A outer s H E hr => b_need_within B u_is_within ue_InvalidCount hr
end
/-! ### _law_text -/
def st_law_text : Stmt := (top 34)
abbrev N_law_text : List Str := ["_law_bag_here", "_law_signs", "_law_most", "_law_k"]
abbrev ps_law_text : List Str := ["_law_bag_here", "_law_signs", "_law_most"]
noncomputable def m_law_text : MSs :=
  (.cons (.ret (.meth isStrD (un1m joinM) (.con (.str [])) (.cons (.comp false [3] (.nm 3) (.rng1 (.call F_law_pull (.cons (.var 0) (.cons (.bin .add (.var 2) (.con (.int (1)))) .nil)))) .no (.call F_law_of (.cons (.var 0) (.cons (.var 1) .nil)))) .nil))) .nil)
noncomputable def F_law_text : List D → M D := runF 3 4 m_law_text
theorem ne_law_text : ∀ ds m, ds.length ≠ ps_law_text.length → F_law_text ds m = .stuck := runF_ne
theorem sc_law_text : FnScope N_law_text ps_law_text (defScope st_law_text) := ⟨rfl, rfl, rfl, by decide +kernel, rfl, by decide +kernel, by decide +kernel⟩
section
variable {K : PySem.W.Frag} {T : Nat → Addr × Str} {R : FR} {P : Program} {w : World} {mg : Str → Option Value} {base : Heap}
theorem b_law_text (B : Bi mg) (u_law_pull : UF (CK K T R) P w mg base 1 "_law_pull" F_law_pull) (u_law_of : UF (CK K T R) P w mg base 2 "_law_of" F_law_of) {f : Addr} {cdv : Value} {A : Around} {outer : List PySem.Env} {s : Shared} {H : Hp} {E : XK} (hr : Room 2 (A.deeper (envOfC "_law_text" (defScope st_law_text) s.heap.objs.size f cdv))) :
    SSs (CK K T R) (cxOf (L2.CX P w) P w K mg base N_law_text "_law_text" (defScope st_law_text) f cdv A outer s H E) (defBody st_law_text) m_law_text := by
  have hu := rm_u hr
  have hu1 := rm_u1 hr
  have hN := sc_law_text.nd
  exact (sss_cons (ss_ret (se_join (se_str (by kernel_rfl) (by decide)) (se_comp rfl hN (ir1 B.range (by kernel_rfl) rfl (scu u_law_pull hr (by omega) rfl (by kernel_rfl) rfl (sac (sv (i := 0) (by kernel_rfl)) rfl (sac (se_bin (o := .add) (sv (i := 2) (by kernel_rfl)) se_int rfl) rfl sa_nil)))) (own := [(("_law_k" : Str), 3)]) (g := (.nm 3)) (by kernel_rfl) (by decide) (fun _ _ _ _ _ => (tgn (i := 3) hN (by kernel_rfl))) (fun _ _ _ _ _ => rfl) (fun _ _ _ _ _ => (scu u_law_of hr (by omega) rfl (by kernel_rfl) rfl (sac (sv (i := 0) (by kernel_rfl)) rfl (sac (sv (i := 1) (by kernel_rfl)) rfl sa_nil)))) (fun _ => rfl)) rfl rfl rfl rfl))
    sss_nil)
theorem k_law_text {f : Addr} {fd : FuncData} (B : Bi mg) (u_law_pull : UF (CK K T R) P w mg base 1 "_law_pull" F_law_pull) (u_law_of : UF (CK K T R) P w mg base 2 "_law_of" F_law_of) (D_ : FunD K "_law_text" "_law_text" (defArgs st_law_text) (defBody st_law_text) (defScope st_law_text) [] [] f fd) : FnOk P w K mg base (L2.CX P w) 3 f fd ps_law_text (spM (CK K T R) ps_law_text.length F_law_text) :=
  fn_M (C := CK K T R) D_ sc_law_text m_law_text fun cdv A outer s H E hr => b_law_text B u_law_pull u_law_of hr
end
/-! ### need_word -/
def st_need_word : Stmt := (top 18)
abbrev N_need_word : List Str := ["alphabet", "value"]
abbrev ps_need_word : List Str := ["alphabet", "value"]
noncomputable def m_need_word : MSs :=
  (.cons (.ite (.not (.val (.call F_is_word (.cons (.var 0) (.cons (.var 1) .nil))))) (.cons (.raise (errM 7 [4, 3] ['I', 'n', 'v', 'a', 'l', 'i', 'd', 'W', 'o', 'r', 'd'] 1) (.cons (.var 1) .nil)) .nil) .nil) .nil)
noncomputable def F_need_word : List D → M D := runF 2 2 m_need_word
theorem ne_need_word : ∀ ds m, ds.length ≠ ps_need_word.length → F_need_word ds m = .stuck := runF_ne
theorem sc_need_word : FnScope N_need_word ps_need_word (defScope st_need_word) := ⟨rfl, rfl, rfl, by decide +kernel, rfl, by decide +kernel, by decide +kernel⟩
section
variable {K : PySem.W.Frag} {T : Nat → Addr × Str} {R : FR} {P : Program} {w : World} {mg : Str → Option Value} {base : Heap}
theorem b_need_word (B : Bi mg) (u_is_word : UF (CK K T R) P w mg base 1 "is_word" F_is_word) (ue_InvalidWord : UE (CK K T R) P w mg base 7 (some "given") "InvalidWord") {f : Addr} {cdv : Value} {A : Around} {outer : List PySem.Env} {s : Shared} {H : Hp} {E : XK} (hr : Room 2 (A.deeper (envOfC "need_word" (defScope st_need_word) s.heap.objs.size f cdv))) :
    SSs (CK K T R) (cxOf (L2.CX P w) P w K mg base N_need_word "need_word" (defScope st_need_word) f cdv A outer s H E) (defBody st_need_word) m_need_word := by
  have hu := rm_u hr
  have hu1 := rm_u1 hr
  have hN := sc_need_word.nd
  exact (sss_cons (ss_if (st_not (st_val (scu u_is_word hr (by omega) rfl (by kernel_rfl) rfl (sac (sv (i := 0) (by kernel_rfl)) rfl (sac (sv (i := 1) (by kernel_rfl)) rfl sa_nil))) rfl (fun _ => rfl))) (sss_cons (ss_raise1 (c := 7) (jf := 4) (jt := 3) (tg := ['I', 'n', 'v', 'a', 'l', 'i', 'd', 'W', 'o', 'r', 'd']) ue_InvalidWord hr rfl rfl rfl rfl rfl (by kernel_rfl) (by decide) (by kernel_rfl) (sv (i := 1) (by kernel_rfl)) rfl)
    sss_nil) sss_nil)
    sss_nil)
theorem k_need_word {f : Addr} {fd : FuncData} (B : Bi mg) (u_is_word : UF (CK K T R) P w mg base 1 "is_word" F_is_word) (ue_InvalidWord : UE (CK K T R) P w mg base 7 (some "given") "InvalidWord") (D_ : FunD K "need_word" "need_word" (defArgs st_need_word) (defBody st_need_word) (defScope st_need_word) [] [] f fd) : FnOk P w K mg base (L2.CX P w) 3 f fd ps_need_word (spM (CK K T R) ps_need_word.length F_need_word) :=
  fn_M (C := CK K T R) D_ sc_need_word m_need_word fun cdv A outer s H E hr => b_need_word B u_is_word ue_InvalidWord hr
end
/-! ### _law_map -/
def st_law_map : Stmt := (top 36)
abbrev N_law_map : List Str := ["_law_bag_here", "_law_most", "_law_many", "_law_signs", "_law_places", "_law_ends", "_law_arrows_here", "_law_place"]
abbrev ps_law_map : List Str := ["_law_bag_here", "_law_most", "_law_many"]
noncomputable def m_law_map : MSs :=
  (.cons (.par 3 4 (.call F_law_alphabet (.cons (.var 0) .nil)) (.bin .add (.con (.int (1))) (.call F_law_pull (.cons (.var 0) (.cons (.var 1) .nil))))) (.cons (.set (.nm 5) (.comp false [7] (.nm 7) (.rng1 (.var 4)) (.yes (.cmp .eq (.call F_law_pull (.cons (.var 0) (.cons (.con (.int (3))) .nil))) (.con (.int (0))))) (.var 7))) (.cons (.set (.nm 6) (.call F_law_arrows (.cons (.var 0) (.cons (.var 3) (.cons (.var 4) (.cons (.call F_law_pull (.cons (.var 0) (.cons (.bin .add (.var 2) (.con (.int (1)))) .nil))) (.cons (.lst (.cons (.con (.str [])) (.cons (.con (.str [])) (.cons (.con (.str ['x'])) (.cons (.con (.str ['y', 'z'])) (.cons (.con (.str ['m', 'a', 'r', 'k'])) .nil)))))) .nil))))))) (.cons (.ret (.tup (.cons (.var 3) (.cons (.var 4) (.cons (.var 5) (.cons (.var 6) .nil)))))) .nil))))
noncomputable def F_law_map : List D → M D := runF 3 8 m_law_map
theorem ne_law_map : ∀ ds m, ds.length ≠ ps_law_map.length → F_law_map ds m = .stuck := runF_ne
theorem sc_law_map : FnScope N_law_map ps_law_map (defScope st_law_map) := ⟨rfl, rfl, rfl, by decide +kernel, rfl, by decide +kernel, by decide +kernel⟩
section
variable {K : PySem.W.Frag} {T : Nat → Addr × Str} {R : FR} {P : Program} {w : World} {mg : Str → Option Value} {base : Heap}
theorem b_law_map (B : Bi mg) (u_law_alphabet : UF (CK K T R) P w mg base 3 "_law_alphabet" F_law_alphabet) (u_law_pull : UF (CK K T R) P w mg base 1 "_law_pull" F_law_pull) (u_law_arrows : UF (CK K T R) P w mg base 3 "_law_arrows" F_law_arrows) {f : Addr} {cdv : Value} {A : Around} {outer : List PySem.Env} {s : Shared} {H : Hp} {E : XK} (hr : Room 3 (A.deeper (envOfC "_law_map" (defScope st_law_map) s.heap.objs.size f cdv))) :
    SSs (CK K T R) (cxOf (L2.CX P w) P w K mg base N_law_map "_law_map" (defScope st_law_map) f cdv A outer s H E) (defBody st_law_map) m_law_map := by
  have hu := rm_u hr
  have hu1 := rm_u1 hr
  have hN := sc_law_map.nd
  exact (sss_cons (ss_par (i := 3) (j := 4) rfl hN (by kernel_rfl) (by kernel_rfl) (by decide) (by kernel_rfl) (by kernel_rfl) (scu u_law_alphabet hr (by omega) rfl (by kernel_rfl) rfl (sac (sv (i := 0) (by kernel_rfl)) rfl sa_nil)) (se_bin (o := .add) se_int (scu u_law_pull hr (by omega) rfl (by kernel_rfl) rfl (sac (sv (i := 0) (by kernel_rfl)) rfl (sac (sv (i := 1) (by kernel_rfl)) rfl sa_nil))) rfl) (star_cons rfl) (star_cons rfl) rfl rfl)
    (sss_cons (ss_setLc (i := 5) rfl hN (by kernel_rfl) rfl (sw_true rfl rfl rfl rfl) (ir1 B.range (by kernel_rfl) rfl (sv (i := 4) (by kernel_rfl))) (own := [(("_law_place" : Str), 7)]) (g := (.nm 7)) (by kernel_rfl) (by decide) (fun _ _ _ _ _ => (tgn (i := 7) hN (by kernel_rfl))) (fun _ _ _ _ _ => ⟨_, rfl, (st_cmp (o := .eq) (scu u_law_pull hr (by omega) rfl (by kernel_rfl) rfl (sac (sv (i := 0) (by kernel_rfl)) rfl (sac se_int rfl sa_nil))) se_int rfl hu rfl)⟩) (fun _ _ _ _ _ => (sv (i := 7) (by kernel_rfl))) (fun _ => rfl))
    (sss_cons (sst (i := 6) hN (by kernel_rfl) (scu u_law_arrows hr (by omega) rfl (by kernel_rfl) rfl (sac (sv (i := 0) (by kernel_rfl)) rfl (sac (sv (i := 3) (by kernel_rfl)) rfl (sac (sv (i := 4) (by kernel_rfl)) rfl (sac (scu u_law_pull hr (by omega) rfl (by kernel_rfl) rfl (sac (sv (i := 0) (by kernel_rfl)) rfl (sac (se_bin (o := .add) (sv (i := 2) (by kernel_rfl)) se_int rfl) rfl sa_nil))) rfl (sac (se_lst (sac (se_str (by kernel_rfl) (by decide)) rfl (sac (se_str (by kernel_rfl) (by decide)) rfl (sac (se_str (by kernel_rfl) (by decide)) rfl (sac (se_str (by kernel_rfl) (by decide)) rfl (sac (se_str (by kernel_rfl) (by decide)) rfl sa_nil)))))) rfl sa_nil)))))) rfl)
    (sss_cons (ss_ret (se_tup (sac (sv (i := 3) (by kernel_rfl)) rfl (sac (sv (i := 4) (by kernel_rfl)) rfl (sac (sv (i := 5) (by kernel_rfl)) rfl (sac (sv (i := 6) (by kernel_rfl)) rfl sa_nil))))))
    sss_nil))))
theorem k_law_map {f : Addr} {fd : FuncData} (B : Bi mg) (u_law_alphabet : UF (CK K T R) P w mg base 3 "_law_alphabet" F_law_alphabet) (u_law_pull : UF (CK K T R) P w mg base 1 "_law_pull" F_law_pull) (u_law_arrows : UF (CK K T R) P w mg base 3 "_law_arrows" F_law_arrows) (D_ : FunD K "_law_map" "_law_map" (defArgs st_law_map) (defBody st_law_map) (defScope st_law_map) [] [] f fd) : FnOk P w K mg base (L2.CX P w) 4 f fd ps_law_map (spM (CK K T R) ps_law_map.length F_law_map) :=
  fn_M (C := CK K T R) D_ sc_law_map m_law_map fun cdv A outer s H E hr => b_law_map B u_law_alphabet u_law_pull u_law_arrows hr
end
/-! ### Map.__init__ -/
def st_Map__init_ : Stmt := ((clsS (top 25)).getD 2 (.Pass ⟨0, 0, 0, 0⟩))
abbrev N_Map__init_ : List Str := ["self", "alphabet", "places", "ends", "arrows", "known", "index", "arrow", "place"]
abbrev ps_Map__init_ : List Str := ["self", "alphabet", "places", "ends", "arrows"]
noncomputable def m_Map__init_ : MSs :=
  (.cons (.exp (.call F_need_alphabet (.cons (.var 1) .nil))) (.cons (.exp (.call F_need_within (.cons (.var 2) (.cons (.con (.int (1))) (.cons (.con c_MOST_PLACES) .nil))))) (.cons (.ite (.not (.val (.call (un1 allM) (.cons (.comp false [8] (.nm 8) (.val (.var 3)) .no (.call F_is_within (.cons (.var 8) (.cons (.con (.int (0))) (.cons (.bin .sub (.var 2) (.con (.int (1)))) .nil))))) .nil)))) (.cons (.raise (errM 10 [3] ['I', 'n', 'v', 'a', 'l', 'i', 'd', 'E', 'n', 'd', 's'] 0) .nil) .nil) .nil) (.cons (.set (.nm 5) (.call (dnewM true) .nil)) (.cons (.for_ (.tp [6, 7]) (.enm (.var 4)) (.cons (.ite (.or (.not (.val (.call F_is_arrow (.cons (.var 7) (.cons (.var 1) (.cons (.var 2) .nil)))))) (.or (.val (.call (un2 inD) (.cons (.var 7) (.cons (.var 5) .nil)))) (.cmp .ge (.var 6) (.con c_MOST_ARROWS)))) (.cons (.raise (errM 11 [9, 3] ['I', 'n', 'v', 'a', 'l', 'i', 'd', 'A', 'r', 'r', 'o', 'w'] 1) (.cons (.var 6) .nil)) .nil) .nil) (.cons (.setSub (.var 5) (.var 7) (.con (.bl true))) .nil))) (.cons (.setAt (setFldM [31] 32) (.var 0) (.var 1)) (.cons (.setAt (setFldM [31] 33) (.var 0) (.var 2)) (.cons (.setAt (setFldM [31] 34) (.var 0) (.call (un1 tupleM) (.cons (.call (un1 sortSetM) (.cons (.comp false [8] (.nm 8) (.val (.var 3)) .no (.var 8)) .nil)) .nil))) (.cons (.setAt (setFldM [31] 35) (.var 0) (.call (un1 tupleM) (.cons (.var 4) .nil))) (.cons (.setAt (setFldM [31] 36) (.var 0) (.tup (.cons (.var 1) (.cons (.var 2) (.cons (.attr (fldM [31] 34) (.var 0)) (.cons (.attr (fldM [31] 35) (.var 0)) .nil)))))) .nil))))))))))
noncomputable def F_Map__init_ : List D → M D := runF 5 9 m_Map__init_
theorem ne_Map__init_ : ∀ ds m, ds.length ≠ ps_Map__init_.length → F_Map__init_ ds m = .stuck := runF_ne
theorem sc_Map__init_ : FnScope N_Map__init_ ps_Map__init_ (defScope st_Map__init_) := ⟨rfl, rfl, rfl, by decide +kernel, rfl, by decide +kernel, by decide +kernel⟩
section
variable {K : PySem.W.Frag} {T : Nat → Addr × Str} {R : FR} {P : Program} {w : World} {mg : Str → Option Value} {base : Heap}
theorem b_Map__init_ (B : Bi mg) (g_MOST_ARROWS : GV (CK K T R) mg "MOST_ARROWS" c_MOST_ARROWS) (g_MOST_PLACES : GV (CK K T R) mg "MOST_PLACES" c_MOST_PLACES) (u_need_alphabet : UF (CK K T R) P w mg base 3 "need_alphabet" F_need_alphabet) (u_need_within : UF (CK K T R) P w mg base 3 "need_within" F_need_within) (u_is_within : UF (CK K T R) P w mg base 1 "is_within" F_is_within) (ue_InvalidEnds : UE (CK K T R) P w mg base 10 none "InvalidEnds") (u_is_arrow : UF (CK K T R) P w mg base 2 "is_arrow" F_is_arrow) (ue_InvalidArrow : UE (CK K T R) P w mg base 11 (some "index") "InvalidArrow") (fd_signs : ∀ c ∈ ([31] : List Nat), FldC (CK K T R) c 32) (fd_total : ∀ c ∈ ([31] : List Nat), FldC (CK K T R) c 33) (fd_goals : ∀ c ∈ ([31] : List Nat), FldC (CK K T R) c 34) (fd_lines : ∀ c ∈ ([31] : List Nat), FldC (CK K T R) c 35) (fd_key : ∀ c ∈ ([31] : List Nat), FldC (CK K T R) c 36) {f : Addr} {cdv : Value} {A : Around} {outer : List PySem.Env} {s : Shared} {H : Hp} {E : XK} (hr : Room 3 (A.deeper (envOfC "Map.__init__" (defScope st_Map__init_) s.heap.objs.size f cdv))) :
    SSs (CK K T R) (cxOf (L2.CX P w) P w K mg base N_Map__init_ "Map.__init__" (defScope st_Map__init_) f cdv A outer s H E) (defBody st_Map__init_) m_Map__init_ := by
  have hu := rm_u hr
  have hu1 := rm_u1 hr
  have hN := sc_Map__init_.nd
  exact (sss_cons (ss_exp (scu u_need_alphabet hr (by omega) rfl (by kernel_rfl) rfl (sac (sv (i := 1) (by kernel_rfl)) rfl sa_nil)) rfl)
    (sss_cons (ss_exp (scu u_need_within hr (by omega) rfl (by kernel_rfl) rfl (sac (sv (i := 2) (by kernel_rfl)) rfl (sac se_int rfl (sac (sgl g_MOST_PLACES (by kernel_rfl)) rfl sa_nil)))) rfl)
    (sss_cons (ss_if (st_not (st_val (scl (co_all rfl rfl B.all) (by kernel_rfl) rfl (sac (se_comp rfl hN (si_val (sv (i := 3) (by kernel_rfl)) rfl) (own := [(("place" : Str), 8)]) (g := (.nm 8)) (by kernel_rfl) (by decide) (fun _ _ _ _ _ => (tgn (i := 8) hN (by kernel_rfl))) (fun _ _ _ _ _ => rfl) (fun _ _ _ _ _ => (scu u_is_within hr (by omega) rfl (by kernel_rfl) rfl (sac (sv (i := 8) (by kernel_rfl)) rfl (sac se_int rfl (sac (se_bin (o := .sub) (sv (i := 2) (by kernel_rfl)) se_int rfl) rfl sa_nil))))) (fun _ => rfl)) rfl sa_nil)) rfl (fun _ => rfl))) (sss_cons (ss_raise0 (c := 10) (jt := 3) (tg := ['I', 'n', 'v', 'a', 'l', 'i', 'd', 'E', 'n', 'd', 's']) ue_InvalidEnds hr rfl rfl rfl rfl (by kernel_rfl) (by decide) (by kernel_rfl))
    sss_nil) sss_nil)
    (sss_cons (sst (i := 5) hN (by kernel_rfl) (se_dnew (t := true)) rfl)
    (sss_cons (ss_for (passes_of rfl) rfl (ien B.enumerate rfl (by kernel_rfl) rfl (sv (i := 4) (by kernel_rfl))) (sg_tp hN rfl rfl (nmc (i := 6) (by kernel_rfl) (nmc (i := 7) (by kernel_rfl) .nil))) (sss_cons (ss_if (st_sw (sw_or (st_not (st_val (scu u_is_arrow hr (by omega) rfl (by kernel_rfl) rfl (sac (sv (i := 7) (by kernel_rfl)) rfl (sac (sv (i := 1) (by kernel_rfl)) rfl (sac (sv (i := 2) (by kernel_rfl)) rfl sa_nil)))) rfl (fun _ => rfl))) (sw_or (st_inD hu (sv (i := 7) (by kernel_rfl)) (sv (i := 5) (by kernel_rfl)) rfl) (sw_one (st_cmp (o := .ge) (sv (i := 6) (by kernel_rfl)) (sgl g_MOST_ARROWS (by kernel_rfl)) rfl hu rfl))))) (sss_cons (ss_raise1 (c := 11) (jf := 9) (jt := 3) (tg := ['I', 'n', 'v', 'a', 'l', 'i', 'd', 'A', 'r', 'r', 'o', 'w']) ue_InvalidArrow hr rfl rfl rfl rfl rfl (by kernel_rfl) (by decide) (by kernel_rfl) (sv (i := 6) (by kernel_rfl)) rfl)
    sss_nil) sss_nil)
    (sss_cons (ss_setSub (sv (i := 5) (by kernel_rfl)) (sv (i := 7) (by kernel_rfl)) se_bl hu1 (fun _ => rfl) rfl rfl)
    sss_nil)) (fun _ => rfl))
    (sss_cons (ss_fld (n := nmN) (j := 32) (cs := [31]) nok (by decide) fd_signs rfl (sv (i := 0) (by kernel_rfl)) (sv (i := 1) (by kernel_rfl)) rfl)
    (sss_cons (ss_fld (n := nmN) (j := 33) (cs := [31]) nok (by decide) fd_total rfl (sv (i := 0) (by kernel_rfl)) (sv (i := 2) (by kernel_rfl)) rfl)
    (sss_cons (ss_fld (n := nmN) (j := 34) (cs := [31]) nok (by decide) fd_goals rfl (sv (i := 0) (by kernel_rfl)) (scl (co_tuple rfl B.tuple) (by kernel_rfl) rfl (sac (se_sortSet rfl rfl (glB_ok (by kernel_rfl)).1 B.sorted (glB_ok (by kernel_rfl)).1 B.set rfl (se_comp rfl hN (si_val (sv (i := 3) (by kernel_rfl)) rfl) (own := [(("place" : Str), 8)]) (g := (.nm 8)) (by kernel_rfl) (by decide) (fun _ _ _ _ _ => (tgn (i := 8) hN (by kernel_rfl))) (fun _ _ _ _ _ => rfl) (fun _ _ _ _ _ => (sv (i := 8) (by kernel_rfl))) (fun _ => rfl))) rfl sa_nil)) rfl)
    (sss_cons (ss_fld (n := nmN) (j := 35) (cs := [31]) nok (by decide) fd_lines rfl (sv (i := 0) (by kernel_rfl)) (scl (co_tuple rfl B.tuple) (by kernel_rfl) rfl (sac (sv (i := 4) (by kernel_rfl)) rfl sa_nil)) rfl)
    (sss_cons (ss_fld (n := nmN) (j := 36) (cs := [31]) nok (by decide) fd_key rfl (sv (i := 0) (by kernel_rfl)) (se_tup (sac (sv (i := 1) (by kernel_rfl)) rfl (sac (sv (i := 2) (by kernel_rfl)) rfl (sac (se_fld (n := nmN) (j := 34) (cs := [31]) nok (by decide) fd_goals (sv (i := 0) (by kernel_rfl)) rfl rfl) rfl (sac (se_fld (n := nmN) (j := 35) (cs := [31]) nok (by decide) fd_lines (sv (i := 0) (by kernel_rfl)) rfl rfl) rfl sa_nil))))) rfl)
    sss_nil))))))))))
theorem k_Map__init_ {f : Addr} {fd : FuncData} (B : Bi mg) (g_MOST_ARROWS : GV (CK K T R) mg "MOST_ARROWS" c_MOST_ARROWS) (g_MOST_PLACES : GV (CK K T R) mg "MOST_PLACES" c_MOST_PLACES) (u_need_alphabet : UF (CK K T R) P w mg base 3 "need_alphabet" F_need_alphabet) (u_need_within : UF (CK K T R) P w mg base 3 "need_within" F_need_within) (u_is_within : UF (CK K T R) P w mg base 1 "is_within" F_is_within) (ue_InvalidEnds : UE (CK K T R) P w mg base 10 none "InvalidEnds") (u_is_arrow : UF (CK K T R) P w mg base 2 "is_arrow" F_is_arrow) (ue_InvalidArrow : UE (CK K T R) P w mg base 11 (some "index") "InvalidArrow") (fd_signs : ∀ c ∈ ([31] : List Nat), FldC (CK K T R) c 32) (fd_total : ∀ c ∈ ([31] : List Nat), FldC (CK K T R) c 33) (fd_goals : ∀ c ∈ ([31] : List Nat), FldC (CK K T R) c 34) (fd_lines : ∀ c ∈ ([31] : List Nat), FldC (CK K T R) c 35) (fd_key : ∀ c ∈ ([31] : List Nat), FldC (CK K T R) c 36) (D_ : FunD K "__init__" "Map.__init__" (defArgs st_Map__init_) (defBody st_Map__init_) (defScope st_Map__init_) [] [] f fd) : FnOk P w K mg base (L2.CX P w) 4 f fd ps_Map__init_ (spM (CK K T R) ps_Map__init_.length F_Map__init_) :=
  fn_M (C := CK K T R) D_ sc_Map__init_ m_Map__init_ fun cdv A outer s H E hr => b_Map__init_ B g_MOST_ARROWS g_MOST_PLACES u_need_alphabet u_need_within u_is_within ue_InvalidEnds u_is_arrow ue_InvalidArrow fd_signs fd_total fd_goals fd_lines fd_key hr
end
/-! ### Map.road -/
def st_Map_road : Stmt := ((clsS (top 25)).getD 14 (.Pass ⟨0, 0, 0, 0⟩))
abbrev N_Map_road : List Str := ["self", "word", "start", "layers", "sign", "goals", "found", "here", "at", "index", "place", "line"]
abbrev ps_Map_road : List Str := ["self", "word", "start"]
noncomputable def m_Map_road : MSs :=
  (.cons (.exp (.call F_need_within (.cons (.var 2) (.cons (.con (.int (0))) (.cons (.bin .sub (.attr (fldM [31] 33) (.var 0)) (.con (.int (1)))) .nil))))) (.cons (.exp (.call F_need_word (.cons (.attr (fldM [31] 32) (.var 0)) (.cons (.var 1) .nil)))) (.cons (.set (.nm 3) (.new (.cons (.comp false [10] (.nm 10) (.val (.attr (fldM [31] 34) (.var 0))) .no (.var 10)) .nil))) (.cons (.for_ (.nm 4) (.val (.call (un1 revSM) (.cons (.var 1) .nil))) (.cons (.set (.nm 5) (.idx (.var 3) (.neg (.con (.int (1)))))) (.cons (.exp (.meth isLst (un1m appendM) (.var 3) (.cons (.comp false [11] (.nm 11) (.val (.attr (fldM [31] 35) (.var 0))) (.yes (.and (.cmp .eq (.idx (.var 11) (.con (.int (1)))) (.var 4)) (.cmp .in_ (.idx (.var 11) (.con (.int (2)))) (.var 5)))) (.idx (.var 11) (.con (.int (0))))) .nil))) .nil))) (.cons (.ite (.cmp .nin (.var 2) (.idx (.var 3) (.neg (.con (.int (1)))))) (.cons (.ret (.con .non)) .nil) .nil) (.cons (.par 6 7 (.new .nil) (.var 2)) (.cons (.for_ (.tp [8, 4]) (.enm (.var 1)) (.cons (.set (.nm 5) (.idx (.var 3) (.bin .sub (.bin .sub (.call (un1 lenM) (.cons (.var 1) .nil)) (.con (.int (1)))) (.var 8)))) (.cons (.set (.nm 9) (.meth (isIns 31 39) (selfF F_Map_first_line) (.var 0) (.cons (.var 7) (.cons (.var 4) (.cons (.var 5) .nil))))) (.cons (.exp (.meth isLst (un1m appendM) (.var 6) (.cons (.var 9) .nil))) (.cons (.set (.nm 7) (.idx (.idx (.attr (fldM [31] 35) (.var 0)) (.var 9)) (.con (.int (2))))) .nil))))) (.cons (.ret (.call (un1 tupleM) (.cons (.var 6) .nil))) .nil))))))))
noncomputable def F_Map_road : List D → M D := runF 3 12 m_Map_road
theorem ne_Map_road : ∀ ds m, ds.length ≠ ps_Map_road.length → F_Map_road ds m = .stuck := runF_ne
theorem sc_Map_road : FnScope N_Map_road ps_Map_road (defScope st_Map_road) := ⟨rfl, rfl, rfl, by decide +kernel, rfl, by decide +kernel, by decide +kernel⟩
section
variable {K : PySem.W.Frag} {T : Nat → Addr × Str} {R : FR} {P : Program} {w : World} {mg : Str → Option Value} {base : Heap}
theorem b_Map_road (B : Bi mg) (u_need_within : UF (CK K T R) P w mg base 3 "need_within" F_need_within) (fd_total : ∀ c ∈ ([31] : List Nat), FldC (CK K T R) c 33) (u_need_word : UF (CK K T R) P w mg base 3 "need_word" F_need_word) (fd_signs : ∀ c ∈ ([31] : List Nat), FldC (CK K T R) c 32) (fd_goals : ∀ c ∈ ([31] : List Nat), FldC (CK K T R) c 34) (fd_lines : ∀ c ∈ ([31] : List Nat), FldC (CK K T R) c 35) (um_Map_first_line : UM (CK K T R) P w mg base 1 31 39 F_Map_first_line) {f : Addr} {cdv : Value} {A : Around} {outer : List PySem.Env} {s : Shared} {H : Hp} {E : XK} (hr : Room 3 (A.deeper (envOfC "Map.road" (defScope st_Map_road) s.heap.objs.size f cdv))) :
    SSs (CK K T R) (cxOf (L2.CX P w) P w K mg base N_Map_road "Map.road" (defScope st_Map_road) f cdv A outer s H E) (defBody st_Map_road) m_Map_road := by
  have hu := rm_u hr
  have hu1 := rm_u1 hr
  have hN := sc_Map_road.nd
  exact (sss_cons (ss_exp (scu u_need_within hr (by omega) rfl (by kernel_rfl) rfl (sac (sv (i := 2) (by kernel_rfl)) rfl (sac se_int rfl (sac (se_bin (o := .sub) (se_fld (n := nmN) (j := 33) (cs := [31]) nok (by decide) fd_total (sv (i := 0) (by kernel_rfl)) rfl rfl) se_int rfl) rfl sa_nil)))) rfl)
    (sss_cons (ss_exp (scu u_need_word hr (by omega) rfl (by kernel_rfl) rfl (sac (se_fld (n := nmN) (j := 32) (cs := [31]) nok (by decide) fd_signs (sv (i := 0) (by kernel_rfl)) rfl rfl) rfl (sac (sv (i := 1) (by kernel_rfl)) rfl sa_nil))) rfl)
    (sss_cons (sst (i := 3) hN (by kernel_rfl) (se_new (sac (se_comp rfl hN (si_val (se_fld (n := nmN) (j := 34) (cs := [31]) nok (by decide) fd_goals (sv (i := 0) (by kernel_rfl)) rfl rfl) rfl) (own := [(("place" : Str), 10)]) (g := (.nm 10)) (by kernel_rfl) (by decide) (fun _ _ _ _ _ => (tgn (i := 10) hN (by kernel_rfl))) (fun _ _ _ _ _ => rfl) (fun _ _ _ _ _ => (sv (i := 10) (by kernel_rfl))) (fun _ => rfl)) rfl sa_nil)) rfl)
    (sss_cons (ss_for (passes_of rfl) rfl (si_val (se_revS (sv (i := 1) (by kernel_rfl))) rfl) (tgn (i := 4) hN (by kernel_rfl)) (sss_cons (sst (i := 5) hN (by kernel_rfl) (se_idx (sv (i := 3) (by kernel_rfl)) (se_neg se_int) rfl hu (fun _ _ => rfl)) rfl)
    (sss_cons (ss_exp (se_append (sv (i := 3) (by kernel_rfl)) (se_comp rfl hN (si_val (se_fld (n := nmN) (j := 35) (cs := [31]) nok (by decide) fd_lines (sv (i := 0) (by kernel_rfl)) rfl rfl) rfl) (own := [(("line" : Str), 11)]) (g := (.nm 11)) (by kernel_rfl) (by decide) (fun _ _ _ _ _ => (tgn (i := 11) hN (by kernel_rfl))) (fun _ _ _ _ _ => ⟨_, rfl, (st_sw (sw_and (st_cmp (o := .eq) (se_idx (sv (i := 11) (by kernel_rfl)) se_int rfl hu (fun _ _ => rfl)) (sv (i := 4) (by kernel_rfl)) rfl hu rfl) (sw_one (st_cmp (o := .in_) (se_idx (sv (i := 11) (by kernel_rfl)) se_int rfl hu (fun _ _ => rfl)) (sv (i := 5) (by kernel_rfl)) rfl hu rfl))))⟩) (fun _ _ _ _ _ => (se_idx (sv (i := 11) (by kernel_rfl)) se_int rfl hu (fun _ _ => rfl))) (fun _ => rfl)) rfl rfl rfl rfl) rfl)
    sss_nil)) (fun _ => rfl))
    (sss_cons (ss_if (st_cmp (o := .nin) (sv (i := 2) (by kernel_rfl)) (se_idx (sv (i := 3) (by kernel_rfl)) (se_neg se_int) rfl hu (fun _ _ => rfl)) rfl hu rfl) (sss_cons (ss_ret se_non)
    sss_nil) sss_nil)
    (sss_cons (ss_par (i := 6) (j := 7) rfl hN (by kernel_rfl) (by kernel_rfl) (by decide) (by kernel_rfl) (by kernel_rfl) (se_new sa_nil) (sv (i := 2) (by kernel_rfl)) (star_cons rfl) (star_cons rfl) rfl rfl)
    (sss_cons (ss_for (passes_of rfl) rfl (ien B.enumerate rfl (by kernel_rfl) rfl (sv (i := 1) (by kernel_rfl))) (sg_tp hN rfl rfl (nmc (i := 8) (by kernel_rfl) (nmc (i := 4) (by kernel_rfl) .nil))) (sss_cons (sst (i := 5) hN (by kernel_rfl) (se_idx (sv (i := 3) (by kernel_rfl)) (se_bin (o := .sub) (se_bin (o := .sub) (scl (co_len rfl B.len) (by kernel_rfl) rfl (sac (sv (i := 1) (by kernel_rfl)) rfl sa_nil)) se_int rfl) (sv (i := 8) (by kernel_rfl)) rfl) rfl hu (fun _ _ => rfl)) rfl)
    (sss_cons (sst (i := 9) hN (by kernel_rfl) (se_meth (n := nmN) (c := 31) (j := 39) um_Map_first_line hr (by omega) nok (by decide) rfl rfl (sv (i := 0) (by kernel_rfl)) (sac (sv (i := 7) (by kernel_rfl)) rfl (sac (sv (i := 4) (by kernel_rfl)) rfl (sac (sv (i := 5) (by kernel_rfl)) rfl sa_nil))) rfl) rfl)
    (sss_cons (ss_exp (se_append (sv (i := 6) (by kernel_rfl)) (sv (i := 9) (by kernel_rfl)) rfl rfl rfl rfl) rfl)
    (sss_cons (sst (i := 7) hN (by kernel_rfl) (se_idx (se_idx (se_fld (n := nmN) (j := 35) (cs := [31]) nok (by decide) fd_lines (sv (i := 0) (by kernel_rfl)) rfl rfl) (sv (i := 9) (by kernel_rfl)) rfl hu (fun _ _ => rfl)) se_int rfl hu (fun _ _ => rfl)) rfl)
    sss_nil)))) (fun _ => rfl))
    (sss_cons (ss_ret (scl (co_tuple rfl B.tuple) (by kernel_rfl) rfl (sac (sv (i := 6) (by kernel_rfl)) rfl sa_nil)))
    sss_nil))))))))
theorem k_Map_road {f : Addr} {fd : FuncData} (B : Bi mg) (u_need_within : UF (CK K T R) P w mg base 3 "need_within" F_need_within) (fd_total : ∀ c ∈ ([31] : List Nat), FldC (CK K T R) c 33) (u_need_word : UF (CK K T R) P w mg base 3 "need_word" F_need_word) (fd_signs : ∀ c ∈ ([31] : List Nat), FldC (CK K T R) c 32) (fd_goals : ∀ c ∈ ([31] : List Nat), FldC (CK K T R) c 34) (fd_lines : ∀ c ∈ ([31] : List Nat), FldC (CK K T R) c 35) (um_Map_first_line : UM (CK K T R) P w mg base 1 31 39 F_Map_first_line) (D_ : FunD K "road" "Map.road" (defArgs st_Map_road) (defBody st_Map_road) (defScope st_Map_road) [] [("start", .int (0))] f fd) : FnOk P w K mg base (L2.CX P w) 4 f fd ps_Map_road (spM (CK K T R) ps_Map_road.length F_Map_road) :=
  fn_M (C := CK K T R) D_ sc_Map_road m_Map_road fun cdv A outer s H E hr => b_Map_road B u_need_within fd_total u_need_word fd_signs fd_goals fd_lines um_Map_first_line hr
end
/-! ### _law_made -/
def st_law_made : Stmt := (top 37)
abbrev N_law_made : List Str := ["_law_model"]
abbrev ps_law_made : List Str := ["_law_model"]
noncomputable def m_law_made : MSs :=
  (.cons (.ret (.frz (.call (makeM 31 F_Map__init_) (.cons (.idx (.var 0) (.con (.int (0)))) (.cons (.idx (.var 0) (.con (.int (1)))) (.cons (.idx (.var 0) (.con (.int (2)))) (.cons (.idx (.var 0) (.con (.int (3)))) .nil))))))) .nil)
noncomputable def F_law_made : List D → M D := runF 1 1 m_law_made
theorem ne_law_made : ∀ ds m, ds.length ≠ ps_law_made.length → F_law_made ds m = .stuck := runF_ne
theorem sc_law_made : FnScope N_law_made ps_law_made (defScope st_law_made) := ⟨rfl, rfl, rfl, by decide +kernel, rfl, by decide +kernel, by decide +kernel⟩
section
variable {K : PySem.W.Frag} {T : Nat → Addr × Str} {R : FR} {P : Program} {w : World} {mg : Str → Option Value} {base : Heap}
theorem b_law_made (B : Bi mg) (uk_Map : UK (CK K T R) P w mg base 4 31 F_Map__init_) {f : Addr} {cdv : Value} {A : Around} {outer : List PySem.Env} {s : Shared} {H : Hp} {E : XK} (hr : Room 5 (A.deeper (envOfC "_law_made" (defScope st_law_made) s.heap.objs.size f cdv))) :
    SSs (CK K T R) (cxOf (L2.CX P w) P w K mg base N_law_made "_law_made" (defScope st_law_made) f cdv A outer s H E) (defBody st_law_made) m_law_made := by
  have hu := rm_u hr
  have hu1 := rm_u1 hr
  have hN := sc_law_made.nd
  exact (sss_cons (ss_ret (se_frz (scl (callOk_K (c := 31) uk_Map rfl hr (by omega) (by kernel_rfl)) (by kernel_rfl) rfl (sac (se_idx (sv (i := 0) (by kernel_rfl)) se_int rfl hu (fun _ _ => rfl)) rfl (sac (se_idx (sv (i := 0) (by kernel_rfl)) se_int rfl hu (fun _ _ => rfl)) rfl (sac (se_idx (sv (i := 0) (by kernel_rfl)) se_int rfl hu (fun _ _ => rfl)) rfl (sac (se_idx (sv (i := 0) (by kernel_rfl)) se_int rfl hu (fun _ _ => rfl)) rfl sa_nil)))))))
    sss_nil)
theorem k_law_made {f : Addr} {fd : FuncData} (B : Bi mg) (uk_Map : UK (CK K T R) P w mg base 4 31 F_Map__init_) (D_ : FunD K "_law_made" "_law_made" (defArgs st_law_made) (defBody st_law_made) (defScope st_law_made) [] [] f fd) : FnOk P w K mg base (L2.CX P w) 6 f fd ps_law_made (spM (CK K T R) ps_law_made.length F_law_made) :=
  fn_M (C := CK K T R) D_ sc_law_made m_law_made fun cdv A outer s H E hr => b_law_made B uk_Map hr
end
/-! ### _law_same -/
def st_law_same : Stmt := (top 30)
abbrev N_law_same : List Str := ["_law_found", "_law_due", "_law_one", "_law_other"]
abbrev ps_law_same : List Str := ["_law_found", "_law_due"]
noncomputable def m_law_same (R_law_same : List D → M D) : MSs :=
  (.cons (.ite (.or (.val (.call (un1 (isiM cls .list)) (.cons (.var 1) .nil))) (.val (.call (un1 (isiM cls .tuple)) (.cons (.var 1) .nil)))) (.cons (.ite (.or (.cmp .ne (.call (un1 (isiM cls .list)) (.cons (.var 0) .nil)) (.call (un1 (isiM cls .list)) (.cons (.var 1) .nil))) (.cmp .ne (.call (un1 (isiM cls .tuple)) (.cons (.var 0) .nil)) (.call (un1 (isiM cls .tuple)) (.cons (.var 1) .nil)))) (.cons (.ret (.con (.bl false))) .nil) .nil) (.cons (.ret (.and (.cmp .eq (.call (un1 lenM) (.cons (.var 0) .nil)) (.call (un1 lenM) (.cons (.var 1) .nil))) (.call (un1 allM) (.cons (.comp false [2, 3] (.tp [2, 3]) (.zip (.var 0) (.var 1)) .no (.call R_law_same (.cons (.var 2) (.cons (.var 3) .nil)))) .nil)))) .nil)) .nil) (.cons (.ite (.or (.cmp .is (.var 1) (.con .non)) (.cmp .is (.var 0) (.con .non))) (.cons (.ret (.and (.cmp .is (.var 1) (.con .non)) (.cmp .is (.var 0) (.con .non)))) .nil) .nil) (.cons (.ite (.or (.cmp .ne (.call (un1 (isiM cls .bool)) (.cons (.var 0) .nil)) (.call (un1 (isiM cls .bool)) (.cons (.var 1) .nil))) (.cmp .ne (.call (un1 (isiM cls .int)) (.cons (.var 0) .nil)) (.call (un1 (isiM cls .int)) (.cons (.var 1) .nil)))) (.cons (.ret (.con (.bl false))) .nil) .nil) (.cons (.ret (.and (.cmp .eq (.call (un1 (isiM cls .str)) (.cons (.var 0) .nil)) (.call (un1 (isiM cls .str)) (.cons (.var 1) .nil))) (.cmp .eq (.var 0) (.var 1)))) .nil))))
noncomputable def FF_law_same : Nat → List D → M D
  | 0 => fun _ => stuckM
  | n + 1 => runF 2 4 (m_law_same (FF_law_same n))
noncomputable def F_law_same : List D → M D := FF_law_same 6
theorem ne_law_same : ∀ ds m, ds.length ≠ ps_law_same.length → F_law_same ds m = .stuck := runF_ne
theorem sc_law_same : FnScope N_law_same ps_law_same (defScope st_law_same) := ⟨rfl, rfl, rfl, by decide +kernel, rfl, by decide +kernel, by decide +kernel⟩
section
variable {K : PySem.W.Frag} {T : Nat → Addr × Str} {R : FR} {P : Program} {w : World} {mg : Str → Option Value} {base : Heap}
theorem b_law_same {k : Nat} (hk : 0 ≤ k) {R_law_same : List D → M D} (B : Bi mg) (hcls : ∀ c ∈ cls, ClsI (CK K T R) c) (u_law_same : UF (CK K T R) P w mg base k "_law_same" R_law_same) {f : Addr} {cdv : Value} {A : Around} {outer : List PySem.Env} {s : Shared} {H : Hp} {E : XK} (hr : Room k (A.deeper (envOfC "_law_same" (defScope st_law_same) s.heap.objs.size f cdv))) :
    SSs (CK K T R) (cxOf (L2.CX P w) P w K mg base N_law_same "_law_same" (defScope st_law_same) f cdv A outer s H E) (defBody st_law_same) (m_law_same R_law_same) := by
  have hu := rm_u hr
  have hu1 := rm_u1 hr
  have hN := sc_law_same.nd
  exact (sss_cons (ss_if (st_sw (sw_or (st_val (sis (T := .list) hcls B.isinstance B.list boot_list rfl (by kernel_rfl) rfl (sv (i := 1) (by kernel_rfl))) rfl (fun _ => rfl)) (sw_one (st_val (sis (T := .tuple) hcls B.isinstance B.tuple boot_tuple rfl (by kernel_rfl) rfl (sv (i := 1) (by kernel_rfl))) rfl (fun _ => rfl))))) (sss_cons (ss_if (st_sw (sw_or (st_cmp (o := .ne) (sis (T := .list) hcls B.isinstance B.list boot_list rfl (by kernel_rfl) rfl (sv (i := 0) (by kernel_rfl))) (sis (T := .list) hcls B.isinstance B.list boot_list rfl (by kernel_rfl) rfl (sv (i := 1) (by kernel_rfl))) rfl hu rfl) (sw_one (st_cmp (o := .ne) (sis (T := .tuple) hcls B.isinstance B.tuple boot_tuple rfl (by kernel_rfl) rfl (sv (i := 0) (by kernel_rfl))) (sis (T := .tuple) hcls B.isinstance B.tuple boot_tuple rfl (by kernel_rfl) rfl (sv (i := 1) (by kernel_rfl))) rfl hu rfl)))) (sss_cons (ss_ret se_bl)
    sss_nil) sss_nil)
    (sss_cons (ss_ret (se_and (se_cmp (o := .eq) (scl (co_len rfl B.len) (by kernel_rfl) rfl (sac (sv (i := 0) (by kernel_rfl)) rfl sa_nil)) (scl (co_len rfl B.len) (by kernel_rfl) rfl (sac (sv (i := 1) (by kernel_rfl)) rfl sa_nil)) rfl hu rfl) (se_one (scl (co_all rfl rfl B.all) (by kernel_rfl) rfl (sac (se_comp rfl hN (izp B.zip rfl (by kernel_rfl) rfl rfl (sv (i := 0) (by kernel_rfl)) (sv (i := 1) (by kernel_rfl))) (own := [(("_law_one" : Str), 2), (("_law_other" : Str), 3)]) (g := (.tp [2, 3])) (by kernel_rfl) (by decide) (fun _ _ _ _ _ => (sg_tp hN rfl rfl (nmc (i := 2) (by kernel_rfl) (nmc (i := 3) (by kernel_rfl) .nil)))) (fun _ _ _ _ _ => rfl) (fun _ _ _ _ _ => (scu u_law_same hr (by omega) rfl (by kernel_rfl) rfl (sac (sv (i := 2) (by kernel_rfl)) rfl (sac (sv (i := 3) (by kernel_rfl)) rfl sa_nil)))) (fun _ => rfl)) rfl sa_nil)))))
    sss_nil)) sss_nil)
    (sss_cons (ss_if (st_sw (sw_or (st_cmp (o := .is) (sv (i := 1) (by kernel_rfl)) se_non rfl hu rfl) (sw_one (st_cmp (o := .is) (sv (i := 0) (by kernel_rfl)) se_non rfl hu rfl)))) (sss_cons (ss_ret (se_and (se_cmp (o := .is) (sv (i := 1) (by kernel_rfl)) se_non rfl hu rfl) (se_one (se_cmp (o := .is) (sv (i := 0) (by kernel_rfl)) se_non rfl hu rfl))))
    sss_nil) sss_nil)
    (sss_cons (ss_if (st_sw (sw_or (st_cmp (o := .ne) (sis (T := .bool) hcls B.isinstance B.bool boot_bool rfl (by kernel_rfl) rfl (sv (i := 0) (by kernel_rfl))) (sis (T := .bool) hcls B.isinstance B.bool boot_bool rfl (by kernel_rfl) rfl (sv (i := 1) (by kernel_rfl))) rfl hu rfl) (sw_one (st_cmp (o := .ne) (sis (T := .int) hcls B.isinstance B.int boot_int rfl (by kernel_rfl) rfl (sv (i := 0) (by kernel_rfl))) (sis (T := .int) hcls B.isinstance B.int boot_int rfl (by kernel_rfl) rfl (sv (i := 1) (by kernel_rfl))) rfl hu rfl)))) (sss_cons (ss_ret se_bl)
    sss_nil) sss_nil)
    (sss_cons (ss_ret (se_and (se_cmp (o := .eq) (sis (T := .str) hcls B.isinstance B.str boot_str rfl (by kernel_rfl) rfl (sv (i := 0) (by kernel_rfl))) (sis (T := .str) hcls B.isinstance B.str boot_str rfl (by kernel_rfl) rfl (sv (i := 1) (by kernel_rfl))) rfl hu rfl) (se_one (se_cmp (o := .eq) (sv (i := 0) (by kernel_rfl)) (sv (i := 1) (by kernel_rfl)) rfl hu rfl))))
    sss_nil))))
theorem kk_law_same {f : Addr} {fd : FuncData} (B : Bi mg) (hcls : ∀ c ∈ cls, ClsI (CK K T R) c) (D_ : FunD K "_law_same" "_law_same" (defArgs st_law_same) (defBody st_law_same) (defScope st_law_same) [] [] f fd) (hg : mg "_law_same" = some (.ref f)) (bd : Binds K fd ps_law_same []) : ∀ n : Nat, FnOk P w K mg base (L2.CX P w) (0 + n) f fd ps_law_same (spM (CK K T R) ps_law_same.length (FF_law_same n)) ∧ ∀ ds m, ds.length ≠ ps_law_same.length → FF_law_same n ds m = .stuck
  | 0 => ⟨fn_stuckM (C := CK K T R), fun _ _ _ => rfl⟩
  | n + 1 => by
    obtain ⟨n_, ne⟩ := kk_law_same B hcls D_ hg bd n
    exact ⟨fn_M (C := CK K T R) D_ sc_law_same (m_law_same (FF_law_same n)) fun cdv A outer s H E hr => b_law_same (by omega) B hcls ⟨f, fd, ps_law_same, n_, hg, D_.kp, bd,  ne⟩ hr, runF_ne⟩
theorem k_law_same {f : Addr} {fd : FuncData} (B : Bi mg) (hcls : ∀ c ∈ cls, ClsI (CK K T R) c) (D_ : FunD K "_law_same" "_law_same" (defArgs st_law_same) (defBody st_law_same) (defScope st_law_same) [] [] f fd) (hg : mg "_law_same" = some (.ref f)) (bd : Binds K fd ps_law_same []) : FnOk P w K mg base (L2.CX P w) 6 f fd ps_law_same (spM (CK K T R) ps_law_same.length F_law_same) := (kk_law_same B hcls D_ hg bd 6).1
end
/-! ### law -/
def st_law : Stmt := (top 39)
abbrev N_law : List Str := ["_law_script", "_law_bag_here", "_law_turn", "_law_model", "_law_word", "_law_start_z", "_law_asks", "_law_twice", "_law_chart", "_law_far", "_law_odd", "_law_k", "_law_ask"]
abbrev ps_law : List Str := ["_law_script"]
def l0_law : LamI := lamAt (defBody st_law) [(1, 0)] 4 0 [0]
def l1_law : LamI := lamAt (defBody st_law) [(1, 0)] 4 0 [1]
abbrev ls_law : List LamI := [l0_law, l1_law]
noncomputable def bs_law : MEs := (.cons (.meth (isIns 31 51) (selfK 1 1 (fun ds es => sel [0, 1, 2] (ds ++ es)) F_Map_road) (.var 8) (MEs.app (.cons (.var 10) .nil) (.cons (.var 9) .nil))) (.cons (.meth (isIns 31 51) (selfK 1 0 (fun ds es => sel [0, 1, 2] (ds ++ .int (0) :: es)) F_Map_road) (.var 8) (MEs.app (.cons (.var 10) .nil) .nil)) .nil))
noncomputable def m_law : MSs :=
  (.cons (.set (.nm 1) (.call F_law_bag (.cons (.var 0) .nil))) (.cons (.for_ (.nm 2) (.rng1 (.con (.int (8)))) (.cons (.set (.nm 3) (.call F_law_map (.cons (.var 1) (.cons (.con (.int (5))) (.cons (.con (.int (14))) .nil))))) (.cons (.set (.nm 8) (.call F_law_made (.cons (.var 3) .nil))) (.cons (.for_ (.nm 4) (.val (.bin .add (.comp false [11] (.nm 11) (.rng1 (.con (.int (6)))) .no (.call F_law_text (.cons (.var 1) (.cons (.idx (.var 3) (.con (.int (0)))) (.cons (.con (.int (6))) .nil))))) (.lst (.cons (.con (.str [])) .nil)))) (.cons (.set (.nm 5) (.call F_law_pull (.cons (.var 1) (.cons (.idx (.var 3) (.con (.int (1)))) .nil)))) (.cons (.ite (.not (.val (.call F_law_same (.cons (.lst (.cons (.meth (isIns 31 51) (selfK 1 0 (fun ds es => sel [0, 1, 2] (ds ++ .int (0) :: es)) F_Map_road) (.var 8) (MEs.app (.cons (.var 4) .nil) .nil)) (.cons (.meth (isIns 31 51) (selfK 1 1 (fun ds es => sel [0, 1, 2] (ds ++ es)) F_Map_road) (.var 8) (MEs.app (.cons (.var 4) .nil) (.cons (.var 5) .nil))) .nil))) (.cons (.lst (.cons (.call F_law_road (.cons (.var 3) (.cons (.var 4) (.cons (.con (.int (0))) .nil)))) (.cons (.call F_law_road (.cons (.var 3) (.cons (.var 4) (.cons (.var 5) .nil)))) .nil))) .nil))))) (.cons (.ret (.con (.bl false))) .nil) .nil) .nil))) (.cons (.set (.tp [9, 10]) (.tup (.cons (.call F_law_of (.cons (.var 1) (.cons (.lst (.cons (.idx (.var 3) (.con (.int (1)))) (.cons (.neg (.con (.int (1)))) (.cons (.con (.bl true)) (.cons (.con .non) .nil))))) .nil))) (.cons (.call F_law_of (.cons (.var 1) (.cons (.lst (.cons (.con (.str ['z'])) (.cons (.con (.str ['A'])) (.cons (.con .non) (.cons (.con (.int (3))) .nil))))) .nil))) .nil)))) (.cons (.set (.nm 6) (.lst (.cons (.call (fnM 0 0) .nil) (.cons (.call (fnM 0 1) .nil) .nil)))) (.cons (.ite (.not (.val (.call F_law_same (.cons (.comp false [12] (.nm 12) (.val (.var 6)) .no (.fnx (tryG0 hkL) bs_law (.var 12))) (.cons (.lst (.cons (.tup (.cons (.con (.str ['I', 'n', 'v', 'a', 'l', 'i', 'd', 'C', 'o', 'u', 'n', 't'])) (.cons (.var 9) .nil))) (.cons (.tup (.cons (.con (.str ['I', 'n', 'v', 'a', 'l', 'i', 'd', 'W', 'o', 'r', 'd'])) (.cons (.var 10) .nil))) .nil))) .nil))))) (.cons (.ret (.con (.bl false))) .nil) .nil) .nil))))))) (.cons (.set (.nm 7) (.frz (.call (makeM 31 F_Map__init_) (.cons (.con (.str ['a'])) (.cons (.con (.int (2))) (.cons (.lst (.cons (.con (.int (1))) .nil)) (.cons (.lst (.cons (.tup (.cons (.con (.int (0))) (.cons (.con (.str ['a'])) (.cons (.con (.int (0))) (.cons (.con (.str ['x'])) .nil))))) (.cons (.tup (.cons (.con (.int (0))) (.cons (.con (.str ['a'])) (.cons (.con (.int (1))) (.cons (.con (.str [])) .nil))))) (.cons (.tup (.cons (.con (.int (0))) (.cons (.con (.str ['a'])) (.cons (.con (.int (1))) (.cons (.con (.str ['y'])) .nil))))) .nil)))) .nil))))))) (.cons (.ret (.cmp .eq (.lst (.cons (.meth (isIns 31 51) (selfK 1 0 (fun ds es => sel [0, 1, 2] (ds ++ .int (0) :: es)) F_Map_road) (.var 7) (MEs.app (.cons (.con (.str ['a'])) .nil) .nil)) (.cons (.meth (isIns 31 51) (selfK 1 0 (fun ds es => sel [0, 1, 2] (ds ++ .int (0) :: es)) F_Map_road) (.var 7) (MEs.app (.cons (.con (.str ['a', 'a'])) .nil) .nil)) (.cons (.meth (isIns 31 51) (selfK 1 0 (fun ds es => sel [0, 1, 2] (ds ++ .int (0) :: es)) F_Map_road) (.var 7) (MEs.app (.cons (.con (.str [])) .nil) .nil)) (.cons (.meth (isIns 31 51) (selfK 1 1 (fun ds es => sel [0, 1, 2] (ds ++ es)) F_Map_road) (.var 7) (MEs.app (.cons (.con (.str [])) .nil) (.cons (.con (.int (1))) .nil))) .nil))))) (.lst (.cons (.tup (.cons (.con (.int (1))) .nil)) (.cons (.tup (.cons (.con (.int (0))) (.cons (.con (.int (1))) .nil))) (.cons (.con .non) (.cons (.tup .nil) .nil))))))) .nil))))
noncomputable def F_law : List D → M D := runF 1 13 m_law
theorem ne_law : ∀ ds m, ds.length ≠ ps_law.length → F_law ds m = .stuck := runF_ne
theorem sc_law : FnScope N_law ps_law (defScope st_law) := ⟨rfl, rfl, rfl, by decide +kernel, rfl, by decide +kernel, by decide +kernel⟩
section
variable {K : PySem.W.Frag} {T : Nat → Addr × Str} {R : FR} {P : Program} {w : World} {mg : Str → Option Value} {base : Heap}
theorem b_law (B : Bi mg) (u_law_bag : ∀ R, UF (CK K T R) P w mg base 1 "_law_bag" F_law_bag) (u_law_map : ∀ R, UF (CK K T R) P w mg base 4 "_law_map" F_law_map) (u_law_made : ∀ R, UF (CK K T R) P w mg base 6 "_law_made" F_law_made) (u_law_text : ∀ R, UF (CK K T R) P w mg base 3 "_law_text" F_law_text) (u_law_pull : ∀ R, UF (CK K T R) P w mg base 1 "_law_pull" F_law_pull) (u_law_same : ∀ R, UF (CK K T R) P w mg base 6 "_law_same" F_law_same) (uw_Map_road_1_ : ∀ R, UMK (CK K T R) P w mg base 4 31 51 1 [] (fun ds es => sel [0, 1, 2] (ds ++ .int (0) :: es)) F_Map_road) (uw_Map_road_1_start : ∀ R, UMK (CK K T R) P w mg base 4 31 51 1 ["start"] (fun ds es => sel [0, 1, 2] (ds ++ es)) F_Map_road) (u_law_road : ∀ R, UF (CK K T R) P w mg base 1 "_law_road" F_law_road) (u_law_of : ∀ R, UF (CK K T R) P w mg base 2 "_law_of" F_law_of) (hTry : ∀ R, TryD (CK K T R) P w mg base 6 nmN hkL) (uk_Map : ∀ R, UK (CK K T R) P w mg base 4 31 F_Map__init_) {c_ P_ : Addr} (TB : LamX.TabB base mg c_ P_) (hj : T 0 = (P_, ("law" : Str) ++ ".<locals>." ++ "<lambda>")) {f : Addr} {A : Around} {outer : List PySem.Env} {s : Shared} {H : Hp} {E : XK} (hr : Room 9 (A.deeper (envOfC "law" (defScope st_law) s.heap.objs.size f (.ref c_)))) :
    SSs (CK K T (FR.lam ls_law (("law" : Str) ++ ".<locals>." ++ "<lambda>") (celL "law" (defScope st_law) s.heap.objs.size f (.ref c_)))) (cxOf (L2.CX P w) P w K mg base N_law "law" (defScope st_law) f (.ref c_) A outer s H E) (defBody st_law) m_law := by
  have hu := rm_u hr
  have hu1 := rm_u1 hr
  have hN := sc_law.nd
  replace u_law_bag := u_law_bag (FR.lam ls_law (("law" : Str) ++ ".<locals>." ++ "<lambda>") (celL "law" (defScope st_law) s.heap.objs.size f (.ref c_)))
  replace u_law_map := u_law_map (FR.lam ls_law (("law" : Str) ++ ".<locals>." ++ "<lambda>") (celL "law" (defScope st_law) s.heap.objs.size f (.ref c_)))
  replace u_law_made := u_law_made (FR.lam ls_law (("law" : Str) ++ ".<locals>." ++ "<lambda>") (celL "law" (defScope st_law) s.heap.objs.size f (.ref c_)))
  replace u_law_text := u_law_text (FR.lam ls_law (("law" : Str) ++ ".<locals>." ++ "<lambda>") (celL "law" (defScope st_law) s.heap.objs.size f (.ref c_)))
  replace u_law_pull := u_law_pull (FR.lam ls_law (("law" : Str) ++ ".<locals>." ++ "<lambda>") (celL "law" (defScope st_law) s.heap.objs.size f (.ref c_)))
  replace u_law_same := u_law_same (FR.lam ls_law (("law" : Str) ++ ".<locals>." ++ "<lambda>") (celL "law" (defScope st_law) s.heap.objs.size f (.ref c_)))
  replace uw_Map_road_1_ := uw_Map_road_1_ (FR.lam ls_law (("law" : Str) ++ ".<locals>." ++ "<lambda>") (celL "law" (defScope st_law) s.heap.objs.size f (.ref c_)))
  replace uw_Map_road_1_start := uw_Map_road_1_start (FR.lam ls_law (("law" : Str) ++ ".<locals>." ++ "<lambda>") (celL "law" (defScope st_law) s.heap.objs.size f (.ref c_)))
  replace u_law_road := u_law_road (FR.lam ls_law (("law" : Str) ++ ".<locals>." ++ "<lambda>") (celL "law" (defScope st_law) s.heap.objs.size f (.ref c_)))
  replace u_law_of := u_law_of (FR.lam ls_law (("law" : Str) ++ ".<locals>." ++ "<lambda>") (celL "law" (defScope st_law) s.heap.objs.size f (.ref c_)))
  replace hTry := hTry (FR.lam ls_law (("law" : Str) ++ ".<locals>." ++ "<lambda>") (celL "law" (defScope st_law) s.heap.objs.size f (.ref c_)))
  replace uk_Map := uk_Map (FR.lam ls_law (("law" : Str) ++ ".<locals>." ++ "<lambda>") (celL "law" (defScope st_law) s.heap.objs.size f (.ref c_)))
  have lok : LamsOk (CK K T (FR.lam ls_law (("law" : Str) ++ ".<locals>." ++ "<lambda>") (celL "law" (defScope st_law) s.heap.objs.size f (.ref c_)))) (cxOf (L2.CX P w) P w K mg base N_law "law" (defScope st_law) f (.ref c_) A outer s H E) 7 ls_law bs_law := (.cons (lamN_by (by kernel_rfl)) (.inl ⟨rfl, fun _ _ _ _ _ _ => rfl⟩) (fun A outer s H E f c hr => by
      have hu := rm_u hr
      have hu1 := rm_u1 hr
      exact (se_methK (N := nmN) (c := 31) (j := 51) (n := 1) (ks := ["start"]) uw_Map_road_1_start hr (by omega) nok (by decide) rfl (sv (i := 8) (by kernel_rfl)) (sac (sv (i := 10) (by kernel_rfl)) rfl sa_nil) (sk_cons (sv (i := 9) (by kernel_rfl)) sk_nil) rfl (fun h => by first | rfl | cases h) rfl rfl rfl rfl rfl)) (.cons (lamN_by (by kernel_rfl)) (.inr ⟨rfl, "_law_a", rfl, fun _ _ _ _ _ _ _ _ => ⟨_, rfl, rfl⟩⟩) (fun A outer s H E f c hr => by
      have hu := rm_u hr
      have hu1 := rm_u1 hr
      exact (se_methK (N := nmN) (c := 31) (j := 51) (n := 1) (ks := []) uw_Map_road_1_ hr (by omega) nok (by decide) rfl (sv (i := 8) (by kernel_rfl)) (sac (sv (i := 10) (by kernel_rfl)) rfl sa_nil) sk_nil rfl (fun h => by first | rfl | cases h) rfl rfl rfl rfl rfl)) .nil))
  exact (sss_cons (sst (i := 1) hN (by kernel_rfl) (scu u_law_bag hr (by omega) rfl (by kernel_rfl) rfl (sac (sv (i := 0) (by kernel_rfl)) rfl sa_nil)) rfl)
    (sss_cons (ss_for (passes_of rfl) rfl (ir1 B.range (by kernel_rfl) rfl se_int) (tgn (i := 2) hN (by kernel_rfl)) (sss_cons (sst (i := 3) hN (by kernel_rfl) (scu u_law_map hr (by omega) rfl (by kernel_rfl) rfl (sac (sv (i := 1) (by kernel_rfl)) rfl (sac se_int rfl (sac se_int rfl sa_nil)))) rfl)
    (sss_cons (sst (i := 8) hN (by kernel_rfl) (scu u_law_made hr (by omega) rfl (by kernel_rfl) rfl (sac (sv (i := 3) (by kernel_rfl)) rfl sa_nil)) rfl)
    (sss_cons (ss_for (passes_of rfl) rfl (si_val (se_bin (o := .add) (se_comp rfl hN (ir1 B.range (by kernel_rfl) rfl se_int) (own := [(("_law_k" : Str), 11)]) (g := (.nm 11)) (by kernel_rfl) (by decide) (fun _ _ _ _ _ => (tgn (i := 11) hN (by kernel_rfl))) (fun _ _ _ _ _ => rfl) (fun _ _ _ _ _ => (scu u_law_text hr (by omega) rfl (by kernel_rfl) rfl (sac (sv (i := 1) (by kernel_rfl)) rfl (sac (se_idx (sv (i := 3) (by kernel_rfl)) se_int rfl hu (fun _ _ => rfl)) rfl (sac se_int rfl sa_nil))))) (fun _ => rfl)) (se_lst (sac (se_str (by kernel_rfl) (by decide)) rfl sa_nil)) rfl) rfl) (tgn (i := 4) hN (by kernel_rfl)) (sss_cons (sst (i := 5) hN (by kernel_rfl) (scu u_law_pull hr (by omega) rfl (by kernel_rfl) rfl (sac (sv (i := 1) (by kernel_rfl)) rfl (sac (se_idx (sv (i := 3) (by kernel_rfl)) se_int rfl hu (fun _ _ => rfl)) rfl sa_nil))) rfl)
    (sss_cons (ss_if (st_not (st_val (scu u_law_same hr (by omega) rfl (by kernel_rfl) rfl (sac (se_lst (sac (se_methK (N := nmN) (c := 31) (j := 51) (n := 1) (ks := []) uw_Map_road_1_ hr (by omega) nok (by decide) rfl (sv (i := 8) (by kernel_rfl)) (sac (sv (i := 4) (by kernel_rfl)) rfl sa_nil) sk_nil rfl (fun h => by first | rfl | cases h) rfl rfl rfl rfl rfl) rfl (sac (se_methK (N := nmN) (c := 31) (j := 51) (n := 1) (ks := ["start"]) uw_Map_road_1_start hr (by omega) nok (by decide) rfl (sv (i := 8) (by kernel_rfl)) (sac (sv (i := 4) (by kernel_rfl)) rfl sa_nil) (sk_cons (sv (i := 5) (by kernel_rfl)) sk_nil) rfl (fun h => by first | rfl | cases h) rfl rfl rfl rfl rfl) rfl sa_nil))) rfl (sac (se_lst (sac (scu u_law_road hr (by omega) rfl (by kernel_rfl) rfl (sac (sv (i := 3) (by kernel_rfl)) rfl (sac (sv (i := 4) (by kernel_rfl)) rfl (sac se_int rfl sa_nil)))) rfl (sac (scu u_law_road hr (by omega) rfl (by kernel_rfl) rfl (sac (sv (i := 3) (by kernel_rfl)) rfl (sac (sv (i := 4) (by kernel_rfl)) rfl (sac (sv (i := 5) (by kernel_rfl)) rfl sa_nil)))) rfl sa_nil))) rfl sa_nil))) rfl (fun _ => rfl))) (sss_cons (ss_ret se_bl)
    sss_nil) sss_nil)
    sss_nil)) (fun _ => rfl))
    (sss_cons (ss_asg (se_tup (sac (scu u_law_of hr (by omega) rfl (by kernel_rfl) rfl (sac (sv (i := 1) (by kernel_rfl)) rfl (sac (se_lst (sac (se_idx (sv (i := 3) (by kernel_rfl)) se_int rfl hu (fun _ _ => rfl)) rfl (sac (se_neg se_int) rfl (sac se_bl rfl (sac se_non rfl sa_nil))))) rfl sa_nil))) rfl (sac (scu u_law_of hr (by omega) rfl (by kernel_rfl) rfl (sac (sv (i := 1) (by kernel_rfl)) rfl (sac (se_lst (sac (se_str (by kernel_rfl) (by decide)) rfl (sac (se_str (by kernel_rfl) (by decide)) rfl (sac se_non rfl (sac se_int rfl sa_nil))))) rfl sa_nil))) rfl sa_nil))) (sg_tp hN rfl rfl (nmc (i := 9) (by kernel_rfl) (nmc (i := 10) (by kernel_rfl) .nil))) rfl rfl rfl)
    (sss_cons (sst (i := 6) hN (by kernel_rfl) (se_lst (sac (se_lam (l := l0_law) (i := 0) (ls := ls_law) TB rfl hj (lamN_by (by kernel_rfl)) rfl (fun _ _ h => h) ⟨rfl, .inl rfl⟩) rfl (sac (se_lam (l := l1_law) (i := 1) (ls := ls_law) TB rfl hj (lamN_by (by kernel_rfl)) rfl (fun _ _ h => h) ⟨rfl, .inr ⟨_, _, rfl⟩⟩) rfl sa_nil))) rfl)
    (sss_cons (ss_if (st_not (st_val (scu u_law_same hr (by omega) rfl (by kernel_rfl) rfl (sac (se_compF rfl hN (si_val (sv (i := 6) (by kernel_rfl)) rfl) (own := [(("_law_ask" : Str), 12)]) (g := (.nm 12)) (by kernel_rfl) (by decide) (fun _ _ _ _ _ => (tgn (i := 12) hN (by kernel_rfl))) (sef_fn hTry rfl rfl nok (by decide) (fun _ _ _ _ _ => (by kernel_rfl)) (hr.mono (by omega)) rfl (fun _ _ _ h => h) lok (by kernel_rfl) (fun _ _ _ _ _ => (sv (i := 12) (by kernel_rfl)))) (fun _ => rfl)) rfl (sac (se_lst (sac (se_tup (sac (se_str (by kernel_rfl) (by decide)) rfl (sac (sv (i := 9) (by kernel_rfl)) rfl sa_nil))) rfl (sac (se_tup (sac (se_str (by kernel_rfl) (by decide)) rfl (sac (sv (i := 10) (by kernel_rfl)) rfl sa_nil))) rfl sa_nil))) rfl sa_nil))) rfl (fun _ => rfl))) (sss_cons (ss_ret se_bl)
    sss_nil) sss_nil)
    sss_nil)))))) (fun _ => rfl))
    (sss_cons (sst (i := 7) hN (by kernel_rfl) (se_frz (scl (callOk_K (c := 31) uk_Map rfl hr (by omega) (by kernel_rfl)) (by kernel_rfl) rfl (sac (se_str (by kernel_rfl) (by decide)) rfl (sac se_int rfl (sac (se_lst (sac se_int rfl sa_nil)) rfl (sac (se_lst (sac (se_tup (sac se_int rfl (sac (se_str (by kernel_rfl) (by decide)) rfl (sac se_int rfl (sac (se_str (by kernel_rfl) (by decide)) rfl sa_nil))))) rfl (sac (se_tup (sac se_int rfl (sac (se_str (by kernel_rfl) (by decide)) rfl (sac se_int rfl (sac (se_str (by kernel_rfl) (by decide)) rfl sa_nil))))) rfl (sac (se_tup (sac se_int rfl (sac (se_str (by kernel_rfl) (by decide)) rfl (sac se_int rfl (sac (se_str (by kernel_rfl) (by decide)) rfl sa_nil))))) rfl sa_nil)))) rfl sa_nil)))))) rfl)
    (sss_cons (ss_ret (se_cmp (o := .eq) (se_lst (sac (se_methK (N := nmN) (c := 31) (j := 51) (n := 1) (ks := []) uw_Map_road_1_ hr (by omega) nok (by decide) rfl (sv (i := 7) (by kernel_rfl)) (sac (se_str (by kernel_rfl) (by decide)) rfl sa_nil) sk_nil rfl (fun h => by first | rfl | cases h) rfl rfl rfl rfl rfl) rfl (sac (se_methK (N := nmN) (c := 31) (j := 51) (n := 1) (ks := []) uw_Map_road_1_ hr (by omega) nok (by decide) rfl (sv (i := 7) (by kernel_rfl)) (sac (se_str (by kernel_rfl) (by decide)) rfl sa_nil) sk_nil rfl (fun h => by first | rfl | cases h) rfl rfl rfl rfl rfl) rfl (sac (se_methK (N := nmN) (c := 31) (j := 51) (n := 1) (ks := []) uw_Map_road_1_ hr (by omega) nok (by decide) rfl (sv (i := 7) (by kernel_rfl)) (sac (se_str (by kernel_rfl) (by decide)) rfl sa_nil) sk_nil rfl (fun h => by first | rfl | cases h) rfl rfl rfl rfl rfl) rfl (sac (se_methK (N := nmN) (c := 31) (j := 51) (n := 1) (ks := ["start"]) uw_Map_road_1_start hr (by omega) nok (by decide) rfl (sv (i := 7) (by kernel_rfl)) (sac (se_str (by kernel_rfl) (by decide)) rfl sa_nil) (sk_cons se_int sk_nil) rfl (fun h => by first | rfl | cases h) rfl rfl rfl rfl rfl) rfl sa_nil))))) (se_lst (sac (se_tup (sac se_int rfl sa_nil)) rfl (sac (se_tup (sac se_int rfl (sac se_int rfl sa_nil))) rfl (sac se_non rfl (sac (se_tup sa_nil) rfl sa_nil))))) rfl hu rfl))
    sss_nil))))
theorem k_law {f : Addr} {fd : FuncData} (B : Bi mg) (u_law_bag : ∀ R, UF (CK K T R) P w mg base 1 "_law_bag" F_law_bag) (u_law_map : ∀ R, UF (CK K T R) P w mg base 4 "_law_map" F_law_map) (u_law_made : ∀ R, UF (CK K T R) P w mg base 6 "_law_made" F_law_made) (u_law_text : ∀ R, UF (CK K T R) P w mg base 3 "_law_text" F_law_text) (u_law_pull : ∀ R, UF (CK K T R) P w mg base 1 "_law_pull" F_law_pull) (u_law_same : ∀ R, UF (CK K T R) P w mg base 6 "_law_same" F_law_same) (uw_Map_road_1_ : ∀ R, UMK (CK K T R) P w mg base 4 31 51 1 [] (fun ds es => sel [0, 1, 2] (ds ++ .int (0) :: es)) F_Map_road) (uw_Map_road_1_start : ∀ R, UMK (CK K T R) P w mg base 4 31 51 1 ["start"] (fun ds es => sel [0, 1, 2] (ds ++ es)) F_Map_road) (u_law_road : ∀ R, UF (CK K T R) P w mg base 1 "_law_road" F_law_road) (u_law_of : ∀ R, UF (CK K T R) P w mg base 2 "_law_of" F_law_of) (hTry : ∀ R, TryD (CK K T R) P w mg base 6 nmN hkL) (uk_Map : ∀ R, UK (CK K T R) P w mg base 4 31 F_Map__init_) {c_ P_ : Addr} (TB : LamX.TabB base mg c_ P_) (hj : T 0 = (P_, ("law" : Str) ++ ".<locals>." ++ "<lambda>")) (hc_ : fd.code = .ref c_) (D_ : FunD K "law" "law" (defArgs st_law) (defBody st_law) (defScope st_law) [] [] f fd) : FnOk P w K mg base (L2.CX P w) 10 f fd ps_law (spR (fun R => CK K T R) ps_law.length F_law) :=
  fn_MR (fun R => CK K T R) FR.none D_ hc_ sc_law m_law fun A outer s H E hr => ⟨_, b_law B u_law_bag u_law_map u_law_made u_law_text u_law_pull u_law_same uw_Map_road_1_ uw_Map_road_1_start u_law_road u_law_of hTry uk_Map TB hj hr⟩
end
end LK08

namespace LK08
open Fs
open Classical
theorem pull0 : Pull F_law_pull := pull_ok (k := ⟨46349, 2147483489, 1201, 2147483629, 30011, 1300021, 8089⟩) ⟨by decide, by decide, by decide, by decide, by decide, by decide, by decide⟩
theorem of0 : OfOk F_law_of := of_ok pull0
theorem bag0 (ns : List Int) (hl : ns.length ≤ 63) (m : Store) : ∃ l, Bag l ∧ F_law_bag [.frz (ns.map .int)] m = .ok (.obj m.length) (m ++ [.lst l]) := bag_ok (c1 := 3840) (c2 := 47629) (c3 := 2147483489) (c4 := 2147483629) (by decide) (by decide) (by decide) (by decide) ns hl m
theorem ffs : ∀ n, FF_law_same n = ffSame cls n
  | 0 => rfl
  | n + 1 => by
    have := ffs n
    show runF 2 4 (m_law_same (FF_law_same n)) = _
    rw [this]
    rfl
theorem same0 (d : D) (m : Store) (h : okS d = true) (hd : dep d < 6) : F_law_same [d, d] m = .ok (.bl true) m := by
  show FF_law_same 6 [d, d] m = _
  rw [ffs]
  exact same_refl cls 6 d m h hd
@[simp] theorem tr_InvalidAlphabet (d : D) : tryE hkL 2 [4, 3] [d, .str ['I', 'n', 'v', 'a', 'l', 'i', 'd', 'A', 'l', 'p', 'h', 'a', 'b', 'e', 't']] = some (.tup [.str ['I', 'n', 'v', 'a', 'l', 'i', 'd', 'A', 'l', 'p', 'h', 'a', 'b', 'e', 't'], d]) := by simp [tryE, hkL, fieldO, List.lookup_cons]
@[simp] theorem tr_InvalidCount (d : D) : tryE hkL 6 [4, 3] [d, .str ['I', 'n', 'v', 'a', 'l', 'i', 'd', 'C', 'o', 'u', 'n', 't']] = some (.tup [.str ['I', 'n', 'v', 'a', 'l', 'i', 'd', 'C', 'o', 'u', 'n', 't'], d]) := by simp [tryE, hkL, fieldO, List.lookup_cons]
@[simp] theorem tr_InvalidWord (d : D) : tryE hkL 7 [4, 3] [d, .str ['I', 'n', 'v', 'a', 'l', 'i', 'd', 'W', 'o', 'r', 'd']] = some (.tup [.str ['I', 'n', 'v', 'a', 'l', 'i', 'd', 'W', 'o', 'r', 'd'], d]) := by simp [tryE, hkL, fieldO, List.lookup_cons]
@[simp] theorem tr_InvalidEnds : tryE hkL 10 [3] [.str ['I', 'n', 'v', 'a', 'l', 'i', 'd', 'E', 'n', 'd', 's']] = some (.tup [.str ['I', 'n', 'v', 'a', 'l', 'i', 'd', 'E', 'n', 'd', 's'], .non]) := by simp [tryE, hkL, fieldO, List.lookup_cons]
@[simp] theorem tr_InvalidArrow (d : D) : tryE hkL 11 [9, 3] [d, .str ['I', 'n', 'v', 'a', 'l', 'i', 'd', 'A', 'r', 'r', 'o', 'w']] = some (.tup [.str ['I', 'n', 'v', 'a', 'l', 'i', 'd', 'A', 'r', 'r', 'o', 'w'], d]) := by simp [tryE, hkL, fieldO, List.lookup_cons]

/-! ### draws -/
theorem w_pull {m : Store} {E : EX} {Q : D → Store → Prop} {n : Nat} {a : Int} (hb : BagAt m n) (h0 : 0 < a) (h1 : a < 2 ^ 200) (hQ : ∀ r m', Sim n m m' → 0 ≤ r → r < a → Q (.int r) m') : WP (F_law_pull [.obj n, .int a]) m Q E := by
  obtain ⟨r, m', e, s, r0, r1⟩ := pull0 m n a hb h0 h1
  rw [w_ok e]
  exact hQ r m' s r0 r1
theorem w_of {m : Store} {E : EX} {Q : D → Store → Prop} {n : Nat} {d : D} {ds : List D} (hb : BagAt m n) (hd : itemsD d = some ds) (h0 : ds ≠ []) (h1 : ds.length ≤ 100000) (hQ : ∀ e ∈ ds, ∀ m', Sim n m m' → Q e m') : WP (F_law_of [.obj n, d]) m Q E := by
  obtain ⟨e, he, m', e1, s⟩ := of0 m n d ds hb hd h0 h1
  rw [w_ok e1]
  exact hQ e he m' s
/-- the alphabets that are drawn -/
def isAB (A : List Char) : Prop := A ∈ [['a', 'b'], ['a', 'b', 'c'], ['b', 'x'], ['a']]

/-! ### words.py -/
def lets : List Char := ['a', 'b', 'c', 'd', 'e', 'f', 'g', 'h', 'i', 'j', 'k', 'l', 'm', 'n', 'o', 'p', 'q', 'r', 's', 't', 'u', 'v', 'w', 'x', 'y', 'z']
theorem cLet : c_LETTERS = .str lets := rfl
theorem hlets : (['a', 'b', 'c', 'd', 'e', 'f', 'g', 'h', 'i', 'j', 'k', 'l', 'm', 'n', 'o', 'p', 'q', 'r', 's', 't', 'u', 'v', 'w', 'x', 'y', 'z'] : List Char) = lets := rfl
/-- values without objects -/
def smp : D → Bool
  | .non => true
  | .bl _ => true
  | .int _ => true
  | .str _ => true
  | .lst _ => true
  | .tup _ => true
  | _ => false
def isW (d : D) (a b : Int) : Bool := match d with
  | .int i => decide (a ≤ i) && decide (i ≤ b)
  | _ => false
@[simp] theorem isW_int (i a b : Int) : isW (.int i) a b = (decide (a ≤ i) && decide (i ≤ b)) := rfl
theorem w_is_within {m : Store} {E : EX} {Q : D → Store → Prop} {d : D} {a b : Int} (h : smp d = true) : WP (F_is_within [d, .int a, .int b]) m Q E = Q (.bl (isW d a b)) m := by
  cases d <;> simp [smp] at h <;> (rw [F_is_within, w_run, m_is_within]; simp [isW])
  split <;> simp [*]
theorem w_need_within {m : Store} {E : EX} {Q : D → Store → Prop} {d : D} {a b : Int} (h : smp d = true) : WP (F_need_within [d, .int a, .int b]) m Q E = if isW d a b = true then Q .non m else E 6 [4, 3] [d, .str ['I', 'n', 'v', 'a', 'l', 'i', 'd', 'C', 'o', 'u', 'n', 't']] m := by
  rw [F_need_within, w_run, m_need_within]
  simp [w_is_within h]
def isA : List Char → Bool
  | [a] => decide (a ∈ lets)
  | [a, b] => decide (a ∈ lets) && decide (b ∈ lets) && decide (a.toNat < b.toNat)
  | [a, b, c] => decide (a ∈ lets) && decide (b ∈ lets) && decide (c ∈ lets) && decide (a.toNat < b.toNat) && decide (b.toNat < c.toNat)
  | _ => false
def isAd : D → Bool
  | .str x => isA x
  | _ => false
theorem isA_long : ∀ {x : List Char}, ¬ x.length ≤ 3 → isA x = false
  | [], h => by simp at h
  | [_], h => by simp at h
  | [_, _], h => by simp at h
  | [_, _, _], h => by simp at h
  | _ :: _ :: _ :: _ :: _, _ => rfl
theorem w_is_alphabet {m : Store} {E : EX} {Q : D → Store → Prop} {d : D} (h : smp d = true) : WP (F_is_alphabet [d]) m Q E = Q (.bl (isAd d)) m := by
  rw [F_is_alphabet, w_run, m_is_alphabet]
  cases d <;> simp [smp] at h
  case str x =>
    by_cases hl : x.length ≤ 3
    · match x, hl with
      | [], _ => simp [c_MOST_SIGNS, isAd, isA]
      | [a], _ => by_cases h : a ∈ lets <;> simp [c_MOST_SIGNS, cLet, isAd, isA, h, wc_n, wc_c, wc_body]
      | [a, b], _ => by_cases h : a ∈ lets <;> by_cases h1 : b ∈ lets <;> simp [c_MOST_SIGNS, cLet, isAd, isA, h, h1, wc_n, wc_c, wc_body, ltT_one, List.range_succ]
      | [a, b, c], _ => by_cases h : a ∈ lets <;> by_cases h1 : b ∈ lets <;> by_cases h2 : c ∈ lets <;> simp [c_MOST_SIGNS, cLet, isAd, isA, h, h1, h2, wc_n, wc_c, wc_body, ltT_one, List.range_succ]
    · have h0 : ((x.length : Int) ≤ 3) = False := by apply propext; constructor; (intro h; omega); (intro h; exact h.elim)
      simp [c_MOST_SIGNS, isAd, isA_long hl, h0]
  all_goals simp [isAd]
theorem w_need_alphabet {m : Store} {E : EX} {Q : D → Store → Prop} {d : D} (h : smp d = true) : WP (F_need_alphabet [d]) m Q E = if isAd d = true then Q .non m else E 2 [4, 3] [d, .str ['I', 'n', 'v', 'a', 'l', 'i', 'd', 'A', 'l', 'p', 'h', 'a', 'b', 'e', 't']] m := by
  rw [F_need_alphabet, w_run, m_need_alphabet]
  simp [w_is_alphabet h]

/-! ### maps.py -/
structure Arr where
  o : Nat
  s : Char
  g : Nat
  k : List Char
  deriving DecidableEq
def Arr.d (a : Arr) : D := .tup [.int a.o, .str [a.s], .int a.g, .str a.k]
def isMk : D → Bool
  | .str x => decide (x.length ≤ 4) && x.all fun c => decide (c ∈ lets)
  | _ => false
theorem w_is_mark {m : Store} {E : EX} {Q : D → Store → Prop} {d : D} (h : smp d = true) : WP (F_is_mark [d]) m Q E = Q (.bl (isMk d)) m := by
  rw [F_is_mark, w_run, m_is_mark]
  cases d <;> simp [smp] at h
  case str x =>
    have h0 : ((x.length : Int) ≤ 4) = (x.length ≤ 4) := by apply propext; omega
    by_cases hl : x.length ≤ 4
    · simp [c_MOST_MARK, cLet, isMk, h0, hl]
      have : ∀ Q' E', WP (compM ⟨x.map fun c => D.str [c], none⟩ (bodyC [1] (.nm 1) .no (.cmp .in_ (.var 1) (.con (.str lets))) [some (.str x), none]) (x.map fun c => D.str [c])) m Q' E' = Q' (x.map fun c => D.bl (decide (c ∈ lets))) m := fun Q' E' => w_ok (WP.eq (wc_map (h := fun c => D.bl (decide (c ∈ lets))) rfl (fun c hc => by rw [wc_body]; simp) ⟨rfl, rfl⟩))
      rw [this]
      simp
    · simp [c_MOST_MARK, isMk, h0, hl]
  all_goals simp [isMk]
def isArr (d : D) (A : List Char) (P : Int) : Bool := match d with
  | .tup [o, s, g, k] => isW o 0 (P - 1) && (isW g 0 (P - 1) && isMk k) && (match s with
    | .str [c] => decide (c ∈ A)
    | _ => false)
  | _ => false
/-- a value that may be handed in as an arrow -/
def smpA : D → Bool
  | .tup ds => ds.all smp
  | d => smp d
theorem w_is_arrow {m : Store} {E : EX} {Q : D → Store → Prop} {d : D} {A : List Char} {P : Int} (h : smpA d = true) : WP (F_is_arrow [d, .str A, .int P]) m Q E = Q (.bl (isArr d A P)) m := by
  rw [F_is_arrow, w_run, m_is_arrow]
  cases d <;> simp [smpA, smp] at h
  case tup ds =>
    by_cases hl : ds.length = 4
    · obtain ⟨o, s, g, k, rfl⟩ : ∃ o s g k, ds = [o, s, g, k] := by
        match ds, hl with
        | [o, s, g, k], _ => exact ⟨o, s, g, k, rfl⟩
      simp at h
      obtain ⟨h1, h2, h3, h4⟩ := h
      simp [w_is_within h1, w_is_within h3, w_is_mark h4, isArr]
      by_cases e1 : isW o 0 (P - 1) = true <;> simp [e1]
      by_cases e2 : isW g 0 (P - 1) = true <;> simp [e2]
      by_cases e3 : isMk k = true <;> simp [e3]
      cases s <;> simp [smp] at h2 <;> simp
      rename_i x
      match x with
      | [] => simp
      | [c] => simp
      | c :: c2 :: r =>
        have : ¬ ((r.length : Int) + 1 + 1 = 1) := by omega
        simp [this]
    · have h1 : ¬ ((ds.length : Int) = 4) := by omega
      simp [h1, isArr]
      split
      · rename_i e; cases e; simp at hl
      · rfl
  all_goals simp [isArr]
/-! the making of a map -/
def okArr (A : List Char) (P : Nat) (a : Arr) : Prop := a.o < P ∧ a.g < P ∧ a.s ∈ A ∧ a.k.length ≤ 4 ∧ ∀ c ∈ a.k, c ∈ lets
theorem isArr_ok {A : List Char} {P : Nat} {a : Arr} (h : okArr A P a) : isArr a.d A P = true := by
  obtain ⟨h1, h2, h3, h4, h5⟩ := h
  simp only [Arr.d, isArr, isW_int, isMk, Bool.and_eq_true, decide_eq_true_eq, List.all_eq_true]
  exact ⟨⟨⟨by omega, by omega⟩, ⟨by omega, by omega⟩, h4, fun c hc => h5 c hc⟩, h3⟩
theorem smpA_arr (a : Arr) : smpA a.d = true := rfl
theorem dKeyT_arr (a : Arr) : dKeyT a.d = some [.inl a.o, .inr (toS [a.s]), .inl a.g, .inr (toS a.k)] := rfl
theorem dKeyT_inj {a b : Arr} (h : dKeyT a.d = dKeyT b.d) : a = b := by
  rw [dKeyT_arr, dKeyT_arr] at h
  simp only [Option.some.injEq, List.cons.injEq, Sum.inl.injEq, Sum.inr.injEq, and_true] at h
  obtain ⟨h1, h2, h3, h4⟩ := h
  have h2 := toS_inj h2
  have h4 := toS_inj h4
  obtain ⟨o, s, g, k⟩ := a
  obtain ⟨o', s', g', k'⟩ := b
  simp at h1 h2 h3 h4
  simp [h2, h4]
  omega
theorem look_arr_no {a : Arr} {l : List Arr} (h : a ∉ l) : lookD true (l.map Arr.d) a.d = some none := by
  show ((dKeyT a.d).map fun k => idxK k ((l.map Arr.d).map dKeyT)) = _
  rw [dKeyT_arr]
  simp only [Option.map_some]
  rw [idxK_none]
  intro hm
  rw [List.map_map, List.mem_map] at hm
  obtain ⟨b, hb, e⟩ := hm
  have : b = a := dKeyT_inj (by rw [dKeyT_arr a]; exact e)
  exact h (this ▸ hb)
theorem look_arr_yes {a : Arr} {l : List Arr} (h : a ∈ l) : ∃ i, lookD true (l.map Arr.d) a.d = some (some i) := by
  have : some [Sum.inl (a.o : Int), Sum.inr (toS [a.s]), Sum.inl (a.g : Int), Sum.inr (toS a.k)] ∈ (l.map Arr.d).map dKeyT := by
    rw [List.map_map, List.mem_map]
    exact ⟨a, h, dKeyT_arr a⟩
  obtain ⟨i, hi⟩ := idxK_some this
  refine ⟨i, ?_⟩
  show ((dKeyT a.d).map fun k => idxK k ((l.map Arr.d).map dKeyT)) = _
  rw [dKeyT_arr]
  simp only [Option.map_some, hi]
def mapD (A : List Char) (P : Nat) (G : List Int) (as : List Arr) : D := .ins 31 [32, 33, 34, 35, 36] [.str A, .int P, .tup (G.map .int), .tup (as.map Arr.d), .tup [.str A, .int P, .tup (G.map .int), .tup (as.map Arr.d)]]
theorem w_mapNew {m : Store} {Q : D → Store → Prop} {E : EX} {A : List Char} {P : Nat} {de da : D} {es : List Int} {as : List Arr} (hA : isA A = true) (hP : 1 ≤ P ∧ P ≤ 8) (he : readQ m de = some (es.map D.int)) (hes : ∀ e ∈ es, 0 ≤ e ∧ e < P) (hel : es.length < 64)
    (ha : readQ m da = some (as.map Arr.d)) (hw : ∀ l, da ≠ .wtp l) (has : ∀ a ∈ as, okArr A P a) (hnd : as.Nodup) (hal : as.length ≤ 60) (hQ : ∀ m', Ext m m' → Q (mapD A P (sortSet es) as) m') :
    WP (makeM 31 F_Map__init_ [.str A, .int P, de, da]) m (fun x m1 => wR (frzM x m1) Q E) E := by
  have key : WP (F_Map__init_ [.obj m.length, .str A, .int P, de, da]) (m ++ [.ins 31 [] []]) (fun x m' => x = .non ∧ Ext m m' ∧ m'[m.length]? = some (.ins 31 [32, 33, 34, 35, 36] [.str A, .int P, .tup ((sortSet es).map .int), .tup (as.map Arr.d), .tup [.str A, .int P, .tup ((sortSet es).map .int), .tup (as.map Arr.d)]])) noE := by
    rw [F_Map__init_, w_run, m_Map__init_]
    have e1 : Ext m (m ++ [.ins 31 [] []]) := (Ext.refl m).app _
    have hAd : isAd (.str A) = true := hA
    have hPd : isW (.int P) 1 8 = true := by simp; omega
    obtain ⟨lk1, hi1, ho1⟩ := itm_seq he
    have hi1' := hi1 _ e1
    have hc1 : ∀ Q' E', WP (compM ⟨es.map D.int, lk1⟩ (bodyC [8] (.nm 8) .no (.call F_is_within (.cons (.var 8) (.cons (.con (.int (0))) (.cons (.bin .sub (.var 2) (.con (.int (1)))) .nil)))) [some (.obj m.length), some (.str A), some (.int P), some de, some da, none, none, none, none]) (es.map D.int)) (m ++ [.ins 31 [] []]) Q' E' = Q' (es.map fun e => D.bl true) (m ++ [.ins 31 [] []]) := fun Q' E' =>
      w_ok (WP.eq (wc_pureG (h := fun e => some (D.bl true)) (ho1 _ _ e1) (fun e hm => by
        rw [wc_body]
        have := hes e hm
        simp [w_is_within (d := .int e) rfl]
        omega) ⟨by simp [List.filterMap_eq_map'], rfl⟩))
    simp [w_need_alphabet (d := .str A) rfl, hAd, c_MOST_PLACES, w_need_within (d := .int P) rfl, hPd, hi1', hc1]
    have e2 : Ext m (m ++ [.ins 31 [] [], .dct true [] []]) := (Ext.refl m).app _
    obtain ⟨lk2, hi2, ho2⟩ := enm_seq ha
    simp only [hi2 _ e2, wR_ok]
    refine wf_invG (fun ds r m' => ∃ (done rest : List Arr) (x6 x7 : Option D), as = done ++ rest ∧ ds = enL done.length (rest.map Arr.d) ∧ r = [some (.obj m.length), some (.str A), some (.int P), some de, some da, some (.obj (m.length + 1)), x6, x7, none] ∧
      m'[m.length + 1]? = some (.dct true (done.map Arr.d) (done.map fun _ => .bl true)) ∧ m'[m.length]? = some (.ins 31 [] []) ∧ Ext m m' ∧ m'.length = m.length + 2)
      ⟨[], as, none, none, rfl, rfl, rfl, by simp, by simp, e2, by simp⟩ (fun ds r m' ⟨_, _, _, _, _, _, _, _, _, e, _⟩ => ho2 _ _ e) ?_ ?_
    · rintro d ds r m' ⟨done, rest, x6, x7, eas, eds, er, h1, h2, h3, h4⟩
      cases rest with
      | nil => simp [enL] at eds
      | cons a rest =>
        simp only [List.map_cons, enL, List.cons.injEq] at eds
        obtain ⟨rfl, rfl⟩ := eds
        subst er
        have hok := isArr_ok (has a (by rw [eas]; simp))
        have hno : a ∉ done := by
          rw [eas] at hnd
          have := (List.nodup_append.mp hnd).2.2
          exact fun z => this a z a (by simp) rfl
        have hl := look_arr_no hno
        have hdl : done.length < 60 := by
          rw [eas] at hal
          simp at hal
          omega
        have hdl' : ¬ (60 ≤ (done.length : Int)) := by omega
        simp [w_is_arrow (smpA_arr a), hok, inD, readDct_obj h1, hl, c_MOST_ARROWS, hdl', setSubM, h1]
        exact ⟨by omega, done ++ [a], rest, by simp [eas], by simp, by simp [h4], h2, h3.set (by omega) _, h4⟩
    · rintro r m' ⟨done, rest, x6, x7, eas, eds, er, h1, h2, h3, h4⟩
      cases rest with
      | cons a rest => simp [enL] at eds
      | nil =>
        simp at eas
        subst eas er
        have hc2 : ∀ M Q' E', Ext m M → WP (compM ⟨es.map D.int, lk1⟩ (bodyC [8] (.nm 8) .no (.var 8) [some (.obj m.length), some (.str A), some (.int P), some de, some da, some (.obj (m.length + 1)), x6, x7, none]) (es.map D.int)) M Q' E' = Q' (es.map D.int) M := fun M Q' E' e =>
          w_ok (WP.eq (wc_pureG (h := fun e => some (D.int e)) (ho1 _ _ e) (fun e hm => by rw [wc_body]; simp) ⟨by simp [List.filterMap_eq_map'], rfl⟩))
        have hs : ∀ M, Ext m M → tupleM da M = .ok (.tup (as.map Arr.d)) M := fun M e => tuple_seq (readQ_ext e ha) hw
        have hx : ∀ c1 c2, Ext m ((m'.set m.length c1).set m.length c2) := fun c1 c2 => (h3.set (Nat.le_refl _) _).set (Nat.le_refl _) _
        have hx1 : ∀ c1, Ext m (m'.set m.length c1) := fun c1 => h3.set (Nat.le_refl _) _
        simp [h2, hi1 _ (hx1 _), hc2 _ _ _ (hx1 _), hel, hs _ (hx1 _), hx1]
  unfold WP makeM
  obtain ⟨x, m', e, rfl, h1, h2⟩ := key.ex
  rw [e]
  simp only [wR_ok, x_frzO, h2]
  exact hQ _ (h1.set (Nat.le_refl _) _)

theorem isAB_isA {A : List Char} (h : isAB A) : isA A = true := by
  simp only [isAB, List.mem_cons, List.not_mem_nil, or_false] at h
  obtain h | h | h | h := h <;> subst h <;> rfl
theorem isAB_ne {A : List Char} (h : isAB A) : A ≠ [] := by
  simp only [isAB, List.mem_cons, List.not_mem_nil, or_false] at h
  obtain h | h | h | h := h <;> subst h <;> simp
theorem isAB_len {A : List Char} (h : isAB A) : A.length ≤ 3 := by
  simp only [isAB, List.mem_cons, List.not_mem_nil, or_false] at h
  obtain h | h | h | h := h <;> subst h <;> simp
theorem w_law_alphabet {m : Store} {E : EX} {Q : D → Store → Prop} {n : Nat} (hb : BagAt m n) (hQ : ∀ A, isAB A → ∀ m', Sim n m m' → Q (.str A) m') : WP (F_law_alphabet [.obj n]) m Q E := by
  rw [F_law_alphabet, w_run, m_law_alphabet]
  simp
  refine w_of hb rfl (by simp) (by simp) fun e he m' s => ?_
  simp at he
  rcases he with h | h | h | h | h <;> subst h <;> exact hQ _ (by simp [isAB]) _ s
def okM (ms : List (List Char)) : Prop := ∀ k ∈ ms, k.length ≤ 4 ∧ ∀ c ∈ k, c ∈ lets
theorem nrm_arr (a : Arr) : nrmD a.d = true := rfl
theorem dep_arr (a : Arr) : dep a.d = 1 := rfl
theorem nrm_arrs (l : List Arr) : nrmDs (l.map Arr.d) = true := nrms_map nrm_arr l
theorem dep_arrs (l : List Arr) : deps (l.map Arr.d) ≤ 1 := deps_map (f := Arr.d) (k := 1) (fun a => Nat.le_of_eq (dep_arr a)) l
theorem Arr.d_inj {a b : Arr} (h : a.d = b.d) : a = b := by
  simp only [Arr.d, D.tup.injEq, List.cons.injEq, D.int.injEq, D.str.injEq, and_true] at h
  obtain ⟨o, s, g, k⟩ := a
  obtain ⟨o', s', g', k'⟩ := b
  obtain ⟨h1, h2, h3, h4⟩ := h
  have h1 := Int.ofNat_inj.mp h1
  have h3 := Int.ofNat_inj.mp h3
  simp at h2
  simp_all
theorem mem_arrs {a : Arr} {l : List Arr} : a.d ∈ l.map Arr.d ↔ a ∈ l := by
  rw [List.mem_map]
  exact ⟨fun ⟨b, hb, e⟩ => Arr.d_inj e ▸ hb, fun h => ⟨a, h, rfl⟩⟩
def iArrows (m : Store) (n P many : Nat) (A : List Char) (ms : List (List Char)) (ds : List D) (r : Env) (m' : Store) : Prop := ∃ (as : List Arr) (x6 x7 : Option D), r = [some (.obj n), some (.str A), some (.int P), some (.int many), some (.lst (ms.map D.str)), some (.obj m.length), x6, x7] ∧ as.Nodup ∧ (∀ a ∈ as, okArr A P a) ∧ as.length + ds.length ≤ many ∧ Sim n m m' ∧ m'[m.length]? = some (.lst (as.map Arr.d))
theorem w_law_arrows {m : Store} {E : EX} {Q : D → Store → Prop} {n P many : Nat} {A : List Char} {ms : List (List Char)} (hb : BagAt m n) (hA : A ≠ []) (hA1 : A.length ≤ 100) (hP : 1 ≤ P) (hP1 : P ≤ 100) (hm : many ≤ 60) (hms : okM ms) (hm0 : ms ≠ []) (hm1 : ms.length ≤ 100)
    (hQ : ∀ as : List Arr, as.Nodup → (∀ a ∈ as, okArr A P a) → as.length ≤ many → ∀ m', Sim n m m' → Q (.lst (as.map Arr.d)) m') : WP (F_law_arrows [.obj n, .str A, .int P, .int many, .lst (ms.map D.str)]) m Q E := by
  rw [F_law_arrows, w_run, m_law_arrows]
  have hmany : (many : Int) < 4611686018427387904 := by omega
  have hmany2 : many ≤ 16777216 := by omega
  have hmany3 : (-4611686018427387904 : Int) ≤ many := by omega
  simp [hmany, hmany2, hmany3]
  have hn : n < m.length := hb.lt
  have s0 : Sim n m (m ++ [.lst []]) := .ext hb ((Ext.refl m).app _)
  refine wf_inv rfl (iArrows m n P many A ms) ?_ ?_ ?_
  · exact ⟨[], none, none, rfl, List.nodup_nil, by simp, by simp, s0, by simp⟩
  · rintro d ds r m1 ⟨as, x6, x7, rfl, h1, h2, h3, s1, h4⟩
    simp
    refine w_pull s1.bag (by omega) (by omega) fun o m2 s2 o0 o1 => ?_
    refine w_of s2.bag rfl (by simpa using hA) (by simp; omega) fun e he m3 s3 => ?_
    simp at he
    obtain ⟨c, hc, rfl⟩ := he
    refine w_pull s3.bag (by omega) (by omega) fun g m4 s4 g0 g1 => ?_
    refine w_of s4.bag rfl (by simpa using hm0) (by simp; omega) fun e he m5 s5 => ?_
    obtain ⟨k, hk, rfl⟩ := List.mem_map.mp he
    have s : Sim n m1 m5 := ((s2.trans s3).trans s4).trans s5
    have h5 : m5[m.length]? = some (.lst (as.map Arr.d)) := s.get (by omega) h4
    have ha : D.tup [.int o, .str [c], .int g, .str k] = Arr.d ⟨o.toNat, c, g.toNat, k⟩ := by
      simp only [Arr.d]
      rw [Int.toNat_of_nonneg o0, Int.toNat_of_nonneg g0]
    have hok : okArr A P ⟨o.toNat, c, g.toNat, k⟩ := ⟨by show o.toNat < P; omega, by show g.toNat < P; omega, hc, (hms k hk).1, (hms k hk).2⟩
    have h3 : as.length + (ds.length + 1) ≤ many := h3
    rw [ha, c_ninON h5 (nrm_arr _) (nrm_arrs _) (by rw [dep_arr]; omega) (by have := dep_arrs as; omega)]
    simp only [wR_ok, mem_arrs]
    generalize (⟨o.toNat, c, g.toNat, k⟩ : Arr) = a at hok
    by_cases hin : a ∈ as
    · simp [hin]
      exact ⟨as, _, _, rfl, h1, h2, by omega, s1.trans s, h5⟩
    · simp [hin, h5]
      refine ⟨by omega, as ++ [a], _, _, rfl, ?_, ?_, by simp; omega, (s1.trans s).set' (Nat.le_refl _) (by omega) _, by simp [h5]⟩
      · rw [List.nodup_append]
        exact ⟨h1, by simp, fun x hx y hy => by simp at hy; subst hy; exact fun z => hin (z ▸ hx)⟩
      · intro x hx
        simp at hx
        rcases hx with hx | rfl
        · exact h2 x hx
        · exact hok
  · rintro r m1 ⟨as, x6, x7, rfl, h1, h2, h3, s1, h4⟩
    simp [h4]
    exact hQ as h1 h2 h3 _ (s1.set' (Nat.le_refl _) (by omega) _)
/-- the making of a drawn map -/
def mapT (A : List Char) (P : Nat) (es : List Int) (as : List Arr) : D := .tup [.str A, .int P, .lst (es.map .int), .lst (as.map Arr.d)]
structure Drawn (most many : Nat) (A : List Char) (P : Nat) (es : List Int) (as : List Arr) : Prop where
  ab : isAB A
  p1 : 1 ≤ P
  p2 : P ≤ most
  lt : es.Pairwise (· < ·)
  en : ∀ e ∈ es, 0 ≤ e ∧ e < P
  nd : as.Nodup
  ok : ∀ a ∈ as, okArr A P a
  al : as.length ≤ many
def iEnds (m : Store) (n P : Nat) (l : List Nat) (acc : List D) (m' : Store) : Prop := ∃ es : List Int, acc = es.map .int ∧ es.Pairwise (· < ·) ∧ (∀ e ∈ es, 0 ≤ e ∧ e + l.length < P) ∧ (∃ k, l = List.range' k l.length ∧ k + l.length = P) ∧ Sim n m m'
theorem w_law_map {m : Store} {E : EX} {Q : D → Store → Prop} {n most many : Nat} (hb : BagAt m n) (h1 : 1 ≤ most) (h2 : most ≤ 60) (h3 : many ≤ 60) (hQ : ∀ A P es as, Drawn most many A P es as → ∀ m', Sim n m m' → Q (mapT A P es as) m') : WP (F_law_map [.obj n, .int most, .int many]) m Q E := by
  rw [F_law_map, w_run, m_law_map]
  simp
  refine w_law_alphabet hb fun A hA m1 s1 => ?_
  refine w_pull s1.bag (by omega) (by omega) fun p m2 s2 p0 p1 => ?_
  obtain ⟨P, hP⟩ : ∃ P : Nat, 1 + p = P := ⟨(1 + p).toNat, by omega⟩
  have hP2 : P ≤ 16777216 := by omega
  simp only [a_addI, wR_ok, hP]
  simp [j_rngN hP2]
  refine wc_inv rfl (iEnds m n P) ?_ ?_ ?_
  · exact ⟨[], rfl, .nil, by simp, ⟨0, by simp [List.range_eq_range'], by simp⟩, s1.trans s2⟩
  · rintro x l acc m3 ⟨es, rfl, e1, e2, ⟨k, e3, e4⟩, s3⟩
    rw [wc_body]
    simp
    refine w_pull s3.bag (by omega) (by omega) fun q m4 s4 q0 q1 => ?_
    simp only [List.length_cons, List.range'_succ, List.cons.injEq] at e3 e4
    obtain ⟨rfl, e3⟩ := e3
    by_cases hq : q = 0
    · simp [hq]
      refine ⟨es ++ [(x : Int)], by simp, ?_, ?_, ⟨x + 1, e3, by omega⟩, s3.trans s4⟩
      · rw [List.pairwise_append]
        refine ⟨e1, by simp, fun a ha b hb => ?_⟩
        simp at hb
        have := (e2 a ha).2
        simp at this
        omega
      · intro e he
        simp at he
        rcases he with he | rfl
        · have := e2 e he
          simp at this
          omega
        · omega
    · simp [hq]
      refine ⟨es, rfl, e1, fun e he => ?_, ⟨x + 1, e3, by omega⟩, s3.trans s4⟩
      have := e2 e he
      simp at this
      omega
  · rintro acc m3 ⟨es, rfl, e1, e2, -, s3⟩
    refine w_pull s3.bag (by omega) (by omega) fun q m4 s4 q0 q1 => ?_
    obtain ⟨q, rfl⟩ : ∃ q' : Nat, q = q' := ⟨q.toNat, by omega⟩
    have hms : [D.str [], .str [], .str ['x'], .str ['y', 'z'], .str ['m', 'a', 'r', 'k']] = List.map D.str [[], [], ['x'], ['y', 'z'], ['m', 'a', 'r', 'k']] := rfl
    rw [hms]
    refine w_law_arrows (P := P) (many := q) (ms := [[], [], ['x'], ['y', 'z'], ['m', 'a', 'r', 'k']]) s4.bag (isAB_ne hA) (by have := isAB_len hA; omega) (by omega) (by omega) (by omega) (by simp [okM, lets]) (by simp) (by simp) fun as a1 a2 a3 m5 s5 => ?_
    exact hQ A P es as ⟨hA, by omega, by omega, e1, by simpa using e2, a1, a2, by omega⟩ _ (s3.trans (s4.trans s5))


/-! ### words over an alphabet -/
def isWd (A : List Char) : D → Bool
  | .str x => x.all fun c => decide (c ∈ A)
  | _ => false
theorem w_is_word {m : Store} {E : EX} {Q : D → Store → Prop} {A : List Char} {d : D} (h : smp d = true) : WP (F_is_word [.str A, d]) m Q E = Q (.bl (isWd A d)) m := by
  rw [F_is_word, w_run, m_is_word]
  cases d <;> simp [smp] at h
  case str x =>
    simp [isWd]
    have : ∀ Q' E', WP (compM ⟨x.map fun c => D.str [c], none⟩ (bodyC [2] (.nm 2) .no (.cmp .in_ (.var 2) (.var 0)) [some (.str A), some (.str x), none]) (x.map fun c => D.str [c])) m Q' E' = Q' (x.map fun c => D.bl (decide (c ∈ A))) m := fun Q' E' => w_ok (WP.eq (wc_map (h := fun c => D.bl (decide (c ∈ A))) rfl (fun c hc => by rw [wc_body]; simp) ⟨rfl, rfl⟩))
    rw [this]
    simp
  all_goals simp [isWd]
theorem w_need_word {m : Store} {E : EX} {Q : D → Store → Prop} {A : List Char} {d : D} (h : smp d = true) : WP (F_need_word [.str A, d]) m Q E = if isWd A d = true then Q .non m else E 7 [4, 3] [d, .str ['I', 'n', 'v', 'a', 'l', 'i', 'd', 'W', 'o', 'r', 'd']] m := by
  rw [F_need_word, w_run, m_need_word]
  simp [w_is_word h]
theorem glue_nil : ∀ ys : List (List Char), glue [] ys = ys.flatten
  | [] => rfl
  | [x] => by simp [glue]
  | x :: y :: r => by simp [glue, glue_nil (y :: r)]
@[simp] theorem strsO_strs : ∀ l : List (List Char), strsO (l.map D.str) = some l
  | [] => rfl
  | i :: l => by simp [strsO, strsO_strs l]
theorem b_join (s : List Char) (l : List (List Char)) (m : Store) : joinM (.str s) (.lst (l.map D.str)) m = if (l.map List.length).sum + l.length * s.length ≤ 1000000 then .ok (.str (glue s l)) m else .stuck := by
  simp only [joinM, readQ_lst, strsO_strs]
theorem sum_ones {α : Type} : ∀ x : List α, (x.map fun _ => 1).sum = x.length
  | [] => rfl
  | a :: x => by simp [sum_ones x]; omega
theorem flat_ones : ∀ x : List Char, (x.map fun c => [c]).flatten = x
  | [] => rfl
  | a :: x => by simp [flat_ones x]
theorem w_law_text {m : Store} {E : EX} {Q : D → Store → Prop} {n k : Nat} {A : List Char} (hb : BagAt m n) (hA : A ≠ []) (hA1 : A.length ≤ 100) (hk : k ≤ 1000) (hQ : ∀ x : List Char, x.length ≤ k → (∀ c ∈ x, c ∈ A) → ∀ m', Sim n m m' → Q (.str x) m') : WP (F_law_text [.obj n, .str A, .int k]) m Q E := by
  rw [F_law_text, w_run, m_law_text]
  simp
  refine w_pull hb (by omega) (by omega) fun r m1 s1 r0 r1 => ?_
  obtain ⟨R, rfl⟩ : ∃ R : Nat, r = R := ⟨r.toNat, by omega⟩
  have hR : R ≤ 16777216 := by omega
  simp only [j_rngN hR, wR_ok]
  refine wc_inv rfl (fun l acc m' => ∃ x : List Char, acc = x.map (fun c => D.str [c]) ∧ (∀ c ∈ x, c ∈ A) ∧ x.length + l.length = R ∧ Sim n m m') ⟨[], rfl, by simp, by simp, s1⟩ ?_ ?_
  · rintro i l acc m2 ⟨x, rfl, h1, h2, s2⟩
    rw [wc_body]
    simp
    refine w_of s2.bag rfl (by simpa using hA) (by simp; omega) fun e he m3 s3 => ?_
    simp at he
    obtain ⟨c, hc, rfl⟩ := he
    refine ⟨x ++ [c], by simp, ?_, ?_, s2.trans s3⟩
    · intro d hd
      simp at hd
      rcases hd with hd | rfl
      · exact h1 d hd
      · exact hc
    · simp at h2 ⊢
      omega
  · rintro acc m2 ⟨x, rfl, h1, h2, s2⟩
    simp at h2
    have e : (x.map fun c => D.str [c]) = (x.map fun c => [c]).map D.str := by simp
    have hl : ((x.map fun c => [c]).map List.length).sum = x.length := by
      rw [List.map_map]
      simp only [Function.comp_def, List.length_cons, List.length_nil, Nat.zero_add]
      exact sum_ones x
    have hf := flat_ones x
    rw [e, b_join, hl, glue_nil, hf]
    simp
    exact ⟨by omega, hQ x (by omega) h1 m2 s2⟩

/-! ### the places behind words -/
def stepI (as : List Arr) (S : List Int) (c : Char) : List Int := sortSet ((as.filter fun a => decide (a.s = c) && decide ((a.o : Int) ∈ S)).map fun a => (a.g : Int))
theorem stepI_congr {as : List Arr} {S S' : List Int} {c : Char} (h : ∀ k, k ∈ S ↔ k ∈ S') : stepI as S c = stepI as S' c := by
  have : (fun a : Arr => decide (a.s = c) && decide ((a.o : Int) ∈ S)) = fun a => decide (a.s = c) && decide ((a.o : Int) ∈ S') := funext fun a => by rw [decide_eq_decide.mpr (h a.o)]
  unfold stepI
  rw [this]
theorem stepI_lt (as : List Arr) (S : List Int) (c : Char) : (stepI as S c).Pairwise (· < ·) := sortSet_lt _
theorem stepI_mem {as : List Arr} {S : List Int} {c : Char} {A : List Char} {P : Nat} (h : ∀ a ∈ as, okArr A P a) : ∀ k ∈ stepI as S c, 0 ≤ k ∧ k < P := fun k hk => by
  unfold stepI at hk
  rw [sortSet_mem, List.mem_map] at hk
  obtain ⟨a, ha, rfl⟩ := hk
  have := (h a (List.mem_filter.mp ha).1).2.1
  omega
def runI (as : List Arr) (S : List Int) (w : List Char) : List Int := w.foldl (stepI as) (sortSet S)
theorem runI_nil (as : List Arr) (S : List Int) : runI as S [] = sortSet S := rfl
theorem fold_lt (as : List Arr) : ∀ (w : List Char) {S : List Int}, S.Pairwise (· < ·) → (w.foldl (stepI as) S).Pairwise (· < ·)
  | [], _, h => h
  | c :: w, S, _ => fold_lt as w (stepI_lt as S c)
theorem fold_mem {as : List Arr} {A : List Char} {P : Nat} (h : ∀ a ∈ as, okArr A P a) : ∀ (w : List Char) {S : List Int}, (∀ k ∈ S, 0 ≤ k ∧ k < P) → ∀ k ∈ w.foldl (stepI as) S, 0 ≤ k ∧ k < P
  | [], _, hS => hS
  | c :: w, S, _ => fold_mem h w (stepI_mem h)
theorem runI_lt (as : List Arr) (S : List Int) (w : List Char) : (runI as S w).Pairwise (· < ·) := fold_lt as w (sortSet_lt S)
theorem runI_fold (as : List Arr) (S : List Int) : ∀ w : List Char, sortSet (w.foldl (stepI as) S) = runI as S w
  | [] => rfl
  | c :: w => by
    show sortSet (w.foldl (stepI as) (stepI as S c)) = w.foldl (stepI as) (stepI as (sortSet S) c)
    rw [stepI_congr (S := sortSet S) (S' := S) fun k => sortSet_mem, sortSet_asc (fold_lt as w (stepI_lt as S c))]
theorem runI_mem {as : List Arr} {A : List Char} {P : Nat} (h : ∀ a ∈ as, okArr A P a) {S : List Int} (hS : ∀ k ∈ S, 0 ≤ k ∧ k < P) (w : List Char) : ∀ k ∈ runI as S w, 0 ≤ k ∧ k < P := fold_mem h w fun k hk => hS k (sortSet_mem.mp hk)
/-- the numbers of 0 .. P-1 that are among them, ascending -/
theorem range_sort {P : Nat} {L : List Int} (h : ∀ k ∈ L, 0 ≤ k ∧ k < P) : ((List.range P).filter fun i : Nat => decide ((i : Int) ∈ L)).map (fun i : Nat => D.int i) = (sortSet L).map .int := by
  have e : sortSet L = ((List.range P).filter fun i : Nat => decide ((i : Int) ∈ L)).map fun i : Nat => (i : Int) := by
    refine sortSet_of ?_ fun k => ?_
    · rw [List.pairwise_map]
      refine (List.Pairwise.filter _ List.pairwise_lt_range).imp fun h => by omega
    · rw [List.mem_map]
      constructor
      · rintro ⟨i, hi, rfl⟩
        simpa using (List.mem_filter.mp hi).2
      · intro hk
        have := h k hk
        refine ⟨k.toNat, List.mem_filter.mpr ⟨List.mem_range.mpr (by omega), ?_⟩, by omega⟩
        rw [decide_eq_true_eq, show ((k.toNat : Nat) : Int) = k by omega]
        exact hk
  rw [e, List.map_map]
  rfl
/-- some whole numbers, in a list of any kind -/
def IntsAt (m : Store) (d : D) (S : List Int) : Prop := d = .lst (S.map .int) ∨ d = .tup (S.map .int) ∨ ∃ n, d = .obj n ∧ m[n]? = some (.lst (S.map .int))
theorem c_inIs {m : Store} {d : D} {S : List Int} {i : Int} (h : IntsAt m d S) : cmpM .in_ (.int i) d m = .ok (decide (i ∈ S)) m := by
  rcases h with rfl | rfl | ⟨n, rfl, h⟩
  · exact c_inLI
  · exact c_inTI
  · rw [c_inON h rfl (nrms_ints S) (Nat.zero_le _) (by rw [deps_ints]; decide)]
    congr 1
    rw [decide_eq_decide, List.mem_map]
    exact ⟨fun ⟨a, h1, h2⟩ => by cases h2; exact h1, fun h => ⟨i, h, rfl⟩⟩
theorem w_law_made {m : Store} {Q : D → Store → Prop} {E : EX} {most many : Nat} {A : List Char} {P : Nat} {es : List Int} {as : List Arr} (hD : Drawn most many A P es as) (h1 : most ≤ 8) (h2 : many ≤ 60) (hQ : ∀ m', Ext m m' → Q (mapD A P es as) m') : WP (F_law_made [mapT A P es as]) m Q E := by
  rw [F_law_made, w_run, m_law_made]
  have hp1 := hD.p1
  have hp2 := hD.p2
  have hal := hD.al
  have hel : (es.length : Int) ≤ P - 0 := asc_len hD.lt hD.en (by omega)
  simp [mapT]
  refine w_mapNew (isAB_isA hD.ab) ⟨hp1, by omega⟩ rfl hD.en (by omega) rfl (fun l h => by cases h) hD.ok hD.nd (by omega) fun m' e => ?_
  rw [sortSet_asc hD.lt]
  exact hQ m' e

/-! ### the least road -/
def layV (as : List Arr) (G : List Int) : List Char → List Int
  | [] => G
  | c :: v => (as.filter fun a => decide (a.s = c) && decide ((a.g : Int) ∈ layV as G v)).map fun a => (a.o : Int)
def laysV (as : List Arr) (G : List Int) : List Char → List (List Int)
  | [] => [G]
  | c :: v => laysV as G v ++ [layV as G (c :: v)]
theorem laysV_len {as : List Arr} {G : List Int} : ∀ v : List Char, (laysV as G v).length = v.length + 1
  | [] => rfl
  | c :: v => by simp [laysV, laysV_len v]
theorem laysV_last {as : List Arr} {G : List Int} : ∀ v : List Char, ∃ l, laysV as G v = l ++ [layV as G v]
  | [] => ⟨[], rfl⟩
  | c :: v => ⟨_, rfl⟩
theorem laysV_at {as : List Arr} {G : List Int} {v : List Char} : ∀ u : List Char, (laysV as G (u ++ v))[v.length]? = some (layV as G v)
  | [] => by
    obtain ⟨l, e⟩ := laysV_last (as := as) (G := G) v
    have := laysV_len (as := as) (G := G) v
    rw [e] at this
    simp at this
    rw [List.nil_append, e, List.getElem?_append_right (by omega)]
    simp [this]
  | c :: u => by
    have := laysV_len (as := as) (G := G) (u ++ v)
    simp at this
    rw [List.cons_append, laysV, List.getElem?_append_left (by omega)]
    exact laysV_at u
theorem c_ninLI {m : Store} {i : Int} {l : List Int} : cmpM .nin (.int i) (.lst (l.map D.int)) m = .ok (!decide (i ∈ l)) m := by
  rw [c_ninN rfl (nrms_ints l) (Nat.zero_le _) (by rw [deps_ints]; decide)]
  congr 2
  rw [decide_eq_decide, List.mem_map]
  exact ⟨fun ⟨a, h1, h2⟩ => by cases h2; exact h1, fun h => ⟨i, h, rfl⟩⟩
def lD (l : List Int) : D := .lst (l.map .int)
theorem atI_last {α : Type} (l : List α) (x : α) : L2.atI (l ++ [x]) (-1) = some x := by
  have h : L2.ixN (l ++ [x]).length (-1) = some l.length := by
    unfold L2.ixN
    rw [if_neg (by omega), if_pos (by simp; omega)]
    simp
    omega
  unfold L2.atI
  rw [h]
  simp
def isF (h : Int) (c : Char) (L : List Int) (a : Arr) : Bool := decide ((a.o : Int) = h) && (decide (a.s = c) && decide ((a.g : Int) ∈ L))
def goR (as : List Arr) (G : List Int) : Int → List Char → List Nat
  | _, [] => []
  | h, c :: v => as.findIdx (isF h c (layV as G v)) :: goR as G (match as[as.findIdx (isF h c (layV as G v))]? with
    | some a => (a.g : Int)
    | none => 0) v
theorem goR_step {as : List Arr} {G : List Int} {h : Int} {c : Char} {v : List Char} (hm : h ∈ layV as G (c :: v)) : ∃ i a, as[i]? = some a ∧ isF h c (layV as G v) a = true ∧ (a.g : Int) ∈ layV as G v ∧ (∀ j < i, ∀ b, as[j]? = some b → isF h c (layV as G v) b = false) ∧ goR as G h (c :: v) = i :: goR as G a.g v := by
  simp only [layV, List.mem_map, List.mem_filter, Bool.and_eq_true, decide_eq_true_eq] at hm
  obtain ⟨a0, ⟨h1, h2, h3⟩, h4⟩ := hm
  have hlt : as.findIdx (isF h c (layV as G v)) < as.length := List.findIdx_lt_length_of_exists ⟨a0, h1, by simp [isF, h2, h3, h4]⟩
  have hg := List.findIdx_getElem (w := hlt)
  have hq : as[as.findIdx (isF h c (layV as G v))]? = some as[as.findIdx (isF h c (layV as G v))] := List.getElem?_eq_getElem hlt
  refine ⟨as.findIdx (isF h c (layV as G v)), _, hq, hg, ?_, fun j hj b hb => ?_, ?_⟩
  · simp only [isF, Bool.and_eq_true, decide_eq_true_eq] at hg
    exact hg.2.2
  · have := List.not_of_lt_findIdx hj
    have hjl : j < as.length := by omega
    rw [List.getElem?_eq_getElem hjl] at hb
    cases hb
    simpa using this
  · rw [goR, hq]
theorem goR_len {as : List Arr} {G : List Int} : ∀ (v : List Char) (h : Int), (goR as G h v).length = v.length
  | [], _ => rfl
  | c :: v, h => by simp [goR, goR_len v]
def roadD (as : List Arr) (G : List Int) (w : List Char) (st : Int) : D := if st ∈ layV as G w then .tup ((goR as G st w).map fun i => D.int (i : Nat)) else .non
theorem mem_layV {as : List Arr} {G : List Int} {A : List Char} {P : Nat} (h : ∀ a ∈ as, okArr A P a) (hG : ∀ k ∈ G, 0 ≤ k ∧ k < P) : ∀ v : List Char, ∀ k ∈ layV as G v, 0 ≤ k ∧ k < P
  | [], k, hk => hG k hk
  | c :: v, k, hk => by
    simp only [layV, List.mem_map, List.mem_filter] at hk
    obtain ⟨a, ⟨ha, _⟩, rfl⟩ := hk
    have := (h a ha).1
    omega
theorem len_layV {as : List Arr} {G : List Int} (hG : G.length ≤ 1000) (ha : as.length ≤ 1000) : ∀ v : List Char, (layV as G v).length ≤ 1000
  | [] => hG
  | c :: v => by
    simp only [layV, List.length_map]
    exact Nat.le_trans (List.length_filter_le _ _) ha
theorem w_first_line {m : Store} {Q : D → Store → Prop} {E : EX} {A : List Char} {P : Nat} {G : List Int} {as : List Arr} {h : Int} {c : Char} {L : List Int} {i : Nat} {a : Arr} (hi : as[i]? = some a) (ha : isF h c L a = true) (hn : ∀ j < i, ∀ b, as[j]? = some b → isF h c L b = false) : WP (F_Map_first_line [mapD A P G as, .int h, .str [c], .lst (L.map .int)]) m Q E = Q (.int i) m := by
  refine w_ok (WP.eq ?_)
  rw [F_Map_first_line, w_run, m_Map_first_line]
  rw [ws_cons]; generalize hK1 : seqK _ _ = K1
  simp [mapD]
  refine wf_inv rfl (fun ds r m1 => ∃ u v : List Arr, as = u ++ v ∧ ds = enL u.length (v.map Arr.d) ∧ u.length ≤ i ∧ m1 = m ∧ ∃ x4 x5, r = [some (mapD A P G as), some (.int h), some (.str [c]), some (.lst (L.map .int)), x4, x5]) ⟨[], as, rfl, rfl, by simp, rfl, _, _, rfl⟩ ?_ ?_
  · rintro x ds r m1 ⟨u, v, e1, e2, hu, rfl, x4, x5, rfl⟩
    cases v with
    | nil => simp [enL] at e2
    | cons b v =>
      simp only [List.map_cons, enL, List.cons.injEq] at e2
      obtain ⟨rfl, rfl⟩ := e2
      have hb : as[u.length]? = some b := by rw [e1, List.getElem?_append_right (by omega)]; simp
      by_cases hlt : u.length < i
      · have hf := hn _ hlt b hb
        simp only [isF, Bool.and_eq_false_iff, decide_eq_false_iff_not] at hf
        by_cases q1 : (b.o : Int) = h <;> by_cases q2 : b.s = c <;> by_cases q3 : (b.g : Int) ∈ L <;> simp [Arr.d, q1, q2, q3, c_inLI] at hf ⊢
        all_goals exact ⟨u ++ [b], v, by simp [e1], by simp, by simp; omega⟩
      · have hiu : u.length = i := by omega
        have hba : b = a := by rw [hiu, hi] at hb; cases hb; rfl
        subst hba
        simp only [isF, Bool.and_eq_true, decide_eq_true_eq] at ha
        simp [Arr.d, ha, c_inLI]
        subst hK1
        simp [hiu]
  rintro r m1 ⟨u, v, e1, e2, hu, rfl, x4, x5, rfl⟩
  cases v with
  | cons b v => simp [enL] at e2
  | nil =>
    rw [List.append_nil] at e1
    have := (List.getElem?_eq_some_iff.mp hi).1
    rw [e1] at this
    omega
theorem w_road {m : Store} {Q : D → Store → Prop} {E : EX} {A : List Char} {P : Nat} {G : List Int} {as : List Arr} {w : List Char} {st : Int} (hGl : G.length ≤ 1000) (hw : ∀ c ∈ w, c ∈ A) (hst : 0 ≤ st ∧ st < P) (hal : as.length ≤ 60) (hwl : w.length ≤ 1000) (hQ : ∀ m', Ext m m' → Q (roadD as G w st) m') : WP (F_Map_road [mapD A P G as, .str w, .int st]) m Q E := by
  rw [F_Map_road, w_run, m_Map_road]
  have hk : isW (.int st) 0 ((P : Int) - 1) = true := by simp; omega
  have hwd : isWd A (.str w) = true := by simpa [isWd] using hw
  have f1 : ∀ m, fldM [31] 33 (mapD A P G as) m = .ok (.int P) m := fun m => by simp [mapD]
  have f2 : ∀ m, fldM [31] 32 (mapD A P G as) m = .ok (.str A) m := fun m => by simp [mapD]
  have f3 : ∀ m, fldM [31] 34 (mapD A P G as) m = .ok (.tup (G.map .int)) m := fun m => by simp [mapD]
  have f4 : ∀ m, fldM [31] 35 (mapD A P G as) m = .ok (.tup (as.map Arr.d)) m := fun m => by simp [mapD]
  have hi : ∀ m, isIns 31 39 m (mapD A P G as) = true := fun m => by simp [mapD]
  generalize hS : mapD A P G as = S at f1 f2 f3 f4 hi
  rw [ws_cons]; generalize hK1 : seqK _ _ = K1
  simp [f1, w_need_within (d := .int st) rfl, hk]
  subst hK1; rw [seqK_nxt, ws_cons]; generalize hK1 : seqK _ _ = K1
  simp [f2, w_need_word (A := A) (d := .str w) rfl, hwd]
  subst hK1; rw [seqK_nxt, ws_cons]; generalize hK1 : seqK _ _ = K1
  simp [f3]
  refine wc_map (g := D.int) (l := G) (h := D.int) rfl (fun k _ => by rw [wc_body]; simp) ?_
  subst hK1; rw [seqK_nxt, ws_cons]; generalize hK1 : seqK _ _ = K1
  simp
  refine wf_inv rfl (fun ds r m1 => ∃ u v : List Char, w = u ++ v ∧ (ds = u.reverse.map fun c => D.str [c]) ∧ ∃ x4 x5 x6 x7 x8 x9 x10 x11, r = [some S, some (.str w), some (.int st), some (.obj m.length), x4, x5, x6, x7, x8, x9, x10, x11] ∧ Ext m m1 ∧ m.length < m1.length ∧ m1[m.length]? = some (.lst ((laysV as G v).map lD))) ⟨w, [], by simp, by simp, _, _, _, _, _, _, _, _, rfl, (Ext.refl m).app _, by simp, by simp [laysV, lD]⟩ ?_ ?_
  · rintro x ds r m1 ⟨u, v, e1, e2, x4, x5, x6, x7, x8, x9, x10, x11, rfl, ex, hl, hm⟩
    obtain ⟨u', c, rfl⟩ : ∃ u' c, u = u' ++ [c] := by
      rcases List.eq_nil_or_concat u with h | ⟨u', c, h⟩
      · subst h; cases e2
      · exact ⟨u', c, by simpa using h⟩
    simp only [List.reverse_append, List.reverse_cons, List.reverse_nil, List.nil_append, List.cons_append, List.map_cons, List.cons.injEq] at e2
    obtain ⟨rfl, rfl⟩ := e2
    obtain ⟨l0, el⟩ := laysV_last (as := as) (G := G) v
    have hat : L2.atI ((laysV as G v).map lD) (-1) = some (lD (layV as G v)) := by rw [el, List.map_append]; exact atI_last _ _
    have hlen := laysV_len (as := as) (G := G) v
    have hvl : v.length ≤ w.length := by rw [e1]; simp; omega
    simp only [wb_nm, List.set_cons_zero, List.set_cons_succ]
    rw [ws_cons]; generalize hK2 : seqK _ _ = K2
    simp [x_idxO hm, hat]
    subst hK2; rw [seqK_nxt, ws_cons]; generalize hK2 : seqK _ _ = K2
    simp [f4, hm]
    refine wc_filt (l := as) (g := Arr.d) (p := fun a : Arr => decide (a.s = c) && decide ((a.g : Int) ∈ layV as G v)) (y := fun a => D.int (a.o : Int)) rfl (fun a ha => ?_) ?_
    · rw [wc_body]
      by_cases q : a.s = c <;> simp [Arr.d, q, lD, c_inLI]
      all_goals (by_cases q2 : (a.g : Int) ∈ layV as G v <;> simp [q2])
    simp [hm]
    refine ⟨by omega, ?_⟩
    subst hK2; rw [seqK_nxt, ws_nil]
    refine ⟨u', c :: v, by simp [e1], rfl, _, _, _, _, _, _, _, _, rfl, ex.set (Nat.le_refl _) _, by simpa using hl, ?_⟩
    rw [List.getElem?_set_self (by omega)]
    simp [laysV, layV, lD]
  rintro r m1 ⟨u, v, e1, e2, x4, x5, x6, x7, x8, x9, x10, x11, rfl, ex, hl, hm⟩
  have hu : u = [] := by
    cases u with
    | nil => rfl
    | cons a u => simp at e2
  subst hu
  simp only [List.nil_append] at e1
  subst e1
  subst hK1; rw [seqK_nxt, ws_cons]; generalize hK1 : seqK _ _ = K1
  obtain ⟨l0, el⟩ := laysV_last (as := as) (G := G) w
  have hat : L2.atI ((laysV as G w).map lD) (-1) = some (lD (layV as G w)) := by rw [el, List.map_append]; exact atI_last _ _
  simp [x_idxO hm, hat, lD, c_ninLI]
  by_cases hin : ¬ st ∈ layV as G w
  · simp [hin]
    subst hK1
    simp
    have := hQ m1 ex
    rwa [roadD, if_neg hin] at this
  rw [Classical.not_not] at hin
  simp [hin]
  have hrd : roadD as G w st = .tup ((goR as G st w).map fun i => D.int (i : Nat)) := by rw [roadD, if_pos hin]
  rw [hrd] at hQ
  subst hK1; rw [seqK_nxt, ws_cons]; generalize hK1 : seqK _ _ = K1
  simp
  subst hK1; rw [seqK_nxt, ws_cons]; generalize hK1 : seqK _ _ = K1
  simp
  have hm2 : (m1 ++ [Cell.lst []])[m.length]? = some (.lst ((laysV as G w).map lD)) := by rw [List.getElem?_append_left (by omega)]; exact hm
  refine wf_inv rfl (fun ds r m2 => ∃ (u v : List Char) (h : Int) (ns : List Nat), w = u ++ v ∧ (ds = enL u.length (v.map fun c => D.str [c])) ∧ (∃ x4 x5 x8 x9 x10 x11, r = [some S, some (.str w), some (.int st), some (.obj m.length), x4, x5, some (.obj m1.length), some (.int h), x8, x9, x10, x11]) ∧ Ext m m2 ∧ m2[m.length]? = some (.lst ((laysV as G w).map lD)) ∧ m2[m1.length]? = some (.lst (ns.map fun i => D.int (i : Nat))) ∧ m1.length < m2.length ∧ ns ++ goR as G h v = goR as G st w ∧ h ∈ layV as G v ∧ ns.length = u.length) ⟨[], w, st, [], rfl, rfl, ⟨_, _, _, _, _, _, rfl⟩, ex.app _, hm2, by simp, by simp, rfl, hin, rfl⟩ ?_ ?_
  · rintro x ds r m2 ⟨u, v, h, ns, e1, e2, ⟨x4, x5, x8, x9, x10, x11, rfl⟩, ex2, g1, g2, g3, e3, hv, e4⟩
    cases v with
    | nil => simp [enL] at e2
    | cons c v =>
      simp only [List.map_cons, enL, List.cons.injEq] at e2
      obtain ⟨rfl, rfl⟩ := e2
      obtain ⟨i, a, h1, h2, h3, h4, h5⟩ := goR_step hv
      have hw2 : w.length = u.length + (v.length + 1) := by rw [e1]; simp
      have hat2 : L2.atI ((laysV as G w).map lD) ((w.length : Int) - 1 - u.length) = some (lD (layV as G v)) := by
        refine atI_nat' (by omega) ?_
        rw [List.getElem?_map, show ((w.length : Int) - 1 - u.length).toNat = v.length by omega, e1, show u ++ c :: v = (u ++ [c]) ++ v by simp, laysV_at]
        rfl
      have hail : i < as.length := (List.getElem?_eq_some_iff.mp h1).1
      have hal2 : L2.atI (as.map Arr.d) (i : Int) = some a.d := atI_nat' (by omega) (by simp [h1])
      simp only [wb_tp, List.length_cons, List.length_nil, if_true]
      simp only [List.zip_cons_cons, List.zip_nil_left, List.foldl_cons, List.foldl_nil, List.set_cons_zero, List.set_cons_succ]
      rw [ws_cons]; generalize hK2 : seqK _ _ = K2
      simp [x_idxO g1, hat2]
      subst hK2; rw [seqK_nxt, ws_cons]; generalize hK2 : seqK _ _ = K2
      simp [hi]
      rw [← hS, lD, w_first_line h1 h2 h4, hS]
      subst hK2; rw [seqK_nxt, ws_cons]; generalize hK2 : seqK _ _ = K2
      simp [g2]
      refine ⟨by omega, ?_⟩
      subst hK2; rw [seqK_nxt, ws_cons]; generalize hK2 : seqK _ _ = K2
      simp [f4, hal2, Arr.d]
      subst hK2; rw [seqK_nxt, ws_nil]
      refine ⟨u ++ [c], v, a.g, ns ++ [i], by simp [e1], by simp, ⟨_, _, _, _, _, _, rfl⟩, ex2.set (by omega) _, ?_, ?_, by simpa using g3, ?_, h3, by simp [e4]⟩
      · rw [List.getElem?_set_ne (by omega)]
        exact g1
      · rw [List.getElem?_set_self (by omega)]
        simp
      · rw [← e3, h5]
        simp
  rintro r m2 ⟨u, v, h, ns, e1, e2, ⟨x4, x5, x8, x9, x10, x11, rfl⟩, ex2, g1, g2, g3, e3, hv, e4⟩
  cases v with
  | cons c v => simp [enL] at e2
  | nil =>
    simp only [goR, List.append_nil] at e3
    subst hK1; rw [seqK_nxt, ws_cons]; generalize hK1 : seqK _ _ = K1
    simp
    rw [b_tupleO g2]
    subst hK1
    simp
    rw [e3]
    exact hQ m2 ex2
theorem filter_first {as : List Arr} {p : Arr → Bool} {i : Nat} {a : Arr} (h1 : as[i]? = some a) (h2 : p a = true) (h3 : ∀ j < i, ∀ b, as[j]? = some b → p b = false) : ∃ l, as.filter p = a :: l := by
  have hl := (List.getElem?_eq_some_iff.mp h1).1
  have ha : as[i] = a := by rw [List.getElem?_eq_getElem hl] at h1; cases h1; rfl
  have e : as = as.take i ++ (a :: as.drop (i + 1)) := by rw [← ha, ← List.drop_eq_getElem_cons hl, List.take_append_drop]
  have e2 : (as.take i).filter p = [] := by
    rw [List.filter_eq_nil_iff]
    intro b hb
    obtain ⟨j, hj, rfl⟩ := List.mem_iff_getElem.mp hb
    have hj' : j < i := by rw [List.length_take] at hj; omega
    have := h3 j hj' as[j] (List.getElem?_eq_getElem (by omega))
    rw [List.getElem_take]
    simp [this]
  refine ⟨(as.drop (i + 1)).filter p, ?_⟩
  conv => lhs; rw [e]
  rw [List.filter_append, e2, List.filter_cons, if_pos h2, List.nil_append]
theorem w_law_road {m : Store} {Q : D → Store → Prop} {E : EX} {A : List Char} {P : Nat} {G : List Int} {as : List Arr} {w : List Char} {st : Int} (hGl : G.length ≤ 1000) (hal : as.length ≤ 60) (hwl : w.length ≤ 1000) (hQ : ∀ m', Ext m m' → Q (roadD as G w st) m') : WP (F_law_road [mapT A P G as, .str w, .int st]) m Q E := by
  rw [F_law_road, w_run, m_law_road]
  have f2 : ∀ m, idxM (mapT A P G as) (.int 2) m = .ok (.lst (G.map .int)) m := fun m => by simp [mapT]
  have f3 : ∀ m, idxM (mapT A P G as) (.int 3) m = .ok (.lst (as.map Arr.d)) m := fun m => by simp [mapT]
  generalize hS : mapT A P G as = S at f2 f3
  rw [ws_cons]; generalize hK1 : seqK _ _ = K1
  simp [f2]
  subst hK1; rw [seqK_nxt, ws_cons]; generalize hK1 : seqK _ _ = K1
  simp
  refine wf_inv rfl (fun ds r m1 => ∃ u v : List Char, w = u ++ v ∧ (ds = u.reverse.map fun c => D.str [c]) ∧ (∃ x4 x5 x6 x7 x8 x9 x10, r = [some S, some (.str w), some (.int st), some (.obj m.length), x4, x5, x6, x7, x8, x9, x10]) ∧ Ext m m1 ∧ m.length < m1.length ∧ m1[m.length]? = some (.lst ((laysV as G v).map lD))) ⟨w, [], by simp, by simp, ⟨_, _, _, _, _, _, _, rfl⟩, (Ext.refl m).app _, by simp, by simp [laysV, lD]⟩ ?_ ?_
  · rintro x ds r m1 ⟨u, v, e1, e2, ⟨x4, x5, x6, x7, x8, x9, x10, rfl⟩, ex, hl, hm⟩
    obtain ⟨u', c, rfl⟩ : ∃ u' c, u = u' ++ [c] := by
      rcases List.eq_nil_or_concat u with h | ⟨u', c, h⟩
      · subst h; cases e2
      · exact ⟨u', c, by simpa using h⟩
    simp only [List.reverse_append, List.reverse_cons, List.reverse_nil, List.nil_append, List.cons_append, List.map_cons, List.cons.injEq] at e2
    obtain ⟨rfl, rfl⟩ := e2
    obtain ⟨l0, el⟩ := laysV_last (as := as) (G := G) v
    have hat : L2.atI ((laysV as G v).map lD) (-1) = some (lD (layV as G v)) := by rw [el, List.map_append]; exact atI_last _ _
    have hlen := laysV_len (as := as) (G := G) v
    have hvl : v.length ≤ w.length := by rw [e1]; simp; omega
    simp only [wb_nm, List.set_cons_zero, List.set_cons_succ]
    rw [ws_cons]; generalize hK2 : seqK _ _ = K2
    simp [f3, hm]
    refine wc_filt (l := as) (g := Arr.d) (p := fun a : Arr => decide (a.s = c) && decide ((a.g : Int) ∈ layV as G v)) (y := fun a => D.int (a.o : Int)) rfl (fun a ha => ?_) ?_
    · rw [wc_body]
      by_cases q : a.s = c <;> simp [Arr.d, q, x_idxO hm, hat, lD, c_inLI]
      all_goals (by_cases q2 : (a.g : Int) ∈ layV as G v <;> simp [q2])
    simp [hm]
    refine ⟨by omega, ?_⟩
    subst hK2; rw [seqK_nxt, ws_nil]
    refine ⟨u', c :: v, by simp [e1], rfl, ⟨_, _, _, _, _, _, _, rfl⟩, ex.set (Nat.le_refl _) _, by simpa using hl, ?_⟩
    rw [List.getElem?_set_self (by omega)]
    simp [laysV, layV, lD]
  rintro r m1 ⟨u, v, e1, e2, ⟨x4, x5, x6, x7, x8, x9, x10, rfl⟩, ex, hl, hm⟩
  have hu : u = [] := by
    cases u with
    | nil => rfl
    | cons a u => simp at e2
  subst hu
  simp only [List.nil_append] at e1
  subst e1
  subst hK1; rw [seqK_nxt, ws_cons]; generalize hK1 : seqK _ _ = K1
  obtain ⟨l0, el⟩ := laysV_last (as := as) (G := G) w
  have hat : L2.atI ((laysV as G w).map lD) (-1) = some (lD (layV as G w)) := by rw [el, List.map_append]; exact atI_last _ _
  simp [x_idxO hm, hat, lD, c_ninLI]
  by_cases hin : ¬ st ∈ layV as G w
  · simp [hin]
    subst hK1
    simp
    have := hQ m1 ex
    rwa [roadD, if_neg hin] at this
  rw [Classical.not_not] at hin
  simp [hin]
  have hrd : roadD as G w st = .tup ((goR as G st w).map fun i => D.int (i : Nat)) := by rw [roadD, if_pos hin]
  rw [hrd] at hQ
  subst hK1; rw [seqK_nxt, ws_cons]; generalize hK1 : seqK _ _ = K1
  simp
  subst hK1; rw [seqK_nxt, ws_cons]; generalize hK1 : seqK _ _ = K1
  have hwl' : w.length ≤ 16777216 := by omega
  simp [j_rngN hwl']
  have hm2 : (m1 ++ [Cell.lst []])[m.length]? = some (.lst ((laysV as G w).map lD)) := by rw [List.getElem?_append_left (by omega)]; exact hm
  refine wf_inv rfl (fun ds r m2 => ∃ (u v : List Char) (h : Int) (ns : List Nat), w = u ++ v ∧ (ds = (List.range' u.length v.length).map fun i : Nat => D.int i) ∧ (∃ x4 x7 x8 x9 x10, r = [some S, some (.str w), some (.int st), some (.obj m.length), x4, some (.obj m1.length), some (.int h), x7, x8, x9, x10]) ∧ Ext m m2 ∧ m2[m.length]? = some (.lst ((laysV as G w).map lD)) ∧ m2[m1.length]? = some (.lst (ns.map fun i => D.int (i : Nat))) ∧ m1.length < m2.length ∧ ns ++ goR as G h v = goR as G st w ∧ h ∈ layV as G v ∧ ns.length = u.length) ⟨[], w, st, [], rfl, by simp [List.range_eq_range'], ⟨_, _, _, _, _, rfl⟩, ex.app _, hm2, by simp, by simp, rfl, hin, rfl⟩ ?_ ?_
  · rintro x ds r m2 ⟨u, v, h, ns, e1, e2, ⟨x4, x7, x8, x9, x10, rfl⟩, ex2, g1, g2, g3, e3, hv, e4⟩
    cases v with
    | nil => simp at e2
    | cons c v =>
      simp only [List.length_cons, List.range'_succ, List.map_cons, List.cons.injEq] at e2
      obtain ⟨rfl, rfl⟩ := e2
      obtain ⟨i, a, h1, h2, h3, h4, h5⟩ := goR_step hv
      have hw2 : w.length = u.length + (v.length + 1) := by rw [e1]; simp
      have hat2 : L2.atI ((laysV as G w).map lD) ((w.length : Int) - 1 - u.length) = some (lD (layV as G v)) := by
        refine atI_nat' (by omega) ?_
        rw [List.getElem?_map, show ((w.length : Int) - 1 - u.length).toNat = v.length by omega, e1, show u ++ c :: v = (u ++ [c]) ++ v by simp, laysV_at]
        rfl
      have hwc : L2.atI w (u.length : Int) = some c := atI_nat' (by omega) (by rw [e1]; simp)
      have hail : i < as.length := (List.getElem?_eq_some_iff.mp h1).1
      obtain ⟨l1, hfl⟩ := filter_first h1 h2 h4
      have hix : ∀ m, indexM (.lst (as.map Arr.d)) a.d m = .ok (.int i) m := fun m => b_index rfl (nrms_map (fun _ => rfl) as) (by rw [dep_arr]; decide) (by have := dep_arrs as; omega) (by simp [h1]) (fun j hj hz => by
        have hjl : j < as.length := by omega
        rw [List.getElem?_map, List.getElem?_eq_getElem hjl] at hz
        have hz' : as[j] = a := Arr.d_inj (by simpa using hz)
        have := h4 j hj as[j] (List.getElem?_eq_getElem hjl)
        rw [hz', h2] at this
        cases this)
      simp only [wb_nm, List.set_cons_zero, List.set_cons_succ]
      rw [ws_cons]; generalize hK2 : seqK _ _ = K2
      simp [x_idxO g1, hat2]
      subst hK2; rw [seqK_nxt, ws_cons]; generalize hK2 : seqK _ _ = K2
      simp [f3]
      refine wc_filt (l := as) (g := Arr.d) (p := isF h c (layV as G v)) (y := Arr.d) rfl (fun a ha => ?_) ?_
      · rw [wc_body]
        have hc : ∀ (o g : Int) (x k : List Char) m, cmpM .eq (.tup (cutL [D.int o, .str x, .int g, .str k] none (some 2))) (.tup [D.int h, .str [c]]) m = .ok (decide (o = h ∧ x = [c])) m := fun o g x k m => by
          rw [show cutL [D.int o, .str x, .int g, .str k] none (some 2) = [D.int o, .str x] from cut_to _ 2, c_eqN (by simp) (by simp) (by simp) (by simp)]
          simp
        by_cases q1 : (a.o : Int) = h <;> by_cases q2 : a.s = c <;> by_cases q3 : (a.g : Int) ∈ layV as G v <;> simp [Arr.d, isF, hwc, hc, lD, c_inLI, q1, q2, q3]
      rw [hfl]
      simp only [List.map_cons]
      subst hK2; rw [seqK_nxt, ws_cons]; generalize hK2 : seqK _ _ = K2
      simp [f3, hix, g2]
      refine ⟨by omega, ?_⟩
      subst hK2; rw [seqK_nxt, ws_cons]; generalize hK2 : seqK _ _ = K2
      simp [Arr.d]
      subst hK2; rw [seqK_nxt, ws_nil]
      refine ⟨u ++ [c], v, a.g, ns ++ [i], by simp [e1], by simp, ⟨_, _, _, _, _, rfl⟩, ex2.set (by omega) _, ?_, ?_, by simpa using g3, ?_, h3, by simp [e4]⟩
      · rw [List.getElem?_set_ne (by omega)]
        exact g1
      · rw [List.getElem?_set_self (by omega)]
        simp
      · rw [← e3, h5]
        simp
  rintro r m2 ⟨u, v, h, ns, e1, e2, ⟨x4, x7, x8, x9, x10, rfl⟩, ex2, g1, g2, g3, e3, hv, e4⟩
  cases v with
  | cons c v => simp [List.range'_succ] at e2
  | nil =>
    simp only [goR, List.append_nil] at e3
    subst hK1; rw [seqK_nxt, ws_cons]; generalize hK1 : seqK _ _ = K1
    simp
    rw [b_tupleO g2]
    subst hK1
    simp
    rw [e3]
    exact hQ m2 ex2
theorem nrm_road (as : List Arr) (G : List Int) (w : List Char) (st : Int) : nrmD (roadD as G w st) = true := by
  unfold roadD
  split
  · simp only [nrmD]
    exact nrms_map (fun _ => rfl) _
  · rfl
theorem dep_road (as : List Arr) (G : List Int) (w : List Char) (st : Int) : dep (roadD as G w st) ≤ 1 := by
  unfold roadD
  split
  · have := deps_map (f := fun i : Nat => D.int (i : Nat)) (k := 0) (fun _ => Nat.le_refl _) (goR as G st w)
    simp only [dep]
    omega
  · exact Nat.zero_le _
theorem x_road_start {m : Store} {Q : D → Store → Prop} {E : EX} {A : List Char} {P : Nat} {G : List Int} {as : List Arr} {d w : D} (hd : smp d = true) (hb : isW d 0 ((P : Int) - 1) = false) (hE : E 6 [4, 3] [d, .str ['I', 'n', 'v', 'a', 'l', 'i', 'd', 'C', 'o', 'u', 'n', 't']] m) : WP (F_Map_road [mapD A P G as, w, d]) m Q E := by
  rw [F_Map_road, w_run, m_Map_road]
  rw [ws_cons]; generalize hK1 : seqK _ _ = K1
  simp [mapD, w_need_within hd, hb]
  subst hK1
  simpa using hE
theorem x_road_word {m : Store} {Q : D → Store → Prop} {E : EX} {A : List Char} {P : Nat} {G : List Int} {as : List Arr} {k : Int} {w : D} (hk : 0 ≤ k ∧ k < P) (hd : smp w = true) (hb : isWd A w = false) (hE : E 7 [4, 3] [w, .str ['I', 'n', 'v', 'a', 'l', 'i', 'd', 'W', 'o', 'r', 'd']] m) : WP (F_Map_road [mapD A P G as, w, .int k]) m Q E := by
  rw [F_Map_road, w_run, m_Map_road]
  have hk1 : isW (.int k) 0 ((P : Int) - 1) = true := by simp; omega
  rw [ws_cons]; generalize hK1 : seqK _ _ = K1
  simp [mapD, w_need_within (d := .int k) rfl, hk1]
  subst hK1; rw [seqK_nxt, ws_cons]; generalize hK1 : seqK _ _ = K1
  simp [w_need_word hd, hb]
  subst hK1
  simpa using hE

def iLaw (sc : D) (r : Env) (m : Store) : Prop := ∃ x2 x3 x4 x5 x6 x7 x8 x9 x10 x11 x12 : Option D, r = [some sc, some (.obj 1), x2, x3, x4, x5, x6, x7, x8, x9, x10, x11, x12] ∧ BagAt m 1 ∧ m[0]? = some (.tab 0)
def iIn (sc : D) (A : List Char) (P : Nat) (es : List Int) (as : List Arr) (ds : List D) (r : Env) (m : Store) : Prop := ∃ x2 x4 x5 x6 x7 x9 x10 x11 x12 : Option D, r = [some sc, some (.obj 1), x2, some (mapT A P es as), x4, x5, x6, x7, some (mapD A P es as), x9, x10, x11, x12] ∧ BagAt m 1 ∧ m[0]? = some (.tab 0) ∧
  (∀ d ∈ ds, ∃ w : List Char, d = .str w ∧ (∀ c ∈ w, c ∈ A) ∧ w.length ≤ 1000)
theorem mt0 {A : List Char} {P : Nat} {es : List Int} {as : List Arr} {m : Store} : idxM (mapT A P es as) (.int 0) m = .ok (.str A) m := by simp [mapT]
theorem mt1 {A : List Char} {P : Nat} {es : List Int} {as : List Arr} {m : Store} : idxM (mapT A P es as) (.int 1) m = .ok (.int P) m := by simp [mapT]
theorem kw0 (S w : D) : selfK 1 0 (fun ds es => sel [0, 1, 2] (ds ++ .int 0 :: es)) F_Map_road S [w] = F_Map_road [S, w, .int 0] := rfl
theorem kw1 (S w z : D) : selfK 1 1 (fun ds es => sel [0, 1, 2] (ds ++ es)) F_Map_road S [w, z] = F_Map_road [S, w, z] := rfl
theorem in08 {sc : D} {A : List Char} {P : Nat} {es : List Int} {as : List Arr} {w : List Char} {ds : List D} {m : Store} (hD : Drawn 5 14 A P es as) (hb : BagAt m 1) (h0 : m[0]? = some (.tab 0)) (hw : ∀ c ∈ w, c ∈ A) (hwl : w.length ≤ 1000) (hds : ∀ d ∈ ds, ∃ w : List Char, d = .str w ∧ (∀ c ∈ w, c ∈ A) ∧ w.length ≤ 1000) {K : Fl → Store → Prop} (hK : ∀ r' m', iIn sc A P es as ds r' m' → K (.nxt r') m') {x2 x5 x6 x7 x9 x10 x11 x12 : Option D} :
    WSs (.cons (.set (.nm 5) (.call F_law_pull (.cons (.var 1) (.cons (.idx (.var 3) (.con (.int (1)))) .nil)))) (.cons (.ite (.not (.val (.call F_law_same (.cons (.lst (.cons (.meth (isIns 31 51) (selfK 1 0 (fun ds es => sel [0, 1, 2] (ds ++ .int (0) :: es)) F_Map_road) (.var 8) (MEs.app (.cons (.var 4) .nil) .nil)) (.cons (.meth (isIns 31 51) (selfK 1 1 (fun ds es => sel [0, 1, 2] (ds ++ es)) F_Map_road) (.var 8) (MEs.app (.cons (.var 4) .nil) (.cons (.var 5) .nil))) .nil))) (.cons (.lst (.cons (.call F_law_road (.cons (.var 3) (.cons (.var 4) (.cons (.con (.int (0))) .nil)))) (.cons (.call F_law_road (.cons (.var 3) (.cons (.var 4) (.cons (.var 5) .nil)))) .nil))) .nil))))) (.cons (.ret (.con (.bl false))) .nil) .nil) .nil)) [some sc, some (.obj 1), x2, some (mapT A P es as), some (.str w), x5, x6, x7, some (mapD A P es as), x9, x10, x11, x12] m K := by
  have hp1 := hD.p1
  have hp2 := hD.p2
  have hal := hD.al
  have hel : (es.length : Int) ≤ P - 0 := asc_len hD.lt hD.en (by omega)
  have hir : ∀ m, isIns 31 51 m (mapD A P es as) = true := fun m => by simp [mapD]
  rw [ws_cons]; generalize hK1 : seqK _ _ = K1
  simp [mt1]
  refine w_pull hb (by omega) (by omega) fun z m1 s1 z0 z1 => ?_
  subst hK1; rw [seqK_nxt, ws_cons]; generalize hK1 : seqK _ _ = K1
  simp [hir, kw0]
  refine w_road (by omega) hw (by omega) (by omega) hwl fun m2 e2 => ?_
  simp [hir, kw1]
  refine w_road (by omega) hw ⟨z0, z1⟩ (by omega) hwl fun m3 e3 => ?_
  refine w_law_road (by omega) (by omega) hwl fun m4 e4 => ?_
  refine w_law_road (by omega) (by omega) hwl fun m5 e5 => ?_
  have b5 := (((s1.bag.ext e2).ext e3).ext e4).ext e5
  have t5 := e5.get (e4.get (e3.get (e2.get (s1.get (by omega) h0))))
  have hn1 := nrm_road as es w 0
  have hn2 := nrm_road as es w z
  have hd1 := dep_road as es w 0
  have hd2 := dep_road as es w z
  simp [w_ok (same0 (.lst [roadD as es w 0, roadD as es w z]) _ (by simp [okS, okSs, nrm_okS hn1, nrm_okS hn2]) (by simp; omega))]
  subst hK1; rw [seqK_nxt, ws_nil]
  exact hK _ _ ⟨_, _, _, _, _, _, _, _, _, rfl, b5, t5, hds⟩
theorem tail08 {sc : D} {A : List Char} {P : Nat} {es : List Int} {as : List Arr} {m : Store} (hD : Drawn 5 14 A P es as) (hb : BagAt m 1) (h0 : m[0]? = some (.tab 0)) {K : Fl → Store → Prop} (hK : ∀ r' m', iLaw sc r' m' → K (.nxt r') m') {x2 x4 x5 x6 x7 x9 x10 x11 x12 : Option D} :
    WSs (.cons (.set (.tp [9, 10]) (.tup (.cons (.call F_law_of (.cons (.var 1) (.cons (.lst (.cons (.idx (.var 3) (.con (.int (1)))) (.cons (.neg (.con (.int (1)))) (.cons (.con (.bl true)) (.cons (.con .non) .nil))))) .nil))) (.cons (.call F_law_of (.cons (.var 1) (.cons (.lst (.cons (.con (.str ['z'])) (.cons (.con (.str ['A'])) (.cons (.con .non) (.cons (.con (.int (3))) .nil))))) .nil))) .nil)))) (.cons (.set (.nm 6) (.lst (.cons (.call (fnM 0 0) .nil) (.cons (.call (fnM 0 1) .nil) .nil)))) (.cons (.ite (.not (.val (.call F_law_same (.cons (.comp false [12] (.nm 12) (.val (.var 6)) .no (.fnx (tryG0 hkL) bs_law (.var 12))) (.cons (.lst (.cons (.tup (.cons (.con (.str ['I', 'n', 'v', 'a', 'l', 'i', 'd', 'C', 'o', 'u', 'n', 't'])) (.cons (.var 9) .nil))) (.cons (.tup (.cons (.con (.str ['I', 'n', 'v', 'a', 'l', 'i', 'd', 'W', 'o', 'r', 'd'])) (.cons (.var 10) .nil))) .nil))) .nil))))) (.cons (.ret (.con (.bl false))) .nil) .nil) .nil))) [some sc, some (.obj 1), x2, some (mapT A P es as), x4, x5, x6, x7, some (mapD A P es as), x9, x10, x11, x12] m K := by
  have hp1 := hD.p1
  have hp2 := hD.p2
  have hal := hD.al
  have hir : ∀ m, isIns 31 51 m (mapD A P es as) = true := fun m => by simp [mapD]
  rw [ws_cons]; generalize hK1 : seqK _ _ = K1
  simp [mt1]
  refine w_of hb rfl (by simp) (by simp) fun far hf m4 s4 => ?_
  refine w_of s4.bag rfl (by simp) (by simp) fun odd ho m5 s5 => ?_
  have t5 := s5.get (by omega) (s4.get (by omega) h0)
  have hfar : smp far = true ∧ isW far 0 ((P : Int) - 1) = false ∧ okS far = true ∧ dep far = 0 := by
    simp at hf
    rcases hf with rfl | rfl | rfl | rfl <;> refine ⟨rfl, ?_, by simp [okS], by simp⟩ <;> simp [isW] <;> omega
  have hodd : smp odd = true ∧ isWd A odd = false ∧ okS odd = true ∧ dep odd ≤ 1 := by
    simp at ho
    have := hD.ab
    simp only [isAB, List.mem_cons, List.not_mem_nil, or_false] at this
    rcases ho with rfl | rfl | rfl | rfl <;> refine ⟨rfl, ?_, by simp [okS, okSs], by simp⟩ <;> (obtain h | h | h | h := this <;> subst h <;> simp [isWd])
  subst hK1; rw [seqK_nxt, ws_cons]; generalize hK1 : seqK _ _ = K1
  simp [t5]
  subst hK1; rw [seqK_nxt, ws_cons]; generalize hK1 : seqK _ _ = K1
  simp [bs_law]
  have htC : tryE hkL 6 [4, 3] [far, .str ['I', 'n', 'v', 'a', 'l', 'i', 'd', 'C', 'o', 'u', 'n', 't']] = some (.tup [.str ['I', 'n', 'v', 'a', 'l', 'i', 'd', 'C', 'o', 'u', 'n', 't'], far]) := by simp
  have htW : tryE hkL 7 [4, 3] [odd, .str ['I', 'n', 'v', 'a', 'l', 'i', 'd', 'W', 'o', 'r', 'd']] = some (.tup [.str ['I', 'n', 'v', 'a', 'l', 'i', 'd', 'W', 'o', 'r', 'd'], odd]) := by simp
  rw [wc_c]
  refine ⟨trivial, ?_⟩
  rw [wc_body]
  simp
  refine wp_try0 ?_
  simp [hir, kw1]
  refine x_road_start hfar.1 hfar.2.1 ?_
  simp only [htC]
  rw [wc_c]
  refine ⟨trivial, ?_⟩
  rw [wc_body]
  simp
  refine wp_try0 ?_
  simp [hir, kw0]
  refine x_road_word (k := 0) (by omega) hodd.1 hodd.2.1 ?_
  simp only [htW]
  rw [wc_n]
  refine ⟨trivial, ?_⟩
  simp only [w_ok (same0 (.lst [.tup [.str ['I', 'n', 'v', 'a', 'l', 'i', 'd', 'C', 'o', 'u', 'n', 't'], far], .tup [.str ['I', 'n', 'v', 'a', 'l', 'i', 'd', 'W', 'o', 'r', 'd'], odd]]) _ (by simp [okS, okSs, hfar, hodd]) (by simp [hfar]; omega))]
  simp
  subst hK1; rw [seqK_nxt, ws_nil]
  exact hK _ _ ⟨_, _, _, _, _, _, _, _, _, _, _, rfl, s5.bag, t5⟩
def as2 : List Arr := [⟨0, 'a', 0, ['x']⟩, ⟨0, 'a', 1, []⟩, ⟨0, 'a', 1, ['y']⟩]
theorem law_true (ns : List Int) (hl : ns.length ≤ 63) : ∃ m, F_law [.frz (ns.map .int)] (tabCells 1 0) = .ok (.bl true) m := by
  have key : WP (F_law [.frz (ns.map .int)]) (tabCells 1 0) (fun d _ => d = .bl true) noE := by
    rw [F_law, w_run, m_law]
    obtain ⟨l, hb, e⟩ := bag0 ns hl (tabCells 1 0)
    simp [w_ok e]
    generalize D.frz (ns.map .int) = sc
    refine wf_inv rfl (fun _ r m => iLaw sc r m) ⟨_, _, _, _, _, _, _, _, _, _, _, rfl, ⟨l, rfl, hb⟩, rfl⟩ ?_ ?_
    · rintro d ds r m ⟨x2, x3, x4, x5, x6, x7, x8, x9, x10, x11, x12, rfl, hb, h0⟩
      simp only [wb_nm, List.set_cons_zero, List.set_cons_succ]
      rw [ws_cons]; generalize hK1 : seqK _ _ = K1
      simp
      refine w_law_map (most := 5) (many := 14) hb (by omega) (by omega) (by omega) fun A P es as hD m1 s1 => ?_
      subst hK1; rw [seqK_nxt, ws_cons]; generalize hK1 : seqK _ _ = K1
      simp
      refine w_law_made hD (by omega) (by omega) fun m2 e2 => ?_
      subst hK1; rw [seqK_nxt, ws_cons]; generalize hK1 : seqK _ _ = K1
      simp [mt0]
      have hA1 : A.length ≤ 100 := Nat.le_trans (isAB_len hD.ab) (by omega)
      refine wc_inv rfl (fun l acc m' => (∀ d ∈ acc, ∃ w : List Char, d = .str w ∧ (∀ c ∈ w, c ∈ A) ∧ w.length ≤ 1000) ∧ acc.length + l.length = 6 ∧ Sim 1 m2 m') ⟨by simp, by simp, Sim.refl (s1.bag.ext e2)⟩ ?_ ?_
      · rintro i l acc m3 ⟨h1, h2, s3⟩
        rw [wc_body]
        simp [mt0]
        refine w_law_text (k := 6) s3.bag (isAB_ne hD.ab) hA1 (by omega) fun x hx1 hx2 m4 s4 => ?_
        refine ⟨?_, by first | omega | (simp at h2 ⊢; omega), s3.trans s4⟩
        intro d hd
        rcases hd with hd | rfl
        · exact h1 d hd
        · exact ⟨x, rfl, hx2, by omega⟩
      rintro acc m3 ⟨h1, h2, s3⟩
      have h2' : acc.length = 6 := by first | exact h2 | omega | simpa using h2
      refine ⟨by omega, ?_⟩
      refine wf_inv rfl (fun ds r m => iIn sc A P es as ds r m) ⟨_, _, _, _, _, _, _, _, _, rfl, s3.bag, s3.get (by omega) (e2.get (s1.get (by omega) h0)), ?_⟩ ?_ ?_
      · intro d hd
        simp at hd
        rcases hd with hd | rfl
        · exact h1 d hd
        · exact ⟨[], rfl, by simp, by simp⟩
      · rintro d ds r m ⟨x2, x4, x5, x6, x7, x9, x10, x11, x12, rfl, hb, h0, hds⟩
        simp only [wb_nm, List.set_cons_zero, List.set_cons_succ]
        obtain ⟨w, rfl, hw, hwl⟩ := hds _ (List.mem_cons_self ..)
        exact in08 (sc := sc) hD hb h0 hw hwl (fun d hd => hds d (List.mem_cons_of_mem _ hd)) fun r' m' h => h
      rintro r m ⟨y2, y4, y5, y6, y7, y9, y10, y11, y12, rfl, hb, h0, -⟩
      subst hK1; rw [seqK_nxt]
      exact tail08 (sc := sc) hD hb h0 fun r' m' h => h
    · rintro r m ⟨x2, x3, x4, x5, x6, x7, x8, x9, x10, x11, x12, rfl, hb, h0⟩
      rw [seqK_nxt, ws_cons]; generalize hK1 : seqK _ _ = K1
      simp
      have hok : ∀ a ∈ as2, okArr ['a'] 2 a := by
        intro a ha
        simp only [as2, List.mem_cons, List.not_mem_nil, or_false] at ha
        rcases ha with rfl | rfl | rfl <;> simp [okArr, lets]
      have eas : [D.tup [D.int 0, D.str ['a'], D.int 0, D.str ['x']], D.tup [D.int 0, D.str ['a'], D.int 1, D.str []], D.tup [D.int 0, D.str ['a'], D.int 1, D.str ['y']]] = as2.map Arr.d := rfl
      rw [eas]
      refine w_mapNew (P := 2) (es := [1]) (as := as2) rfl ⟨by omega, by omega⟩ rfl (by simp) (by simp) rfl (fun l h => by cases h) hok (by decide) (by decide) fun m1 e1 => ?_
      rw [sortSet_asc (by simp)]
      subst hK1; rw [seqK_nxt, ws_cons]; generalize hK1 : seqK _ _ = K1
      have hir : ∀ m, isIns 31 51 m (mapD ['a'] 2 [1] as2) = true := fun m => by simp [mapD]
      simp [hir, kw0, kw1]
      refine w_road (by decide) (by simp) (by omega) (by decide) (by decide) fun m2 e2 => ?_
      refine w_road (by decide) (by simp) (by omega) (by decide) (by decide) fun m3 e3 => ?_
      refine w_road (by decide) (by simp) (by omega) (by decide) (by decide) fun m4 e4 => ?_
      refine w_road (by decide) (by simp) (by omega) (by decide) (by decide) fun m5 e5 => ?_
      rw [show roadD as2 [1] ['a'] 0 = .tup [.int 1] by simp [roadD, layV, goR, isF, as2, List.findIdx_cons], show roadD as2 [1] ['a', 'a'] 0 = .tup [.int 0, .int 1] by simp [roadD, layV, goR, isF, as2, List.findIdx_cons], show roadD as2 [1] [] 0 = .non by simp [roadD, layV, goR, isF, as2, List.findIdx_cons], show roadD as2 [1] [] 1 = .tup [] by simp [roadD, layV, goR, isF, as2, List.findIdx_cons]]
      rw [c_eqN (by simp) (by simp) (by simp) (by simp)]
      simp
      subst hK1
      simp
  obtain ⟨d, m, e, rfl⟩ := key.ex
  exact ⟨m, e⟩
end LK08

namespace LK08
open PySem PySem.Spec PyProof.Rows L2 Fs
open Classical
abbrev d_law_bag : AD := AD.glo "_law_bag" st_law_bag
abbrev d_law_pull : AD := AD.glo "_law_pull" st_law_pull
abbrev d_is_alphabet : AD := AD.glo "is_alphabet" st_is_alphabet
abbrev d_is_within : AD := AD.glo "is_within" st_is_within
abbrev d_is_mark : AD := AD.glo "is_mark" st_is_mark
abbrev d_is_word : AD := AD.glo "is_word" st_is_word
abbrev d_Map_first_line : AD := AD.met "Map" "first_line" "Map.first_line" st_Map_first_line
abbrev d_law_road : AD := AD.glo "_law_road" st_law_road
abbrev d_law_of : AD := AD.glo "_law_of" st_law_of
abbrev d_is_arrow : AD := AD.glo "is_arrow" st_is_arrow
abbrev d_law_alphabet : AD := AD.glo "_law_alphabet" st_law_alphabet
abbrev d_law_arrows : AD := AD.glo "_law_arrows" st_law_arrows
abbrev d_need_alphabet : AD := AD.glo "need_alphabet" st_need_alphabet
abbrev d_need_within : AD := AD.glo "need_within" st_need_within
abbrev d_law_text : AD := AD.glo "_law_text" st_law_text
abbrev d_need_word : AD := AD.glo "need_word" st_need_word
abbrev d_law_map : AD := AD.glo "_law_map" st_law_map
abbrev d_Map__init_ : AD := AD.met "Map" "__init__" "Map.__init__" st_Map__init_
abbrev d_Map_road : AD := AD.met "Map" "road" "Map.road" st_Map_road [("start", .int (0))]
abbrev d_law_made : AD := AD.glo "_law_made" st_law_made
abbrev d_law_same : AD := AD.glo "_law_same" st_law_same
abbrev d_law : AD := AD.glo "law" st_law
abbrev d_law_field : AD := AD.glo "_law_field" st_law_field
abbrev d_law_try : AD := AD.glo "_law_try" st_law_try
abbrev PR : Program := (PySem.Challenge.rw_forestep_k08_roads).prog
def st_InvalidAlphabet_init : Stmt := ((clsS (top 4)).getD 0 (.Pass ⟨0, 0, 0, 0⟩))
abbrev d_InvalidAlphabet_init : AD := AD.err "InvalidAlphabet" "InvalidAlphabet.__init__" st_InvalidAlphabet_init
def st_InvalidCount_init : Stmt := ((clsS (top 5)).getD 0 (.Pass ⟨0, 0, 0, 0⟩))
abbrev d_InvalidCount_init : AD := AD.err "InvalidCount" "InvalidCount.__init__" st_InvalidCount_init
def st_InvalidEnds_init : Stmt := ((clsS (top 7)).getD 0 (.Pass ⟨0, 0, 0, 0⟩))
abbrev d_InvalidEnds_init : AD := AD.err "InvalidEnds" "InvalidEnds.__init__" st_InvalidEnds_init
def st_InvalidArrow_init : Stmt := ((clsS (top 8)).getD 0 (.Pass ⟨0, 0, 0, 0⟩))
abbrev d_InvalidArrow_init : AD := AD.err "InvalidArrow" "InvalidArrow.__init__" st_InvalidArrow_init
def st_InvalidWord_init : Stmt := ((clsS (top 6)).getD 0 (.Pass ⟨0, 0, 0, 0⟩))
abbrev d_InvalidWord_init : AD := AD.err "InvalidWord" "InvalidWord.__init__" st_InvalidWord_init
def fns : List AD := [d_law_bag, d_law_pull, d_is_alphabet, d_is_within, d_is_mark, d_is_word, d_Map_first_line, d_law_road, d_law_of, d_is_arrow, d_law_alphabet, d_law_arrows, d_need_alphabet, d_need_within, d_law_text, d_need_word, d_law_map, d_Map__init_, d_Map_road, d_law_made, d_law_same, d_law, d_law_field, d_law_try, d_InvalidAlphabet_init, d_InvalidCount_init, d_InvalidEnds_init, d_InvalidArrow_init, d_InvalidWord_init]
def ts : List AD := [d_law]
def qs : List Str := [("law" : Str) ++ ".<locals>." ++ "<lambda>"]
def fas : List He.Fa := [.free "all", .free "bool", .free "enumerate", .free "int", .free "isinstance", .free "len", .free "list", .free "range", .free "set", .free "sorted", .free "str", .free "super", .free "tuple", .free "zip", .str "LETTERS" "abcdefghijklmnopqrstuvwxyz", .int "MOST_ARROWS" (60), .int "MOST_MARK" (4), .int "MOST_PLACES" (8), .int "MOST_SIGNS" (3), .glo "_law_bag", .glo "_law_pull", .glo "_law_of", .glo "_law_alphabet", .glo "_law_arrows", .glo "_law_map", .glo "is_alphabet", .glo "InvalidAlphabet", .glo "need_alphabet", .glo "is_within", .glo "InvalidCount", .glo "need_within", .glo "InvalidEnds", .glo "is_mark", .glo "is_arrow", .glo "InvalidArrow", .cls "Map", .noat "Map" "signs", .noat "Map" "total", .noat "Map" "goals", .noat "Map" "lines", .noat "Map" "key", .glo "Map", .mkr "Map", .glo "_law_made", .glo "_law_text", .glo "_law_same", .glo "is_word", .glo "InvalidWord", .glo "need_word", .meth "Map" "first_line", .meth "Map" "road", .glo "_law_road", .glo "_law_try", .glo "_law_field", .glo "StepError", .glo "Missing", .glo "NothingLeft", .glo "law"]
def ex6 (K : PySem.W.Frag) : Bool := hksB K nmF hkM
def ex5 (K : PySem.W.Frag) : Bool := errB PR.main.file K "InvalidWord" "given" && ex6 K
def ex4 (K : PySem.W.Frag) : Bool := errB PR.main.file K "InvalidArrow" "index" && ex5 K
def ex3 (K : PySem.W.Frag) : Bool := errB PR.main.file K "InvalidEnds" "tag" && ex4 K
def ex2 (K : PySem.W.Frag) : Bool := errB PR.main.file K "InvalidCount" "given" && ex3 K
def ex1 (K : PySem.W.Frag) : Bool := errB PR.main.file K "InvalidAlphabet" "given" && ex2 K
def ex0 (K : PySem.W.Frag) : Bool := clsB K "Map" && ex1 K
abbrev ex : PySem.W.Frag → Bool := ex0
abbrev R : PySem.W.OpenRow := PySem.W.OpenLaw.row PySem.Challenge.rw_forestep_k08_roads
abbrev hk : PySem.W.Hook := hookT 5 fas fns ex ts
def ob (s : PySem.W.SharedT) : AlP := obsT 5 fas fns ex ts (HandSHeadRun.getT s)
theorem ob_eq (s : PySem.W.SharedT) : ob s = hk.obs s.abs := obsT_eq (HandSHeadRun.getT_eq s)
def nms0 : List PySem.Str := [("_wall" : PySem.Str), ("StepError" : PySem.Str), ("Missing" : PySem.Str), ("InvalidAlphabet" : PySem.Str), ("InvalidCount" : PySem.Str), ("InvalidWord" : PySem.Str), ("InvalidEnds" : PySem.Str), ("InvalidArrow" : PySem.Str), ("NothingLeft" : PySem.Str), ("LETTERS" : PySem.Str), ("MOST_SIGNS" : PySem.Str), ("is_within" : PySem.Str), ("need_within" : PySem.Str), ("is_alphabet" : PySem.Str), ("need_alphabet" : PySem.Str), ("is_word" : PySem.Str), ("need_word" : PySem.Str), ("MOST_PLACES" : PySem.Str), ("MOST_ARROWS" : PySem.Str), ("MOST_MARK" : PySem.Str), ("is_mark" : PySem.Str), ("is_arrow" : PySem.Str), ("Map" : PySem.Str), ("_law_bag" : PySem.Str), ("_law_pull" : PySem.Str), ("_law_of" : PySem.Str), ("_law_same" : PySem.Str), ("_law_field" : PySem.Str), ("_law_try" : PySem.Str), ("_law_alphabet" : PySem.Str), ("_law_text" : PySem.Str), ("_law_arrows" : PySem.Str), ("_law_map" : PySem.Str), ("_law_made" : PySem.Str), ("_law_road" : PySem.Str)]
def nms : List PySem.Str := nms0
theorem run (w : World) : HandSHeadRun.RunEq R (PySem.W.view R.prog [39]) hk ob 4000 nms w := by
  intro os
  kernel_rfl
theorem facts {w : World} {K : PySem.W.Frag} {h : Heap} {mg : Str → Option Value} {f : Addr} (X : K.In h) (G : h.Ns mainGlobals mg) (hfa : mg ("law" : Str) = some (.ref f)) (c : SaysP fas fns ex K) {l : List (Addr × Addr)} (tk : TabsOk K ts l h) :
    ∃ fd : FuncData, (∀ (s : Shared) (v : Value), BindsTo s fd ⟨[v], []⟩ [("_law_script", v)]) ∧ ∀ base : Heap, K.In base → base.Ns mainGlobals mg → (∀ p ∈ l, LamX.TabB base mg p.1 p.2) → FnOk PR w K mg base (L2.CX PR w) 10 f fd ["_law_script"] (spR (fun R : FR => CK K (tbF l qs) R) 1 F_law) := by
  obtain ⟨fd_law_bag, D_law_bag⟩ := c.def_ 0 (d := d_law_bag) rfl
  obtain ⟨fd_law_pull, D_law_pull⟩ := c.def_ 1 (d := d_law_pull) rfl
  obtain ⟨fd_is_alphabet, D_is_alphabet⟩ := c.def_ 2 (d := d_is_alphabet) rfl
  obtain ⟨fd_is_within, D_is_within⟩ := c.def_ 3 (d := d_is_within) rfl
  obtain ⟨fd_is_mark, D_is_mark⟩ := c.def_ 4 (d := d_is_mark) rfl
  obtain ⟨fd_is_word, D_is_word⟩ := c.def_ 5 (d := d_is_word) rfl
  obtain ⟨fd_Map_first_line, D_Map_first_line⟩ := c.def_ 6 (d := d_Map_first_line) rfl
  obtain ⟨fd_law_road, D_law_road⟩ := c.def_ 7 (d := d_law_road) rfl
  obtain ⟨fd_law_of, D_law_of⟩ := c.def_ 8 (d := d_law_of) rfl
  obtain ⟨fd_is_arrow, D_is_arrow⟩ := c.def_ 9 (d := d_is_arrow) rfl
  obtain ⟨fd_law_alphabet, D_law_alphabet⟩ := c.def_ 10 (d := d_law_alphabet) rfl
  obtain ⟨fd_law_arrows, D_law_arrows⟩ := c.def_ 11 (d := d_law_arrows) rfl
  obtain ⟨fd_need_alphabet, D_need_alphabet⟩ := c.def_ 12 (d := d_need_alphabet) rfl
  obtain ⟨fd_need_within, D_need_within⟩ := c.def_ 13 (d := d_need_within) rfl
  obtain ⟨fd_law_text, D_law_text⟩ := c.def_ 14 (d := d_law_text) rfl
  obtain ⟨fd_need_word, D_need_word⟩ := c.def_ 15 (d := d_need_word) rfl
  obtain ⟨fd_law_map, D_law_map⟩ := c.def_ 16 (d := d_law_map) rfl
  obtain ⟨fd_Map__init_, D_Map__init_⟩ := c.def_ 17 (d := d_Map__init_) rfl
  obtain ⟨fd_Map_road, D_Map_road⟩ := c.def_ 18 (d := d_Map_road) rfl
  obtain ⟨fd_law_made, D_law_made⟩ := c.def_ 19 (d := d_law_made) rfl
  obtain ⟨fd_law_same, D_law_same⟩ := c.def_ 20 (d := d_law_same) rfl
  obtain ⟨fd_law, D_law⟩ := c.def_ 21 (d := d_law) rfl
  obtain ⟨fd_law_field, D_law_field⟩ := c.def_ 22 (d := d_law_field) rfl
  obtain ⟨fd_law_try, D_law_try⟩ := c.def_ 23 (d := d_law_try) rfl
  have G_law := He.glo_ok X G (c.fact 57 (f := .glo "law") rfl)
  cases hfa.symm.trans G_law
  obtain ⟨e0, r0⟩ := He.ba (show (clsB K "Map" && ex1 K) = true from c.all.2.2)
  obtain ⟨e1, r1⟩ := He.ba (show (errB PR.main.file K "InvalidAlphabet" "given" && ex2 K) = true from r0)
  obtain ⟨e2, r2⟩ := He.ba (show (errB PR.main.file K "InvalidCount" "given" && ex3 K) = true from r1)
  obtain ⟨e3, r3⟩ := He.ba (show (errB PR.main.file K "InvalidEnds" "tag" && ex4 K) = true from r2)
  obtain ⟨e4, r4⟩ := He.ba (show (errB PR.main.file K "InvalidArrow" "index" && ex5 K) = true from r3)
  obtain ⟨e5, r5⟩ := He.ba (show (errB PR.main.file K "InvalidWord" "given" && ex6 K) = true from r4)
  have e6 : hksB K nmF hkM = true := r5
  refine ⟨fd_law, fun s v => (FunD.bindsA (ps := ["_law_script"]) D_law fun _ _ _ _ _ _ us hl => match us, hl with | [_], _ => rfl) s [v] rfl, fun base _ _ hTB => ?_⟩
  let T := tbF l qs
  obtain ⟨p_0, hp_0⟩ := tab_at tk (i := 0) (by decide)
  have TB_0 := hTB p_0 (List.mem_of_getElem? hp_0)
  have hj_0 : T 0 = (p_0.2, ("law" : Str) ++ ".<locals>." ++ "<lambda>") := tbF_at hp_0 rfl
  have hc_0 : fd_law.code = .ref p_0.1 := code_of D_law tk (d := d_law) (i := 0) rfl hp_0 rfl
  have B : Bi mg := ⟨He.free_ok X G (c.fact 0 (f := .free "all") rfl), He.free_ok X G (c.fact 1 (f := .free "bool") rfl), He.free_ok X G (c.fact 2 (f := .free "enumerate") rfl), He.free_ok X G (c.fact 3 (f := .free "int") rfl), He.free_ok X G (c.fact 4 (f := .free "isinstance") rfl), He.free_ok X G (c.fact 5 (f := .free "len") rfl), He.free_ok X G (c.fact 6 (f := .free "list") rfl), He.free_ok X G (c.fact 7 (f := .free "range") rfl), He.free_ok X G (c.fact 8 (f := .free "set") rfl), He.free_ok X G (c.fact 9 (f := .free "sorted") rfl), He.free_ok X G (c.fact 10 (f := .free "str") rfl), He.free_ok X G (c.fact 11 (f := .free "super") rfl), He.free_ok X G (c.fact 12 (f := .free "tuple") rfl), He.free_ok X G (c.fact 13 (f := .free "zip") rfl)⟩
  have g_LETTERS : ∀ R, GV (CK K T R) mg "LETTERS" c_LETTERS := fun R => gv_str X G (c.fact 14 (f := .str "LETTERS" "abcdefghijklmnopqrstuvwxyz") rfl) (by kernel_rfl) (by decide)
  have g_MOST_ARROWS : ∀ R, GV (CK K T R) mg "MOST_ARROWS" c_MOST_ARROWS := fun R => gv_int X G (c.fact 15 (f := .int "MOST_ARROWS" (60)) rfl)
  have g_MOST_MARK : ∀ R, GV (CK K T R) mg "MOST_MARK" c_MOST_MARK := fun R => gv_int X G (c.fact 16 (f := .int "MOST_MARK" (4)) rfl)
  have g_MOST_PLACES : ∀ R, GV (CK K T R) mg "MOST_PLACES" c_MOST_PLACES := fun R => gv_int X G (c.fact 17 (f := .int "MOST_PLACES" (8)) rfl)
  have g_MOST_SIGNS : ∀ R, GV (CK K T R) mg "MOST_SIGNS" c_MOST_SIGNS := fun R => gv_int X G (c.fact 18 (f := .int "MOST_SIGNS" (3)) rfl)
  have u_law_bag : ∀ R, UF (CK K T R) PR w mg base 1 "_law_bag" F_law_bag := fun R => mkUF D_law_bag (k_law_bag (K := K) (T := T) (R := R) (P := PR) (w := w) (mg := mg) (base := base) B D_law_bag) ne_law_bag (D_law_bag.bindsN fun _ _ _ _ _ _ us hl => match us, hl with | [_], _ => rfl) (He.glo_ok X G (c.fact 19 (f := .glo "_law_bag") rfl)) rfl
  have u_law_pull : ∀ R, UF (CK K T R) PR w mg base 1 "_law_pull" F_law_pull := fun R => mkUF D_law_pull (k_law_pull (K := K) (T := T) (R := R) (P := PR) (w := w) (mg := mg) (base := base) B D_law_pull) ne_law_pull (D_law_pull.bindsN fun _ _ _ _ _ _ us hl => match us, hl with | [_, _], _ => rfl) (He.glo_ok X G (c.fact 20 (f := .glo "_law_pull") rfl)) rfl
  have u_law_of : ∀ R, UF (CK K T R) PR w mg base 2 "_law_of" F_law_of := fun R => mkUF D_law_of (k_law_of (K := K) (T := T) (R := R) (P := PR) (w := w) (mg := mg) (base := base) B (u_law_pull R) D_law_of) ne_law_of (D_law_of.bindsN fun _ _ _ _ _ _ us hl => match us, hl with | [_, _], _ => rfl) (He.glo_ok X G (c.fact 21 (f := .glo "_law_of") rfl)) rfl
  have u_law_alphabet : ∀ R, UF (CK K T R) PR w mg base 3 "_law_alphabet" F_law_alphabet := fun R => mkUF D_law_alphabet (k_law_alphabet (K := K) (T := T) (R := R) (P := PR) (w := w) (mg := mg) (base := base) B (u_law_of R) D_law_alphabet) ne_law_alphabet (D_law_alphabet.bindsN fun _ _ _ _ _ _ us hl => match us, hl with | [_], _ => rfl) (He.glo_ok X G (c.fact 22 (f := .glo "_law_alphabet") rfl)) rfl
  have u_law_arrows : ∀ R, UF (CK K T R) PR w mg base 3 "_law_arrows" F_law_arrows := fun R => mkUF D_law_arrows (k_law_arrows (K := K) (T := T) (R := R) (P := PR) (w := w) (mg := mg) (base := base) B (u_law_pull R) (u_law_of R) D_law_arrows) ne_law_arrows (D_law_arrows.bindsN fun _ _ _ _ _ _ us hl => match us, hl with | [_, _, _, _, _], _ => rfl) (He.glo_ok X G (c.fact 23 (f := .glo "_law_arrows") rfl)) rfl
  have u_law_map : ∀ R, UF (CK K T R) PR w mg base 4 "_law_map" F_law_map := fun R => mkUF D_law_map (k_law_map (K := K) (T := T) (R := R) (P := PR) (w := w) (mg := mg) (base := base) B (u_law_alphabet R) (u_law_pull R) (u_law_arrows R) D_law_map) ne_law_map (D_law_map.bindsN fun _ _ _ _ _ _ us hl => match us, hl with | [_, _, _], _ => rfl) (He.glo_ok X G (c.fact 24 (f := .glo "_law_map") rfl)) rfl
  have hcls : ∀ R, ∀ c ∈ cls, ClsI (CK K T R) c := fun R => fun c h => by
    simp only [cls, List.mem_cons, List.not_mem_nil, or_false] at h
    rcases h with rfl
    · exact clsB_ok e0
  have u_is_alphabet : ∀ R, UF (CK K T R) PR w mg base 1 "is_alphabet" F_is_alphabet := fun R => mkUF D_is_alphabet (k_is_alphabet (K := K) (T := T) (R := R) (P := PR) (w := w) (mg := mg) (base := base) B (g_LETTERS R) (g_MOST_SIGNS R) (hcls R) D_is_alphabet) ne_is_alphabet (D_is_alphabet.bindsN fun _ _ _ _ _ _ us hl => match us, hl with | [_], _ => rfl) (He.glo_ok X G (c.fact 25 (f := .glo "is_alphabet") rfl)) rfl
  have ue_InvalidAlphabet : ∀ R, UE (CK K T R) PR w mg base 2 (some "given") "InvalidAlphabet" := fun R => mkUE1 (C := CK K T R) (c := 2) (fld := "given") c 24 (d := d_InvalidAlphabet_init) rfl rfl (errB_ok e1) rfl rfl rfl rfl (fun _ => rfl) ⟨by decide +kernel, rfl, rfl, by decide +kernel, rfl, rfl, rfl, by decide +kernel, by decide +kernel, rfl, rfl⟩ (by decide) (by decide) (by decide +kernel) B.super (He.glo_ok X G (c.fact 26 (f := .glo "InvalidAlphabet") rfl)) (fun _ _ _ _ _ _ _ us hl => match us, hl with | [_, _], _ => rfl)
  have u_need_alphabet : ∀ R, UF (CK K T R) PR w mg base 3 "need_alphabet" F_need_alphabet := fun R => mkUF D_need_alphabet (k_need_alphabet (K := K) (T := T) (R := R) (P := PR) (w := w) (mg := mg) (base := base) B (u_is_alphabet R) (ue_InvalidAlphabet R) D_need_alphabet) ne_need_alphabet (D_need_alphabet.bindsN fun _ _ _ _ _ _ us hl => match us, hl with | [_], _ => rfl) (He.glo_ok X G (c.fact 27 (f := .glo "need_alphabet") rfl)) rfl
  have u_is_within : ∀ R, UF (CK K T R) PR w mg base 1 "is_within" F_is_within := fun R => mkUF D_is_within (k_is_within (K := K) (T := T) (R := R) (P := PR) (w := w) (mg := mg) (base := base) B (hcls R) D_is_within) ne_is_within (D_is_within.bindsN fun _ _ _ _ _ _ us hl => match us, hl with | [_, _, _], _ => rfl) (He.glo_ok X G (c.fact 28 (f := .glo "is_within") rfl)) rfl
  have ue_InvalidCount : ∀ R, UE (CK K T R) PR w mg base 6 (some "given") "InvalidCount" := fun R => mkUE1 (C := CK K T R) (c := 6) (fld := "given") c 25 (d := d_InvalidCount_init) rfl rfl (errB_ok e2) rfl rfl rfl rfl (fun _ => rfl) ⟨by decide +kernel, rfl, rfl, by decide +kernel, rfl, rfl, rfl, by decide +kernel, by decide +kernel, rfl, rfl⟩ (by decide) (by decide) (by decide +kernel) B.super (He.glo_ok X G (c.fact 29 (f := .glo "InvalidCount") rfl)) (fun _ _ _ _ _ _ _ us hl => match us, hl with | [_, _], _ => rfl)
  have u_need_within : ∀ R, UF (CK K T R) PR w mg base 3 "need_within" F_need_within := fun R => mkUF D_need_within (k_need_within (K := K) (T := T) (R := R) (P := PR) (w := w) (mg := mg) (base := base) B (u_is_within R) (ue_InvalidCount R) D_need_within) ne_need_within (D_need_within.bindsN fun _ _ _ _ _ _ us hl => match us, hl with | [_, _, _], _ => rfl) (He.glo_ok X G (c.fact 30 (f := .glo "need_within") rfl)) rfl
  have ue_InvalidEnds : ∀ R, UE (CK K T R) PR w mg base 10 none "InvalidEnds" := fun R => mkUE0 (C := CK K T R) (c := 10) (fld := "tag") c 26 (d := d_InvalidEnds_init) rfl rfl (errB_ok e3) rfl rfl rfl rfl (fun _ => rfl) ⟨by decide +kernel, rfl, rfl, by decide +kernel, rfl, rfl, rfl, by decide +kernel, by decide +kernel, rfl, rfl⟩ (by decide +kernel) B.super (He.glo_ok X G (c.fact 31 (f := .glo "InvalidEnds") rfl)) (fun _ _ _ _ _ _ _ us hl => match us, hl with | [_], _ => rfl)
  have u_is_mark : ∀ R, UF (CK K T R) PR w mg base 1 "is_mark" F_is_mark := fun R => mkUF D_is_mark (k_is_mark (K := K) (T := T) (R := R) (P := PR) (w := w) (mg := mg) (base := base) B (g_LETTERS R) (g_MOST_MARK R) (hcls R) D_is_mark) ne_is_mark (D_is_mark.bindsN fun _ _ _ _ _ _ us hl => match us, hl with | [_], _ => rfl) (He.glo_ok X G (c.fact 32 (f := .glo "is_mark") rfl)) rfl
  have u_is_arrow : ∀ R, UF (CK K T R) PR w mg base 2 "is_arrow" F_is_arrow := fun R => mkUF D_is_arrow (k_is_arrow (K := K) (T := T) (R := R) (P := PR) (w := w) (mg := mg) (base := base) B (hcls R) (u_is_within R) (u_is_mark R) D_is_arrow) ne_is_arrow (D_is_arrow.bindsN fun _ _ _ _ _ _ us hl => match us, hl with | [_, _, _], _ => rfl) (He.glo_ok X G (c.fact 33 (f := .glo "is_arrow") rfl)) rfl
  have ue_InvalidArrow : ∀ R, UE (CK K T R) PR w mg base 11 (some "index") "InvalidArrow" := fun R => mkUE1 (C := CK K T R) (c := 11) (fld := "index") c 27 (d := d_InvalidArrow_init) rfl rfl (errB_ok e4) rfl rfl rfl rfl (fun _ => rfl) ⟨by decide +kernel, rfl, rfl, by decide +kernel, rfl, rfl, rfl, by decide +kernel, by decide +kernel, rfl, rfl⟩ (by decide) (by decide) (by decide +kernel) B.super (He.glo_ok X G (c.fact 34 (f := .glo "InvalidArrow") rfl)) (fun _ _ _ _ _ _ _ us hl => match us, hl with | [_, _], _ => rfl)
  have fd_signs : ∀ R, ∀ c ∈ ([31] : List Nat), FldC (CK K T R) c 32 := fun R => fun c h => by
    simp only [List.mem_cons, List.not_mem_nil, or_false] at h
    rcases h with rfl
    · exact ⟨He.cls_ok (c.fact 35 (f := .cls "Map") rfl), He.noat_ok (c.fact 36 (f := .noat "Map" "signs") rfl)⟩
  have fd_total : ∀ R, ∀ c ∈ ([31] : List Nat), FldC (CK K T R) c 33 := fun R => fun c h => by
    simp only [List.mem_cons, List.not_mem_nil, or_false] at h
    rcases h with rfl
    · exact ⟨He.cls_ok (c.fact 35 (f := .cls "Map") rfl), He.noat_ok (c.fact 37 (f := .noat "Map" "total") rfl)⟩
  have fd_goals : ∀ R, ∀ c ∈ ([31] : List Nat), FldC (CK K T R) c 34 := fun R => fun c h => by
    simp only [List.mem_cons, List.not_mem_nil, or_false] at h
    rcases h with rfl
    · exact ⟨He.cls_ok (c.fact 35 (f := .cls "Map") rfl), He.noat_ok (c.fact 38 (f := .noat "Map" "goals") rfl)⟩
  have fd_lines : ∀ R, ∀ c ∈ ([31] : List Nat), FldC (CK K T R) c 35 := fun R => fun c h => by
    simp only [List.mem_cons, List.not_mem_nil, or_false] at h
    rcases h with rfl
    · exact ⟨He.cls_ok (c.fact 35 (f := .cls "Map") rfl), He.noat_ok (c.fact 39 (f := .noat "Map" "lines") rfl)⟩
  have fd_key : ∀ R, ∀ c ∈ ([31] : List Nat), FldC (CK K T R) c 36 := fun R => fun c h => by
    simp only [List.mem_cons, List.not_mem_nil, or_false] at h
    rcases h with rfl
    · exact ⟨He.cls_ok (c.fact 35 (f := .cls "Map") rfl), He.noat_ok (c.fact 40 (f := .noat "Map" "key") rfl)⟩
  have uk_Map : ∀ R, UK (CK K T R) PR w mg base 4 31 F_Map__init_ := fun R => mkUK (c := 31) (k_Map__init_ (K := K) (T := T) (R := R) (P := PR) (w := w) (mg := mg) (base := base) B (g_MOST_ARROWS R) (g_MOST_PLACES R) (u_need_alphabet R) (u_need_within R) (u_is_within R) (ue_InvalidEnds R) (u_is_arrow R) (ue_InvalidArrow R) (fd_signs R) (fd_total R) (fd_goals R) (fd_lines R) (fd_key R) D_Map__init_) ne_Map__init_ (D_Map__init_.bindsN fun _ _ _ _ _ _ us hl => match us, hl with | [_, _, _, _, _], _ => rfl) (He.glo_ok X G (c.fact 41 (f := .glo "Map") rfl)) (He.mkr_ok (c.fact 42 (f := .mkr "Map") rfl))
  have u_law_made : ∀ R, UF (CK K T R) PR w mg base 6 "_law_made" F_law_made := fun R => mkUF D_law_made (k_law_made (K := K) (T := T) (R := R) (P := PR) (w := w) (mg := mg) (base := base) B (uk_Map R) D_law_made) ne_law_made (D_law_made.bindsN fun _ _ _ _ _ _ us hl => match us, hl with | [_], _ => rfl) (He.glo_ok X G (c.fact 43 (f := .glo "_law_made") rfl)) rfl
  have u_law_text : ∀ R, UF (CK K T R) PR w mg base 3 "_law_text" F_law_text := fun R => mkUF D_law_text (k_law_text (K := K) (T := T) (R := R) (P := PR) (w := w) (mg := mg) (base := base) B (u_law_pull R) (u_law_of R) D_law_text) ne_law_text (D_law_text.bindsN fun _ _ _ _ _ _ us hl => match us, hl with | [_, _, _], _ => rfl) (He.glo_ok X G (c.fact 44 (f := .glo "_law_text") rfl)) rfl
  have u_law_same : ∀ R, UF (CK K T R) PR w mg base 6 "_law_same" F_law_same := fun R => mkUF D_law_same (k_law_same (K := K) (T := T) (R := R) (P := PR) (w := w) (mg := mg) (base := base) B (hcls R) D_law_same (He.glo_ok X G (c.fact 45 (f := .glo "_law_same") rfl)) (D_law_same.bindsN fun _ _ _ _ _ _ us hl => match us, hl with | [_, _], _ => rfl)) ne_law_same (D_law_same.bindsN fun _ _ _ _ _ _ us hl => match us, hl with | [_, _], _ => rfl) (He.glo_ok X G (c.fact 45 (f := .glo "_law_same") rfl)) rfl
  have u_is_word : ∀ R, UF (CK K T R) PR w mg base 1 "is_word" F_is_word := fun R => mkUF D_is_word (k_is_word (K := K) (T := T) (R := R) (P := PR) (w := w) (mg := mg) (base := base) B (hcls R) D_is_word) ne_is_word (D_is_word.bindsN fun _ _ _ _ _ _ us hl => match us, hl with | [_, _], _ => rfl) (He.glo_ok X G (c.fact 46 (f := .glo "is_word") rfl)) rfl
  have ue_InvalidWord : ∀ R, UE (CK K T R) PR w mg base 7 (some "given") "InvalidWord" := fun R => mkUE1 (C := CK K T R) (c := 7) (fld := "given") c 28 (d := d_InvalidWord_init) rfl rfl (errB_ok e5) rfl rfl rfl rfl (fun _ => rfl) ⟨by decide +kernel, rfl, rfl, by decide +kernel, rfl, rfl, rfl, by decide +kernel, by decide +kernel, rfl, rfl⟩ (by decide) (by decide) (by decide +kernel) B.super (He.glo_ok X G (c.fact 47 (f := .glo "InvalidWord") rfl)) (fun _ _ _ _ _ _ _ us hl => match us, hl with | [_, _], _ => rfl)
  have u_need_word : ∀ R, UF (CK K T R) PR w mg base 3 "need_word" F_need_word := fun R => mkUF D_need_word (k_need_word (K := K) (T := T) (R := R) (P := PR) (w := w) (mg := mg) (base := base) B (u_is_word R) (ue_InvalidWord R) D_need_word) ne_need_word (D_need_word.bindsN fun _ _ _ _ _ _ us hl => match us, hl with | [_, _], _ => rfl) (He.glo_ok X G (c.fact 48 (f := .glo "need_word") rfl)) rfl
  have um_Map_first_line : ∀ R, UM (CK K T R) PR w mg base 1 31 39 F_Map_first_line := fun R => mkUM (k_Map_first_line (K := K) (T := T) (R := R) (P := PR) (w := w) (mg := mg) (base := base) B (fd_lines R) D_Map_first_line) ne_Map_first_line (D_Map_first_line.bindsN fun _ _ _ _ _ _ us hl => match us, hl with | [_, _, _, _], _ => rfl) (He.cls_ok (c.fact 35 (f := .cls "Map") rfl)) (He.meth_ok (c.fact 49 (f := .meth "Map" "first_line") rfl))
  have uw_Map_road_1_ : ∀ R, UMK (CK K T R) PR w mg base 4 31 51 1 [] (fun ds es => sel [0, 1, 2] (ds ++ .int (0) :: es)) F_Map_road := fun R => mkUMK (k_Map_road (K := K) (T := T) (R := R) (P := PR) (w := w) (mg := mg) (base := base) B (u_need_within R) (fd_total R) (u_need_word R) (fd_signs R) (fd_goals R) (fd_lines R) (um_Map_first_line R) D_Map_road) ne_Map_road (ka_dflF D_Map_road ("start", .int (0)) (List.mem_cons_self ..) (.int (0)) (fun _ => by simp only [Rep]) [0, 1, 2] fun _ _ _ _ _ _ us v ws h1 h2 => match us, h1, ws, h2 with | [a0, a1], _, [], _ => bindK2 (by decide) (by decide) (by decide) (by decide) (by decide) (by decide) rfl rfl rfl a0 a1 v) (He.cls_ok (c.fact 35 (f := .cls "Map") rfl)) (He.meth_ok (c.fact 50 (f := .meth "Map" "road") rfl))
  have uw_Map_road_1_start : ∀ R, UMK (CK K T R) PR w mg base 4 31 51 1 ["start"] (fun ds es => sel [0, 1, 2] (ds ++ es)) F_Map_road := fun R => mkUMK (k_Map_road (K := K) (T := T) (R := R) (P := PR) (w := w) (mg := mg) (base := base) B (u_need_within R) (fd_total R) (u_need_word R) (fd_signs R) (fd_goals R) (fd_lines R) (um_Map_first_line R) D_Map_road) ne_Map_road (ka_dfl0 D_Map_road (List.cons_ne_nil _ _) [0, 1, 2] fun _ _ _ _ _ _ us ws h1 h2 => match us, h1, ws, h2 with | [_, _], _, [_], _ => rfl) (He.cls_ok (c.fact 35 (f := .cls "Map") rfl)) (He.meth_ok (c.fact 50 (f := .meth "Map" "road") rfl))
  have u_law_road : ∀ R, UF (CK K T R) PR w mg base 1 "_law_road" F_law_road := fun R => mkUF D_law_road (k_law_road (K := K) (T := T) (R := R) (P := PR) (w := w) (mg := mg) (base := base) B D_law_road) ne_law_road (D_law_road.bindsN fun _ _ _ _ _ _ us hl => match us, hl with | [_, _, _], _ => rfl) (He.glo_ok X G (c.fact 51 (f := .glo "_law_road") rfl)) rfl
  have hTry : ∀ R, TryD (CK K T R) PR w mg base 6 nmN hkL := fun R => ⟨⟨_, _, _, _, .ref (He.ga K "StepError"), .ref (He.ga K "Missing"), .ref (He.ga K "NothingLeft"), 0, _, _, _, _, _, _, _, _, _, _, _, _, _, _, _, _, _, _, _, _, _, _, _, _, _, _, _, _, _, _, _, D_law_try, He.glo_ok X G (c.fact 52 (f := .glo "_law_try") rfl), (D_law_try.bindsN fun _ _ _ _ _ _ us hl => match us, hl with | [_], _ => rfl), sc_law_try, sct_law_try, mkFieldD D_law_field sc_law_field (He.glo_ok X G (c.fact 53 (f := .glo "_law_field") rfl)) (D_law_field.bindsN fun _ _ _ _ _ _ us hl => match us, hl with | [_], _ => rfl) (fun a dd fs c L oe hL hz hf cdv A outer s H E hr => b_law_field a dd fs c L oe hL hz hf cdv A outer s H E hr), He.glo_ok X G (c.fact 54 (f := .glo "StepError") rfl), He.glo_ok X G (c.fact 55 (f := .glo "Missing") rfl), He.glo_ok X G (c.fact 56 (f := .glo "NothingLeft") rfl), hksB_ok (l := hkM) e6 (by decide)⟩⟩
  exact k_law B u_law_bag u_law_map u_law_made u_law_text u_law_pull u_law_same uw_Map_road_1_ uw_Map_road_1_start u_law_road u_law_of hTry uk_Map TB_0 hj_0 hc_0 D_law
end LK08
open PySem PySem.W PySem.Calls PyProof.Rows
theorem PySem.Challenge.cw_forestep_k08_roads_holds : PySem.Challenge.rw_forestep_k08_roads.Holds := by
  w_on; o_law
  refine HandSHeadRun.head_any (r := OpenLaw.row PySem.Challenge.rw_forestep_k08_roads) (q := view (OpenLaw.row PySem.Challenge.rw_forestep_k08_roads).prog [39]) (H := LK08.hk) (ob := LK08.ob) (M := 4000) (loose := LK08.nms) (d := HandSHeadRun.topDef (OpenLaw.row PySem.Challenge.rw_forestep_k08_roads).prog 39) (kwd := []) LK08.ob_eq
    (by kernel_rfl) (fun s => by kernel_rfl) LK08.run (by kernel_rfl) (by kernel_rfl) (by kernel_rfl) (by rfl) (by first | assumption | decide +kernel) (by decide +kernel) ⟨rfl, rfl, rfl, rfl, rfl, by decide +kernel⟩ ?hw ?hc
  case hw => w_witness2
  case hc =>
    refine LamX.walk_ofTsE (l := PySem.Challenge.rw_forestep_k08_roads) (n := 63) (k := 10) (x := "_law_script") (CX := fun _ => Fs.CXe) rfl (by decide) (by kernel_rfl) ⟨rfl, by decide, by decide⟩ ?F (fun _ _ _ _ _ z => Fs.CXe_no z)
    intro w mg fa h Y G hmg0
    obtain ⟨K, l, KX, c, tk⟩ := Y
    have hmg : mg ("law" : PySem.Str) = some (.ref fa) := by
      have e : (HandSHeadRun.topDef (OpenLaw.row PySem.Challenge.rw_forestep_k08_roads).prog 39).name = ("law" : PySem.Str) := by kernel_rfl
      rw [← e]
      exact hmg0
    obtain ⟨fd, hb, hF⟩ := LK08.facts (w := w) KX G hmg c tk
    exact ⟨K, KX, fd, l, Fs.spR (fun R : Fs.FR => LK08.CK K (Fs.tbF l LK08.qs) R) 1 LK08.F_law, tk.em, tk.no, fun p hp => Fs.codeHd_of KX (tk.cd p hp), hb, fun H a ns hl hbits hT hS => Fs.law_endT (n := 1) (K := K) ((Fs.tk_len tk).trans rfl) tk.nd (fun _ i p hp => Fs.tbF_fst tk hp rfl) (fun _ => rfl) tk.no LK08.law_true H a ns hl hbits hT hS, fun base h1 h2 h3 => Fs.fn_e (hF base h1 h2 h3)⟩

