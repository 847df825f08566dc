import PyProof.Rows.All
import Wide.All
import OpenK.AllK
import Wide.FinOn
import HandS.Iter
import HandS.Zip
import KE.GoesEnum
import HandS.ForMost
import HandS.TryOnly
import HandS.ExcOwn
import HandS.ExcIs
import HandS.IsInst
import HandS.Deep
import HandS.Wide
import HandS.TupAny
import HandS.TupLe
import HandS.Flow
import HandS.NoneIn
import HandS.WordsExc
import KE.DataEq
import HandS.Conv
import HandS.RaiseMore
import HandS.Style
import HandS.List
import PyProof.Rows.SortShellAny
import HandS.TupMul
import PyProof.CollectStr
import PyProof.ReprRoads
import PyProof.ReprLen
import KE.DataMinMax
import HandS.More
import HandS.Defaults
import HandS.Head0
import HandS.Head1
import HandS.Head2
import HandS.EndBits
import HandS.HeadHook1
import PySem.Challenge.RW_sailloft_k25_margins
set_option Elab.async false
set_option linter.all false
set_option maxRecDepth 100000
set_option maxHeartbeats 4000000
namespace Z
open PySem PySem.Spec PyProof.Rows L2
/-! ### enumerate(tuple) -/
theorem meets_enumB {v : Value} {o : Obj} {H : Heap → Prop} (B : Begins v o H) :
    Meets (Builtin.«enumerate.__new__» ⟨[.type "enumerate", v], []⟩) (fun _ R s => H s.heap ∧
      R (.ok (.ret (.ref (s.heap.push o).objs.size))) { s with heap := (s.heap.push o).push { cls := .type "enumerate", data := .fields #[.none, .bool false, .ref s.heap.objs.size, rawInt 0, .none, .none] } }) :=
  .of_wp fun prog w A R s h => by
    obtain ⟨hp, g, d, tk, os⟩ := s; obtain ⟨h1, h⟩ := h
    have hsub := sub_enumerate
    have q1 : ∀ {A' : Around} {E : Value → Shared → Prop} {Q : Value → Shared → Prop}, Q (.ref hp.objs.size) ⟨hp.push o, g, d, tk, os⟩ → wpAny (model prog w) A' (pyIter v) Q E ⟨hp, g, d, tk, os⟩ :=
      fun q => B.iter prog w _ _ ⟨hp, g, d, tk, os⟩ _ h1 q
    wp_walk using q1
    refine wpAny_stack_any fun st => wpAny_pure ?_
    split
    · rename_i c _ _ _ _ _
      cases (c == Value.type "enumerate")
      · wp_walk using q1
        exact ⟨_, rfl, h⟩
      · wp_walk using q1
        exact ⟨_, rfl, h⟩
    · wp_walk using q1
      exact ⟨_, rfl, h⟩
theorem call_enumB {prog : Program} {w : World} {A : Around} {E : Value → Shared → Prop} {s : Shared} {v : Value} {o : Obj} {H : Heap → Prop} {Q : Value → Shared → Prop} (B : Begins v o H) (h1 : H s.heap)
    (h : ∀ h', IsEnum h' (s.heap.objs.size + 1) s.heap.objs.size 0 .none → h'.get? s.heap.objs.size = some o → h'.objs.size = s.heap.objs.size + 2 →
      (∀ b o, s.heap.get? b = some o → h'.get? b = some o) → Q (.ref (s.heap.objs.size + 1)) { s with heap := h' }) :
    wpAny (model prog w) A (call (.type "enumerate") [v]) Q E s := by
  refine callType_new F.called_enumerate (by decide) (F.typeCall_enumerate_1 _) (F.newCall_enumerate_1 _) (fun obj => F.args_object_init_2 obj _) F.entry_enumerate_new
    (meets_enumB B) ⟨h1, ?_⟩
  have hz : (s.heap.push o).objs.size = s.heap.objs.size + 1 := Heap.size_push ..
  show _ ∧ _
  rw [hz]
  have he : IsEnum ((s.heap.push o).push { cls := .type "enumerate", data := .fields #[.none, .bool false, .ref s.heap.objs.size, rawInt 0, .none, .none] }) (s.heap.objs.size + 1) s.heap.objs.size 0 .none := by
    have := Heap.get?_push_size (s.heap.push o) (o := { cls := .type "enumerate", data := .fields #[.none, .bool false, .ref s.heap.objs.size, rawInt 0, .none, .none] }) rfl
    rw [hz] at this; exact this
  refine ⟨⟨_, he, rfl⟩, h _ he (Heap.get?_push_of_some _ (Heap.get?_push_size _ B.free)) (by rw [Heap.size_push, hz]) fun b o x => Heap.get?_push_of_some _ (Heap.get?_push_of_some _ x)⟩
theorem enum_endT {prog : Program} {w : World} {A : Around} {E : Value → Shared → Prop} {s : Shared} {e it t : Addr} {n : Nat} {items : Array Value} {i : Int} {old : Value} {Q : Option Value → Shared → Prop} (hh : A.handled = none)
    (he : IsEnum s.heap e it i old) (hit : s.heap.IsTupleIter it t n) (ht : s.heap.IsTuple t items) (hx : items[n]? = none)
    (hQ : ∀ h', Heap.ExtBut it s.heap h' → Q none { s with heap := h' }) : wpAny (model prog w) A (pyNext (.ref e)) Q E s := by
  have hT : s.TypeIs (.ref e) "enumerate" := ⟨_, he, rfl⟩
  unfold pyNext
  refine wpAny_bind (wpAny_attempt (wpAny_callSpecial?_slot (name := Str.ofString "__next__") hT F.slot_enumerate_next
    (wpAny_call_entry F.slot_enumerate_next hT F.entry_enumerate_next ?_ (F.args_enumerate_next_1 _))))
  show wpAny _ _ (field (.ref e) 2 >>= _) _ _ _
  refine wpAny_bind (wpAny_field he rfl (x := .ref it) rfl ?_)
  refine wpAny_bind (wpAny_nextOf_tuple_end (A := A.in1) hh hit ht hx fun h' x hx' he' => ?_)
  obtain ⟨o, ho, hc⟩ := he'
  refine wpAny_bind (wpAny_isInstance (T := "StopIteration") (b := true) ⟨o, ho, hc⟩ isSubtype_stop ?_)
  exact wpAny_pure (hQ _ hx')
/-- the tuple at a as it stands at each turn, each item in a new pair -/
def IteT (K : PySem.W.Frag) (a : Addr) : It :=
  ⟨fun i H => ∃ (xs : List V) (x : V), SqT K H a xs ∧ xs[i]? = some x, fun i H v H' => ∃ T x, v = .ref T ∧ H T = none ∧ H' = upd H T (.tup [.int (i : Nat), x]) ∧ ∀ xs, SqT K H a xs → xs[i]? = some x, fun i H => ∃ xs : List V, SqT K H a xs ∧ xs.length ≤ i⟩
theorem turn_enumT {P : Program} {w : World} {K : PySem.W.Frag} {elts : List Expr} {kk : Nat} {tpos : Pos} (a e it : Addr) :
    Turn P w K (.Tuple elts kk tpos) (IteT K a) [e, it] e (fun i h => (∃ old, IsEnum h e it ((i : Nat) : Int) old) ∧ h.IsTupleIter it a i ∧ e ≠ it ∧ e ≠ a ∧ a ≠ it) where
  mem := by simp
  obj := fun i h st b hb => by
    obtain ⟨⟨old, he⟩, ⟨o, ho, hc, hd⟩, _⟩ := st
    have e' : b = e ∨ b = it := by simpa using hb
    rcases e' with z | z
    · rw [z]; exact ⟨_, he, fun v q => nomatch q⟩
    · rw [z]; exact ⟨o, ho, fun v q => by rw [hd] at q; cases q⟩
  keep := fun i h h' st k => let ⟨⟨old, he⟩, hi, hne⟩ := st; ⟨⟨old, k e (by simp) _ he⟩, hi.at fun o q => k it (by simp) o q, hne⟩
  item := by
    intro X hP hw hK hc i pins s σ H E I hf st hg
    subst hP hw hK
    obtain ⟨⟨old, he⟩, hit, hne, hea, hai⟩ := st
    obtain ⟨xs, x, hq, hx⟩ := hg
    obtain ⟨its, rv, p, hz⟩ := I.tuple hq
    obtain ⟨u, hu, ru⟩ := rv.get hx
    have hel : e < s.heap.objs.size := Heap.lt_size he
    have hil : it < s.heap.objs.size := by obtain ⟨_, q, _⟩ := hit; exact Heap.lt_size q
    have p' : s.heap.IsTuple a its.toArray := p
    have hlt : i < its.toArray.size := by
      have := (List.getElem?_eq_some_iff.mp hu).1
      simpa using this
    refine wpAny_pyNext_enum_itemC (Draws.tuple (A := X.A.in1) (show X.A.in1.handled = none from I.ok.hd hc) it a hai its.toArray) he ⟨hit, p'⟩ hlt hne (by simp; exact ⟨hne, hea⟩) fun x' h' tk hP' ho hst' hT hsz hk => ?_
    have ex : x' = u := by
      have h1 : its.toArray[i]? = some x' := hP'
      have h2 : its.toArray[i]? = some u := by simpa using hu
      rw [h1] at h2
      exact Option.some.inj h2
    subst ex
    have hit' := hst'.1
    refine ⟨_, rfl, wpAny_letOwnedTupleGo_enum (s := { s with heap := h', toks := tk + 1 }) ho fun h'' he' sb => ?_⟩
    have hT2 : h''.get? s.heap.objs.size = some { cls := .type "tuple", data := .seq #[.int i tk, x'] } := (sb.2 _ (Nat.ne_of_gt hel)).trans hT
    have new : ObjOk X.prog X.w (upd H s.heap.objs.size (.tup [.int (i : Nat), x])) h'' s.heap.objs.size (.tup [.int (i : Nat), x]) :=
      ⟨by show 2 ≤ sizeLine; decide, [.int i tk, x'], .cons ⟨_, rfl⟩ (.cons ru .nil), ⟨_, hT2, rfl, _, rfl⟩⟩
    have I1 : Inv X pins σ (upd H s.heap.objs.size (.tup [.int (i : Nat), x])) { s with heap := h'', toks := tk + 1 } :=
      I.turnedNew (ch := [e, it]) (fun b ob hb q => (sb.2 b (fun z => hb (by simp [z]))).trans (hk b ob (fun z => hb (by simp [z])) (fun z => hb (by simp [z])) q)) hf (Nat.le_refl _) new
    refine ⟨.ref s.heap.objs.size, _, I1, rfl, ⟨_, x, rfl, I.hok.fresh (Nat.le_refl _), rfl, fun ys hy => by rw [I.tuple_inj hy hq]; exact hx⟩, ⟨⟨x', ?_⟩, hit'.at fun o q => (sb.2 it (Ne.symm hne)).trans q, hne, hea, hai⟩, fun b hb => ?_⟩
    · have e1 : ((i + 1 : Nat) : Int) = (i : Int) + 1 := by omega
      rw [e1]; exact he'
    · have hb' : b < s.heap.objs.size := by
        have e' : b = e ∨ b = it := by simpa using hb
        rcases e' with z | z
        · rw [z]; exact hel
        · rw [z]; exact hil
      rw [upd_ne (Nat.ne_of_lt hb')]
      exact (hf b hb).1
  done := by
    intro X hP hw hK hc i pins s σ H E I hf st hg
    subst hP hw hK
    obtain ⟨⟨old, he⟩, hit, hne, hea, hai⟩ := st
    obtain ⟨xs, hq, hx⟩ := hg
    obtain ⟨its, rv, p, hz⟩ := I.tuple hq
    obtain ⟨f0, f1, f2, f3, f4, f5⟩ := hf it (by simp)
    have hl := rv.length
    exact enum_endT (I.ok.hd hc) he hit (show s.heap.IsTuple a its.toArray from p) (by simp; omega) fun h' eb => ⟨rfl, I.turned (t' := s.toks) (fun b o hb q => eb b o hb q) f0 f1 f3 f4 f5⟩
  self := fun A i s Q E st h => let ⟨⟨_, he⟩, _⟩ := st; wpAny_pyIter_enum he h
/-- enumerate of a list or of a tuple -/
def iEnumA (K : PySem.W.Frag) (ta : TA) : TI := fun σ H R => ta σ H fun vs H1 => ∃ a xs, vs = [.ref a] ∧ ((SqL K H1 a xs ∧ R (Ite K a) H1) ∨ (SqT K H1 a xs ∧ R (IteT K a) H1))
theorem pi_enumA {X : Cx} {e : Expr} {ta : TA} {p pos tpos : Pos} {elts : List Expr} {kk : Nat} (hg : Gl X "enumerate") (hm : X.mg "enumerate" = none) (ha : PA X [e] ta) (hs : starEach [e] X.env = [(false, eval e X.env)] := by rfl) :
    PI X (.Tuple elts kk tpos) (.Call (.Name "enumerate" p) [e] [] pos) (iEnumA X.K ta) := by
  refine ⟨fun pins s σ H R I h => ?_⟩
  refine Call_ (ld_blt I hg hm boot_enumerate (PyProof.Rows.callWith_type1 (thn (ha.run pos pins s σ H _ I h) fun us s1 ⟨vs, H1, I1, r1, q1⟩ => ?_) hs rfl))
  obtain ⟨a, xs, ex, q1⟩ := q1
  subst ex
  cases r1 with
  | cons r rr =>
    cases rr
    cases r
    have fresh2 : ∀ b, b ∈ [s1.heap.objs.size + 1, s1.heap.objs.size] → FpOk X pins H1 b := fun b hb => by
      have e' : b = s1.heap.objs.size + 1 ∨ b = s1.heap.objs.size := by simpa using hb
      have hle : s1.heap.objs.size ≤ b := by
        rcases e' with z | z
        · rw [z]; exact Nat.le_add_right _ _
        · rw [z]; exact Nat.le_refl _
      exact I1.fpOk hle (I1.hok.fresh hle)
    rcases q1 with ⟨hq, q⟩ | ⟨hq, q⟩
    · obtain ⟨its, rv, p', hz⟩ := I1.list hq
      refine call_enumerate_list p'.isList fun h' he hit hsz hk => wpAny_pyIter_enum he ?_
      have I2 : Inv X pins σ H1 { s1 with heap := h' } := I1.kept (t' := s1.toks) hk
      exact ⟨s1.heap.objs.size + 1, [s1.heap.objs.size + 1, s1.heap.objs.size], _, _, H1, rfl, I2, turn_enum a (s1.heap.objs.size + 1) s1.heap.objs.size, ⟨⟨.none, he⟩, hit, Nat.succ_ne_self _⟩, fresh2, q⟩
    · obtain ⟨its, rv, p', hz⟩ := I1.tuple hq
      have pt : s1.heap.IsTuple a its.toArray := p'
      have hal : a < s1.heap.objs.size := by obtain ⟨o, ho, _⟩ := id pt; exact Heap.lt_size ho
      refine call_enumB (begins_tuple a its.toArray) pt fun h' he hit hsz hk => wpAny_pyIter_enum he ?_
      have I2 : Inv X pins σ H1 { s1 with heap := h' } := I1.kept (t' := s1.toks) hk
      refine ⟨s1.heap.objs.size + 1, [s1.heap.objs.size + 1, s1.heap.objs.size], _, _, H1, rfl, I2, turn_enumT a (s1.heap.objs.size + 1) s1.heap.objs.size, ⟨⟨.none, he⟩, ⟨_, hit, rfl, rfl⟩, Nat.succ_ne_self _, ?_, ?_⟩, fresh2, q⟩
      · exact Ne.symm (Nat.ne_of_lt (Nat.lt_succ_of_lt hal))
      · exact Nat.ne_of_lt hal
end Z

namespace Z
open PySem PySem.Spec PyProof.Rows L2

abbrev D := PyData
abbrev EnvD := List (Option D)
/-- an exception: the name of its class, its fields -/
structure EX where
  cls : Str
  fs : List (Str × D)
/-- the outcome of an expression: a value, an exception, or nothing that is said -/
inductive ER (α : Type) where
  | ok (a : α)
  | ex (e : EX)
  | no
def ER.bind {α β : Type} (r : ER α) (f : α → ER β) : ER β :=
  match r with
  | .ok a => f a
  | .ex e => .ex e
  | .no => .no
/-- the outcome of a statement -/
inductive SR where
  | nx (ρ : EnvD)
  | ret (d : D)
  | brk (ρ : EnvD)
  | cont (ρ : EnvD)
  | ex (e : EX) (ρ : EnvD)
  | no
def optE {α : Type} : Option α → ER α
  | some a => .ok a
  | none => .no

/-! ### data over the heap -/
theorem sqT_mono {K : PySem.W.Frag} {H H' : Hp} {a : Addr} {xs : List V} (e : Same H H') (h : SqT K H a xs) : SqT K H' a xs := by
  rcases h with (h | ⟨o, h⟩) | h
  · exact .inl (.inl (e _ _ h))
  · exact .inl (.inr ⟨o, e _ _ h⟩)
  · exact .inr h
section
variable {K : PySem.W.Frag} {H H' : Hp}
mutual
theorem dp_mono (e : Same H H') : ∀ (d : D) (v : V), Dp K H v d → Dp K H' v d
  | .none, _, h => by cases h; exact .non
  | .bool b, _, h => by cases h; exact .bl b
  | .int i, _, h => by cases h; exact .int i
  | .str x, _, h => by cases h; exact .str x
  | .list ds, _, h => by
    cases h with
    | lst hs ha => exact .lst (e.seq hs) (dpAll_mono e ds _ ha)
  | .tuple ds, _, h => by
    cases h with
    | tup hs ha => exact .tup (sqT_mono e hs) (dpAll_mono e ds _ ha)
  | .dict _, _, h => by cases h
theorem dpAll_mono (e : Same H H') : ∀ (ds : List D) (vs : List V), DpAll K H vs ds → DpAll K H' vs ds
  | [], _, h => by cases h; exact .nil
  | d :: ds, _, h => by
    cases h with
    | cons h1 h2 => exact .cons (dp_mono e d _ h1) (dpAll_mono e ds _ h2)
end
end
theorem dpAll_len {K : PySem.W.Frag} {H : Hp} : ∀ {vs : List V} {ds : List D}, DpAll K H vs ds → vs.length = ds.length
  | _, [], h => by cases h; rfl
  | _, d :: ds, h => by
    cases h with
    | cons h1 h2 => simp [dpAll_len h2]
theorem dpAll_get {K : PySem.W.Frag} {H : Hp} : ∀ {vs : List V} {ds : List D} {i : Nat} {d : D}, DpAll K H vs ds → ds[i]? = some d → ∃ v, vs[i]? = some v ∧ Dp K H v d
  | _, [], _, _, h, e => by simp at e
  | _, d :: ds, 0, _, h, e => by
    cases h with
    | cons h1 h2 => simp at e; subst e; exact ⟨_, rfl, h1⟩
  | _, d :: ds, i + 1, _, h, e => by
    cases h with
    | cons h1 h2 =>
      obtain ⟨v, e1, e2⟩ := dpAll_get (i := i) h2 (by simpa using e)
      exact ⟨v, by simpa using e1, e2⟩
theorem dpAll_getV {K : PySem.W.Frag} {H : Hp} {vs : List V} {ds : List D} {i : Nat} {v : V} (h : DpAll K H vs ds) (e : vs[i]? = some v) : ∃ d, ds[i]? = some d ∧ Dp K H v d := by
  have hl := dpAll_len h
  have hi : i < ds.length := by
    rw [← hl]
    exact (List.getElem?_eq_some_iff.mp e).1
  obtain ⟨w, e1, e2⟩ := dpAll_get h (List.getElem?_eq_getElem hi)
  rw [e] at e1
  cases e1
  exact ⟨_, List.getElem?_eq_getElem hi, e2⟩
theorem dpAll_append {K : PySem.W.Frag} {H : Hp} : ∀ {vs ws : List V} {ds es : List D}, DpAll K H vs ds → DpAll K H ws es → DpAll K H (vs ++ ws) (ds ++ es)
  | _, _, [], _, h, g => by cases h; exact g
  | _, _, d :: ds, _, h, g => by
    cases h with
    | cons h1 h2 => exact .cons h1 (dpAll_append h2 g)
theorem dpAll_take {K : PySem.W.Frag} {H : Hp} : ∀ {vs : List V} {ds : List D} (n : Nat), DpAll K H vs ds → DpAll K H (vs.take n) (ds.take n)
  | _, [], _, h => by cases h; simp; exact .nil
  | _, d :: ds, 0, h => by simp; exact .nil
  | _, d :: ds, n + 1, h => by
    cases h with
    | cons h1 h2 => exact .cons h1 (dpAll_take n h2)
theorem dpAll_drop {K : PySem.W.Frag} {H : Hp} : ∀ {vs : List V} {ds : List D} (n : Nat), DpAll K H vs ds → DpAll K H (vs.drop n) (ds.drop n)
  | _, [], _, h => by cases h; simp; exact .nil
  | _, d :: ds, 0, h => by simpa using h
  | _, d :: ds, n + 1, h => by
    cases h with
    | cons h1 h2 => simpa using dpAll_drop n h2
theorem dpAll_set {K : PySem.W.Frag} {H : Hp} : ∀ {vs : List V} {ds : List D} (n : Nat) {v : V} {d : D}, DpAll K H vs ds → Dp K H v d → DpAll K H (vs.set n v) (ds.set n d)
  | _, [], _, _, _, h, _ => by cases h; simp; exact .nil
  | _, d :: ds, 0, _, _, h, g => by
    cases h with
    | cons h1 h2 => exact .cons g h2
  | _, d :: ds, n + 1, _, _, h, g => by
    cases h with
    | cons h1 h2 => exact .cons h1 (dpAll_set n h2 g)
theorem dpAll_ints {K : PySem.W.Frag} {H : Hp} : ∀ ns : List Int, DpAll K H (ns.map V.int) (ns.map PyData.int)
  | [] => .nil
  | n :: ns => .cons (.int n) (dpAll_ints ns)

/-! ### growth: the heap H with its fixed part F -/
structure Grow (H F H' F' : Hp) : Prop where
  h : Same H H'
  f : Same F F'
  sub : Same F' H'
  old : ∀ a, H a ≠ none → F a = none → F' a = none
theorem Grow.refl {H F : Hp} (s : Same F H) : Grow H F H F := ⟨Same.refl _, Same.refl _, s, fun _ _ e => e⟩
theorem same_ne {H H' : Hp} (s : Same H H') {a : Addr} (h : H a ≠ none) : H' a ≠ none := by
  intro z
  exact h (s.free z)
theorem Grow.trans {H F H1 F1 H2 F2 : Hp} (a : Grow H F H1 F1) (b : Grow H1 F1 H2 F2) : Grow H F H2 F2 :=
  ⟨a.h.trans b.h, a.f.trans b.f, b.sub, fun x hx fx => b.old x (same_ne a.h hx) (a.old x hx fx)⟩
/-- a new fixed object -/
theorem same_new {H : Hp} {p : Addr} {o : HO} (h : H p = none) : Same H (upd H p o) := fun b x e => by
  rw [upd_ne (ne_of_none e h)]
  exact e
theorem same_upd2 {F H : Hp} {p : Addr} {o : HO} (s : Same F H) : Same (upd F p o) (upd H p o) := fun b x e => by
  by_cases q : b = p
  · subst q
    rw [upd_same] at e ⊢
    exact e
  · rw [upd_ne q] at e ⊢
    exact s _ _ e
theorem Grow.new {H F : Hp} {p : Addr} {o : HO} (s : Same F H) (h : H p = none) : Grow H F (upd H p o) (upd F p o) :=
  ⟨same_new h, same_new (s.free h), same_upd2 s, fun a ha fa => by
    rw [upd_ne (fun e => by rw [e] at ha; exact ha h)]
    exact fa⟩
/-- a new object that is not fixed -/
theorem Grow.newH {H F : Hp} {p : Addr} {o : HO} (s : Same F H) (h : H p = none) : Grow H F (upd H p o) F :=
  ⟨same_new h, Same.refl _, s.trans (same_new h), fun _ _ e => e⟩

/-! ### readings over data -/
/-- the slots outside M hold what ρ says -/
structure RepF (K : PySem.W.Frag) (M : List Nat) (F : Hp) (σ : L2.St) (ρ : EnvD) : Prop where
  get : ∀ (j : Nat) (d : D), j ∉ M → ρ[j]? = some (some d) → ∃ v, σ[j]? = some (some v) ∧ Dp K F v d
  len : ρ.length = σ.length
theorem RepF.mono {K : PySem.W.Frag} {M : List Nat} {F F' : Hp} {σ : L2.St} {ρ : EnvD} (r : RepF K M F σ ρ) (s : Same F F') : RepF K M F' σ ρ := ⟨fun j d hj e => by
  obtain ⟨v, h1, h2⟩ := r.get j d hj e
  exact ⟨v, h1, dp_mono s d v h2⟩, r.len⟩
/-- what stands behind an exception: its class by its name, its fields -/
def IsX (K : PySem.W.Frag) (mg : Str → Option Value) (H F : Hp) (c : Value) (dc : Option Addr) (x : EX) : Prop :=
  (∃ C, c = .ref C ∧ mg x.cls = some (.ref C)) ∧
    ((x.fs = [] ∧ dc = none) ∨ x.fs ≠ [] ∧ ∃ dd fv, dc = some dd ∧ H dd = some (.xd fv) ∧ fv.map (·.1) = x.fs.map (·.1) ∧ DpAll K F (fv.map (·.2)) (x.fs.map (·.2)))
theorem IsX.mono {K : PySem.W.Frag} {mg : Str → Option Value} {H F H' F' : Hp} {c : Value} {dc : Option Addr} {x : EX} (i : IsX K mg H F c dc x) (h : Same H H') (f : Same F F') : IsX K mg H' F' c dc x := by
  obtain ⟨i1, i2⟩ := i
  refine ⟨i1, ?_⟩
  rcases i2 with i2 | ⟨e0, dd, fv, e, e2, e3, e4⟩
  · exact .inl i2
  · exact .inr ⟨e0, dd, fv, e, h _ _ e2, e3, dpAll_mono f _ _ e4⟩
def okE {α β : Type} (K : PySem.W.Frag) (mg : Str → Option Value) (W : WX) (σ : L2.St) (H F : Hp) (R : Hp → β → α → Prop) (Q : β → Hp → Prop) : ER α → Prop
  | .ok d => ∀ v H' F', Grow H F H' F' → R F' v d → Q v H'
  | .ex x => ∀ c dc H' F', Grow H F H' F' → IsX K mg H' F' c dc x → W c dc σ H'
  | .no => False
theorem okE.grow {α β : Type} {K : PySem.W.Frag} {mg : Str → Option Value} {W : WX} {σ : L2.St} {H F H1 F1 : Hp} {R : Hp → β → α → Prop} {Q : β → Hp → Prop} {r : ER α} (h : okE K mg W σ H F R Q r) (g : Grow H F H1 F1) : okE K mg W σ H1 F1 R Q r := by
  cases r with
  | ok d => exact fun v H' F' g' => h v H' F' (g.trans g')
  | ex x => exact fun c dc H' F' g' => h c dc H' F' (g.trans g')
  | no => exact h
section
variable (K : PySem.W.Frag) (mg : Str → Option Value) (W : WX) (M : List Nat)
def TEm (m : EnvD → ER D) : TE := fun σ H Q => ∃ F ρ, Same F H ∧ RepF K M F σ ρ ∧ okE K mg W σ H F (Dp K) Q (m ρ)
def TTm (m : EnvD → ER Bool) : TT := fun σ H Q => ∃ F ρ, Same F H ∧ RepF K M F σ ρ ∧ okE K mg W σ H F (fun _ b c => b = c) Q (m ρ)
def TAm (m : EnvD → ER (List D)) : TA := fun σ H Q => ∃ F ρ, Same F H ∧ RepF K M F σ ρ ∧ okE K mg W σ H F (DpAll K) Q (m ρ)
end
abbrev DE (X : Cx) (W : WX) (M : List Nat) (e : Expr) (m : EnvD → ER D) : Prop := PE X e (TEm X.K X.mg W M m)
abbrev DT (X : Cx) (W : WX) (M : List Nat) (e : Expr) (m : EnvD → ER Bool) : Prop := PT X e (TTm X.K X.mg W M m)
abbrev DW (X : Cx) (W : WX) (M : List Nat) (e : Expr) (m : EnvD → ER Bool) : Prop := PW X e (TTm X.K X.mg W M m)
abbrev DA (X : Cx) (W : WX) (M : List Nat) (es : List Expr) (m : EnvD → ER (List D)) : Prop := PA X es (TAm X.K X.mg W M m)

/-! ### weakening -/
theorem pe_weak {X : Cx} {e : Expr} {t t' : TE} (h : PE X e t) (w : ∀ σ H Q, t' σ H Q → t σ H Q) : PE X e t' := ⟨fun pins s σ H Q I q => h.run pins s σ H Q I (w σ H Q q)⟩
theorem pt_weak {X : Cx} {e : Expr} {t t' : TT} (h : PT X e t) (w : ∀ σ H Q, t' σ H Q → t σ H Q) : PT X e t' := ⟨fun pins s σ H Q I q => h.run pins s σ H Q I (w σ H Q q)⟩
theorem pw_weak {X : Cx} {e : Expr} {t t' : TT} (h : PW X e t) (w : ∀ σ H Q, t' σ H Q → t σ H Q) : PW X e t' := ⟨fun wh pins s σ H Q I q => h.run wh pins s σ H Q I (w σ H Q q)⟩
theorem pa_weak {X : Cx} {es : List Expr} {t t' : TA} (h : PA X es t) (w : ∀ σ H Q, t' σ H Q → t σ H Q) : PA X es t' := ⟨fun pos pins s σ H Q I q => h.run pos pins s σ H Q I (w σ H Q q)⟩
theorem ps_weak {X : Cx} {st : Stmt} {t t' : TS} (h : PS X st t) (w : ∀ D σ H, t' D σ H → t D σ H) : PS X st t' := ⟨fun pins s σ H D I q => h.run pins s σ H D I (w D σ H q)⟩
theorem pss_weak {X : Cx} {st : List Stmt} {t t' : TS} (h : PSs X st t) (w : ∀ D σ H, t' D σ H → t D σ H) : PSs X st t' := ⟨fun pins s σ H D I q => h.run pins s σ H D I (w D σ H q)⟩

/-- the first part of a reading -/
theorem tem_bind {α β γ δ : Type} {K : PySem.W.Frag} {mg : Str → Option Value} {W : WX} {σ : L2.St} {H F : Hp} {R : Hp → β → α → Prop} {R' : Hp → δ → γ → Prop} {Q : δ → Hp → Prop} {r : ER α} {k : α → ER γ} (h : okE K mg W σ H F R' Q (r.bind k)) :
    okE K mg W σ H F R (fun v H1 => ∃ F1 x, Grow H F H1 F1 ∧ R F1 v x ∧ okE K mg W σ H1 F1 R' Q (k x)) r := by
  cases r with
  | ok d => exact fun v H' F' g rv => ⟨F', d, g, rv, okE.grow h g⟩
  | ex x => exact h
  | no => exact h
theorem tem_mono {α β : Type} {K : PySem.W.Frag} {mg : Str → Option Value} {W : WX} {σ : L2.St} {H F : Hp} {R : Hp → β → α → Prop} {Q Q' : β → Hp → Prop} {r : ER α} (h : okE K mg W σ H F R Q r) (w : ∀ v H', Q v H' → Q' v H') : okE K mg W σ H F R Q' r := by
  cases r with
  | ok d => exact fun v H' F' g rv => w _ _ (h v H' F' g rv)
  | ex x => exact h
  | no => exact h
end Z

namespace Z
open PySem PySem.Spec PyProof.Rows L2

/-! ### mirrors of expressions -/
def eN (i : Nat) : EnvD → ER D := fun ρ => match ρ[i]? with
  | some (some d) => .ok d
  | _ => .no
def eC (d : D) : EnvD → ER D := fun _ => .ok d
def e1 (f : D → Option D) (a : EnvD → ER D) : EnvD → ER D := fun ρ => (a ρ).bind fun x => optE (f x)
def e2 (f : D → D → Option D) (a b : EnvD → ER D) : EnvD → ER D := fun ρ => (a ρ).bind fun x => (b ρ).bind fun y => optE (f x y)
def aL : List (EnvD → ER D) → EnvD → ER (List D)
  | [] => fun _ => .ok []
  | m :: ms => fun ρ => (m ρ).bind fun x => (aL ms ρ).bind fun xs => .ok (x :: xs)
def eT (ms : List (EnvD → ER D)) : EnvD → ER D := fun ρ => (aL ms ρ).bind fun ds => .ok (.tuple ds)
def eL (ms : List (EnvD → ER D)) : EnvD → ER D := fun ρ => (aL ms ρ).bind fun ds => .ok (.list ds)
def eB (f : List D → Option D) (ms : List (EnvD → ER D)) : EnvD → ER D := fun ρ => (aL ms ρ).bind fun ds => optE (f ds)
/-- a call of an own def -/
def eF (g : List D → ER D) (ms : List (EnvD → ER D)) : EnvD → ER D := fun ρ => (aL ms ρ).bind g
def eIf (c : EnvD → ER Bool) (a b : EnvD → ER D) : EnvD → ER D := fun ρ => (c ρ).bind fun q => if q = true then a ρ else b ρ
def isBool : D → Option Bool
  | .bool b => some b
  | _ => none
def eAnd (a b : EnvD → ER D) : EnvD → ER D := fun ρ => (a ρ).bind fun x => (optE (isBool x)).bind fun q => if q = true then b ρ else .ok (.bool false)
def eOr (a b : EnvD → ER D) : EnvD → ER D := fun ρ => (a ρ).bind fun x => (optE (isBool x)).bind fun q => if q = true then .ok (.bool true) else b ρ
def eNot (a : EnvD → ER D) : EnvD → ER D := fun ρ => (a ρ).bind fun x => (optE (isBool x)).bind fun q => .ok (.bool (!q))
def tV (f : D → Option Bool) (a : EnvD → ER D) : EnvD → ER Bool := fun ρ => (a ρ).bind fun x => optE (f x)
def tAnd (a b : EnvD → ER Bool) : EnvD → ER Bool := fun ρ => (a ρ).bind fun q => if q = true then b ρ else .ok false
def tOr (a b : EnvD → ER Bool) : EnvD → ER Bool := fun ρ => (a ρ).bind fun q => if q = true then .ok true else b ρ
def tNot (a : EnvD → ER Bool) : EnvD → ER Bool := fun ρ => (a ρ).bind fun q => .ok (!q)

/-! ### operators on data -/
def addD : D → D → Option D
  | .int i, .int j => some (.int (i + j))
  | .str x, .str y => if x.length + y.length ≤ sizeLine then some (.str (x ++ y)) else none
  | .tuple xs, .tuple ys => if xs.length + ys.length ≤ sizeLine then some (.tuple (xs ++ ys)) else none
  | .list xs, .list ys => if xs.length + ys.length ≤ sizeLine then some (.list (xs ++ ys)) else none
  | _, _ => none
def subD : D → D → Option D
  | .int i, .int j => some (.int (i - j))
  | _, _ => none
def mulD : D → D → Option D
  | .int i, .int j => if i.natAbs.log2 + j.natAbs.log2 < 1000000 then some (.int (i * j)) else none
  | _, _ => none
def fdivD : D → D → Option D
  | .int i, .int j => if j ≠ 0 ∧ j.natAbs.log2 < 9000 then some (.int (i.fdiv j)) else none
  | _, _ => none
def modD : D → D → Option D
  | .int i, .int j => if j ≠ 0 then some (.int (i.fmod j)) else none
  | _, _ => none
def powD : D → D → Option D
  | .int i, .int j => if 0 ≤ j ∧ Builtin.Int.intBits i * j.toNat ≤ 134217728 then some (.int (i ^ j.toNat)) else none
  | _, _ => none
def negD : D → Option D
  | .int i => some (.int (-i))
  | _ => none
/-- one of the two is not nested deep -/
def shallow (d e : D) : Bool := decide (d.depth ≤ 60) || decide (e.depth ≤ 60)
def eqD (d e : D) : Option D := if shallow d e = true then some (.bool (PyData.eqv d e)) else none
def neD (d e : D) : Option D := if shallow d e = true then some (.bool (!PyData.eqv d e)) else none
def inL (d : D) (xs : List D) : Bool := xs.any fun y => PyData.eqv y d
def inD (d : D) : D → Option D
  | .list xs => if d.depth ≤ 60 then some (.bool (inL d xs)) else none
  | .tuple xs => if d.depth ≤ 60 then some (.bool (inL d xs)) else none
  | .str z => (match d with
    | .str x => some (.bool (!(Builtin.Str.occurrences z x 0 z.length 1).isEmpty))
    | _ => none)
  | _ => none
def notInD (d : D) : D → Option D
  | .list xs => if d.depth ≤ 60 then some (.bool (!inL d xs)) else none
  | .tuple xs => if d.depth ≤ 60 then some (.bool (!inL d xs)) else none
  | .str z => (match d with
    | .str x => some (.bool (!(!(Builtin.Str.occurrences z x 0 z.length 1).isEmpty)))
    | _ => none)
  | _ => none
def intsOf : List D → Option (List Int)
  | [] => some []
  | .int i :: ds => (intsOf ds).map (i :: ·)
  | _ :: _ => none
theorem intsOf_map : ∀ {ns : List Int}, intsOf (ns.map PyData.int) = some ns
  | [] => rfl
  | n :: ns => by
    show (intsOf (ns.map PyData.int)).map (n :: ·) = _
    rw [intsOf_map]
    rfl
theorem intsOf_eq : ∀ {ds : List D} {ns : List Int}, intsOf ds = some ns → ds = ns.map PyData.int
  | [], _, h => by cases h; rfl
  | .int i :: ds, ns, h => by
    cases e : intsOf ds with
    | none =>
      have h : (intsOf ds).map (i :: ·) = some ns := h
      rw [e] at h
      cases h
    | some ms =>
      have h : (intsOf ds).map (i :: ·) = some ns := h
      rw [e] at h
      cases h
      rw [intsOf_eq e]
      rfl
  | .none :: _, _, h => by cases h
  | .bool _ :: _, _, h => by cases h
  | .str _ :: _, _, h => by cases h
  | .list _ :: _, _, h => by cases h
  | .tuple _ :: _, _, h => by cases h
  | .dict _ :: _, _, h => by cases h
theorem dpAll_intsOf {K : PySem.W.Frag} {F : Hp} : ∀ {ns : List Int} {xs : List V}, DpAll K F xs (ns.map PyData.int) → xs = ns.map V.int
  | [], _, h => by cases h; rfl
  | n :: ns, _, h => by
    cases h with
    | cons h r => cases h; rw [dpAll_intsOf r]; rfl
def orD : D → D → Option D
  | .int i, .int j => some (.int (Builtin.bitOr i j))
  | _, _ => none
def ltD : D → D → Option D
  | .int i, .int j => some (.bool (decide (i < j)))
  | .str x, .str y => some (.bool (decide (x.cps.toList < y.cps.toList)))
  | .tuple xs, .tuple ys => (intsOf xs).bind fun ns => (intsOf ys).map fun ms => .bool (HT.lexLt ns ms)
  | _, _ => none
def leD : D → D → Option D
  | .int i, .int j => some (.bool (decide (i ≤ j)))
  | .str x, .str y => some (.bool (!decide (y.cps.toList < x.cps.toList)))
  | _, _ => none
def gtD : D → D → Option D
  | .int i, .int j => some (.bool (decide (j < i)))
  | .str x, .str y => some (.bool (decide (y.cps.toList < x.cps.toList)))
  | _, _ => none
def geD : D → D → Option D
  | .int i, .int j => some (.bool (decide (j ≤ i)))
  | .str x, .str y => some (.bool (!decide (x.cps.toList < y.cps.toList)))
  | _, _ => none
def isNoneD : D → Bool
  | .none => true
  | _ => false
/-- x is None, x is a bool -/
def isD : D → D → Option D
  | d, .none => some (.bool (isNoneD d))
  | .bool a, .bool b => some (.bool (decide (a = b)))
  | _, _ => none
def isnD : D → D → Option D
  | d, .none => some (.bool (!isNoneD d))
  | .bool a, .bool b => some (.bool (!decide (a = b)))
  | _, _ => none
def atD : D → D → Option D
  | .list ds, .int i => atI ds i
  | .tuple ds, .int i => atI ds i
  | .str z, .int i => if z.length ≤ sizeLine then (atI z.cps.toList i).map fun c => .str ⟨#[c]⟩ else none
  | _, _ => none
def cutD (ds : List D) (lo hi : Option Int) : List D := (ds.drop (HT.sIx ds.length 0 lo)).take (HT.sIx ds.length ds.length hi - HT.sIx ds.length 0 lo)
def sliceD (lo hi : Option Int) : D → Option D
  | .list ds => some (.list (cutD ds lo hi))
  | .tuple ds => some (.tuple (cutD ds lo hi))
  | .str z => if z.length ≤ sizeLine then some (.str (cutS z lo hi)) else none
  | _ => none
def lenD : List D → Option D
  | [.list ds] => some (.int ds.length)
  | [.tuple ds] => some (.int ds.length)
  | [.str z] => if z.length ≤ sizeLine then some (.int z.length) else none
  | _ => none
def absD : List D → Option D
  | [.int i] => some (.int (if i < 0 then -i else i))
  | _ => none
def intD : List D → Option D
  | [.int i] => some (.int i)
  | [.bool k] => some (.int (if k then 1 else 0))
  | _ => none
def maxD : List D → Option D
  | [.int i, .int j] => some (.int (if j > i then j else i))
  | _ => none
def minD : List D → Option D
  | [.int i, .int j] => some (.int (if j < i then j else i))
  | _ => none
def tupleD : List D → Option D
  | [.list ds] => some (.tuple ds)
  | [.tuple ds] => some (.tuple ds)
  | _ => none
def listD : List D → Option D
  | [.list ds] => some (.list ds)
  | [.tuple ds] => some (.list ds)
  | _ => none
/-- a built-in class, as the word that isinstance asks -/
def kindD : D → String
  | .none => "NoneType"
  | .bool _ => "bool"
  | .int _ => "int"
  | .str _ => "str"
  | .list _ => "list"
  | .tuple _ => "tuple"
  | .dict _ => "dict"
def isiD (t : String) (d : D) : Option D := (kitB (kindD d) t).map PyData.bool
def truD : D → Option Bool
  | .none => some false
  | .bool b => some b
  | .int i => some (i != 0)
  | .list ds => some (!ds.isEmpty)
  | .tuple ds => some (!ds.isEmpty)
  | .str z => if z.length ≤ sizeLine then some (z.length != 0) else none
  | _ => none

/-! ### values -/
def okO (K : PySem.W.Frag) (H F : Hp) (Q : VK) : Option D → Prop
  | some z => ∀ v H' F', Grow H F H' F' → Dp K F' v z → Q v H'
  | none => False
def rD (K : PySem.W.Frag) (f : D → D → Option D) : R2 := fun x y H Q => ∃ F d e, Same F H ∧ Dp K F x d ∧ Dp K F y e ∧ okO K H F Q (f d e)
def rD1 (K : PySem.W.Frag) (f : D → Option D) : V → Hp → VK → Prop := fun x H Q => ∃ F d, Same F H ∧ Dp K F x d ∧ okO K H F Q (f d)
def rDn (K : PySem.W.Frag) (f : List D → Option D) : List V → Hp → VK → Prop := fun xs H Q => ∃ F ds, Same F H ∧ DpAll K F xs ds ∧ okO K H F Q (f ds)

section
variable {X : Cx}
def rCatL (K : PySem.W.Frag) : R2 := fun x y H Q => ∃ l b xs zs, x = .ref l ∧ y = .ref b ∧ SqL K H l xs ∧ SqL K H b zs ∧ xs.length + zs.length ≤ sizeLine ∧ ∀ p, H p = none → Q (.ref p) (upd H p (.lst (xs ++ zs)))
theorem op_catL : OpR X (binaryOp .Add) (rCatL X.K) := by
  intro pins s σ H x y v u Q I rx ry h
  obtain ⟨l, b, xs, zs, rfl, rfl, hH, hB, hz, q⟩ := h
  cases rx
  cases ry
  obtain ⟨its, r, p1, _⟩ := I.list hH
  obtain ⟨its2, r2, p2, _⟩ := I.list hB
  obtain ⟨⟨cls, dd, data, sl⟩, ho, hc, n, hd⟩ := id p1.isList
  obtain ⟨⟨cls2, dd2, data2, sl2⟩, ho2, hc2, n2, hd2⟩ := id p2.isList
  simp only at hc hd hc2 hd2
  subst hc hd hc2 hd2
  have hl := r.length
  have hl2 := r2.length
  refine concat_meets ⟨_, ho, rfl⟩ ⟨_, ho2, rfl⟩ noFill_list_add seq_list_add PySem.F.slot_list_add PySem.F.entry_list_add (PySem.F.args_list_add_2 _ _) (list_addW l b its.toArray its2.toArray n n2 dd dd2 sl sl2 (by rw [List.size_toArray, List.size_toArray]; omega)) ⟨ho, ho2, ?_⟩
  have ea : its.toArray ++ its2.toArray = (its ++ its2).toArray := by simp
  rw [ea]
  exact ⟨.ref _, _, I.lnew (t' := s.toks) (r.append r2) (by rw [List.length_append]; omega), rfl, q _ I.fresh⟩
theorem opD_add : OpR X (binaryOp .Add) (rD X.K addD) := by
  intro pins s σ H x y v u Q I rx ry h
  obtain ⟨F, d, e, sF, hd, he, q⟩ := h
  cases d with
  | int i =>
    cases e with
    | int j => cases hd; cases he; exact op_add pins s σ H _ _ v u Q I rx ry ⟨i, j, rfl, rfl, q _ _ _ (Grow.refl sF) (.int _)⟩
    | _ => exact q.elim
  | str a =>
    cases e with
    | str b =>
      cases hd; cases he
      by_cases hz : a.length + b.length ≤ sizeLine
      · have q' : okO X.K H F Q (if a.length + b.length ≤ sizeLine then some (.str (a ++ b)) else none) := q
        rw [if_pos hz] at q'
        exact op_add_str pins s σ H _ _ v u Q I rx ry ⟨a, b, rfl, rfl, hz, q' _ _ _ (Grow.refl sF) (.str _)⟩
      · have q' : okO X.K H F Q (if a.length + b.length ≤ sizeLine then some (.str (a ++ b)) else none) := q
        rw [if_neg hz] at q'
        exact q'.elim
    | _ => exact q.elim
  | tuple as =>
    cases e with
    | tuple bs =>
      by_cases hz : as.length + bs.length ≤ sizeLine
      · have q' : okO X.K H F Q (if as.length + bs.length ≤ sizeLine then some (.tuple (as ++ bs)) else none) := q
        rw [if_pos hz] at q'
        cases hd with
        | tup ha ra =>
          cases he with
          | tup hb rb =>
            rename_i a xs b ys
            refine op_catA pins s σ H _ _ v u Q I rx ry ⟨a, b, xs, ys, rfl, rfl, sqT_mono sF ha, sqT_mono sF hb, by rw [dpAll_len ra, dpAll_len rb]; exact hz, fun e => ?_, fun _ e => ?_, fun _ _ p hp => ?_⟩
            · subst e
              cases ra
              exact q' _ _ _ (Grow.refl sF) (.tup hb rb)
            · subst e
              cases rb
              rw [List.append_nil] at q'
              exact q' _ _ _ (Grow.refl sF) (.tup ha ra)
            · exact q' _ _ _ (Grow.new sF hp) (.tup (.inl (.inl upd_same)) (dpAll_mono (same_new (sF.free hp)) _ _ (dpAll_append ra rb)))
      · have q' : okO X.K H F Q (if as.length + bs.length ≤ sizeLine then some (.tuple (as ++ bs)) else none) := q
        rw [if_neg hz] at q'
        exact q'.elim
    | _ => exact q.elim
  | list as =>
    cases e with
    | list bs =>
      by_cases hz : as.length + bs.length ≤ sizeLine
      · have q' : okO X.K H F Q (if as.length + bs.length ≤ sizeLine then some (.list (as ++ bs)) else none) := q
        rw [if_pos hz] at q'
        cases hd with
        | lst ha ra =>
          cases he with
          | lst hb rb =>
            rename_i a xs b ys
            exact op_catL pins s σ H _ _ v u Q I rx ry ⟨a, b, xs, ys, rfl, rfl, sF.seq ha, sF.seq hb, by rw [dpAll_len ra, dpAll_len rb]; exact hz, fun p hp => q' _ _ _ (Grow.new sF hp) (.lst (.inl (.inl upd_same)) (dpAll_mono (same_new (sF.free hp)) _ _ (dpAll_append ra rb)))⟩
      · have q' : okO X.K H F Q (if as.length + bs.length ≤ sizeLine then some (.list (as ++ bs)) else none) := q
        rw [if_neg hz] at q'
        exact q'.elim
    | _ => exact q.elim
  | _ => exact q.elim
theorem opD_sub : OpR X (binaryOp .Sub) (rD X.K subD) := by
  intro pins s σ H x y v u Q I rx ry h
  obtain ⟨F, d, e, sF, hd, he, q⟩ := h
  cases d with
  | int i =>
    cases e with
    | int j => cases hd; cases he; exact op_sub pins s σ H _ _ v u Q I rx ry ⟨i, j, rfl, rfl, q _ _ _ (Grow.refl sF) (.int _)⟩
    | _ => exact q.elim
  | _ => exact q.elim
theorem opD_or : OpR X (binaryOp .BitOr) (rD X.K orD) := by
  intro pins s σ H x y v u Q I rx ry h
  obtain ⟨F, d, e, sF, hd, he, q⟩ := h
  cases d with
  | int i =>
    cases e with
    | int j => cases hd; cases he; exact op_or pins s σ H _ _ v u Q I rx ry ⟨i, j, rfl, rfl, q _ _ _ (Grow.refl sF) (.int _)⟩
    | _ => exact q.elim
  | _ => exact q.elim
theorem okO_if {K : PySem.W.Frag} {H F : Hp} {Q : VK} {c : Prop} [Decidable c] {z : D} (q : okO K H F Q (if c then some z else none)) : c ∧ okO K H F Q (some z) := by
  by_cases h : c
  · rw [if_pos h] at q; exact ⟨h, q⟩
  · rw [if_neg h] at q; exact q.elim
theorem opD_mul : OpR X (binaryOp .Mult) (rD X.K mulD) := by
  intro pins s σ H x y v u Q I rx ry h
  obtain ⟨F, d, e, sF, hd, he, q⟩ := h
  cases d with
  | int i =>
    cases e with
    | int j =>
      cases hd; cases he
      obtain ⟨h1, q⟩ := okO_if (c := i.natAbs.log2 + j.natAbs.log2 < 1000000) (z := .int (i * j)) q
      exact op_mulW pins s σ H _ _ v u Q I rx ry ⟨i, j, rfl, rfl, h1, q _ _ _ (Grow.refl sF) (.int _)⟩
    | _ => exact q.elim
  | _ => exact q.elim
def CDivZ (_ j : Int) : Prop := j ≠ 0 ∧ j.natAbs.log2 < 9000
theorem op_fdivZ : OpR X (binaryOp .FloorDiv) (rI CDivZ fun i j => .int (i.fdiv j)) := opI fun i j _ _ _ _ _ hc q => floordiv_int hc.1 q (.inl (PyProof.noPylong_of_log2 hc.2))
theorem opD_fdiv : OpR X (binaryOp .FloorDiv) (rD X.K fdivD) := by
  intro pins s σ H x y v u Q I rx ry h
  obtain ⟨F, d, e, sF, hd, he, q⟩ := h
  cases d with
  | int i =>
    cases e with
    | int j =>
      cases hd; cases he
      obtain ⟨h1, q⟩ := okO_if (c := j ≠ 0 ∧ j.natAbs.log2 < 9000) (z := .int (i.fdiv j)) q
      exact op_fdivZ pins s σ H _ _ v u Q I rx ry ⟨i, j, rfl, rfl, h1, q _ _ _ (Grow.refl sF) (.int _)⟩
    | _ => exact q.elim
  | _ => exact q.elim
theorem opD_mod : OpR X (binaryOp .Mod) (rD X.K modD) := by
  intro pins s σ H x y v u Q I rx ry h
  obtain ⟨F, d, e, sF, hd, he, q⟩ := h
  cases d with
  | int i =>
    cases e with
    | int j =>
      cases hd; cases he
      obtain ⟨h1, q⟩ := okO_if (c := j ≠ 0) (z := .int (i.fmod j)) q
      exact op_modN pins s σ H _ _ v u Q I rx ry ⟨i, j, rfl, rfl, h1, q _ _ _ (Grow.refl sF) (.int _)⟩
    | _ => exact q.elim
  | _ => exact q.elim
theorem op_powW : OpR X (binaryOp .Pow) (rI (fun i j => 0 ≤ j ∧ (Builtin.Int.intBits i : Int) * j ≤ 2 ^ 27) fun i j => .int (i ^ j.toNat)) := opI fun _ _ _ _ _ _ _ hc q => pow_int hc.1 hc.2 q
theorem opD_pow : OpR X (binaryOp .Pow) (rD X.K powD) := by
  intro pins s σ H x y v u Q I rx ry h
  obtain ⟨F, d, e, sF, hd, he, q⟩ := h
  cases d with
  | int i =>
    cases e with
    | int j =>
      cases hd; cases he
      obtain ⟨h1, q⟩ := okO_if (c := 0 ≤ j ∧ Builtin.Int.intBits i * j.toNat ≤ 134217728) (z := .int (i ^ j.toNat)) q
      have h2 : (Builtin.Int.intBits i : Int) * j ≤ 2 ^ 27 := by
        have : ((Builtin.Int.intBits i * j.toNat : Nat) : Int) ≤ ((134217728 : Nat) : Int) := Int.ofNat_le.mpr h1.2
        rw [Int.natCast_mul, Int.toNat_of_nonneg h1.1] at this
        omega
      exact op_powW pins s σ H _ _ v u Q I rx ry ⟨i, j, rfl, rfl, ⟨h1.1, h2⟩, q _ _ _ (Grow.refl sF) (.int _)⟩
    | _ => exact q.elim
  | _ => exact q.elim
theorem unD_neg : UnR X (unaryOp .USub) (rD1 X.K negD) := by
  intro pins s σ H x v Q I rx h
  obtain ⟨F, d, sF, hd, q⟩ := h
  cases d with
  | int i => cases hd; exact un_neg pins s σ H _ v Q I rx ⟨i, rfl, q _ _ _ (Grow.refl sF) (.int _)⟩
  | _ => exact q.elim
mutual
theorem dp_plain {K : PySem.W.Frag} {H : Hp} : ∀ (d : D) (v : V), Dp K H v d → d.plain = true
  | .none, _, _ => rfl
  | .bool _, _, _ => rfl
  | .int _, _, _ => rfl
  | .str _, _, _ => rfl
  | .list ds, _, h => by
    cases h with
    | lst hs ha =>
      simp only [PyData.plain]
      exact dpAll_plain ds _ ha
  | .tuple ds, _, h => by
    cases h with
    | tup hs ha =>
      simp only [PyData.plain]
      exact dpAll_plain ds _ ha
  | .dict _, _, h => by cases h
theorem dpAll_plain {K : PySem.W.Frag} {H : Hp} : ∀ (ds : List D) (vs : List V), DpAll K H vs ds → PyData.plainAll ds = true
  | [], _, _ => rfl
  | d :: ds, _, h => by
    cases h with
    | cons h1 h2 => simp only [PyData.plainAll, dp_plain d _ h1, dpAll_plain ds _ h2, Bool.and_self]
end
theorem shallow_room {d e : D} {u : Nat} (h : shallow d e = true) (hu : u + 64 < cLine) : u + min d.depth e.depth < cLine := by
  unfold shallow at h
  simp only [Bool.or_eq_true, decide_eq_true_eq] at h
  omega
theorem opD_eq (hu : X.A.units + 64 < cLine) : OpR X (compareOp .Eq) (rD X.K eqD) := by
  intro pins s σ H x y v u Q I rx ry h
  obtain ⟨F, d, e, sF, hd, he, q⟩ := h
  obtain ⟨h1, q⟩ := okO_if q
  obtain ⟨as, r1⟩ := Dp.reads I d x v (dp_mono sF _ _ hd) rx
  obtain ⟨bs, r2⟩ := Dp.reads I e y u (dp_mono sF _ _ he) ry
  exact SeqAt.eq_plain r1 r2 (dp_plain d _ hd) (dp_plain e _ he) (shallow_room h1 hu) ⟨.bl _, H, I, rfl, q _ _ _ (Grow.refl sF) (.bl _)⟩
theorem opD_ne (hu : X.A.units + 64 < cLine) : OpR X (compareOp .NotEq) (rD X.K neD) := by
  intro pins s σ H x y v u Q I rx ry h
  obtain ⟨F, d, e, sF, hd, he, q⟩ := h
  obtain ⟨h1, q⟩ := okO_if q
  obtain ⟨as, r1⟩ := Dp.reads I d x v (dp_mono sF _ _ hd) rx
  obtain ⟨bs, r2⟩ := Dp.reads I e y u (dp_mono sF _ _ he) ry
  exact SeqAt.ne_plain r1 r2 (dp_plain d _ hd) (dp_plain e _ he) (shallow_room h1 hu) ⟨.bl _, H, I, rfl, q _ _ _ (Grow.refl sF) (.bl _)⟩
theorem opD_in (hu : X.A.units + 65 < cLine) : OpR X (compareOp .In) (rD X.K inD) := by
  intro pins s σ H x y v u Q I rx ry h
  obtain ⟨F, d, e, sF, hd, he, q⟩ := h
  cases e with
  | list xs =>
    have q' : okO X.K H F Q (if d.depth ≤ 60 then some (.bool (inL d xs)) else none) := q
    obtain ⟨h1, q⟩ := okO_if q'
    obtain ⟨as, r1⟩ := Dp.reads I d x v (dp_mono sF _ _ hd) rx
    obtain ⟨bs, r2⟩ := Dp.reads I _ y u (dp_mono sF _ _ he) ry
    have hp : PyData.plainAll xs = true := by
      have := dp_plain _ _ he
      simpa only [PyData.plain] using this
    exact SeqAt.in_list_data r2 r1 hp (dp_plain d _ hd) (by omega) ⟨.bl _, H, I, rfl, q _ _ _ (Grow.refl sF) (.bl _)⟩
  | tuple xs =>
    have q' : okO X.K H F Q (if d.depth ≤ 60 then some (.bool (inL d xs)) else none) := q
    obtain ⟨h1, q⟩ := okO_if q'
    obtain ⟨as, r1⟩ := Dp.reads I d x v (dp_mono sF _ _ hd) rx
    obtain ⟨bs, r2⟩ := Dp.reads I _ y u (dp_mono sF _ _ he) ry
    have hp : PyData.plainAll xs = true := by
      have := dp_plain _ _ he
      simpa only [PyData.plain] using this
    exact SeqAt.in_tuple_data r2 r1 hp (dp_plain d _ hd) (by omega) ⟨.bl _, H, I, rfl, q _ _ _ (Grow.refl sF) (.bl _)⟩
  | str z =>
    cases d with
    | str c =>
      cases hd; cases he
      exact op_in_str pins s σ H _ _ v u Q I rx ry ⟨_, _, rfl, rfl, q _ _ _ (Grow.refl sF) (.bl _)⟩
    | _ => exact q.elim
  | _ => exact q.elim
theorem opD_notIn (hu : X.A.units + 65 < cLine) : OpR X (compareOp .NotIn) (rD X.K notInD) := by
  intro pins s σ H x y v u Q I rx ry h
  obtain ⟨F, d, e, sF, hd, he, q⟩ := h
  cases e with
  | list xs =>
    have q' : okO X.K H F Q (if d.depth ≤ 60 then some (.bool (!inL d xs)) else none) := q
    obtain ⟨h1, q⟩ := okO_if q'
    obtain ⟨as, r1⟩ := Dp.reads I d x v (dp_mono sF _ _ hd) rx
    obtain ⟨bs, r2⟩ := Dp.reads I _ y u (dp_mono sF _ _ he) ry
    have hp : PyData.plainAll xs = true := by
      have := dp_plain _ _ he
      simpa only [PyData.plain] using this
    exact SeqAt.notIn_list_data r2 r1 hp (dp_plain d _ hd) (by omega) ⟨.bl _, H, I, rfl, q _ _ _ (Grow.refl sF) (.bl _)⟩
  | tuple xs =>
    have q' : okO X.K H F Q (if d.depth ≤ 60 then some (.bool (!inL d xs)) else none) := q
    obtain ⟨h1, q⟩ := okO_if q'
    obtain ⟨as, r1⟩ := Dp.reads I d x v (dp_mono sF _ _ hd) rx
    obtain ⟨bs, r2⟩ := Dp.reads I _ y u (dp_mono sF _ _ he) ry
    have hp : PyData.plainAll xs = true := by
      have := dp_plain _ _ he
      simpa only [PyData.plain] using this
    exact SeqAt.notIn_tuple_data r2 r1 hp (dp_plain d _ hd) (by omega) ⟨.bl _, H, I, rfl, q _ _ _ (Grow.refl sF) (.bl _)⟩
  | str z =>
    cases d with
    | str c =>
      cases hd; cases he
      exact op_notin_str pins s σ H _ _ v u Q I rx ry ⟨_, _, rfl, rfl, q _ _ _ (Grow.refl sF) (.bl _)⟩
    | _ => exact q.elim
  | _ => exact q.elim
theorem opD_lt (hu : X.A.units + 64 < cLine) : OpR X (compareOp .Lt) (rD X.K ltD) := by
  intro pins s σ H x y v u Q I rx ry h
  obtain ⟨F, d, e, sF, hd, he, q⟩ := h
  cases d with
  | int i =>
    cases e with
    | int j => cases hd; cases he; exact op_lt pins s σ H _ _ v u Q I rx ry ⟨i, j, rfl, rfl, q _ _ _ (Grow.refl sF) (.bl _)⟩
    | _ => exact q.elim
  | str i =>
    cases e with
    | str j => cases hd; cases he; exact op_lt_str pins s σ H _ _ v u Q I rx ry ⟨i, j, rfl, rfl, q _ _ _ (Grow.refl sF) (.bl _)⟩
    | _ => exact q.elim
  | tuple xs =>
    cases e with
    | tuple ys =>
      have q2 : okO X.K H F Q ((intsOf xs).bind fun ns => (intsOf ys).map fun ms => .bool (HT.lexLt ns ms)) := q
      cases e1 : intsOf xs with
      | none => rw [e1] at q2; exact q2.elim
      | some ns =>
        rw [e1] at q2
        cases e2 : intsOf ys with
        | none => rw [e2] at q2; exact q2.elim
        | some ms =>
          rw [e2] at q2
          have w1 := intsOf_eq e1
          have w2 := intsOf_eq e2
          subst w1 w2
          cases hd with
          | tup ha ra =>
            cases he with
            | tup hb rb =>
              have u1 := dpAll_intsOf ra
              have u2 := dpAll_intsOf rb
              subst u1 u2
              exact op_ltT (by omega) pins s σ H _ _ v u Q I rx ry ⟨_, _, ns, ms, rfl, rfl, sqT_mono sF ha, sqT_mono sF hb, q2 _ _ _ (Grow.refl sF) (.bl _)⟩
    | _ => exact q.elim
  | _ => exact q.elim
theorem opD_le : OpR X (compareOp .LtE) (rD X.K leD) := by
  intro pins s σ H x y v u Q I rx ry h
  obtain ⟨F, d, e, sF, hd, he, q⟩ := h
  cases d with
  | int i =>
    cases e with
    | int j => cases hd; cases he; exact op_le pins s σ H _ _ v u Q I rx ry ⟨i, j, rfl, rfl, q _ _ _ (Grow.refl sF) (.bl _)⟩
    | _ => exact q.elim
  | str i =>
    cases e with
    | str j => cases hd; cases he; exact op_le_str pins s σ H _ _ v u Q I rx ry ⟨i, j, rfl, rfl, q _ _ _ (Grow.refl sF) (.bl _)⟩
    | _ => exact q.elim
  | _ => exact q.elim
theorem opD_gt : OpR X (compareOp .Gt) (rD X.K gtD) := by
  intro pins s σ H x y v u Q I rx ry h
  obtain ⟨F, d, e, sF, hd, he, q⟩ := h
  cases d with
  | int i =>
    cases e with
    | int j => cases hd; cases he; exact op_gt pins s σ H _ _ v u Q I rx ry ⟨i, j, rfl, rfl, q _ _ _ (Grow.refl sF) (.bl _)⟩
    | _ => exact q.elim
  | str i =>
    cases e with
    | str j => cases hd; cases he; exact op_gt_str pins s σ H _ _ v u Q I rx ry ⟨i, j, rfl, rfl, q _ _ _ (Grow.refl sF) (.bl _)⟩
    | _ => exact q.elim
  | _ => exact q.elim
theorem opD_ge : OpR X (compareOp .GtE) (rD X.K geD) := by
  intro pins s σ H x y v u Q I rx ry h
  obtain ⟨F, d, e, sF, hd, he, q⟩ := h
  cases d with
  | int i =>
    cases e with
    | int j => cases hd; cases he; exact op_ge pins s σ H _ _ v u Q I rx ry ⟨i, j, rfl, rfl, q _ _ _ (Grow.refl sF) (.bl _)⟩
    | _ => exact q.elim
  | str i =>
    cases e with
    | str j => cases hd; cases he; exact op_ge_str pins s σ H _ _ v u Q I rx ry ⟨i, j, rfl, rfl, q _ _ _ (Grow.refl sF) (.bl _)⟩
    | _ => exact q.elim
  | _ => exact q.elim
theorem dp_none {K : PySem.W.Frag} {H : Hp} {v : V} {d : D} (h : Dp K H v d) : decide (v = .non) = isNoneD d := by
  cases h <;> simp [isNoneD]
theorem opD_is : OpR X (compareOp .Is) (rD X.K isD) := by
  intro pins s σ H x y v u Q I rx ry h
  obtain ⟨F, d, e, sF, hd, he, q⟩ := h
  cases e with
  | none =>
    cases he
    have q' : okO X.K H F Q (some (.bool (isNoneD d))) := by cases d <;> exact q
    refine op_isN pins s σ H _ _ v u Q I rx ry ⟨rfl, ?_⟩
    rw [dp_none hd]
    exact q' _ _ _ (Grow.refl sF) (.bl _)
  | bool b =>
    cases d with
    | bool a => cases hd; cases he; exact op_is_bl pins s σ H _ _ v u Q I rx ry ⟨a, b, rfl, rfl, q _ _ _ (Grow.refl sF) (.bl _)⟩
    | _ => exact q.elim
  | _ => cases d <;> exact q.elim
theorem opD_isn : OpR X (compareOp .IsNot) (rD X.K isnD) := by
  intro pins s σ H x y v u Q I rx ry h
  obtain ⟨F, d, e, sF, hd, he, q⟩ := h
  cases e with
  | none =>
    cases he
    have q' : okO X.K H F Q (some (.bool (!isNoneD d))) := by cases d <;> exact q
    refine op_notN pins s σ H _ _ v u Q I rx ry ⟨rfl, ?_⟩
    rw [dp_none hd]
    exact q' _ _ _ (Grow.refl sF) (.bl _)
  | bool b =>
    cases d with
    | bool a => cases hd; cases he; exact op_isnot_bl pins s σ H _ _ v u Q I rx ry ⟨a, b, rfl, rfl, q _ _ _ (Grow.refl sF) (.bl _)⟩
    | _ => exact q.elim
  | _ => cases d <;> exact q.elim
end
end Z

namespace Z
open PySem PySem.Spec PyProof.Rows L2
section
variable {X : Cx}
/-! ### items and slices -/
theorem atI_dp {K : PySem.W.Frag} {H : Hp} {vs : List V} {ds : List D} {i : Int} {z : D} (h : DpAll K H vs ds) (e : atI ds i = some z) : ∃ v, atI vs i = some v ∧ Dp K H v z := by
  unfold atI at e ⊢
  rw [dpAll_len h]
  cases q : ixN ds.length i with
  | none => rw [q] at e; cases e
  | some j =>
    rw [q] at e
    exact dpAll_get h e
theorem ixD : IxR X (rD X.K atD) := by
  intro value slice pins s σ H x y v u Q I rx ry h hs
  obtain ⟨F, d, e, sF, hd, he, q⟩ := h
  cases e with
  | int i =>
    cases he
    cases d with
    | list ds =>
      cases hd with
      | lst ha ra =>
        cases ez : atI ds i with
        | none => have q' : okO X.K H F Q (atI ds i) := q; rw [ez] at q'; exact q'.elim
        | some z =>
          have q' : okO X.K H F Q (atI ds i) := q
          rw [ez] at q'
          obtain ⟨w, e1, e2⟩ := atI_dp ra ez
          exact ix_list value slice pins s σ H _ _ v u Q I rx ry ⟨_, _, _, _, rfl, rfl, sF.seq ha, e1, q' _ _ _ (Grow.refl sF) e2⟩ hs
    | tuple ds =>
      cases hd with
      | tup ha ra =>
        cases ez : atI ds i with
        | none => have q' : okO X.K H F Q (atI ds i) := q; rw [ez] at q'; exact q'.elim
        | some z =>
          have q' : okO X.K H F Q (atI ds i) := q
          rw [ez] at q'
          obtain ⟨w, e1, e2⟩ := atI_dp ra ez
          exact ix_tup value slice pins s σ H _ _ v u Q I rx ry ⟨_, _, _, _, rfl, rfl, sqT_mono sF ha, e1, q' _ _ _ (Grow.refl sF) e2⟩ hs
    | str a =>
      cases hd
      by_cases hz : a.length ≤ sizeLine
      · cases ez : atI a.cps.toList i with
        | none =>
          have q' : okO X.K H F Q (if a.length ≤ sizeLine then (atI a.cps.toList i).map (fun c => .str ⟨#[c]⟩) else none) := q
          rw [if_pos hz, ez] at q'
          exact q'.elim
        | some c =>
          have q' : okO X.K H F Q (if a.length ≤ sizeLine then (atI a.cps.toList i).map (fun c => .str ⟨#[c]⟩) else none) := q
          rw [if_pos hz, ez] at q'
          exact ix_str value slice pins s σ H _ _ v u Q I rx ry ⟨_, _, _, rfl, rfl, hz, ez, q' _ _ _ (Grow.refl sF) (.str _)⟩ hs
      · have q' : okO X.K H F Q (if a.length ≤ sizeLine then (atI a.cps.toList i).map (fun c => .str ⟨#[c]⟩) else none) := q
        rw [if_neg hz] at q'
        exact q'.elim
    | _ => exact q.elim
  | _ => cases d <;> exact q.elim
def rSlD (K : PySem.W.Frag) : V → Option Int → Option Int → Hp → VK → Prop := fun x lo hi H Q => ∃ F d, Same F H ∧ Dp K F x d ∧ okO K H F Q (sliceD lo hi d)
theorem dpAll_cut {K : PySem.W.Frag} {H : Hp} {vs : List V} {ds : List D} (lo hi : Option Int) (h : DpAll K H vs ds) : DpAll K H (cutV vs lo hi) (cutD ds lo hi) := by
  unfold cutV cutD
  rw [dpAll_len h]
  exact dpAll_take _ (dpAll_drop _ h)
theorem slD : SlR X (rSlD X.K) := by
  intro pins s σ H x v vl vu lo hi sl Q I rx hs pl pu h
  obtain ⟨F, d, sF, hd, q⟩ := h
  cases d with
  | list ds =>
    cases hd with
    | lst ha ra =>
      refine sl_list pins s σ H _ v vl vu lo hi sl Q I rx hs pl pu ⟨_, _, rfl, sF.seq ha, fun p hp => ?_⟩
      exact q _ _ _ (Grow.new sF hp) (.lst (.inl (.inl upd_same)) (dpAll_mono (same_new (sF.free hp)) _ _ (dpAll_cut lo hi ra)))
  | tuple ds =>
    cases hd with
    | tup ha ra =>
      refine sl_tupA pins s σ H _ v vl vu lo hi sl Q I rx hs pl pu ⟨_, _, rfl, sqT_mono sF ha, fun e => ?_, fun _ p hp => ?_⟩
      · refine q _ _ _ (Grow.refl sF) ?_
        have z : cutD ds lo hi = ds := by
          unfold cutD
          rw [← dpAll_len ra, e.1, e.2, List.drop_zero, Nat.sub_zero, dpAll_len ra, List.take_length]
        rw [z]
        exact .tup ha ra
      · exact q _ _ _ (Grow.new sF hp) (.tup (.inl (.inl upd_same)) (dpAll_mono (same_new (sF.free hp)) _ _ (dpAll_cut lo hi ra)))
  | str a =>
    cases hd
    have q' : okO X.K H F Q (if a.length ≤ sizeLine then some (.str (cutS a lo hi)) else none) := q
    obtain ⟨hz, q⟩ := okO_if q'
    exact sl_str pins s σ H _ v vl vu lo hi sl Q I rx hs pl pu ⟨_, rfl, hz, q _ _ _ (Grow.refl sF) (.str _)⟩
  | _ => exact q.elim

/-! ### calls of built-ins -/
theorem callD_len : CallR X (.builtin "len") (rDn X.K lenD) := by
  intro pins s σ H xs us Q I r h
  obtain ⟨F, ds, sF, hd, q⟩ := h
  match ds, hd, q with
  | [.list es], .cons (.lst ha ra) .nil, q => exact call_len_seq pins s σ H _ us Q I r ⟨_, _, rfl, .inl (sF.seq ha), by rw [dpAll_len ra]; exact q _ _ _ (Grow.refl sF) (.int _)⟩
  | [.tuple es], .cons (.tup ha ra) .nil, q => exact call_len_seq pins s σ H _ us Q I r ⟨_, _, rfl, .inr (sqT_mono sF ha), by rw [dpAll_len ra]; exact q _ _ _ (Grow.refl sF) (.int _)⟩
  | [.str z], .cons (.str _) .nil, q =>
    have q' : okO X.K H F Q (if z.length ≤ sizeLine then some (.int z.length) else none) := q
    obtain ⟨hz, q⟩ := okO_if q'
    exact call_len pins s σ H _ us Q I r ⟨_, _, rfl, ⟨hz, rfl⟩, q _ _ _ (Grow.refl sF) (.int _)⟩
  | [.none], _, q => exact q.elim
  | [.bool _], _, q => exact q.elim
  | [.int _], _, q => exact q.elim
  | [.dict _], _, q => exact q.elim
  | [], _, q => exact q.elim
  | a :: _ :: _, _, q => cases a <;> exact q.elim
theorem callD_abs : CallR X (.builtin "abs") (rDn X.K absD) := by
  intro pins s σ H xs us Q I r h
  obtain ⟨F, ds, sF, hd, q⟩ := h
  match ds, hd, q with
  | [.int i], .cons (.int _) .nil, q => exact call_abs pins s σ H _ us Q I r ⟨i, rfl, q _ _ _ (Grow.refl sF) (.int _)⟩
  | [.list _], _, q => exact q.elim
  | [.tuple _], _, q => exact q.elim
  | [.str _], _, q => exact q.elim
  | [.none], _, q => exact q.elim
  | [.bool _], _, q => exact q.elim
  | [.dict _], _, q => exact q.elim
  | [], _, q => exact q.elim
  | a :: _ :: _, _, q => cases a <;> exact q.elim
theorem callD_int : CallR X (.type "int") (rDn X.K intD) := by
  intro pins s σ H xs us Q I r h
  obtain ⟨F, ds, sF, hd, q⟩ := h
  match ds, hd, q with
  | [.int i], .cons (.int _) .nil, q => exact call_int1 pins s σ H _ us Q I r (.inl ⟨i, rfl, q _ _ _ (Grow.refl sF) (.int _)⟩)
  | [.bool i], .cons (.bl _) .nil, q => exact call_int1 pins s σ H _ us Q I r (.inr ⟨i, rfl, q _ _ _ (Grow.refl sF) (.int _)⟩)
  | [.list _], _, q => exact q.elim
  | [.tuple _], _, q => exact q.elim
  | [.str _], _, q => exact q.elim
  | [.none], _, q => exact q.elim
  | [.dict _], _, q => exact q.elim
  | [], _, q => exact q.elim
  | a :: _ :: _, _, q => cases a <;> exact q.elim
theorem callD_max (hc : X.calm = true) : CallR X (.builtin "max") (rDn X.K maxD) := by
  intro pins s σ H xs us Q I r h
  obtain ⟨F, ds, sF, hd, q⟩ := h
  unfold maxD at q
  split at q
  · cases hd with
    | cons h1 h2 =>
      cases h2 with
      | cons h2 h3 =>
        cases h1; cases h2; cases h3
        exact call_max2 hc pins s σ H _ us Q I r ⟨_, _, rfl, q _ _ _ (Grow.refl sF) (.int _)⟩
  · exact q.elim
theorem callD_min (hc : X.calm = true) : CallR X (.builtin "min") (rDn X.K minD) := by
  intro pins s σ H xs us Q I r h
  obtain ⟨F, ds, sF, hd, q⟩ := h
  unfold minD at q
  split at q
  · cases hd with
    | cons h1 h2 =>
      cases h2 with
      | cons h2 h3 =>
        cases h1; cases h2; cases h3
        exact call_min2 hc pins s σ H _ us Q I r ⟨_, _, rfl, q _ _ _ (Grow.refl sF) (.int _)⟩
  · exact q.elim
theorem callD_tuple : CallR X (.type "tuple") (rDn X.K tupleD) := by
  intro pins s σ H xs us Q I r h
  obtain ⟨F, ds, sF, hd, q⟩ := h
  match ds, hd, q with
  | [.list es], .cons (.lst ha ra) .nil, q =>
    exact call_tuple_of pins s σ H _ us Q I r ⟨_, _, rfl, .inl ⟨sF.seq ha, fun l hl => q _ _ _ (Grow.new sF hl) (.tup (.inl (.inl upd_same)) (dpAll_mono (same_new (sF.free hl)) _ _ ra))⟩⟩
  | [.tuple es], .cons (.tup ha ra) .nil, q => exact call_tuple_of pins s σ H _ us Q I r ⟨_, _, rfl, .inr ⟨sqT_mono sF ha, q _ _ _ (Grow.refl sF) (.tup ha ra)⟩⟩
  | [.str _], _, q => exact q.elim
  | [.none], _, q => exact q.elim
  | [.bool _], _, q => exact q.elim
  | [.int _], _, q => exact q.elim
  | [.dict _], _, q => exact q.elim
  | [], _, q => exact q.elim
  | a :: _ :: _, _, q => cases a <;> exact q.elim

theorem callD_list : CallR X (.type "list") (rDn X.K listD) := by
  intro pins s σ H xs us Q I r h
  obtain ⟨F, ds, sF, hd, q⟩ := h
  match ds, hd, q with
  | [.list es], .cons (.lst ha ra) .nil, q =>
    exact call_list_of pins s σ H _ us Q I r ⟨_, _, rfl, .inl (sF.seq ha), fun l hl => q _ _ _ (Grow.new sF hl) (.lst (.inl (.inl upd_same)) (dpAll_mono (same_new (sF.free hl)) _ _ ra))⟩
  | [.tuple es], .cons (.tup ha ra) .nil, q => exact call_list_of pins s σ H _ us Q I r ⟨_, _, rfl, .inr (sqT_mono sF ha), fun l hl => q _ _ _ (Grow.new sF hl) (.lst (.inl (.inl upd_same)) (dpAll_mono (same_new (sF.free hl)) _ _ ra))⟩
  | [.str _], _, q => exact q.elim
  | [.none], _, q => exact q.elim
  | [.bool _], _, q => exact q.elim
  | [.int _], _, q => exact q.elim
  | [.dict _], _, q => exact q.elim
  | [], _, q => exact q.elim
  | a :: _ :: _, _, q => cases a <;> exact q.elim

/-! ### expressions -/
variable {W : WX} {M : List Nat} {pos p p2 : Pos}
theorem de_name {i : Nat} {x : Str} (hM : i ∉ M) (hN : X.N[i]? = some x) (hv : Vis X.env.scope x) (hd : (x == ("__debug__" : Str)) = false := by decide) (hcd : (x == ("__classdict__" : Str)) = false := by decide) : DE X W M (.Name x pos) (eN i) := by
  refine pe_weak (pe_var hN hv hd hcd) fun σ H Q h => ?_
  obtain ⟨F, ρ, sF, r, q⟩ := h
  unfold eN at q
  cases e : ρ[i]? with
  | none => rw [e] at q; exact q.elim
  | some o =>
    cases o with
    | none => rw [e] at q; exact q.elim
    | some d =>
      rw [e] at q
      obtain ⟨v, h1, h2⟩ := r.get i d hM e
      exact ⟨v, h1, q v H F (Grow.refl sF) h2⟩
theorem de_const {e : Expr} {v : V} {d : D} (h : PE X e (tC v)) (hd : ∀ F, Dp X.K F v d) : DE X W M e (eC d) :=
  pe_weak h fun σ H Q ⟨F, ρ, sF, r, q⟩ => q v H F (Grow.refl sF) (hd F)
theorem de_int {i j} : DE X W M (.Constant (.int i) j pos) (eC (.int i)) := de_const pe_int fun _ => .int _
theorem de_bl {b j} : DE X W M (.Constant (.bool b) j pos) (eC (.bool b)) := de_const pe_bl fun _ => .bl _
theorem de_non {j} : DE X W M (.Constant .none j pos) (eC .none) := de_const pe_non fun _ => .non
theorem de_str {x j} : DE X W M (.Constant (.str x) j pos) (eC (.str x)) := de_const pe_str fun _ => .str _
/-- a constant of the module -/
def ConstK (K : PySem.W.Frag) (mg : Str → Option Value) (x : Str) (d : D) : Prop := ∃ u v, mg x = some u ∧ RelV v u ∧ ∀ F, Dp K F v d
theorem de_glob {x : Str} {d : D} (c : ConstK X.K X.mg x d) (hg : Gl X x) (hd : (x == ("__debug__" : Str)) = false := by decide) : DE X W M (.Name x pos) (eC d) := by
  obtain ⟨u, v, hm, r, h⟩ := c
  exact de_const (pe_glob hg hm r hd) h
theorem ok_bind {α β γ δ : Type} {K : PySem.W.Frag} {mg : Str → Option Value} {σ : L2.St} {H F : Hp} {R : Hp → β → α → Prop} {R' : Hp → δ → γ → Prop} {Q : δ → Hp → Prop} {ρ : EnvD} {r : ER α} {k : α → ER γ} {Q' : β → Hp → Prop} (rep : RepF K M F σ ρ) (h : okE K mg W σ H F R' Q (r.bind k))
    (w : ∀ v H1 F1 x, Grow H F H1 F1 → RepF K M F1 σ ρ → R F1 v x → okE K mg W σ H1 F1 R' Q (k x) → Q' v H1) : okE K mg W σ H F R Q' r :=
  tem_mono (tem_bind (R := R) h) fun v H1 ⟨F1, x, g, rv, q⟩ => w v H1 F1 x g (rep.mono g.f) rv q
theorem okO_of {K : PySem.W.Frag} {mg : Str → Option Value} {σ : L2.St} {H F : Hp} {Q : VK} {o : Option D} (h : okE K mg W σ H F (Dp K) Q (optE o)) : okO K H F Q o := by
  cases o with
  | none => exact h
  | some z => exact h
variable {a b e : Expr} {es : List Expr} {ma mb m : EnvD → ER D} {ms : List (EnvD → ER D)} {x : Str}
theorem de_op {op : Operator} {f : D → D → Option D} (ho : OpR X (binaryOp op) (rD X.K f)) (ha : DE X W M a ma) (hb : DE X W M b mb) : DE X W M (.BinOp a op b pos) (e2 f ma mb) :=
  pe_weak (pe_op ho ha hb) fun σ H Q ⟨F, ρ, sF, r, q⟩ => ⟨F, ρ, sF, r, ok_bind r q fun v H1 F1 x g r1 dx q1 => ⟨F1, ρ, g.sub, r1, ok_bind r1 q1 fun u H2 F2 y g2 r2 dy q2 => ⟨F2, x, y, g2.sub, dp_mono g2.f _ _ dx, dy, okO_of q2⟩⟩⟩
theorem de_cmp {op : CmpOp} {f : D → D → Option D} (ho : OpR X (compareOp op) (rD X.K f)) (ha : DE X W M a ma) (hb : DE X W M b mb) (hm : behindInMarks op b = false) : DE X W M (.Compare a [op] [b] pos) (e2 f ma mb) :=
  pe_weak (pe_cmpR ho ha hb hm) fun σ H Q ⟨F, ρ, sF, r, q⟩ => ⟨F, ρ, sF, r, ok_bind r q fun v H1 F1 x g r1 dx q1 => ⟨F1, ρ, g.sub, r1, ok_bind r1 q1 fun u H2 F2 y g2 r2 dy q2 => ⟨F2, x, y, g2.sub, dp_mono g2.f _ _ dx, dy, okO_of q2⟩⟩⟩
theorem isBool_dp {K : PySem.W.Frag} {H : Hp} {v : V} {d : D} {c : Bool} (h : Dp K H v d) (e : isBool d = some c) : v = .bl c := by
  cases h with
  | bl b => exact congrArg V.bl (Option.some.inj e)
  | _ => cases e
theorem okE_opt {α β γ : Type} {K : PySem.W.Frag} {mg : Str → Option Value} {σ : L2.St} {H F : Hp} {R : Hp → β → α → Prop} {Q : β → Hp → Prop} {o : Option γ} {k : γ → ER α} (h : okE K mg W σ H F R Q ((optE o).bind k)) : ∃ c, o = some c ∧ okE K mg W σ H F R Q (k c) := by
  cases o with
  | none => exact h.elim
  | some c => exact ⟨c, rfl, h⟩
theorem okE_opt' {α β : Type} {K : PySem.W.Frag} {mg : Str → Option Value} {σ : L2.St} {H F : Hp} {R : Hp → β → α → Prop} {Q : β → Hp → Prop} {o : Option α} (h : okE K mg W σ H F R Q (optE o)) : ∃ c, o = some c ∧ ∀ v H' F', Grow H F H' F' → R F' v c → Q v H' := by
  cases o with
  | none => exact h.elim
  | some c => exact ⟨c, rfl, h⟩
theorem dt_cmp {op : CmpOp} {f : D → D → Option D} (ho : OpR X (compareOp op) (rD X.K f)) (ha : DE X W M a ma) (hb : DE X W M b mb) (hm : behindInMarks op b = false) : DT X W M (.Compare a [op] [b] pos) (tV isBool (e2 f ma mb)) :=
  pt_weak (pt_cmpR ho ha hb hm) fun σ H Q h => by
    obtain ⟨F, ρ, sF, r, q⟩ := h
    have q' : okE X.K X.mg W σ H F (fun _ b c => b = c) Q ((ma ρ).bind fun x => ((mb ρ).bind fun y => (optE (f x y)).bind fun z => optE (isBool z))) := by
      have z : tV isBool (e2 f ma mb) ρ = ((ma ρ).bind fun x => ((mb ρ).bind fun y => (optE (f x y)).bind fun z => optE (isBool z))) := by
        unfold tV e2
        cases ma ρ with
        | ok x =>
          show ((mb ρ).bind _).bind _ = _
          cases mb ρ <;> rfl
        | ex _ => rfl
        | no => rfl
      rw [← z]
      exact q
    refine ⟨F, ρ, sF, r, ok_bind r q' fun v H1 F1 x g r1 dx q1 => ⟨F1, ρ, g.sub, r1, ok_bind r1 q1 fun u H2 F2 y g2 r2 dy q2 => ?_⟩⟩
    obtain ⟨w, ew, q3⟩ := okE_opt q2
    obtain ⟨c, ec, q4⟩ := okE_opt' q3
    refine ⟨F2, x, y, g2.sub, dp_mono g2.f _ _ dx, dy, ?_⟩
    rw [ew]
    exact fun v' H' F' g' dv => ⟨c, isBool_dp dv ec, q4 c H' F' g' rfl⟩
theorem de_un {op : UnaryOp} {f : D → Option D} (ho : UnR X (unaryOp op) (rD1 X.K f)) (ha : DE X W M a ma) : DE X W M (.UnaryOp op a pos) (e1 f ma) :=
  pe_weak (pe_un ho ha) fun σ H Q ⟨F, ρ, sF, r, q⟩ => ⟨F, ρ, sF, r, ok_bind r q fun v H1 F1 x g r1 dx q1 => ⟨F1, x, g.sub, dx, okO_of q1⟩⟩
theorem de_ix (ha : DE X W M a ma) (hb : DE X W M b mb) (hs : PlainIx b) : DE X W M (.Subscript a b pos) (e2 atD ma mb) :=
  pe_weak (pe_ix ixD ha hb hs) fun σ H Q ⟨F, ρ, sF, r, q⟩ => ⟨F, ρ, sF, r, ok_bind r q fun v H1 F1 x g r1 dx q1 => ⟨F1, ρ, g.sub, r1, ok_bind r1 q1 fun u H2 F2 y g2 r2 dy q2 => ⟨F2, x, y, g2.sub, dp_mono g2.f _ _ dx, dy, okO_of q2⟩⟩⟩
/-! slices -/
def isInt : D → Option Int
  | .int i => some i
  | _ => none
def pN : EnvD → ER (Option Int) := fun _ => .ok none
def pS (m : EnvD → ER D) : EnvD → ER (Option Int) := fun ρ => (m ρ).bind fun x => (optE (isInt x)).bind fun i => .ok (some i)
def eSl (m : EnvD → ER D) (lo hi : EnvD → ER (Option Int)) : EnvD → ER D := fun ρ => (m ρ).bind fun x => (lo ρ).bind fun l => (hi ρ).bind fun u => optE (sliceD l u x)
def TOm (K : PySem.W.Frag) (mg : Str → Option Value) (W : WX) (M : List Nat) (m : EnvD → ER (Option Int)) : TO := fun σ H Q => ∃ F ρ, Same F H ∧ RepF K M F σ ρ ∧ okE K mg W σ H F (fun _ b c => b = c) Q (m ρ)
abbrev DO (X : Cx) (W : WX) (M : List Nat) (e : Option Expr) (m : EnvD → ER (Option Int)) : Prop := PO X e (TOm X.K X.mg W M m)
theorem po_weak {e : Option Expr} {t t' : TO} (h : PO X e t) (w : ∀ σ H Q, t' σ H Q → t σ H Q) : PO X e t' := ⟨fun pins s σ H Q I q => h.run pins s σ H Q I (w σ H Q q)⟩
theorem do_none : DO X W M none pN := po_weak po_none fun σ H Q ⟨F, ρ, sF, r, q⟩ => q _ _ _ (Grow.refl sF) rfl
theorem isInt_dp {K : PySem.W.Frag} {H : Hp} {v : V} {d : D} {c : Int} (h : Dp K H v d) (e : isInt d = some c) : v = .int c := by
  cases h with
  | int b => exact congrArg V.int (Option.some.inj e)
  | _ => cases e
theorem do_some (h : DE X W M e m) : DO X W M (some e) (pS m) := po_weak (po_some h) fun σ H Q ⟨F, ρ, sF, r, q⟩ => ⟨F, ρ, sF, r, ok_bind r q fun v H1 F1 x g r1 dx q1 => by
  obtain ⟨i, ei, q2⟩ := okE_opt q1
  exact ⟨i, isInt_dp dx ei, q2 _ _ _ (Grow.refl g.sub) rfl⟩⟩
theorem de_slice {lo hi : Option Expr} {ml mh : EnvD → ER (Option Int)} (he : DE X W M e m) (hl : DO X W M lo ml) (hh : DO X W M hi mh) : DE X W M (.Subscript e (.Slice lo hi none p2) pos) (eSl m ml mh) :=
  pe_weak (pe_slice slD he hl hh) fun σ H Q ⟨F, ρ, sF, r, q⟩ => ⟨F, ρ, sF, r, ok_bind r q fun v H1 F1 x g r1 dx q1 => ⟨F1, ρ, g.sub, r1, ok_bind r1 q1 fun l H2 F2 l' g2 r2 el q2 => ⟨F2, ρ, g2.sub, r2, ok_bind r2 q2 fun u H3 F3 u' g3 r3 eu q3 => by
    subst el eu
    exact ⟨F3, x, g3.sub, dp_mono (g2.f.trans g3.f) _ _ dx, okO_of q3⟩⟩⟩⟩
/-! argument lists, displays -/
theorem da_nil : DA X W M [] (aL []) := pa_weak pa_nil fun σ H Q ⟨F, ρ, sF, r, q⟩ => q _ _ _ (Grow.refl sF) .nil
theorem da_cons (h : DE X W M e m) (hr : DA X W M es (aL ms)) (hs : starEach (e :: es) X.env = (false, eval e X.env) :: starEach es X.env := by rfl) : DA X W M (e :: es) (aL (m :: ms)) :=
  pa_weak (pa_cons h hr hs) fun σ H Q ⟨F, ρ, sF, r, q⟩ => ⟨F, ρ, sF, r, ok_bind r q fun v H1 F1 x g r1 dx q1 => ⟨F1, ρ, g.sub, r1, ok_bind r1 q1 fun vs H2 F2 xs g2 r2 dxs q2 => q2 _ _ _ (Grow.refl g2.sub) (.cons (dp_mono g2.f _ _ dx) dxs)⟩⟩
theorem aL_len : ∀ {ms : List (EnvD → ER D)} {ρ : EnvD} {ds : List D}, aL ms ρ = .ok ds → ds.length = ms.length
  | [], _, _, h => by cases h; rfl
  | m :: ms, ρ, ds, h => by
    unfold aL at h
    cases e : m ρ with
    | ok x =>
      rw [e] at h
      cases e2 : aL ms ρ with
      | ok xs =>
        have h' : ((aL ms ρ).bind fun xs => ER.ok (x :: xs)) = .ok ds := h
        rw [e2] at h'
        cases h'
        simp [aL_len e2]
      | ex _ =>
        have h' : ((aL ms ρ).bind fun xs => ER.ok (x :: xs)) = .ok ds := h
        rw [e2] at h'; cases h'
      | no =>
        have h' : ((aL ms ρ).bind fun xs => ER.ok (x :: xs)) = .ok ds := h
        rw [e2] at h'; cases h'
    | ex _ => rw [e] at h; cases h
    | no => rw [e] at h; cases h
theorem ok_bindE {α β γ δ : Type} {K : PySem.W.Frag} {mg : Str → Option Value} {σ : L2.St} {H F : Hp} {R : Hp → β → α → Prop} {R' : Hp → δ → γ → Prop} {Q : δ → Hp → Prop} {ρ : EnvD} {r : ER α} {k : α → ER γ} {Q' : β → Hp → Prop} (rep : RepF K M F σ ρ) (h : okE K mg W σ H F R' Q (r.bind k))
    (w : ∀ v H1 F1 x, r = .ok x → Grow H F H1 F1 → RepF K M F1 σ ρ → R F1 v x → okE K mg W σ H1 F1 R' Q (k x) → Q' v H1) : okE K mg W σ H F R Q' r := by
  cases r with
  | ok x => exact fun v H1 F1 g rv => w v H1 F1 x rfl g (rep.mono g.f) rv (okE.grow h g)
  | ex x => exact h
  | no => exact h
theorem line1000 {n : Nat} (h : n ≤ 1000) : n ≤ sizeLine := Nat.le_of_lt (small1000 h)
theorem de_tup {k : Nat} (h : DA X W M es (aL ms)) (hl : ms.length ≤ 1000) : DE X W M (.Tuple es k pos) (eT ms) :=
  pe_weak (pe_tup h) fun σ H Q ⟨F, ρ, sF, r, q⟩ => ⟨F, ρ, sF, r, ok_bindE r q fun vs H1 F1 ds e g r1 dv q1 => ⟨by rw [dpAll_len dv, aL_len e]; exact line1000 hl, fun p hp => q1 _ _ _ (Grow.new g.sub hp) (.tup (.inl (.inl upd_same)) (dpAll_mono (same_new (g.sub.free hp)) _ _ dv))⟩⟩
theorem de_lst (h : DA X W M es (aL ms)) (hl : ms.length ≤ 1000) : DE X W M (.List es pos) (eL ms) :=
  pe_weak (pe_lst h) fun σ H Q ⟨F, ρ, sF, r, q⟩ => ⟨F, ρ, sF, r, ok_bindE r q fun vs H1 F1 ds e g r1 dv q1 => ⟨by rw [dpAll_len dv, aL_len e]; exact line1000 hl, fun p hp => q1 _ _ _ (Grow.new g.sub hp) (.lst (.inl (.inl upd_same)) (dpAll_mono (same_new (g.sub.free hp)) _ _ dv))⟩⟩
/-! built-ins -/
theorem de_callB {id : String} {f : List D → Option D} (hc : CallR X (.builtin id) (rDn X.K f)) (hm : X.mg x = none) (hv : bootBuiltins x = some (.builtin id)) (hg : Gl X x) (ha : DA X W M (e :: es) (aL ms)) (hn : x ≠ "__name__" := by decide) (hdb : (x == ("__debug__" : Str)) = false := by decide)
    (he : starEach (e :: es) X.env = (false, eval e X.env) :: starEach es X.env := by rfl) (hpl : (backTo pos (starEach es X.env)).any (·.1) = false := by rfl) : DE X W M (.Call (.Name x p) (e :: es) [] pos) (eB f ms) :=
  pe_weak (pe_callB hc hg hm hv ha hn hdb he hpl) fun σ H Q ⟨F, ρ, sF, r, q⟩ => ⟨F, ρ, sF, r, ok_bind r q fun vs H1 F1 ds g r1 dv q1 => ⟨F1, ds, g.sub, dv, okO_of q1⟩⟩
theorem de_callT {T : String} {f : List D → Option D} (hc : CallR X (.type T) (rDn X.K f)) (hm : X.mg x = none) (hv : bootBuiltins x = some (.type T)) (hg : Gl X x) (ha : DA X W M (e :: es) (aL ms)) (hn : x ≠ "__name__" := by decide) (hdb : (x == ("__debug__" : Str)) = false := by decide)
    (he : starEach (e :: es) X.env = (false, eval e X.env) :: starEach es X.env := by rfl) (hpl : (backTo pos (starEach es X.env)).any (·.1) = false := by rfl) : DE X W M (.Call (.Name x p) (e :: es) [] pos) (eB f ms) :=
  pe_weak (pe_callTy hc hg hm hv ha hn hdb he hpl) fun σ H Q ⟨F, ρ, sF, r, q⟩ => ⟨F, ρ, sF, r, ok_bind r q fun vs H1 F1 ds g r1 dv q1 => ⟨F1, ds, g.sub, dv, okO_of q1⟩⟩
theorem tyx_of {K : PySem.W.Frag} {H : Hp} {v : V} {d : D} (h : Dp K H v d) : TyX K H v (.type (kindD d)) := by
  cases h with
  | non => exact .base .non
  | bl b => exact .base (.bl b)
  | int i => exact .base (.int i)
  | str x => exact .base (.str x)
  | lst hs ha =>
    rcases hs with (h | ⟨o, h⟩) | ⟨o, its, n, h, c, _⟩
    · exact .base (.lst h)
    · exact .base (.frz h)
    · exact .kList h c
  | tup hs ha =>
    rcases hs with (h | ⟨o, h⟩) | ⟨o, its, n, h, c, _⟩
    · exact .base (.tup h)
    · exact .fTuple h
    · exact .kTuple h c
theorem de_isi {t : Str} {T : String} (hm : X.mg x = none) (hv : bootBuiltins x = some (.builtin "isinstance")) (hg : Gl X x) (htm : X.mg t = none) (htv : bootBuiltins t = some (.type T)) (htg : Gl X t) (he : DE X W M e m)
    (hn : x ≠ "__name__" := by decide) (hdb : (x == ("__debug__" : Str)) = false := by decide) (htn : t ≠ "__name__" := by decide) (htd : (t == ("__debug__" : Str)) = false := by decide)
    (hs1 : starEach [e, .Name t p2] X.env = (false, eval e X.env) :: starEach [.Name t p2] X.env := by rfl) (hpl : (backTo pos (starEach [.Name t p2] X.env)).any (·.1) = false := by rfl) : DE X W M (.Call (.Name x p) [e, .Name t p2] [] pos) (e1 (isiD T) m) := by
  refine pe_weak (pe_callB call_isi hg hm hv (pa_cons he (pa_cons (pe_bltn (v := .ty T) htg htm htv rfl htn htd) pa_nil) hs1) hn hdb hs1 hpl) fun σ H Q h => ?_
  obtain ⟨F, ρ, sF, r, q⟩ := h
  refine ⟨F, ρ, sF, r, ok_bind r q fun v H1 F1 y g r1 dy q1 => ?_⟩
  have q2 := okO_of q1
  unfold isiD at q2
  cases ek : kitB (kindD y) T with
  | none => rw [ek] at q2; exact q2.elim
  | some c =>
    rw [ek] at q2
    exact ⟨v, _, _, _, c, rfl, .ty T, tyx_of (dp_mono g.sub _ _ dy), kit_ty ek, q2 _ _ _ (Grow.refl g.sub) (.bl _)⟩

/-! and, or, not, if -/
theorem de_one {op} (h : DE X W M a ma) : DE X W M (.BoolOp op [a] pos) ma := pe_one h
theorem de_and (ha : DE X W M a ma) (hb : DE X W M (.BoolOp .And (b :: es) pos) mb) : DE X W M (.BoolOp .And (a :: b :: es) pos) (eAnd ma mb) :=
  pe_weak (pe_and ha hb) fun σ H Q ⟨F, ρ, sF, r, q⟩ => ⟨F, ρ, sF, r, ok_bind r q fun v H1 F1 x g r1 dx q1 => by
    obtain ⟨c, ec, q2⟩ := okE_opt q1
    refine ⟨c, isBool_dp dx ec, ?_⟩
    cases c with
    | true => rw [if_pos rfl]; rw [if_pos rfl] at q2; exact ⟨F1, ρ, g.sub, r1, q2⟩
    | false => rw [if_neg Bool.false_ne_true]; rw [if_neg Bool.false_ne_true] at q2; exact q2 _ _ _ (Grow.refl g.sub) (.bl _)⟩
theorem de_or (ha : DE X W M a ma) (hb : DE X W M (.BoolOp .Or (b :: es) pos) mb) : DE X W M (.BoolOp .Or (a :: b :: es) pos) (eOr ma mb) :=
  pe_weak (pe_or ha hb) fun σ H Q ⟨F, ρ, sF, r, q⟩ => ⟨F, ρ, sF, r, ok_bind r q fun v H1 F1 x g r1 dx q1 => by
    obtain ⟨c, ec, q2⟩ := okE_opt q1
    refine ⟨c, isBool_dp dx ec, ?_⟩
    cases c with
    | true => rw [if_pos rfl]; rw [if_pos rfl] at q2; exact q2 _ _ _ (Grow.refl g.sub) (.bl _)
    | false => rw [if_neg Bool.false_ne_true]; rw [if_neg Bool.false_ne_true] at q2; exact ⟨F1, ρ, g.sub, r1, q2⟩⟩
theorem de_not (ha : DE X W M a ma) : DE X W M (.UnaryOp .Not a pos) (eNot ma) :=
  pe_weak (pe_not ha) fun σ H Q ⟨F, ρ, sF, r, q⟩ => ⟨F, ρ, sF, r, ok_bind r q fun v H1 F1 x g r1 dx q1 => by
    obtain ⟨c, ec, q2⟩ := okE_opt q1
    exact ⟨c, isBool_dp dx ec, q2 _ _ _ (Grow.refl g.sub) (.bl _)⟩⟩
theorem de_if {c : Expr} {mc : EnvD → ER Bool} (hc : DT X W M c mc) (ha : DE X W M a ma) (hb : DE X W M b mb) : DE X W M (.IfExp c a b pos) (eIf mc ma mb) :=
  pe_weak (pe_ifExp hc ha hb) fun σ H Q ⟨F, ρ, sF, r, q⟩ => ⟨F, ρ, sF, r, ok_bind (R := fun _ b c => b = c) r q fun d H1 F1 x g r1 ed q1 => by
    subst ed
    cases d with
    | true => rw [if_pos rfl]; rw [if_pos rfl] at q1; exact ⟨F1, ρ, g.sub, r1, q1⟩
    | false => rw [if_neg Bool.false_ne_true]; rw [if_neg Bool.false_ne_true] at q1; exact ⟨F1, ρ, g.sub, r1, q1⟩⟩
/-! tests -/
theorem tru_of {K : PySem.W.Frag} {H : Hp} {v : V} {d : D} {c : Bool} (h : Dp K H v d) (e : truD d = some c) : TruV K v H c := by
  cases h with
  | non => exact (Option.some.inj e).symm
  | bl b => exact (Option.some.inj e).symm
  | int i => exact (Option.some.inj e).symm
  | str x =>
    have e' : (if x.length ≤ sizeLine then some (x.length != 0) else none) = some c := e
    by_cases hz : x.length ≤ sizeLine
    · rw [if_pos hz] at e'
      refine ⟨hz, ?_⟩
      rw [← Option.some.inj e']
      by_cases z : x.length = 0
      · simp [z]
      · have z1 : (x.length != 0) = true := by simpa using z
        have z2 : ((x.length : Int) != 0) = true := by simpa using z
        rw [z1, z2]
    · rw [if_neg hz] at e'; cases e'
  | lst hs ha =>
    refine .inl ⟨_, hs, ?_⟩
    rw [← Option.some.inj e]
    cases ha <;> rfl
  | tup hs ha =>
    refine .inr (.inl ⟨_, hs, ?_⟩)
    rw [← Option.some.inj e]
    cases ha <;> rfl
theorem dt_val (h : DE X W M e m) (he : ∀ whole, isTrue e X.env whole = (do let v ← whole; standAt e.pos; holding [v] (truthy v)) := by intro _; rfl) : DT X W M e (tV truD m) :=
  pt_weak (pt_truth h he) fun σ H Q ⟨F, ρ, sF, r, q⟩ => ⟨F, ρ, sF, r, ok_bind r q fun v H1 F1 x g r1 dx q1 => by
    obtain ⟨c, ec, q2⟩ := okE_opt' q1
    exact ⟨c, tru_of (dp_mono g.sub _ _ dx) ec, q2 c _ _ (Grow.refl g.sub) rfl⟩⟩
variable {ta tb : EnvD → ER Bool}
theorem dw_and1 (ha : DT X W M a ta) : DW X W M (.BoolOp .And [a] pos) ta := pw_and1 ha
theorem dw_or1 (ha : DT X W M a ta) : DW X W M (.BoolOp .Or [a] pos) ta := pw_or1 ha
theorem dw_and (ha : DT X W M a ta) (hb : DW X W M (.BoolOp .And (b :: es) pos) tb) : DW X W M (.BoolOp .And (a :: b :: es) pos) (Z.tAnd ta tb) :=
  pw_weak (pw_and ha hb) fun σ H Q ⟨F, ρ, sF, r, q⟩ => ⟨F, ρ, sF, r, ok_bind (R := fun _ b c => b = c) r q fun d H1 F1 x g r1 ed q1 => by
    subst ed
    cases d with
    | true => rw [if_pos rfl]; rw [if_pos rfl] at q1; exact ⟨F1, ρ, g.sub, r1, q1⟩
    | false => rw [if_neg Bool.false_ne_true]; rw [if_neg Bool.false_ne_true] at q1; exact q1 _ _ _ (Grow.refl g.sub) rfl⟩
theorem dw_or (ha : DT X W M a ta) (hb : DW X W M (.BoolOp .Or (b :: es) pos) tb) : DW X W M (.BoolOp .Or (a :: b :: es) pos) (Z.tOr ta tb) :=
  pw_weak (pw_or ha hb) fun σ H Q ⟨F, ρ, sF, r, q⟩ => ⟨F, ρ, sF, r, ok_bind (R := fun _ b c => b = c) r q fun d H1 F1 x g r1 ed q1 => by
    subst ed
    cases d with
    | true => rw [if_pos rfl]; rw [if_pos rfl] at q1; exact q1 _ _ _ (Grow.refl g.sub) rfl
    | false => rw [if_neg Bool.false_ne_true]; rw [if_neg Bool.false_ne_true] at q1; exact ⟨F1, ρ, g.sub, r1, q1⟩⟩
theorem dt_bool (h : DW X W M e ta) : DT X W M e ta := h.pt
theorem dt_not (ha : DT X W M a ta) : DT X W M (.UnaryOp .Not a pos) (Z.tNot ta) :=
  pt_weak (pt_not ha) fun σ H Q ⟨F, ρ, sF, r, q⟩ => ⟨F, ρ, sF, r, ok_bind (R := fun _ b c => b = c) r q fun d H1 F1 x g r1 ed q1 => by
    subst ed
    exact q1 _ _ _ (Grow.refl g.sub) rfl⟩
end
end Z

namespace Z
open PySem PySem.Spec PyProof.Rows L2

/-! ### the state between statements: M are the slots whose lists are the frame's own -/
/-- what a def gives back: a value; a value and its first parameter's own list; a new list -/
inductive RK where
  | val
  | own
  | fresh
deriving DecidableEq
/-- the fixed part at a def's beginning, and the address of its first parameter's own list -/
abbrev FB := Hp × Addr
structure S5 (K : PySem.W.Frag) (r : RK) (M : List Nat) (H0 : Hp) (F0 : FB) (H F : Hp) (σ : L2.St) (ρ : EnvD) : Prop where
  grow : Grow H0 F0.1 H F
  len : ρ.length = σ.length
  val : RepF K M F σ ρ
  own : ∀ j, j ∈ M → ∃ a vs ds, σ[j]? = some (some (.ref a)) ∧ ρ[j]? = some (some (.list ds)) ∧ F a = none ∧ H0 a = none ∧ H a = some (.lst vs) ∧ DpAll K F vs ds
  inj : ∀ i j a, i ∈ M → j ∈ M → σ[i]? = some (some (.ref a)) → σ[j]? = some (some (.ref a)) → i = j
  pin : r = .own → 0 ∈ M → σ[0]? = some (some (.ref F0.2))
section
variable {K : PySem.W.Frag} {r : RK} {M M' : List Nat} {H0 H F H1 F1 : Hp} {F0 : FB} {σ : L2.St} {ρ : EnvD}
theorem S5.expr (s : S5 K r M H0 F0 H F σ ρ) (g : Grow H F H1 F1) : S5 K r M H0 F0 H1 F1 σ ρ where
  grow := s.grow.trans g
  len := s.len
  val := s.val.mono g.f
  own := fun j hj => by
    obtain ⟨a, vs, ds, e1, e2, e3, e4, e5, e6⟩ := s.own j hj
    exact ⟨a, vs, ds, e1, e2, g.old a (by rw [e5]; exact fun z => nomatch z) e3, e4, g.h _ _ e5, dpAll_mono g.f _ _ e6⟩
  inj := s.inj
  pin := s.pin
/-- the address of an own list -/
def isOwn (M : List Nat) (σ : L2.St) (a : Addr) : Bool := M.any fun j => decide (σ[j]? = some (some (.ref a)))
theorem isOwn_iff {M : List Nat} {σ : L2.St} {a : Addr} : isOwn M σ a = true ↔ ∃ j, j ∈ M ∧ σ[j]? = some (some (.ref a)) := by
  unfold isOwn
  rw [List.any_eq_true]
  exact ⟨fun ⟨j, h1, h2⟩ => ⟨j, h1, of_decide_eq_true h2⟩, fun ⟨j, h1, h2⟩ => ⟨j, h1, decide_eq_true h2⟩⟩
/-- the own lists of D become fixed -/
def fixF (D : List Nat) (σ : L2.St) (H F : Hp) : Hp := fun a => if isOwn D σ a = true then H a else F a
theorem S5.freeze (s : S5 K r M H0 F0 H F σ ρ) (hs : ∀ j ∈ M', j ∈ M) : ∃ F', Same F F' ∧ S5 K r M' H0 F0 H F' σ ρ ∧ (∀ a, F' a ≠ F a → isOwn M σ a = true) := by
  let D := M.filter fun j => decide (j ∉ M')
  have hD : ∀ j, j ∈ D ↔ j ∈ M ∧ j ∉ M' := fun j => by
    simp only [D, List.mem_filter, decide_eq_true_eq]
  have ow : ∀ a, isOwn D σ a = true → ∃ j, j ∈ M ∧ j ∉ M' ∧ σ[j]? = some (some (.ref a)) := fun a h => by
    obtain ⟨j, h1, h2⟩ := isOwn_iff.mp h
    exact ⟨j, ((hD j).mp h1).1, ((hD j).mp h1).2, h2⟩
  have sFF : Same F (fixF D σ H F) := fun b x e => by
    unfold fixF
    by_cases q : isOwn D σ b = true
    · rw [if_pos q]
      exact s.grow.sub _ _ e
    · rw [if_neg q]
      exact e
  refine ⟨fixF D σ H F, sFF, ⟨⟨s.grow.h, s.grow.f.trans sFF, fun b x e => ?_, fun a ha fa => ?_⟩, s.len, ⟨fun j d hj e => ?_, s.len⟩, fun j hj => ?_, fun i j a hi hj => s.inj i j a (hs i hi) (hs j hj), fun hr h0 => s.pin hr (hs 0 h0)⟩, fun a ha => ?_⟩
  · unfold fixF at e
    by_cases q : isOwn D σ b = true
    · rw [if_pos q] at e; exact e
    · rw [if_neg q] at e; exact s.grow.sub _ _ e
  · unfold fixF
    by_cases q : isOwn D σ a = true
    · obtain ⟨j, h1, _, h3⟩ := ow a q
      obtain ⟨a', _, _, e1, _, _, e4, _⟩ := s.own j h1
      rw [h3] at e1
      cases e1
      exact absurd e4 ha
    · rw [if_neg q]
      exact s.grow.old a ha fa
  · by_cases hM : j ∈ M
    · obtain ⟨a, vs, ds, e1, e2, e3, e4, e5, e6⟩ := s.own j hM
      rw [e] at e2
      cases e2
      refine ⟨_, e1, .lst (.inl (.inl ?_)) (dpAll_mono sFF _ _ e6)⟩
      show fixF D σ H F a = _
      unfold fixF
      rw [if_pos (isOwn_iff.mpr ⟨j, (hD j).mpr ⟨hM, hj⟩, e1⟩)]
      exact e5
    · obtain ⟨v, h1, h2⟩ := s.val.get j d hM e
      exact ⟨v, h1, dp_mono sFF _ _ h2⟩
  · obtain ⟨a, vs, ds, e1, e2, e3, e4, e5, e6⟩ := s.own j (hs j hj)
    refine ⟨a, vs, ds, e1, e2, ?_, e4, e5, dpAll_mono sFF _ _ e6⟩
    unfold fixF
    have q : ¬ isOwn D σ a = true := fun q => by
      obtain ⟨i, h1, h2, h3⟩ := ow a q
      exact h2 ((s.inj i j a h1 (hs j hj) h3 e1).symm ▸ hj)
    rw [if_neg q]
    exact e3
  · unfold fixF at ha
    by_cases q : isOwn D σ a = true
    · obtain ⟨j, h1, _, h3⟩ := ow a q
      exact isOwn_iff.mpr ⟨j, h1, h3⟩
    · rw [if_neg q] at ha
      exact absurd rfl ha
/-- what an expression that reads own lists leaves: the fixed part without them -/
def lendF (M : List Nat) (σ : L2.St) (F : Hp) : Hp := fun a => if isOwn M σ a = true then none else F a
theorem S5.unlend {F' F1' : Hp} (s : S5 K r M H0 F0 H F σ ρ) (hF : ∀ a, F' a ≠ F a → isOwn M σ a = true) (hS : Same F F') (g : Grow H F' H1 F1') : Grow H F H1 (lendF M σ F1') := by
  have nown : ∀ a, isOwn M σ a = true → F a = none := fun a h => by
    obtain ⟨j, h1, h2⟩ := isOwn_iff.mp h
    obtain ⟨a', _, _, e1, _, e3, _⟩ := s.own j h1
    rw [h2] at e1
    cases e1
    exact e3
  refine ⟨g.h, fun b x e => ?_, fun b x e => ?_, fun a ha fa => ?_⟩
  · unfold lendF
    have q : ¬ isOwn M σ b = true := fun q => by rw [nown b q] at e; cases e
    rw [if_neg q]
    exact g.f _ _ (hS _ _ e)
  · unfold lendF at e
    by_cases q : isOwn M σ b = true
    · rw [if_pos q] at e; cases e
    · rw [if_neg q] at e; exact g.sub _ _ e
  · unfold lendF
    by_cases q : isOwn M σ a = true
    · rw [if_pos q]
    · rw [if_neg q]
      have e : F' a = F a := Classical.byContradiction fun z => q (hF a z)
      exact g.old a ha (by rw [e]; exact fa)
end
/-! data without lists -/
mutual
def lf : D → Bool
  | .none => true
  | .bool _ => true
  | .int _ => true
  | .str _ => true
  | .list _ => false
  | .tuple ds => lfAll ds
  | .dict _ => false
def lfAll : List D → Bool
  | [] => true
  | d :: ds => lf d && lfAll ds
end
section
variable {K : PySem.W.Frag} {F F' : Hp}
mutual
theorem dp_lf (hT : ∀ a xs, SqT K F a xs → SqT K F' a xs) : ∀ (d : D) (v : V), lf d = true → Dp K F v d → Dp K F' v d
  | .none, _, _, h => by cases h; exact .non
  | .bool b, _, _, h => by cases h; exact .bl b
  | .int i, _, _, h => by cases h; exact .int i
  | .str x, _, _, h => by cases h; exact .str x
  | .list ds, _, q, h => by simp [lf] at q
  | .tuple ds, _, q, h => by
    cases h with
    | tup hs ha => exact .tup (hT _ _ hs) (dpAll_lf hT ds _ (by simpa [lf] using q) ha)
  | .dict _, _, _, h => by cases h
theorem dpAll_lf (hT : ∀ a xs, SqT K F a xs → SqT K F' a xs) : ∀ (ds : List D) (vs : List V), lfAll ds = true → DpAll K F vs ds → DpAll K F' vs ds
  | [], _, _, h => by cases h; exact .nil
  | d :: ds, _, q, h => by
    have q' : lf d = true ∧ lfAll ds = true := by simpa [lfAll] using q
    cases h with
    | cons h1 h2 => exact .cons (dp_lf hT d _ q'.1 h1) (dpAll_lf hT ds _ q'.2 h2)
end
end
theorem S5.lendT {K : PySem.W.Frag} {r : RK} {M : List Nat} {H0 H F H1 F1' : Hp} {F0 : FB} {σ : L2.St} {ρ : EnvD} (s : S5 K r M H0 F0 H F σ ρ) (g : Same H H1) (sb : Same F1' H1) : ∀ a xs, SqT K F1' a xs → SqT K (lendF M σ F1') a xs := fun a xs h => by
  have q : ∀ o, F1' a = some o → (∀ vs, o ≠ .lst vs) → lendF M σ F1' a = some o := fun o e n => by
    unfold lendF
    have q : ¬ isOwn M σ a = true := fun q => by
      obtain ⟨j, h1, h2⟩ := isOwn_iff.mp q
      obtain ⟨a', vs, _, e1, _, _, _, e5, _⟩ := s.own j h1
      rw [h2] at e1
      cases e1
      have z1 := sb _ _ e
      have z2 := g _ _ e5
      rw [z1] at z2
      exact n vs (Option.some.inj z2)
    rw [if_neg q]
    exact e
  rcases h with (h | ⟨o, h⟩) | h
  · exact .inl (.inl (q _ h fun _ z => nomatch z))
  · exact .inl (.inr ⟨o, q _ h fun _ z => nomatch z⟩)
  · exact .inr h

/-! ### statements' readings -/
/-- the own slots at a break, at a continue -/
structure Js where
  b : List Nat
  c : List Nat
  r : RK := .val
section
variable (K : PySem.W.Frag) (mg : Str → Option Value) (W : WX)
def retS (r : RK) (H0 : Hp) (F0 : FB) (D : Ends) (d : PyData) : Prop := match r with
  | .val => ∀ v H F, Grow H0 F0.1 H F → Dp K F v d → D.rt v H
  | .own => (match d with
    | .tuple [x, .list es] => ∀ v H F vs, Grow H0 F0.1 H F → Dp K F v x → F F0.2 = none → H F0.2 = some (.lst vs) → DpAll K F vs es → D.rt v H
    | _ => False)
  | .fresh => (match d with
    | .list es => ∀ a H F vs, Grow H0 F0.1 H F → H0 a = none → F a = none → H a = some (.lst vs) → DpAll K F vs es → D.rt (.ref a) H
    | _ => False)
def okS (J : Js) (M : List Nat) (H0 : Hp) (F0 : FB) (D : Ends) : SR → Prop
  | .nx ρ => ∀ σ H F, S5 K J.r M H0 F0 H F σ ρ → D.nx σ H
  | .brk ρ => ∀ σ H F, S5 K J.r J.b H0 F0 H F σ ρ → D.bk σ H
  | .cont ρ => ∀ σ H F, S5 K J.r J.c H0 F0 H F σ ρ → D.ct σ H
  | .ret d => retS K J.r H0 F0 D d
  | .ex x ρ => ∀ c dc σ H F, S5 K J.r [] H0 F0 H F σ ρ → IsX K mg H F c dc x → W c dc σ H
  | .no => False
def TSm (J : Js) (M Mn : List Nat) (m : EnvD → SR) : TS := fun D σ H => ∃ H0 F0 F ρ, S5 K J.r M H0 F0 H F σ ρ ∧ okS K mg W J Mn H0 F0 D (m ρ)
end
abbrev DS (X : Cx) (W : WX) (J : Js) (M Mn : List Nat) (sts : List Stmt) (m : EnvD → SR) : Prop := PSs X sts (TSm X.K X.mg W J M Mn m)
abbrev D1 (X : Cx) (W : WX) (J : Js) (M Mn : List Nat) (st : Stmt) (m : EnvD → SR) : Prop := PS X st (TSm X.K X.mg W J M Mn m)
def SR.ofE {α : Type} (r : ER α) (ρ : EnvD) (k : α → SR) : SR :=
  match r with
  | .ok a => k a
  | .ex x => .ex x ρ
  | .no => .no

/-! mirrors of statements -/
def sNx : EnvD → SR := fun ρ => .nx ρ
def sBrk : EnvD → SR := fun ρ => .brk ρ
def sCont : EnvD → SR := fun ρ => .cont ρ
def sSeq (a b : EnvD → SR) : EnvD → SR := fun ρ => match a ρ with
  | .nx ρ' => b ρ'
  | .ret d => .ret d
  | .brk ρ' => .brk ρ'
  | .cont ρ' => .cont ρ'
  | .ex x ρ' => .ex x ρ'
  | .no => .no
def sSet (i : Nat) (m : EnvD → ER D) : EnvD → SR := fun ρ => SR.ofE (m ρ) ρ fun d => .nx (ρ.set i (some d))
/-- .. where the value was reckoned from own lists: it holds no list -/
def sSetB (i : Nat) (m : EnvD → ER D) : EnvD → SR := fun ρ => SR.ofE (m ρ) ρ fun d => if lf d = true then .nx (ρ.set i (some d)) else .no
def sRet (m : EnvD → ER D) : EnvD → SR := fun ρ => SR.ofE (m ρ) ρ fun d => .ret d
def sRetN : EnvD → SR := fun _ => .ret .none
def sIf (c : EnvD → ER Bool) (a b : EnvD → SR) : EnvD → SR := fun ρ => SR.ofE (c ρ) ρ fun q => if q = true then a ρ else b ρ
def sDrop (m : EnvD → ER D) : EnvD → SR := fun ρ => SR.ofE (m ρ) ρ fun _ => .nx ρ

section
variable {X : Cx} {W : WX} {J : Js} {M Mn M1 M' : List Nat} {st : Stmt} {rest sts : List Stmt} {m m1 m2 : EnvD → SR} {pos : Pos} {e : Expr} {me : EnvD → ER D}
theorem ds_nil : DS X W J M M [] sNx := pss_weak pss_nil fun D σ H ⟨H0, F0, F, ρ, s, q⟩ => q _ _ _ s
theorem ds_cons (h1 : D1 X W J M M1 st m1) (h2 : DS X W J M1 Mn rest m2) : DS X W J M Mn (st :: rest) (sSeq m1 m2) :=
  pss_weak (pss_cons h1 h2) fun D σ H h => by
    obtain ⟨H0, F0, F, ρ, s, q⟩ := h
    refine ⟨H0, F0, F, ρ, s, ?_⟩
    unfold sSeq at q
    cases r : m1 ρ with
    | nx ρ' => rw [r] at q; exact fun σ' H' F' s' => ⟨H0, F0, F', ρ', s', q⟩
    | ret d => rw [r] at q; exact q
    | brk ρ' => rw [r] at q; exact q
    | cont ρ' => rw [r] at q; exact q
    | ex x ρ' => rw [r] at q; exact q
    | no => rw [r] at q; exact q
theorem ds_one (h1 : D1 X W J M Mn st m) : DS X W J M Mn [st] m := pss_one h1
theorem okS_drop {K : PySem.W.Frag} {mg : Str → Option Value} {J : Js} {H0 : Hp} {F0 : FB} {D : Ends} (hs : ∀ j ∈ M', j ∈ M) {r : SR} (q : okS K mg W J M' H0 F0 D r) : okS K mg W J M H0 F0 D r := by
  cases r with
  | nx ρ =>
    intro σ H F s
    obtain ⟨F', _, s', _⟩ := s.freeze hs
    exact q σ H F' s'
  | _ => exact q
/-- own lists that are not changed any more -/
theorem ds_pre (hs : ∀ j ∈ M', j ∈ M) (h : DS X W J M' Mn sts m) : DS X W J M Mn sts m :=
  pss_weak h fun D σ H ⟨H0, F0, F, ρ, s, q⟩ => by
    obtain ⟨F', _, s', _⟩ := s.freeze hs
    exact ⟨H0, F0, F', ρ, s', q⟩
theorem ds_post (hs : ∀ j ∈ M', j ∈ Mn) (h : DS X W J M Mn sts m) : DS X W J M M' sts m :=
  pss_weak h fun D σ H ⟨H0, F0, F, ρ, s, q⟩ => ⟨H0, F0, F, ρ, s, okS_drop hs q⟩
theorem d1_pre (hs : ∀ j ∈ M', j ∈ M) (h : D1 X W J M' Mn st m) : D1 X W J M Mn st m :=
  ps_weak h fun D σ H ⟨H0, F0, F, ρ, s, q⟩ => by
    obtain ⟨F', _, s', _⟩ := s.freeze hs
    exact ⟨H0, F0, F', ρ, s', q⟩
theorem d1_post (hs : ∀ j ∈ M', j ∈ Mn) (h : D1 X W J M Mn st m) : D1 X W J M M' st m :=
  ps_weak h fun D σ H ⟨H0, F0, F, ρ, s, q⟩ => ⟨H0, F0, F, ρ, s, okS_drop hs q⟩

/-- an expression within a statement that doesn't read own lists -/
theorem S5.ev {α β : Type} {K : PySem.W.Frag} {mg : Str → Option Value} {H0 H F : Hp} {F0 : FB} {σ : L2.St} {ρ : EnvD} {D : Ends} {R : Hp → β → α → Prop} {Q : β → Hp → Prop} {r : ER α} {k : α → SR} (s : S5 K J.r M H0 F0 H F σ ρ) (q : okS K mg W J Mn H0 F0 D (SR.ofE r ρ k))
    (w : ∀ v H1 F1 x, r = .ok x → S5 K J.r M H0 F0 H1 F1 σ ρ → R F1 v x → okS K mg W J Mn H0 F0 D (k x) → Q v H1) : okE K mg W σ H F R Q r := by
  cases r with
  | ok x => exact fun v H1 F1 g rv => w v H1 F1 x rfl (s.expr g) rv q
  | ex x =>
    intro c dc H1 F1 g ix
    obtain ⟨F', sF, s', _⟩ := (s.expr g).freeze (M' := []) (by simp)
    exact q c dc σ H1 F' s' (ix.mono (Same.refl _) sF)
  | no => exact q
/-- .. that may read them -/
theorem S5.evG {α β : Type} {K : PySem.W.Frag} {mg : Str → Option Value} {H0 H F : Hp} {F0 : FB} {σ : L2.St} {ρ : EnvD} {D : Ends} {R : Hp → β → α → Prop} {Q : β → Hp → Prop} {r : ER α} {k : α → SR} (s : S5 K J.r M H0 F0 H F σ ρ) (q : okS K mg W J Mn H0 F0 D (SR.ofE r ρ k))
    (w : ∀ v H1 F1 x, Grow H F H1 F1 → S5 K J.r M H0 F0 H1 F1 σ ρ → R F1 v x → okS K mg W J Mn H0 F0 D (k x) → Q v H1) : okE K mg W σ H F R Q r := by
  cases r with
  | ok x => exact fun v H1 F1 g rv => w v H1 F1 x g (s.expr g) rv q
  | ex x =>
    intro c dc H1 F1 g ix
    obtain ⟨F', sF, s', _⟩ := (s.expr g).freeze (M' := []) (by simp)
    exact q c dc σ H1 F' s' (ix.mono (Same.refl _) sF)
  | no => exact q
theorem S5.lend {α β : Type} {K : PySem.W.Frag} {mg : Str → Option Value} {H0 H F : Hp} {F0 : FB} {σ : L2.St} {ρ : EnvD} {D : Ends} {R : Hp → β → α → Prop} {Q : β → Hp → Prop} {r : ER α} {k : α → SR} (s : S5 K J.r M H0 F0 H F σ ρ) (q : okS K mg W J Mn H0 F0 D (SR.ofE r ρ k))
    (w : ∀ v H1 F1 F2 x, r = .ok x → S5 K J.r M H0 F0 H1 F1 σ ρ → S5 K J.r [] H0 F0 H1 F2 σ ρ → R F2 v x → (∀ a xs, SqT K F2 a xs → SqT K F1 a xs) → okS K mg W J Mn H0 F0 D (k x) → Q v H1) :
    ∃ F', Same F' H ∧ RepF K [] F' σ ρ ∧ okE K mg W σ H F' R Q r := by
  obtain ⟨F', sF, s', hd⟩ := s.freeze (M' := []) (by simp)
  refine ⟨F', s'.grow.sub, s'.val, ?_⟩
  cases r with
  | ok x => exact fun v H1 F1 g rv => w v H1 _ F1 x rfl (s.expr (s.unlend hd sF g)) (s'.expr g) rv (s.lendT g.h g.sub) q
  | ex x => exact fun c dc H1 F1 g ix => q c dc σ H1 F1 (s'.expr g) ix
  | no => exact q

theorem set_get {α : Type} {l : List α} {i j : Nat} {x y : α} (h : (l.set i x)[j]? = some y) : (j = i ∧ y = x) ∨ (j ≠ i ∧ l[j]? = some y) := by
  by_cases e : i = j
  · subst e
    rw [List.getElem?_set_self'] at h
    cases q : l[i]? with
    | none => rw [q] at h; cases h
    | some z => rw [q] at h; exact .inl ⟨rfl, (Option.some.inj h).symm⟩
  · rw [List.getElem?_set_ne e] at h
    exact .inr ⟨fun z => e z.symm, h⟩
theorem set_ne {α : Type} {l : List α} {i j : Nat} {x : α} (e : j ≠ i) : (l.set i x)[j]? = l[j]? := List.getElem?_set_ne (fun z => e z.symm)
theorem set_at {α : Type} {l : List α} {i : Nat} {x : α} (h : i < l.length) : (l.set i x)[i]? = some x := by
  rw [List.getElem?_set_self h]
/-- a slot is set to a fixed value -/
theorem S5.set {K : PySem.W.Frag} {r : RK} {H0 H F : Hp} {F0 : FB} {σ : L2.St} {ρ : EnvD} {i : Nat} {v : V} {d : D} (s : S5 K r M H0 F0 H F σ ρ) (hv : Dp K F v d) : S5 K r (M.filter (· != i)) H0 F0 H F (σ.set i (some v)) (ρ.set i (some d)) where
  grow := s.grow
  len := by rw [List.length_set, List.length_set]; exact s.len
  val := ⟨fun j x hj e => by
    rcases set_get e with ⟨e1, e2⟩ | ⟨e1, e2⟩
    · subst e1
      cases e2
      have hl : j < ρ.length := by
        have z := (List.getElem?_eq_some_iff.mp e).1
        rw [List.length_set] at z
        exact z
      exact ⟨v, set_at (by rw [← s.len]; exact hl), hv⟩
    · have hM : j ∉ M := fun z => hj (List.mem_filter.mpr ⟨z, by simpa using e1⟩)
      rw [set_ne e1]
      exact s.val.get j x hM e2, by rw [List.length_set, List.length_set]; exact s.len⟩
  own := fun j hj => by
    obtain ⟨h1, h2⟩ := List.mem_filter.mp hj
    have hne : j ≠ i := by simpa using h2
    rw [set_ne hne, set_ne hne]
    exact s.own j h1
  inj := fun i' j' a h1 h2 e1 e2 => by
    obtain ⟨m1, n1⟩ := List.mem_filter.mp h1
    obtain ⟨m2, n2⟩ := List.mem_filter.mp h2
    rw [set_ne (by simpa using n1)] at e1
    rw [set_ne (by simpa using n2)] at e2
    exact s.inj i' j' a m1 m2 e1 e2
  pin := fun hr h0 => by
    obtain ⟨h1, h2⟩ := List.mem_filter.mp h0
    rw [set_ne (by simpa using h2)]
    exact s.pin hr h1
theorem retS_val {K : PySem.W.Frag} {r : RK} {H0 : Hp} {F0 : FB} {D : Ends} {d : PyData} (hr : r = .val) (q : retS K r H0 F0 D d) : ∀ v H F, Grow H0 F0.1 H F → Dp K F v d → D.rt v H := by
  subst hr
  exact q
theorem d1_set {i : Nat} {x : Str} {pos' : Pos} (hN : X.N.Nodup) (hi : X.N[i]? = some x) (hx : Loc X.env.scope x) (he : DE X W M e me) (hM : M' = M.filter (· != i)) (hs : swapsWith e (some (.Name x pos')) pos.line X.env = pure false := by rfl) (hf : X.fn x = true ∨ X.env.scope.names.lookup x = some .local := by first | exact .inl rfl | exact .inr rfl | assumption) :
    D1 X W J M M' (.Assign [.Name x pos'] e pos) (sSet i me) :=
  ps_weak (ps_set hN hi hx he hs hf) fun D σ H ⟨H0, F0, F, ρ, s, q⟩ => ⟨F, ρ, s.grow.sub, s.val, s.ev q fun v H1 F1 d _ s1 dv q1 => by
    subst hM
    exact q1 _ _ _ (s1.set dv)⟩
theorem d1_setB {i : Nat} {x : Str} {pos' : Pos} (hN : X.N.Nodup) (hi : X.N[i]? = some x) (hx : Loc X.env.scope x) (he : DE X W [] e me) (hM : M' = M.filter (· != i)) (hs : swapsWith e (some (.Name x pos')) pos.line X.env = pure false := by rfl) (hf : X.fn x = true ∨ X.env.scope.names.lookup x = some .local := by first | exact .inl rfl | exact .inr rfl | assumption) :
    D1 X W J M M' (.Assign [.Name x pos'] e pos) (sSetB i me) :=
  ps_weak (ps_set hN hi hx he hs hf) fun D σ H ⟨H0, F0, F, ρ, s, q⟩ => by
    obtain ⟨F', h1, h2, h3⟩ := s.lend (R := Dp X.K) q fun v H1 F1 F2 d _ s1 s2 dv hT q1 => (show D.nx (σ.set i (some v)) H1 from by
      subst hM
      by_cases z : lf d = true
      · rw [if_pos z] at q1
        exact q1 _ _ _ (s1.set (dp_lf hT d v z dv))
      · rw [if_neg z] at q1
        exact q1.elim)
    exact ⟨F', ρ, h1, h2, h3⟩
theorem d1_ret (he : DE X W [] e me) (hr : J.r = .val := by rfl) : D1 X W J M Mn (.Return (some e) pos) (sRet me) :=
  ps_weak (ps_ret he) fun D σ H ⟨H0, F0, F, ρ, s, q⟩ => by
    obtain ⟨F', h1, h2, h3⟩ := s.lend (R := Dp X.K) q fun v H1 F1 F2 d _ s1 s2 dv hT q1 => retS_val hr q1 v H1 F2 s2.grow dv
    exact ⟨F', ρ, h1, h2, h3⟩
theorem d1_retN (hr : J.r = .val := by rfl) : D1 X W J M Mn (.Return none pos) sRetN := ps_weak ps_retN fun D σ H ⟨H0, F0, F, ρ, s, q⟩ => retS_val hr q _ _ _ s.grow .non
theorem d1_pass : D1 X W J M M (.Pass pos) sNx := ps_weak ps_pass fun D σ H ⟨H0, F0, F, ρ, s, q⟩ => q _ _ _ s
theorem d1_break {r : RK} : D1 X W ⟨M, M', r⟩ M Mn (.Break pos) sBrk := ps_weak ps_break fun D σ H ⟨H0, F0, F, ρ, s, q⟩ => q _ _ _ s
theorem d1_cont {r : RK} : D1 X W ⟨M', M, r⟩ M Mn (.Continue pos) sCont := ps_weak ps_continue fun D σ H ⟨H0, F0, F, ρ, s, q⟩ => q _ _ _ s
theorem d1_drop (he : DE X W [] e me) (hs : swapsWith e none pos.line X.env = pure false := by rfl) : D1 X W J M M (.Expr e pos) (sDrop me) :=
  ps_weak (ps_expr he hs) fun D σ H ⟨H0, F0, F, ρ, s, q⟩ => by
    obtain ⟨F', h1, h2, h3⟩ := s.lend (R := Dp X.K) q fun v H1 F1 F2 d _ s1 s2 dv hT q1 => q1 _ _ _ s1
    exact ⟨F', ρ, h1, h2, h3⟩
theorem d1_if {c : Expr} {a b : List Stmt} {mc : EnvD → ER Bool} {ma mb : EnvD → SR} (hc : DT X W [] c mc) (ha : DS X W J M Mn a ma) (hb : DS X W J M Mn b mb) : D1 X W J M Mn (.If c a b pos) (sIf mc ma mb) :=
  ps_weak (ps_if hc ha hb) fun D σ H ⟨H0, F0, F, ρ, s, q⟩ => by
    obtain ⟨F', h1, h2, h3⟩ := s.lend (R := fun _ b c => b = c) (Q := fun b H1 => if b = true then TSm X.K X.mg W J M Mn ma D σ H1 else TSm X.K X.mg W J M Mn mb D σ H1) q fun v H1 F1 F2 d _ s1 s2 ev hT q1 => by
      subst ev
      cases v with
      | true => rw [if_pos rfl] at q1 ⊢; exact ⟨H0, F0, F1, ρ, s1, q1⟩
      | false => rw [if_neg Bool.false_ne_true] at q1 ⊢; exact ⟨H0, F0, F1, ρ, s1, q1⟩
    exact ⟨F', ρ, h1, h2, h3⟩
end
end Z

namespace Z
open PySem PySem.Spec PyProof.Rows L2

/-! ### targets -/
inductive Pat where
  | n (i : Nat)
  | t (ps : List Pat)
mutual
def bindP : Pat → D → EnvD → Option EnvD
  | .n i, d, ρ => some (ρ.set i (some d))
  | .t ps, .tuple ds, ρ => bindPs ps ds ρ
  | .t ps, .list ds, ρ => bindPs ps ds ρ
  | .t _, _, _ => none
def bindPs : List Pat → List D → EnvD → Option EnvD
  | [], [], ρ => some ρ
  | p :: ps, d :: ds, ρ => (bindP p d ρ).bind fun ρ' => bindPs ps ds ρ'
  | _, _, _ => none
end
mutual
def slotsP : Pat → List Nat
  | .n i => [i]
  | .t ps => slotsPs ps
def slotsPs : List Pat → List Nat
  | [] => []
  | p :: ps => slotsP p ++ slotsPs ps
end
/-- σ' stands to ρ' as σ to ρ; the own slots are untouched, and all but those of S -/
structure Kept (K : PySem.W.Frag) (M : List Nat) (F : Hp) (S : List Nat) (σ σ' : L2.St) (ρ ρ' : EnvD) : Prop where
  rep : RepF K M F σ' ρ'
  len : ρ'.length = σ'.length
  sig : ∀ j ∈ M, σ'[j]? = σ[j]?
  rho : ∀ j ∈ M, ρ'[j]? = ρ[j]?
  chg : ∀ j, j ∉ S → σ'[j]? = σ[j]?
  sl : σ'.length = σ.length
theorem Kept.trans {K : PySem.W.Frag} {M S S' : List Nat} {F : Hp} {σ σ1 σ2 : L2.St} {ρ ρ1 ρ2 : EnvD} (a : Kept K M F S σ σ1 ρ ρ1) (b : Kept K M F S' σ1 σ2 ρ1 ρ2) : Kept K M F (S ++ S') σ σ2 ρ ρ2 :=
  ⟨b.rep, b.len, fun j hj => (b.sig j hj).trans (a.sig j hj), fun j hj => (b.rho j hj).trans (a.rho j hj), fun j hj => (b.chg j fun z => hj (List.mem_append_right _ z)).trans (a.chg j fun z => hj (List.mem_append_left _ z)), b.sl.trans a.sl⟩
theorem S5.kept {K : PySem.W.Frag} {r : RK} {M : List Nat} {H0 H F : Hp} {F0 : FB} {σ σ' : L2.St} {ρ ρ' : EnvD} {S : List Nat} (s : S5 K r M H0 F0 H F σ ρ) (k : Kept K M F S σ σ' ρ ρ') : S5 K r M H0 F0 H F σ' ρ' where
  grow := s.grow
  len := k.len
  val := k.rep
  own := fun j hj => by
    rw [k.sig j hj, k.rho j hj]
    exact s.own j hj
  inj := fun i j a hi hj e1 e2 => by
    rw [k.sig i hi] at e1
    rw [k.sig j hj] at e2
    exact s.inj i j a hi hj e1 e2
  pin := fun hr h0 => by rw [k.sig 0 h0]; exact s.pin hr h0
def TGm (K : PySem.W.Frag) (M : List Nat) (p : Pat) : TG := fun v σ H Q => ∃ F d ρ ρ', Same F H ∧ Dp K F v d ∧ RepF K M F σ ρ ∧ ρ.length = σ.length ∧ bindP p d ρ = some ρ' ∧ ∀ σ', Kept K M F (slotsP p) σ σ' ρ ρ' → Q σ' H
def TGms (K : PySem.W.Frag) (M : List Nat) (ps : List Pat) : TGs := fun vs σ H Q => ∃ F ds ρ ρ', Same F H ∧ DpAll K F vs ds ∧ RepF K M F σ ρ ∧ ρ.length = σ.length ∧ bindPs ps ds ρ = some ρ' ∧ ∀ σ', Kept K M F (slotsPs ps) σ σ' ρ ρ' → Q σ' H
abbrev DG (X : Cx) (M : List Nat) (tg : Expr) (p : Pat) : Prop := PG X tg (TGm X.K M p)
abbrev DGs (X : Cx) (M : List Nat) (tgs : List Expr) (ps : List Pat) : Prop := PGs X tgs (TGms X.K M ps)
theorem pg_weak {X : Cx} {e : Expr} {t t' : TG} (h : PG X e t) (w : ∀ v σ H Q, t' v σ H Q → t v σ H Q) : PG X e t' := ⟨fun pins s σ H v u Q I r q => h.run pins s σ H v u Q I r (w v σ H Q q)⟩
theorem pgs_weak {X : Cx} {e : List Expr} {t t' : TGs} (h : PGs X e t) (w : ∀ v σ H Q, t' v σ H Q → t v σ H Q) : PGs X e t' := ⟨fun pins s σ H v u Q I r q => h.run pins s σ H v u Q I r (w v σ H Q q)⟩
theorem pg_or {X : Cx} {e : Expr} {t t' : TG} (h : PG X e t) (h' : PG X e t') : PG X e (fun v σ H Q => t v σ H Q ∨ t' v σ H Q) := ⟨fun pins s σ H v u Q I r q => by
  rcases q with q | q
  · exact h.run pins s σ H v u Q I r q
  · exact h'.run pins s σ H v u Q I r q⟩
section
variable {X : Cx} {W : WX} {J : Js} {M Mn M1 M' : List Nat} {pos : Pos} {e : Expr} {me : EnvD → ER D} {k : Nat}
theorem Kept.set {K : PySem.W.Frag} {F : Hp} {σ : L2.St} {ρ : EnvD} {i : Nat} {v : V} {d : D} (rep : RepF K M F σ ρ) (len : ρ.length = σ.length) (hi : i ∉ M) (hv : Dp K F v d) : Kept K M F [i] σ (σ.set i (some v)) ρ (ρ.set i (some d)) where
  rep := ⟨fun j x hj e => by
    rcases set_get e with ⟨e1, e2⟩ | ⟨e1, e2⟩
    · subst e1
      cases e2
      have hl : j < ρ.length := by
        have z := (List.getElem?_eq_some_iff.mp e).1
        rw [List.length_set] at z
        exact z
      exact ⟨v, set_at (by rw [← len]; exact hl), hv⟩
    · rw [set_ne e1]
      exact rep.get j x hj e2, by rw [List.length_set, List.length_set]; exact len⟩
  len := by rw [List.length_set, List.length_set]; exact len
  sig := fun j hj => set_ne fun z => hi (z ▸ hj)
  rho := fun j hj => set_ne fun z => hi (z ▸ hj)
  chg := fun j hj => set_ne fun z => hj (by simp [z])
  sl := by rw [List.length_set]
theorem dg_name {i : Nat} {x : Str} (hi' : i ∉ M) (hN : X.N.Nodup) (hi : X.N[i]? = some x) (hx : Loc X.env.scope x) (hf : X.fn x = true ∨ X.env.scope.names.lookup x = some .local := by first | exact .inl rfl | exact .inr rfl | assumption) : DG X M (.Name x pos) (.n i) :=
  pg_weak (pg_name hN hi hx hf) fun v σ H Q ⟨F, d, ρ, ρ', sF, dv, rep, len, b, q⟩ => by
    cases b
    exact q _ (Kept.set rep len hi' dv)
theorem dgs_nil : DGs X M [] [] := pgs_weak pgs_nil fun vs σ H Q h => by
  obtain ⟨F, ds, ρ, ρ', sF, dv, rep, len, b, q⟩ := h
  cases ds with
  | nil =>
    cases dv
    cases b
    exact ⟨rfl, q σ ⟨rep, len, fun _ _ => rfl, fun _ _ => rfl, fun _ _ => rfl, rfl⟩⟩
  | cons => cases b
theorem dgs_cons {es : List Expr} {p : Pat} {ps : List Pat} (h1 : DG X M e p) (h2 : DGs X M es ps)
    (hs : (assignEach (e :: es) X.env).map (·.2) = assign e X.env :: (assignEach es X.env).map (·.2) := by rfl) : DGs X M (e :: es) (p :: ps) :=
  pgs_weak (pgs_cons h1 h2 hs) fun vs σ H Q h => by
    obtain ⟨F, ds, ρ, ρ', sF, dv, rep, len, b, q⟩ := h
    cases ds with
    | nil => cases b
    | cons d ds =>
      cases dv with
      | cons d1 d2 =>
        have b' : (bindP p d ρ).bind (fun ρ' => bindPs ps ds ρ') = some ρ' := by
          unfold bindPs at b
          exact b
        cases e1 : bindP p d ρ with
        | none => rw [e1] at b'; cases b'
        | some ρ1 =>
          rw [e1] at b'
          exact ⟨_, _, rfl, F, d, ρ, ρ1, sF, d1, rep, len, e1, fun σ1 k1 => ⟨F, ds, ρ1, ρ', sF, d2, k1.rep, k1.len, b', fun σ2 k2 => q σ2 (k1.trans k2)⟩⟩
theorem bindPs_len : ∀ {ps : List Pat} {ds : List D} {ρ ρ' : EnvD}, bindPs ps ds ρ = some ρ' → ds.length = ps.length
  | [], [], _, _, _ => rfl
  | [], _ :: _, _, _, h => by simp [bindPs] at h
  | _ :: _, [], _, _, h => by simp [bindPs] at h
  | p :: ps, d :: ds, ρ, ρ', h => by
    have b' : (bindP p d ρ).bind (fun ρ' => bindPs ps ds ρ') = some ρ' := by
      unfold bindPs at h
      exact h
    cases e1 : bindP p d ρ with
    | none => rw [e1] at b'; cases b'
    | some ρ1 => rw [e1] at b'; simp [bindPs_len b']
theorem dg_tup {es : List Expr} {kk : Nat} {ps : List Pat} (hc : X.calm = true) (h : DGs X M es ps) (hn : (assignEach es X.env).length = ps.length) (hst : (assignEach es X.env).findIdx? (·.1) = none) : DG X M (.Tuple es kk pos) (.t ps) :=
  pg_weak (pg_or (pg_tup hc h hn hst) (pg_unl hc h hn hst)) fun v σ H Q hh => by
    obtain ⟨F, d, ρ, ρ', sF, dv, rep, len, b, q⟩ := hh
    cases d with
    | tuple ds =>
      cases dv with
      | tup ha ra =>
        have b' : bindPs ps ds ρ = some ρ' := by unfold bindP at b; exact b
        exact .inl ⟨_, _, rfl, sqT_mono sF ha, by rw [dpAll_len ra]; exact bindPs_len b', F, ds, ρ, ρ', sF, ra, rep, len, b', q⟩
    | list ds =>
      cases dv with
      | lst ha ra =>
        have b' : bindPs ps ds ρ = some ρ' := by unfold bindP at b; exact b
        exact .inr ⟨_, _, rfl, sF.seq ha, by rw [dpAll_len ra]; exact bindPs_len b', F, ds, ρ, ρ', sF, ra, rep, len, b', q⟩
    | _ => simp [bindP] at b

/-! ### what a def's body or a comprehension's block stands on -/
structure CB (X : Cx) (W : WX) (k : Nat) : Prop where
  calm : X.calm = true
  nd : X.N.Nodup
  tk : Takes X W
  po : PassesOwn (model X.prog X.w) X.A X.env X.xe
  room : Room k X.A
  gd : X.A.guards = some []
theorem CB.hu (C : CB X W k) : X.A.units + 64 < cLine := C.room.units
theorem CB.hu1 (C : CB X W k) : X.A.units + 65 < cLine := by have := C.room.un; omega

/-! target = value -/
def sPat (p : Pat) (m : EnvD → ER D) : EnvD → SR := fun ρ => SR.ofE (m ρ) ρ fun d => match bindP p d ρ with
  | some ρ' => .nx ρ'
  | none => .no
theorem d1_pat {tg : Expr} {p : Pat} (he : DE X W M e me) (hg : DG X M tg p) (hs : swapsWithSole [tg] e pos.line X.env = pure false := by rfl) (hw : swappedStores [tg] e X.env = pure none := by rfl)
    (h1 : (assignEach [tg] X.env).map (·.2) = [assign tg X.env] := by rfl) : D1 X W J M M (.Assign [tg] e pos) (sPat p me) :=
  ps_weak (ps_asg he hg hs hw h1) fun D σ H ⟨H0, F0, F, ρ, s, q⟩ => ⟨F, ρ, s.grow.sub, s.val, s.ev q fun v H1 F1 d _ s1 dv q1 => by
    cases eb : bindP p d ρ with
    | none => rw [eb] at q1; exact q1.elim
    | some ρ' =>
      rw [eb] at q1
      exact ⟨F1, d, ρ, ρ', s1.grow.sub, dv, s1.val, s1.len, eb, fun σ' k => q1 _ _ _ (s1.kept k)⟩⟩
/-- a, b = x, y -/
def sPar (i j : Nat) (ms : List (EnvD → ER D)) : EnvD → SR := fun ρ => SR.ofE (aL ms ρ) ρ fun ds => match ds with
  | [x, y] => .nx ((ρ.set i (some x)).set j (some y))
  | _ => .no
theorem d1_par {i j : Nat} {x y : Str} {a b : Expr} {ms : List (EnvD → ER D)} {px py pt : Pos} {kt k2 pt2} (hc : X.calm = true) (hN : X.N.Nodup) (hi : X.N[i]? = some x) (hj : X.N[j]? = some y) (hij : i ≠ j) (hiM : i ∉ M) (hjM : j ∉ M)
    (hx : X.env.scope.names.lookup x = some .local) (hy : X.env.scope.names.lookup y = some .local) (ha : DA X W M [a, b] (aL ms))
    (hw : swappedStores [.Tuple [.Name x px, .Name y py] kt pt] (.Tuple [a, b] k2 pt2) X.env = pure (some [x, y]))
    (hs : swapsWithSole [.Tuple [.Name x px, .Name y py] kt pt] (.Tuple [a, b] k2 pt2) pos.line X.env = pure false := by rfl) :
    D1 X W J M M (.Assign [.Tuple [.Name x px, .Name y py] kt pt] (.Tuple [a, b] k2 pt2) pos) (sPar i j ms) :=
  ps_weak (ps_par hc hN hi hj hij hx hy ha hw hs) fun D σ H ⟨H0, F0, F, ρ, s, q⟩ => ⟨F, ρ, s.grow.sub, s.val, s.ev q fun vs H1 F1 ds _ s1 dv q1 => by
    match ds, vs, dv, q1 with
    | [x, y], _, .cons h1 (.cons h2 .nil), q1 =>
      have k1 := Kept.set s1.val s1.len hiM h1
      have k2 := Kept.set k1.rep k1.len hjM h2
      exact ⟨_, _, rfl, q1 _ _ _ (s1.kept (k1.trans k2))⟩
    | [], _, _, q1 => exact q1.elim
    | [_], _, _, q1 => exact q1.elim
    | _ :: _ :: _ :: _, _, _, q1 => exact q1.elim⟩

/-! ### what is walked -/
def Walks (K : PySem.W.Frag) (J : It) (ds : List D) (F : Hp) : Prop := ∀ (i : Nat) (H' F' : Hp), Same F F' → Same F' H' →
  (ds.length ≤ i → J.stop i H') ∧ ∀ d, ds[i]? = some d → J.go i H' ∧ ∀ x H2, J.yld i H' x H2 → ∃ F2, Grow H' F' H2 F2 ∧ Dp K F2 x d
theorem Walks.mono {K : PySem.W.Frag} {J : It} {ds : List D} {F F1 : Hp} (w : Walks K J ds F) (s : Same F F1) : Walks K J ds F1 := fun i H' F' h1 h2 => w i H' F' (s.trans h1) h2
def TIm (K : PySem.W.Frag) (mg : Str → Option Value) (W : WX) (M : List Nat) (m : EnvD → ER (List D)) : TI := fun σ H R => ∃ F ρ, Same F H ∧ RepF K M F σ ρ ∧ okE K mg W σ H F (fun F' (J : It) ds => Walks K J ds F') R (m ρ)
abbrev DI (X : Cx) (W : WX) (M : List Nat) (tg iter : Expr) (m : EnvD → ER (List D)) : Prop := PI X tg iter (TIm X.K X.mg W M m)
theorem pi_weak {X : Cx} {tg iter : Expr} {t t' : TI} (h : PI X tg iter t) (w : ∀ σ H R, t' σ H R → t σ H R) : PI X tg iter t' := ⟨fun pins s σ H R I q => h.run pins s σ H R I (w σ H R q)⟩
theorem pi_or {X : Cx} {tg iter : Expr} {t t' : TI} (h : PI X tg iter t) (h' : PI X tg iter t') : PI X tg iter (fun σ H R => t σ H R ∨ t' σ H R) := ⟨fun pins s σ H R I q => by
  rcases q with q | q
  · exact h.run pins s σ H R I q
  · exact h'.run pins s σ H R I q⟩
def charsD (z : Str) : List D := z.cps.toList.map fun c => .str ⟨#[c]⟩
def itemsD : D → Option (List D)
  | .list ds => some ds
  | .tuple ds => some ds
  | .str z => some (charsD z)
  | _ => none
def iD (m : EnvD → ER D) : EnvD → ER (List D) := fun ρ => (m ρ).bind fun d => optE (itemsD d)
theorem walks_list {K : PySem.W.Frag} {F : Hp} {a : Addr} {xs : List V} {ds : List D} (h : SqL K F a xs) (r : DpAll K F xs ds) : Walks K (Itl K a) ds F := fun i H' F' s1 s2 =>
  ⟨fun hl => ⟨xs, s2.seq (s1.seq h), by rw [dpAll_len r]; exact hl⟩, fun d e => by
    obtain ⟨v, e1, e2⟩ := dpAll_get r e
    refine ⟨⟨xs, v, s2.seq (s1.seq h), e1⟩, fun x H2 y => ?_⟩
    obtain ⟨eh, y⟩ := y
    subst eh
    have z := y xs (s2.seq (s1.seq h))
    rw [e1] at z
    cases z
    exact ⟨F', Grow.refl s2, dp_mono s1 _ _ e2⟩⟩
theorem walks_tup {K : PySem.W.Frag} {F : Hp} {a : Addr} {xs : List V} {ds : List D} (h : SqT K F a xs) (r : DpAll K F xs ds) : Walks K (Itt K a) ds F := fun i H' F' s1 s2 =>
  ⟨fun hl => ⟨xs, sqT_mono s2 (sqT_mono s1 h), by rw [dpAll_len r]; exact hl⟩, fun d e => by
    obtain ⟨v, e1, e2⟩ := dpAll_get r e
    refine ⟨⟨xs, v, sqT_mono s2 (sqT_mono s1 h), e1⟩, fun x H2 y => ?_⟩
    obtain ⟨eh, y⟩ := y
    subst eh
    have z := y xs (sqT_mono s2 (sqT_mono s1 h))
    rw [e1] at z
    cases z
    exact ⟨F', Grow.refl s2, dp_mono s1 _ _ e2⟩⟩
theorem walks_str {K : PySem.W.Frag} {F : Hp} {z : Str} : Walks K (Its z) (charsD z) F := fun i H' F' s1 s2 =>
  ⟨fun hl => by
    show z.cps.size ≤ i
    simpa [charsD] using hl, fun d e => by
    have hi : i < z.cps.size := by
      have := (List.getElem?_eq_some_iff.mp e).1
      simpa [charsD] using this
    refine ⟨hi, fun x H2 y => ?_⟩
    obtain ⟨eh, c, e1, e2⟩ := y
    subst eh e2
    have e3 : (charsD z)[i]? = some (.str ⟨#[c]⟩) := by
      unfold charsD
      rw [List.getElem?_map, Array.getElem?_toList, e1]
      rfl
    rw [e] at e3
    cases e3
    exact ⟨F', Grow.refl s2, .str _⟩⟩
theorem di_val {tg : Expr} (he : DE X W M e me) : DI X W M tg e (iD me) :=
  pi_weak (pi_or (pi_list he) (pi_or (pi_tup he) (pi_str he))) fun σ H R h => by
    obtain ⟨F, ρ, sF, r, q⟩ := h
    cases em : me ρ with
    | no =>
      have q' : okE X.K X.mg W σ H F (fun F' (J : It) ds => Walks X.K J ds F') R ((me ρ).bind fun d => optE (itemsD d)) := q
      rw [em] at q'
      exact q'.elim
    | ex x =>
      have q' : okE X.K X.mg W σ H F (fun F' (J : It) ds => Walks X.K J ds F') R ((me ρ).bind fun d => optE (itemsD d)) := q
      rw [em] at q'
      exact .inl ⟨F, ρ, sF, r, by rw [em]; exact q'⟩
    | ok d =>
      have q' : okE X.K X.mg W σ H F (fun F' (J : It) ds => Walks X.K J ds F') R ((me ρ).bind fun d => optE (itemsD d)) := q
      rw [em] at q'
      cases d with
      | list ds =>
        refine .inl ⟨F, ρ, sF, r, ?_⟩
        rw [em]
        intro v H1 F1 g dv
        cases dv with
        | lst ha ra => exact ⟨_, rfl, ⟨_, g.sub.seq ha⟩, q' _ _ _ g (walks_list ha ra)⟩
      | tuple ds =>
        refine .inr (.inl ⟨F, ρ, sF, r, ?_⟩)
        rw [em]
        intro v H1 F1 g dv
        cases dv with
        | tup ha ra => exact ⟨_, rfl, ⟨_, sqT_mono g.sub ha⟩, q' _ _ _ g (walks_tup ha ra)⟩
      | str z =>
        refine .inr (.inr ⟨F, ρ, sF, r, ?_⟩)
        rw [em]
        intro v H1 F1 g dv
        cases dv
        exact ⟨_, rfl, q' _ _ _ g walks_str⟩
      | _ => exact q'.elim
/-- lo, lo + 1, .. -/
def intsD (lo : Int) (n : Nat) : List D := (List.range n).map fun (i : Nat) => .int (lo + (i : Int))
def rng1D : D → Option (List D)
  | .int j => if j.natAbs < 4611686018427387904 then some (intsD 0 j.toNat) else none
  | _ => none
def rng2D : D → D → Option (List D)
  | .int i, .int j => if i.natAbs < 4611686018427387904 ∧ j.natAbs < 4611686018427387904 then some (intsD i (j - i).toNat) else none
  | _, _ => none
def iR1 (a : EnvD → ER D) : EnvD → ER (List D) := fun ρ => (a ρ).bind fun x => optE (rng1D x)
def iR2 (a b : EnvD → ER D) : EnvD → ER (List D) := fun ρ => (a ρ).bind fun x => (b ρ).bind fun y => optE (rng2D x y)
theorem intsD_get {lo : Int} {n i : Nat} {d : D} (h : (intsD lo n)[i]? = some d) : i < n ∧ d = .int (lo + (i : Int)) := by
  unfold intsD at h
  rw [List.getElem?_map] at h
  by_cases hi : i < n
  · rw [List.getElem?_range hi] at h
    exact ⟨hi, (Option.some.inj h).symm⟩
  · rw [List.getElem?_eq_none (by simp; omega)] at h
    cases h
theorem walks_rng {K : PySem.W.Frag} {F : Hp} {lo : Int} {n : Nat} : Walks K (Itr lo n) (intsD lo n) F := fun i H' F' s1 s2 =>
  ⟨fun hl => by
    show n ≤ i
    simpa [intsD] using hl, fun d e => by
    obtain ⟨hi, ed⟩ := intsD_get e
    refine ⟨hi, fun x H2 y => ?_⟩
    obtain ⟨eh, ex⟩ := y
    subst eh ex ed
    exact ⟨F', Grow.refl s2, .int _⟩⟩
variable {a b : Expr} {ma mb : EnvD → ER D}
theorem di_rng1 {tg : Expr} {p : Pos} (hm : X.mg "range" = none) (ha : DE X W M a ma) (hg : Gl X "range" := by rfl) (hs : starEach [a] X.env = [(false, eval a X.env)] := by rfl) : DI X W M tg (.Call (.Name "range" p) [a] [] pos) (iR1 ma) :=
  pi_weak (pi_range1 hg hm (pa_cons ha pa_nil hs) hs) fun σ H R ⟨F, ρ, sF, r, q⟩ => ⟨F, ρ, sF, r, ok_bind r q fun v H1 F1 x g r1 dx q1 => by
    obtain ⟨c, ec, q2⟩ := okE_opt' q1
    unfold rng1D at ec
    split at ec
    · rename_i j
      cases dx
      by_cases hb : j.natAbs < 4611686018427387904
      · rw [if_pos hb] at ec
        cases ec
        exact ⟨j, rfl, by omega, by omega, q2 _ _ _ (Grow.refl g.sub) walks_rng⟩
      · rw [if_neg hb] at ec; cases ec
    · cases ec⟩
theorem di_rng2 {tg : Expr} {p : Pos} (hm : X.mg "range" = none) (ha : DE X W M a ma) (hb : DE X W M b mb) (hg : Gl X "range" := by rfl) (hs : starEach [a, b] X.env = [(false, eval a X.env), (false, eval b X.env)] := by rfl) (hs2 : starEach [b] X.env = [(false, eval b X.env)] := by rfl) : DI X W M tg (.Call (.Name "range" p) [a, b] [] pos) (iR2 ma mb) :=
  pi_weak (pi_range2 hg hm (pa_cons ha (pa_cons hb pa_nil hs2) (hs.trans (by rw [hs2]))) hs hs2) fun σ H R ⟨F, ρ, sF, r, q⟩ => ⟨F, ρ, sF, r, ok_bind r q fun v H1 F1 x g r1 dx q1 => ⟨F1, ρ, g.sub, r1, ok_bind r1 q1 fun u H2 F2 y g2 r2 dy q2 => by
    obtain ⟨c, ec, q3⟩ := okE_opt' q2
    unfold rng2D at ec
    split at ec
    · rename_i i j
      cases dx; cases dy
      by_cases hb : i.natAbs < 4611686018427387904 ∧ j.natAbs < 4611686018427387904
      · rw [if_pos hb] at ec
        cases ec
        exact ⟨i, j, rfl, ⟨by omega, by omega, by omega, by omega⟩, q3 _ _ _ (Grow.refl g2.sub) walks_rng⟩
      · rw [if_neg hb] at ec; cases ec
    · cases ec⟩⟩
/-- enumerate(list) -/
def enumFrom' : Nat → List D → List D
  | _, [] => []
  | n, d :: ds => .tuple [.int (n : Int), d] :: enumFrom' (n + 1) ds
theorem enumFrom'_get : ∀ {ds : List D} {n i : Nat}, (enumFrom' n ds)[i]? = (ds[i]?).map fun d => PyData.tuple [.int ((n + i : Nat) : Int), d]
  | [], _, _ => by simp [enumFrom']
  | d :: ds, n, 0 => by simp [enumFrom']
  | d :: ds, n, i + 1 => by
    show (enumFrom' (n + 1) ds)[i]? = _
    rw [enumFrom'_get]
    show _ = (ds[i]?).map _
    rw [show n + 1 + i = n + (i + 1) by omega]
theorem enumFrom'_len : ∀ {ds : List D} {n : Nat}, (enumFrom' n ds).length = ds.length
  | [], _ => rfl
  | d :: ds, n => by simp [enumFrom', enumFrom'_len]
/-- zip(x, y): both lists, or both tuples -/
def zipD : List D → List D → List D
  | x :: xs, y :: ys => .tuple [x, y] :: zipD xs ys
  | _, _ => []
theorem zipD_get : ∀ {xs ys : List D} {i : Nat} {d : D}, (zipD xs ys)[i]? = some d → ∃ x y, xs[i]? = some x ∧ ys[i]? = some y ∧ d = .tuple [x, y]
  | [], _, _, _, h => by simp [zipD] at h
  | _ :: _, [], _, _, h => by simp [zipD] at h
  | x :: xs, y :: ys, 0, d, h => ⟨x, y, rfl, rfl, (Option.some.inj h).symm⟩
  | x :: xs, y :: ys, i + 1, d, h => by
    obtain ⟨x', y', e1, e2, e3⟩ := zipD_get (xs := xs) (ys := ys) (i := i) h
    exact ⟨x', y', e1, e2, e3⟩
theorem zipD_len : ∀ {xs ys : List D}, (zipD xs ys).length = min xs.length ys.length
  | [], _ => by simp [zipD]
  | _ :: _, [] => by simp [zipD]
  | x :: xs, y :: ys => by
    show (zipD xs ys).length + 1 = min (xs.length + 1) (ys.length + 1)
    rw [zipD_len]
    omega
def zip2D : D → D → Option (List D)
  | .list xs, .list ys => some (zipD xs ys)
  | .tuple xs, .tuple ys => some (zipD xs ys)
  | _, _ => none
def iZ (a b : EnvD → ER D) : EnvD → ER (List D) := fun ρ => (a ρ).bind fun x => (b ρ).bind fun y => optE (zip2D x y)
theorem grow_pair {K : PySem.W.Frag} {H F : Hp} {T : Addr} {x y : V} {d e : D} (s : Same F H) (h : H T = none) (dx : Dp K F x d) (dy : Dp K F y e) : ∃ F2, Grow H F (upd H T (.tup [x, y])) F2 ∧ Dp K F2 (.ref T) (.tuple [d, e]) :=
  ⟨_, Grow.new s h, .tup (.inl (.inl upd_same)) (.cons (dp_mono (same_new (s.free h)) _ _ dx) (.cons (dp_mono (same_new (s.free h)) _ _ dy) .nil))⟩
theorem di_zip {p tpos : Pos} {elts : List Expr} {kk : Nat} (hm : X.mg "zip" = none) (ha : DE X W M a ma) (hb : DE X W M b mb) (hg : Gl X "zip" := by rfl) (hs : starEach [a, b] X.env = (false, eval a X.env) :: starEach [b] X.env := by rfl) (hs2 : starEach [b] X.env = (false, eval b X.env) :: starEach [] X.env := by rfl) (hpl : (backTo pos (starEach [b] X.env)).any (·.1) = false := by rfl) :
    DI X W M (.Tuple elts kk tpos) (.Call (.Name "zip" p) [a, b] [] pos) (iZ ma mb) :=
  pi_weak (RZ.pi_zipA hg hm (pa_cons ha (pa_cons hb pa_nil hs2) hs) hs hpl) fun σ H R ⟨F, ρ, sF, r, q⟩ => ⟨F, ρ, sF, r, ok_bind r q fun v H1 F1 x g r1 dx q1 => ⟨F1, ρ, g.sub, r1, ok_bind r1 q1 fun u H2 F2 y g2 r2 dy q2 => by
    obtain ⟨c, ec, q3⟩ := okE_opt' q2
    have dx := dp_mono g2.f _ _ dx
    unfold zip2D at ec
    split at ec
    · rename_i as bs
      cases ec
      cases dx with
      | lst hx rx =>
        cases dy with
        | lst hy ry =>
          rename_i pa xs pb ys
          refine ⟨pa, pb, xs, ys, rfl, .inl ⟨g2.sub.seq hx, g2.sub.seq hy, q3 _ _ _ (Grow.refl g2.sub) fun i H' F' s1 s2 => ⟨fun hl => ?_, fun d e => ?_⟩⟩⟩
          · rw [zipD_len] at hl
            refine ⟨xs, ys, s2.seq (s1.seq hx), s2.seq (s1.seq hy), ?_⟩
            rw [dpAll_len rx, dpAll_len ry]
            omega
          · obtain ⟨d1, d2, e1, e2, e3⟩ := zipD_get e
            obtain ⟨v1, f1, h1⟩ := dpAll_get rx e1
            obtain ⟨v2, f2, h2⟩ := dpAll_get ry e2
            refine ⟨⟨xs, ys, v1, v2, s2.seq (s1.seq hx), s2.seq (s1.seq hy), f1, f2⟩, fun z Hz yl => ?_⟩
            obtain ⟨T, z1, z2, ez, nT, eH, w1, w2⟩ := yl
            have i1 := w1 _ (s2.seq (s1.seq hx))
            rw [f1] at i1
            have i2 := w2 _ (s2.seq (s1.seq hy))
            rw [f2] at i2
            cases i1; cases i2
            subst ez eH e3
            exact grow_pair s2 nT (dp_mono s1 _ _ h1) (dp_mono s1 _ _ h2)
    · rename_i as bs
      cases ec
      cases dx with
      | tup hx rx =>
        cases dy with
        | tup hy ry =>
          rename_i pa xs pb ys
          refine ⟨pa, pb, xs, ys, rfl, .inr ⟨sqT_mono g2.sub hx, sqT_mono g2.sub hy, q3 _ _ _ (Grow.refl g2.sub) fun i H' F' s1 s2 => ⟨fun hl => ?_, fun d e => ?_⟩⟩⟩
          · rw [zipD_len] at hl
            refine ⟨xs, ys, sqT_mono s2 (sqT_mono s1 hx), sqT_mono s2 (sqT_mono s1 hy), ?_⟩
            rw [dpAll_len rx, dpAll_len ry]
            omega
          · obtain ⟨d1, d2, e1, e2, e3⟩ := zipD_get e
            obtain ⟨v1, f1, h1⟩ := dpAll_get rx e1
            obtain ⟨v2, f2, h2⟩ := dpAll_get ry e2
            refine ⟨⟨xs, ys, v1, v2, sqT_mono s2 (sqT_mono s1 hx), sqT_mono s2 (sqT_mono s1 hy), f1, f2⟩, fun z Hz yl => ?_⟩
            obtain ⟨T, z1, z2, ez, nT, eH, w1, w2⟩ := yl
            have i1 := w1 _ (sqT_mono s2 (sqT_mono s1 hx))
            rw [f1] at i1
            have i2 := w2 _ (sqT_mono s2 (sqT_mono s1 hy))
            rw [f2] at i2
            cases i1; cases i2
            subst ez eH e3
            exact grow_pair s2 nT (dp_mono s1 _ _ h1) (dp_mono s1 _ _ h2)
    · cases ec⟩⟩
def listOf : D → Option (List D)
  | .list xs => some xs
  | .tuple xs => some xs
  | _ => none
def iE (a : EnvD → ER D) : EnvD → ER (List D) := fun ρ => (a ρ).bind fun x => optE ((listOf x).map (enumFrom' 0))
theorem di_enum {p tpos : Pos} {elts : List Expr} {kk : Nat} (hm : X.mg "enumerate" = none) (ha : DE X W M a ma) (hg : Gl X "enumerate" := by rfl) (hs : starEach [a] X.env = [(false, eval a X.env)] := by rfl) :
    DI X W M (.Tuple elts kk tpos) (.Call (.Name "enumerate" p) [a] [] pos) (iE ma) :=
  pi_weak (pi_enumA hg hm (pa_cons ha pa_nil hs) hs) fun σ H R ⟨F, ρ, sF, r, q⟩ => ⟨F, ρ, sF, r, ok_bind r q fun v H1 F1 x g r1 dx q1 => by
    obtain ⟨c, ec, q3⟩ := okE_opt' q1
    cases dx with
    | lst hx rx =>
      rename_i pa xs ds
      cases ec
      refine ⟨pa, xs, rfl, .inl ⟨g.sub.seq hx, q3 _ _ _ (Grow.refl g.sub) fun i H' F' s1 s2 => ⟨fun hl => ?_, fun d e => ?_⟩⟩⟩
      · rw [enumFrom'_len] at hl
        exact ⟨xs, s2.seq (s1.seq hx), by rw [dpAll_len rx]; exact hl⟩
      · rw [enumFrom'_get] at e
        cases ei : ds[i]? with
        | none => rw [ei] at e; cases e
        | some di =>
          rw [ei] at e
          obtain ⟨v1, f1, h1⟩ := dpAll_get rx ei
          refine ⟨⟨xs, v1, s2.seq (s1.seq hx), f1⟩, fun z Hz yl => ?_⟩
          obtain ⟨T, z1, ez, nT, eH, w1⟩ := yl
          have i1 := w1 _ (s2.seq (s1.seq hx))
          rw [f1] at i1
          cases i1
          cases e
          subst ez eH
          rw [show (0 + i : Nat) = i by omega]
          exact grow_pair s2 nT (.int _) (dp_mono s1 _ _ h1)
    | tup hx rx =>
      rename_i pa xs ds
      cases ec
      refine ⟨pa, xs, rfl, .inr ⟨sqT_mono g.sub hx, q3 _ _ _ (Grow.refl g.sub) fun i H' F' s1 s2 => ⟨fun hl => ?_, fun d e => ?_⟩⟩⟩
      · rw [enumFrom'_len] at hl
        exact ⟨xs, sqT_mono s2 (sqT_mono s1 hx), by rw [dpAll_len rx]; exact hl⟩
      · rw [enumFrom'_get] at e
        cases ei : ds[i]? with
        | none => rw [ei] at e; cases e
        | some di =>
          rw [ei] at e
          obtain ⟨v1, f1, h1⟩ := dpAll_get rx ei
          refine ⟨⟨xs, v1, sqT_mono s2 (sqT_mono s1 hx), f1⟩, fun z Hz yl => ?_⟩
          obtain ⟨T, z1, ez, nT, eH, w1⟩ := yl
          have i1 := w1 _ (sqT_mono s2 (sqT_mono s1 hx))
          rw [f1] at i1
          cases i1
          cases e
          subst ez eH
          rw [show (0 + i : Nat) = i by omega]
          exact grow_pair s2 nT (.int _) (dp_mono s1 _ _ h1)
    | _ => cases ec⟩

/-! ### for -/
def forM' (p : Pat) (b : EnvD → SR) : List D → EnvD → SR
  | [], ρ => .nx ρ
  | d :: ds, ρ => match bindP p d ρ with
    | none => .no
    | some ρ1 => match b ρ1 with
      | .nx ρ2 => forM' p b ds ρ2
      | .cont ρ2 => forM' p b ds ρ2
      | .brk ρ2 => .nx ρ2
      | .ret x => .ret x
      | .ex x ρ2 => .ex x ρ2
      | .no => .no
def sFor (p : Pat) (it : EnvD → ER (List D)) (b : EnvD → SR) : EnvD → SR := fun ρ => SR.ofE (it ρ) ρ fun ds => forM' p b ds ρ
theorem S5.rebase {K : PySem.W.Frag} {r : RK} {H0 H F : Hp} {F0 : FB} {σ : L2.St} {ρ : EnvD} (s : S5 K r M H0 F0 H F σ ρ) : S5 K r M H0 (F, F0.2) H F σ ρ :=
  ⟨⟨s.grow.h, Same.refl _, s.grow.sub, fun _ _ e => e⟩, s.len, s.val, s.own, s.inj, s.pin⟩
theorem Grow.unbase {H0 F0 H1 F1 H F : Hp} (g : Grow H0 F0 H1 F1) (s : Grow H0 F1 H F) : Grow H0 F0 H F :=
  ⟨s.h, g.f.trans s.f, s.sub, fun a h e => s.old a h (g.old a h e)⟩
theorem S5.unbase {K : PySem.W.Frag} {r : RK} {H0 H1 F1 H F : Hp} {F0 : FB} {σ : L2.St} {ρ : EnvD} (g : Grow H0 F0.1 H1 F1) (s : S5 K r M H0 (F1, F0.2) H F σ ρ) : S5 K r M H0 F0 H F σ ρ :=
  ⟨g.unbase s.grow, s.len, s.val, s.own, s.inj, s.pin⟩
theorem retS.rebase {K : PySem.W.Frag} {r : RK} {H0 H1 F1 : Hp} {F0 : FB} {D : Ends} {d : PyData} (g : Grow H0 F0.1 H1 F1) (q : retS K r H0 F0 D d) : retS K r H0 (F1, F0.2) D d := by
  cases r with
  | val => exact fun v H F s => q v H F (g.unbase s)
  | own =>
    unfold retS at q ⊢
    dsimp only at q ⊢
    split
    · exact fun v H F vs s => q v H F vs (g.unbase s)
    · rename_i h
      split at q
      · exact absurd rfl (h _ _)
      · exact q
  | fresh =>
    unfold retS at q ⊢
    dsimp only at q ⊢
    split
    · exact fun v H F vs s => q v H F vs (g.unbase s)
    · rename_i h
      split at q
      · exact absurd rfl (h _)
      · exact q
theorem okS.rebase {K : PySem.W.Frag} {mg : Str → Option Value} {H0 H1 F1 : Hp} {F0 : FB} {D : Ends} {r : SR} (g : Grow H0 F0.1 H1 F1) (q : okS K mg W J M H0 F0 D r) : okS K mg W J M H0 (F1, F0.2) D r := by
  cases r with
  | nx ρ => exact fun σ H F s => q σ H F (s.unbase g)
  | brk ρ => exact fun σ H F s => q σ H F (s.unbase g)
  | cont ρ => exact fun σ H F s => q σ H F (s.unbase g)
  | ret d => exact retS.rebase g q
  | ex x ρ => exact fun c dc σ H F s => q c dc σ H F (s.unbase g)
  | no => exact q
theorem d1_for {tg iter : Expr} {body : List Stmt} {p : Pat} {mi : EnvD → ER (List D)} {mb : EnvD → SR} {k : Nat} (C : CB X W k) (hi : DI X W M tg iter mi) (hg : DG X M tg p) (hb : DS X W ⟨M, M, J.r⟩ M M body mb)
    (hs : ∀ x, foldedSetIterable iter X.env x = pure x := by intro _; rfl) : D1 X W J M M (.For tg iter body [] pos) (sFor p mi mb) :=
  ps_weak (ps_for C.po C.calm hi hg hb hs) fun D σ H ⟨H0, F0, F, ρ, s, q⟩ => ⟨F, ρ, s.grow.sub, s.val, s.ev q fun It' H1 F1 ds _ s1 wk q1 => by
    have q1' := okS.rebase s1.grow q1
    refine ⟨fun i m σ H => m = ds.length - i ∧ ∃ F ρ, S5 X.K J.r M H0 (F1, F0.2) H F σ ρ ∧ okS X.K X.mg W J M H0 (F1, F0.2) D (forM' p mb (ds.drop i) ρ), ⟨ds.length, by simp, F1, ρ, s1.rebase, by simpa using q1'⟩, ?_⟩
    rintro i m σ H ⟨rfl, F, ρ, s5, q⟩
    obtain ⟨stop, go⟩ := wk i H F s5.grow.f s5.grow.sub
    by_cases hlt : i < ds.length
    · obtain ⟨g1, g2⟩ := go _ (List.getElem?_eq_getElem hlt)
      refine .inr ⟨g1, fun σ' H' => ∃ F ρ, S5 X.K J.r M H0 (F1, F0.2) H' F σ' ρ ∧ okS X.K X.mg W J M H0 (F1, F0.2) D (forM' p mb (ds.drop (i + 1)) ρ), fun σ' H' h => ⟨ds.length - (i + 1), by omega, rfl, h⟩, fun x H' y => ?_⟩
      obtain ⟨F2, gr, dx⟩ := g2 x H' y
      rw [List.drop_eq_getElem_cons hlt] at q
      unfold forM' at q
      cases eb : bindP p ds[i] ρ with
      | none => rw [eb] at q; exact q.elim
      | some ρ1 =>
        rw [eb] at q
        refine ⟨F2, ds[i], ρ, ρ1, gr.sub, dx, s5.val.mono gr.f, s5.len, eb, fun σ' k => ?_⟩
        refine ⟨H0, (F1, F0.2), F2, ρ1, (s5.expr gr).kept k, ?_⟩
        dsimp only at q
        cases eo : mb ρ1 with
        | nx ρ2 => rw [eo] at q; exact fun σ3 H3 F3 s3 => ⟨F3, ρ2, s3, q⟩
        | cont ρ2 => rw [eo] at q; exact fun σ3 H3 F3 s3 => ⟨F3, ρ2, s3, q⟩
        | brk ρ2 => rw [eo] at q; exact q
        | ret x => rw [eo] at q; exact q
        | ex x ρ2 => rw [eo] at q; exact q
        | no => rw [eo] at q; exact q
    · exact .inl ⟨stop (by omega), by
        rw [List.drop_of_length_le (by omega)] at q
        exact q σ H F s5⟩⟩
/-! ### while -/
def whileM (c : EnvD → ER Bool) (b : EnvD → SR) : Nat → EnvD → SR
  | 0, _ => .no
  | n + 1, ρ => match c ρ with
    | .no => .no
    | .ex x => .ex x ρ
    | .ok false => .nx ρ
    | .ok true => match b ρ with
      | .nx ρ2 => whileM c b n ρ2
      | .cont ρ2 => whileM c b n ρ2
      | .brk ρ2 => .nx ρ2
      | .ret x => .ret x
      | .ex x ρ2 => .ex x ρ2
      | .no => .no
def sWhile (N : EnvD → Nat) (c : EnvD → ER Bool) (b : EnvD → SR) : EnvD → SR := fun ρ => whileM c b (N ρ) ρ
theorem d1_while {c : Expr} {body : List Stmt} {mc : EnvD → ER Bool} {mb : EnvD → SR} {k : Nat} {N : EnvD → Nat} (C : CB X W k) (hc : DT X W [] c mc) (hb : DS X W ⟨M, M, J.r⟩ M M body mb) : D1 X W J M M (.While c body [] pos) (sWhile N mc mb) :=
  ps_weak (ps_while C.po hc hb) fun D σ H ⟨H0, F0, F, ρ, s, q⟩ => by
    refine ⟨fun m σ H => ∃ F ρ, S5 X.K J.r M H0 F0 H F σ ρ ∧ okS X.K X.mg W J M H0 F0 D (whileM mc mb m ρ), ⟨N ρ, F, ρ, s, q⟩, ?_⟩
    rintro m σ H ⟨F, ρ, s5, q⟩
    cases m with
    | zero => exact q.elim
    | succ n =>
      have q' : okS X.K X.mg W J M H0 F0 D (SR.ofE (mc ρ) ρ fun t => if t = true then (match mb ρ with
        | .nx ρ2 => whileM mc mb n ρ2
        | .cont ρ2 => whileM mc mb n ρ2
        | .brk ρ2 => .nx ρ2
        | .ret x => .ret x
        | .ex x ρ2 => .ex x ρ2
        | .no => .no) else .nx ρ) := by
        unfold whileM at q
        cases ec : mc ρ with
        | no => rw [ec] at q; exact q
        | ex x => rw [ec] at q; exact q
        | ok t =>
          rw [ec] at q
          cases t with
          | true => exact q
          | false => exact q
      obtain ⟨F', h1, h2, h3⟩ := s5.lend (R := fun _ b c => b = c) (Q := fun b H1 => if b = true then ∃ N : L2.St → Hp → Prop, (∀ σ' H', N σ' H' → ∃ m', m' < n + 1 ∧ ∃ F ρ, S5 X.K J.r M H0 F0 H' F σ' ρ ∧ okS X.K X.mg W J M H0 F0 D (whileM mc mb m' ρ)) ∧ TSm X.K X.mg W ⟨M, M, J.r⟩ M M mb { D with nx := N, ct := N, bk := D.nx } σ H1 else D.nx σ H1) q' fun v H1 F1 F2 d _ s1 s2 ev hT q1 => by
        subst ev
        cases v with
        | true =>
          rw [if_pos rfl] at q1 ⊢
          refine ⟨fun σ' H' => ∃ F ρ, S5 X.K J.r M H0 F0 H' F σ' ρ ∧ okS X.K X.mg W J M H0 F0 D (whileM mc mb n ρ), fun σ' H' h => ⟨n, Nat.lt_succ_self n, h⟩, H0, F0, F1, ρ, s1, ?_⟩
          cases eo : mb ρ with
          | nx ρ2 => rw [eo] at q1; exact fun σ3 H3 F3 s3 => ⟨F3, ρ2, s3, q1⟩
          | cont ρ2 => rw [eo] at q1; exact fun σ3 H3 F3 s3 => ⟨F3, ρ2, s3, q1⟩
          | brk ρ2 => rw [eo] at q1; exact q1
          | ret x => rw [eo] at q1; exact q1
          | ex x ρ2 => rw [eo] at q1; exact q1
          | no => rw [eo] at q1; exact q1
        | false =>
          rw [if_neg Bool.false_ne_true] at q1 ⊢
          exact q1 σ H1 F1 s1
      exact ⟨F', ρ, h1, h2, h3⟩
end
end Z

namespace Z
open PySem PySem.Spec PyProof.Rows L2
section
variable {X : Cx} {W : WX} {J : Js} {M Mn M1 M' : List Nat} {pos p1 p2 p3 : Pos} {e a b : Expr} {es : List Expr} {me ma mb : EnvD → ER D} {k : Nat} {x : Str} {i : Nat}

/-! ### own lists -/
theorem S5.mut {K : PySem.W.Frag} {r : RK} {H0 H F : Hp} {F0 : FB} {σ : L2.St} {ρ : EnvD} {a : Addr} {vs : List V} {ds : List D} (s : S5 K r M H0 F0 H F σ ρ) (hi : i ∈ M) (ha : σ[i]? = some (some (.ref a))) (rr : DpAll K F vs ds) :
    S5 K r M H0 F0 (upd H a (.lst vs)) F σ (ρ.set i (some (.list ds))) := by
  obtain ⟨a', vs0, ds0, e1, e2, e3, e4, e5, e6⟩ := s.own i hi
  rw [ha] at e1
  cases e1
  have hl : i < ρ.length := (List.getElem?_eq_some_iff.mp e2).1
  refine ⟨⟨fun b o q => ?_, s.grow.f, fun b o q => ?_, s.grow.old⟩, by rw [List.length_set]; exact s.len, ⟨fun j d hj q => ?_, by rw [List.length_set]; exact s.len⟩, fun j hj => ?_, s.inj, s.pin⟩
  · rw [upd_ne (fun z => by rw [z, e4] at q; cases q)]
    exact s.grow.h _ _ q
  · rw [upd_ne (fun z => by rw [z, e3] at q; cases q)]
    exact s.grow.sub _ _ q
  · rcases set_get q with ⟨e1, _⟩ | ⟨e1, e2⟩
    · exact absurd (e1 ▸ hi) hj
    · exact s.val.get j d hj e2
  · by_cases z : j = i
    · subst z
      exact ⟨a, vs, ds, ha, set_at hl, e3, e4, upd_same, rr⟩
    · obtain ⟨a2, vs2, ds2, f1, f2, f3, f4, f5, f6⟩ := s.own j hj
      refine ⟨a2, vs2, ds2, f1, by rw [set_ne z]; exact f2, f3, f4, ?_, f6⟩
      rw [upd_ne (fun q => z (s.inj j i a2 hj hi f1 (by rw [q]; exact ha)))]
      exact f5
def ownL (i : Nat) (ρ : EnvD) : Option (List D) := match ρ[i]? with
  | some (some (.list ds)) => some ds
  | _ => none
/-- xs.append(e) -/
def sApp (i : Nat) (m : EnvD → ER D) : EnvD → SR := fun ρ => SR.ofE (m ρ) ρ fun d => match ownL i ρ with
  | some ds => if ds.length < sizeLine then .nx (ρ.set i (some (.list (ds ++ [d])))) else .no
  | none => .no
def sAppB (i : Nat) (m : EnvD → ER D) : EnvD → SR := fun ρ => SR.ofE (m ρ) ρ fun d => if lf d = true then (match ownL i ρ with
  | some ds => if ds.length < sizeLine then .nx (ρ.set i (some (.list (ds ++ [d])))) else .no
  | none => .no) else .no
theorem ownL_of {i : Nat} {ρ : EnvD} {ds : List D} (h : ownL i ρ = some ds) : ρ[i]? = some (some (.list ds)) := by
  unfold ownL at h
  split at h
  · rename_i ds' e
    cases h
    exact e
  · cases h
theorem d1_app (hi : i ∈ M) (hN : X.N[i]? = some x) (hv : Vis X.env.scope x) (he : DE X W M e me) (hd : (x == ("__debug__" : Str)) = false := by decide) (hcd : (x == ("__classdict__" : Str)) = false := by decide)
    (hbase : attributeBase (.Name x p1) "append" X.env (eval (.Name x p1) X.env) = eval (.Name x p1) X.env := by rfl)
    (hfew : ((backTo p3 (starEach [e] X.env)).all (fun x => !x.1) && (backToKw p3 (keywordEach [] X.env)).all (fun x => x.1.isSome)
      && decide ([e].length + ([] : List Keyword).length + (if ([] : List Keyword).isEmpty then 0 else 1) < 30)) = true := by rfl)
    (hline : (p2.endLine == p3.line) = true := by rfl) (hs : starEach [e] X.env = (false, eval e X.env) :: starEach [] X.env := by rfl) (hplain : (backTo p3 (starEach [] X.env)).any (·.1) = false := by rfl)
    (hsw : swapsWith (.Call (.Attribute (.Name x p1) "append" p2) [e] [] p3) none pos.line X.env = pure false := by rfl) :
    D1 X W J M M (.Expr (.Call (.Attribute (.Name x p1) "append" p2) [e] [] p3) pos) (sApp i me) :=
  ps_weak (ps_expr (pe_bm PySem.F.plainAttrs_list PySem.F.slot_list_append PySem.F.type_list_append mt_append (pe_var hN hv hd hcd) (pa_cons he pa_nil hs) hbase hfew hline hs hplain) hsw) fun D σ H ⟨H0, F0, F, ρ, s, q⟩ => by
    obtain ⟨a, vs, ds, e1, e2, e3, e4, e5, e6⟩ := s.own i hi
    refine ⟨_, e1, .inl ⟨rfl, _, .inl (.inl e5)⟩, F, ρ, s.grow.sub, s.val, s.ev q fun v H1 F1 d _ s1 dv q1 => ?_⟩
    obtain ⟨a', vs', ds', f1, f2, f3, f4, f5, f6⟩ := s1.own i hi
    rw [e1] at f1
    cases f1
    have eo : ownL i ρ = some ds' := by unfold ownL; rw [f2]
    rw [eo] at q1
    dsimp only at q1
    by_cases hz : ds'.length < sizeLine
    · rw [if_pos hz] at q1
      exact ⟨_, _, _, rfl, rfl, f5, by rw [dpAll_len f6]; exact hz, q1 _ _ _ (s1.mut hi e1 (dpAll_append f6 (.cons dv .nil)))⟩
    · rw [if_neg hz] at q1
      exact q1.elim
theorem d1_appB (hi : i ∈ M) (hN : X.N[i]? = some x) (hv : Vis X.env.scope x) (he : DE X W [] e me) (hd : (x == ("__debug__" : Str)) = false := by decide) (hcd : (x == ("__classdict__" : Str)) = false := by decide)
    (hbase : attributeBase (.Name x p1) "append" X.env (eval (.Name x p1) X.env) = eval (.Name x p1) X.env := by rfl)
    (hfew : ((backTo p3 (starEach [e] X.env)).all (fun x => !x.1) && (backToKw p3 (keywordEach [] X.env)).all (fun x => x.1.isSome)
      && decide ([e].length + ([] : List Keyword).length + (if ([] : List Keyword).isEmpty then 0 else 1) < 30)) = true := by rfl)
    (hline : (p2.endLine == p3.line) = true := by rfl) (hs : starEach [e] X.env = (false, eval e X.env) :: starEach [] X.env := by rfl) (hplain : (backTo p3 (starEach [] X.env)).any (·.1) = false := by rfl)
    (hsw : swapsWith (.Call (.Attribute (.Name x p1) "append" p2) [e] [] p3) none pos.line X.env = pure false := by rfl) :
    D1 X W J M M (.Expr (.Call (.Attribute (.Name x p1) "append" p2) [e] [] p3) pos) (sAppB i me) :=
  ps_weak (ps_expr (pe_bm PySem.F.plainAttrs_list PySem.F.slot_list_append PySem.F.type_list_append mt_append (pe_var hN hv hd hcd) (pa_cons he pa_nil hs) hbase hfew hline hs hplain) hsw) fun D σ H ⟨H0, F0, F, ρ, s, q⟩ => by
    obtain ⟨a, vs, ds, e1, e2, e3, e4, e5, e6⟩ := s.own i hi
    obtain ⟨F', h1, h2, h3⟩ := s.lend (R := Dp X.K) q (Q := fun y H1 => rAppend (.ref a) [y] H1 fun _ H2 => D.nx σ H2) fun v H1 F1 F2 d _ s1 s2 dv hT q1 => by
      by_cases hl : lf d = true
      · rw [if_pos hl] at q1
        obtain ⟨a', vs', ds', f1, f2, f3, f4, f5, f6⟩ := s1.own i hi
        rw [e1] at f1
        cases f1
        have eo : ownL i ρ = some ds' := by unfold ownL; rw [f2]
        rw [eo] at q1
        dsimp only at q1
        by_cases hz : ds'.length < sizeLine
        · rw [if_pos hz] at q1
          exact ⟨_, _, _, rfl, rfl, f5, by rw [dpAll_len f6]; exact hz, q1 _ _ _ (s1.mut hi e1 (dpAll_append f6 (.cons (dp_lf hT d v hl dv) .nil)))⟩
        · rw [if_neg hz] at q1
          exact q1.elim
      · rw [if_neg hl] at q1
        exact q1.elim
    exact ⟨_, e1, .inl ⟨rfl, _, .inl (.inl e5)⟩, F', ρ, h1, h2, h3⟩

/-- xs[k] = e, an own list -/
def sSetIx (i : Nat) (mi me : EnvD → ER D) : EnvD → SR := fun ρ => SR.ofE (me ρ) ρ fun d => if lf d = true then SR.ofE (mi ρ) ρ (fun y => match y with
  | .int k => (match ownL i ρ with
    | some ds => (match ixN ds.length k with
      | some j => .nx (ρ.set i (some (.list (ds.set j d))))
      | none => .no)
    | none => .no)
  | _ => .no) else .no
theorem d1_setix {ie : Expr} {mi : EnvD → ER D} (hi : i ∈ M) (hN : X.N[i]? = some x) (hv : Vis X.env.scope x) (he : DE X W [] e me) (hx : DE X W M ie mi) (hd : (x == ("__debug__" : Str)) = false := by decide) (hcd : (x == ("__classdict__" : Str)) = false := by decide)
    (ha : ∀ v, assign (.Subscript (.Name x p1) ie p2) X.env v = (do
      let ov ← holding [v] (eval (.Name x p1) X.env)
      let iv ← holding [v, ov] (eval ie X.env)
      standAt p2
      holding [v, ov, iv] (setItem ov iv v)
      release [v, ov, iv] []) := by intro _; rfl)
    (hs : swapsWithSole [(.Subscript (.Name x p1) ie p2)] e pos.line X.env = pure false := by rfl) (hw : swappedStores [(.Subscript (.Name x p1) ie p2)] e X.env = pure none := by rfl)
    (h1 : (assignEach [(.Subscript (.Name x p1) ie p2)] X.env).map (·.2) = [assign (.Subscript (.Name x p1) ie p2) X.env] := by rfl) :
    D1 X W J M M (.Assign [.Subscript (.Name x p1) ie p2] e pos) (sSetIx i mi me) :=
  ps_weak (ps_asg he (pg_sub (pe_var hN hv hd hcd) hx set_list ha) hs hw h1) fun D σ H ⟨H0, F0, F, ρ, s, q⟩ => by
    obtain ⟨F', h1, h2, h3⟩ := s.lend (R := Dp X.K) q (Q := fun y H1 => gSub (tVar i) (TEm X.K X.mg W M mi) rSetL y σ H1 D.nx) fun v H1 F1 F2 d _ s1 s2 dv hT q1 => by
      by_cases hl : lf d = true
      · rw [if_pos hl] at q1
        obtain ⟨a, vs, ds, e1, e2, e3, e4, e5, e6⟩ := s1.own i hi
        refine ⟨_, e1, F1, ρ, s1.grow.sub, s1.val, s1.evG q1 fun y H2 F3 dy g s3 dvy q2 => ?_⟩
        obtain ⟨a', vs', ds', f1, f2, f3, f4, f5, f6⟩ := s3.own i hi
        rw [e1] at f1
        cases f1
        have eo : ownL i ρ = some ds' := by unfold ownL; rw [f2]
        cases dy with
        | int k =>
          dsimp only at q2
          rw [eo] at q2
          dsimp only at q2
          cases ej : ixN ds'.length k with
          | none => rw [ej] at q2; exact q2.elim
          | some j =>
            rw [ej] at q2
            cases dvy
            exact ⟨_, _, _, j, rfl, rfl, f5, by rw [dpAll_len f6]; exact ej, q2 _ _ _ (s3.mut hi e1 (dpAll_set j f6 (dp_mono g.f _ _ (dp_lf hT d v hl dv))))⟩
        | _ => exact q2.elim
      · rw [if_neg hl] at q1
        exact q1.elim
    exact ⟨F', ρ, h1, h2, h3⟩
theorem sSetIx_ap {mi : EnvD → ER D} {ρ : EnvD} : sSetIx i mi me ρ = SR.ofE (me ρ) ρ fun d => if lf d = true then SR.ofE (mi ρ) ρ (fun y => match y with
  | .int k => (match ownL i ρ with
    | some ds => (match ixN ds.length k with
      | some j => .nx (ρ.set i (some (.list (ds.set j d))))
      | none => .no)
    | none => .no)
  | _ => .no) else .no := rfl

/-! ### a new list -/
def TNm (K : PySem.W.Frag) (mg : Str → Option Value) (W : WX) (M : List Nat) (m : EnvD → ER (List D)) : TE := fun σ H Q => ∃ F ρ, Same F H ∧ RepF K M F σ ρ ∧ match m ρ with
  | .ok ds => ∀ a vs H' F', Grow H F H' F' → H a = none → F' a = none → H' a = some (.lst vs) → DpAll K F' vs ds → Q (.ref a) H'
  | .ex x => ∀ c dc H' F', Grow H F H' F' → IsX K mg H' F' c dc x → W c dc σ H'
  | .no => False
abbrev DN (X : Cx) (W : WX) (M : List Nat) (e : Expr) (m : EnvD → ER (List D)) : Prop := PE X e (TNm X.K X.mg W M m)
def eN' (m : EnvD → ER (List D)) : EnvD → ER D := fun ρ => (m ρ).bind fun ds => .ok (.list ds)
theorem Grow.fix {H F H' F' : Hp} {a : Addr} {vs : List V} (s : Same F H) (g : Grow H F H' F') (h : H a = none) (h' : H' a = some (.lst vs)) : Grow H F H' (upd F' a (.lst vs)) :=
  ⟨g.h, fun b o q => by
    rw [upd_ne (fun z => by rw [z] at q; rw [s.free h] at q; cases q)]
    exact g.f _ _ q, fun b o q => by
    by_cases z : b = a
    · subst z
      rw [upd_same] at q
      cases q
      exact h'
    · rw [upd_ne z] at q
      exact g.sub _ _ q, fun b q1 q2 => by
    rw [upd_ne (fun z => q1 (by rw [z]; exact h))]
    exact g.old b q1 q2⟩
theorem de_new {m : EnvD → ER (List D)} (h : DN X W M e m) : DE X W M e (eN' m) :=
  pe_weak h fun σ H Q ⟨F, ρ, sF, r, q⟩ => ⟨F, ρ, sF, r, by
    unfold eN' at q
    cases em : m ρ with
    | ok ds =>
      rw [em] at q
      intro a vs H' F' g ha fa ha' dv
      exact q _ _ _ (g.fix sF ha ha') (.lst (.inl (.inl upd_same)) (dpAll_mono (same_new fa) _ _ dv))
    | ex x => rw [em] at q; exact q
    | no => rw [em] at q; exact q⟩
theorem dn_lst {ms : List (EnvD → ER D)} (h : DA X W M es (aL ms)) (hl : ms.length ≤ 1000) : DN X W M (.List es pos) (aL ms) :=
  pe_weak (pe_lst h) fun σ H Q ⟨F, ρ, sF, r, q⟩ => ⟨F, ρ, sF, r, by
    cases em : aL ms ρ with
    | ok ds =>
      rw [em] at q
      intro vs H' F' g dv
      exact ⟨by rw [dpAll_len dv, aL_len em]; exact line1000 hl, fun p hp => q p vs _ F' (g.trans (Grow.newH g.sub hp)) (g.h.free hp) (g.sub.free hp) upd_same dv⟩
    | ex x => rw [em] at q; exact q
    | no => rw [em] at q; exact q⟩
def itemsL : List D → Option (List D)
  | [.list xs] => some xs
  | [.tuple xs] => some xs
  | _ => none
def nL (ms : List (EnvD → ER D)) : EnvD → ER (List D) := fun ρ => (aL ms ρ).bind fun ds => optE (itemsL ds)
theorem dn_list {x : Str} {e : Expr} {p : Pos} {ms : List (EnvD → ER D)} (hm : X.mg x = none) (hv : bootBuiltins x = some (.type "list")) (hg : Gl X x) (ha : DA X W M [e] (aL ms)) (hn : x ≠ "__name__" := by decide) (hdb : (x == ("__debug__" : Str)) = false := by decide)
    (he : starEach [e] X.env = (false, eval e X.env) :: starEach [] X.env := by rfl) (hpl : (backTo pos (starEach [] X.env)).any (·.1) = false := by rfl) : DN X W M (.Call (.Name x p) [e] [] pos) (nL ms) :=
  pe_weak (pe_callTy call_list_of hg hm hv ha hn hdb he hpl) fun σ H Q ⟨F, ρ, sF, r, q⟩ => ⟨F, ρ, sF, r, by
    unfold nL at q
    cases em : aL ms ρ with
    | ok ds =>
      rw [em] at q
      intro vs H1 F1 g dv
      match ds, dv, q with
      | [.list es], .cons (.lst ha ra) .nil, q => exact ⟨_, _, rfl, .inl (g.sub.seq ha), fun l hl => q l _ _ F1 (g.trans (Grow.newH g.sub hl)) (g.h.free hl) (g.sub.free hl) upd_same ra⟩
      | [.tuple es], .cons (.tup ha ra) .nil, q => exact ⟨_, _, rfl, .inr (sqT_mono g.sub ha), fun l hl => q l _ _ F1 (g.trans (Grow.newH g.sub hl)) (g.h.free hl) (g.sub.free hl) upd_same ra⟩
      | [.str _], _, q => exact q.elim
      | [.none], _, q => exact q.elim
      | [.bool _], _, q => exact q.elim
      | [.int _], _, q => exact q.elim
      | [.dict _], _, q => exact q.elim
      | [], _, q => exact q.elim
      | a :: _ :: _, _, q => cases a <;> exact q.elim
    | ex x => rw [em] at q; exact q
    | no => rw [em] at q; exact q⟩
def nCat (ma mb : EnvD → ER D) : EnvD → ER (List D) := fun ρ => (ma ρ).bind fun x => (mb ρ).bind fun y => optE (match addD x y with
  | some (.list zs) => some zs
  | _ => none)
theorem dn_cat {a b : Expr} {ma mb : EnvD → ER D} (ha : DE X W M a ma) (hb : DE X W M b mb) : DN X W M (.BinOp a .Add b pos) (nCat ma mb) :=
  pe_weak (pe_op op_catL ha hb) fun σ H Q ⟨F, ρ, sF, r, q⟩ => ⟨F, ρ, sF, r, by
    unfold nCat at q
    cases em : ma ρ with
    | ok x =>
      rw [em] at q
      intro v H1 F1 g dx
      refine ⟨F1, ρ, g.sub, r.mono g.f, ?_⟩
      cases em2 : mb ρ with
      | ok y =>
        intro u H2 F2 g2 dy
        have q : match optE (match addD x y with
          | some (.list zs) => some zs
          | _ => none) with
          | .ok ds => ∀ a vs H' F', Grow H F H' F' → H a = none → F' a = none → H' a = some (.lst vs) → DpAll X.K F' vs ds → Q (.ref a) H'
          | .ex x => ∀ c dc H' F', Grow H F H' F' → IsX X.K X.mg H' F' c dc x → W c dc σ H'
          | .no => False := by
          have q2 := q
          simp only [ER.bind] at q2
          rw [em2] at q2
          exact q2
        cases x with
        | list as =>
          cases y with
          | list bs =>
            by_cases hz : as.length + bs.length ≤ sizeLine
            · have e1 : addD (.list as) (.list bs) = some (.list (as ++ bs)) := if_pos hz
              rw [e1] at q
              cases dx with
              | lst hx rx =>
                cases dy with
                | lst hy ry =>
                  exact ⟨_, _, _, _, rfl, rfl, g2.sub.seq (g2.f.seq hx), g2.sub.seq hy, by rw [dpAll_len rx, dpAll_len ry]; exact hz, fun p hp => q p _ _ F2 ((g.trans g2).trans (Grow.newH g2.sub hp)) ((g.trans g2).h.free hp) (g2.sub.free hp) upd_same (dpAll_append (dpAll_mono g2.f _ _ rx) ry)⟩
            · have e1 : addD (.list as) (.list bs) = none := if_neg hz
              rw [e1] at q
              exact q.elim
          | _ => exact q.elim
        | int i => cases y <;> exact q.elim
        | str z =>
          cases y with
          | str z2 =>
            by_cases hz : z.length + z2.length ≤ sizeLine
            · have e1 : addD (.str z) (.str z2) = some (.str (z ++ z2)) := if_pos hz
              rw [e1] at q
              exact q.elim
            · have e1 : addD (.str z) (.str z2) = none := if_neg hz
              rw [e1] at q
              exact q.elim
          | _ => exact q.elim
        | tuple as =>
          cases y with
          | tuple bs =>
            by_cases hz : as.length + bs.length ≤ sizeLine
            · have e1 : addD (.tuple as) (.tuple bs) = some (.tuple (as ++ bs)) := if_pos hz
              rw [e1] at q
              exact q.elim
            · have e1 : addD (.tuple as) (.tuple bs) = none := if_neg hz
              rw [e1] at q
              exact q.elim
          | _ => exact q.elim
        | _ => exact q.elim
      | ex x =>
        have q2 := q
        simp only [ER.bind] at q2
        rw [em2] at q2
        intro c dc H' F' g' hx
        exact q2 c dc H' F' (g.trans g') hx
      | no =>
        have q2 := q
        simp only [ER.bind] at q2
        rw [em2] at q2
        exact q2
    | ex x => rw [em] at q; exact q
    | no => rw [em] at q; exact q⟩
theorem nL_ap {ms : List (EnvD → ER D)} {ρ : EnvD} : nL ms ρ = (aL ms ρ).bind fun ds => optE (itemsL ds) := rfl
theorem nCat_ap {ma mb : EnvD → ER D} {ρ : EnvD} : nCat ma mb ρ = (ma ρ).bind fun x => (mb ρ).bind fun y => optE (match addD x y with
  | some (.list zs) => some zs
  | _ => none) := rfl
/-- name = a new list, the name's own -/
def sNew (i : Nat) (m : EnvD → ER (List D)) : EnvD → SR := fun ρ => SR.ofE (m ρ) ρ fun ds => .nx (ρ.set i (some (.list ds)))
theorem S5.setNew {K : PySem.W.Frag} {r : RK} {H0 H F : Hp} {F0 : FB} {σ : L2.St} {ρ : EnvD} {a : Addr} {vs : List V} {ds : List D} (s : S5 K r M H0 F0 H F σ ρ) (hr : r = .own → i ≠ 0) (hi : i < ρ.length) (h0 : H0 a = none) (hf : F a = none) (ha : H a = some (.lst vs)) (rr : DpAll K F vs ds) (hne : ∀ j ∈ M, σ[j]? ≠ some (some (.ref a))) :
    S5 K r (i :: M.filter (· != i)) H0 F0 H F (σ.set i (some (.ref a))) (ρ.set i (some (.list ds))) where
  grow := s.grow
  len := by rw [List.length_set, List.length_set]; exact s.len
  val := ⟨fun j d hj e => by
    have hji : j ≠ i := fun z => hj (by simp [z])
    have hM : j ∉ M := fun z => hj (List.mem_cons_of_mem _ (List.mem_filter.mpr ⟨z, by simpa using hji⟩))
    rw [set_ne hji] at e ⊢
    exact s.val.get j d hM e, by rw [List.length_set, List.length_set]; exact s.len⟩
  own := fun j hj => by
    rcases List.mem_cons.mp hj with z | hj
    · subst z
      exact ⟨a, vs, ds, set_at (by rw [← s.len]; exact hi), set_at hi, hf, h0, ha, rr⟩
    · obtain ⟨h1, h2⟩ := List.mem_filter.mp hj
      have hne : j ≠ i := by simpa using h2
      rw [set_ne hne, set_ne hne]
      exact s.own j h1
  inj := fun i' j' b h1 h2 e1 e2 => by
    have lift : ∀ j, j ∈ i :: M.filter (· != i) → j = i ∨ (j ≠ i ∧ j ∈ M) := fun j hj => by
      rcases List.mem_cons.mp hj with z | hj
      · exact .inl z
      · obtain ⟨h1, h2⟩ := List.mem_filter.mp hj
        exact .inr ⟨by simpa using h2, h1⟩
    have hs : i < σ.length := by rw [← s.len]; exact hi
    rcases lift i' h1 with z1 | ⟨z1, m1⟩ <;> rcases lift j' h2 with z2 | ⟨z2, m2⟩
    · rw [z1, z2]
    · rw [z1, set_at hs] at e1
      rw [set_ne z2] at e2
      cases e1
      exact absurd e2 (hne j' m2)
    · rw [z2, set_at hs] at e2
      rw [set_ne z1] at e1
      cases e2
      exact absurd e1 (hne i' m1)
    · rw [set_ne z1] at e1
      rw [set_ne z2] at e2
      exact s.inj i' j' b m1 m2 e1 e2
  pin := fun ho h1 => by
    have hi0 := hr ho
    rcases List.mem_cons.mp h1 with z | h1
    · exact absurd z.symm hi0
    · obtain ⟨h2, _⟩ := List.mem_filter.mp h1
      rw [set_ne (fun z => hi0 z.symm)]
      exact s.pin ho h2
theorem d1_new {m : EnvD → ER (List D)} {pos' : Pos} (hN : X.N.Nodup) (hi : X.N[i]? = some x) (hx : Loc X.env.scope x) (he : DN X W M e m) (hM : M' = i :: M.filter (· != i)) (hr : J.r = .own → i ≠ 0 := by intro h; first | decide | cases h) (hs : swapsWith e (some (.Name x pos')) pos.line X.env = pure false := by rfl) (hf : X.fn x = true ∨ X.env.scope.names.lookup x = some .local := by first | exact .inl rfl | exact .inr rfl | assumption) :
    D1 X W J M M' (.Assign [.Name x pos'] e pos) (sNew i m) := by
  refine ⟨fun pins s σ H D I h => ?_⟩
  refine (ps_set hN hi hx he hs hf).run pins s σ H D I ?_
  obtain ⟨H0, F0, F, ρ, s5, q⟩ := h
  have hl : i < ρ.length := by
    rw [s5.len, I.len]
    exact (List.getElem?_eq_some_iff.mp hi).1
  refine ⟨F, ρ, s5.grow.sub, s5.val, ?_⟩
  unfold sNew at q
  cases em : m ρ with
  | ok ds =>
    rw [em] at q
    intro a vs H' F' g ha fa ha' dv
    subst hM
    refine q _ _ _ ((s5.expr g).setNew hr hl (s5.grow.h.free ha) fa ha' dv fun j hj z => ?_)
    obtain ⟨a2, _, _, e1, _, _, _, e5, _⟩ := s5.own j hj
    rw [z] at e1
    cases e1
    rw [ha] at e5
    cases e5
  | ex x =>
    rw [em] at q
    intro c dc H1 F1 g ix
    obtain ⟨F', sF, s', _⟩ := (s5.expr g).freeze (M' := []) (by simp)
    exact q c dc σ H1 F' s' (ix.mono (Same.refl _) sF)
  | no => rw [em] at q; exact q

/-! ### the promise of a def where no text is being written (guards) -/
structure FnG (P : Program) (w : World) (K : PySem.W.Frag) (mg : Str → Option Value) (base : Heap) (CX : CXT) (k : Nat) (f : Addr) (fd : FuncData) (ps : List Str) (sp : Sp) : Prop where
  len : ∀ vs H Q E, sp vs H Q E → vs.length = ps.length
  run : ∀ (A : Around) (outer : List Env) (s : Shared) (H : Hp) (args : Args) (us : List Value) (vs : List V) (Q : VK) (E : XK), Room k A → A.guards = some [] → Env0 P w K mg base A outer s H → BindsTo s fd args (ps.zip us) → Vals vs us → sp vs H Q E →
    codeAny (model P w) A (.call (.ref f) args) (CR CX outer P w H s Q E) s
theorem FnG.mono {P : Program} {w : World} {K : PySem.W.Frag} {mg : Str → Option Value} {base : Heap} {CX : CXT} {j k : Nat} {f : Addr} {fd : FuncData} {ps : List Str} {sp : Sp} (F : FnG P w K mg base CX j f fd ps sp) (h : j ≤ k) :
    FnG P w K mg base CX k f fd ps sp := ⟨F.len, fun A outer s H args us vs Q E hr => F.run A outer s H args us vs Q E (hr.mono h)⟩
theorem fnG_of {CX : CXT} {P : Program} {w : World} {K : PySem.W.Frag} {mg : Str → Option Value} {base : Heap} {k : Nat} {x qual : Str} {st : Stmt} {f : Addr} {fd : FuncData} {N ps : List Str} {sp : Sp} (F : Fun K x qual st f fd) (S : FnScope N ps (defScope st)) (len : ∀ vs H Q E, sp vs H Q E → vs.length = ps.length)
    (hbody : ∀ (cdv : Value) (A : Around) (outer : List Env) (s : Shared) (H : Hp) (vs : List V) (Q : VK) (E : XK), Room k (A.deeper (envOfC qual (defScope st) s.heap.objs.size f cdv)) → A.guards = some [] → sp vs H Q E →
      ∃ t, PSs (cxOf CX P w K mg base N qual (defScope st) f cdv A outer s H E) (defBody st) t ∧ t { nx := fun _ H' => Q .non H', rt := Q } (L2.start N vs) H) :
    FnG P w K mg base CX (k + 1) f fd ps sp := by
  obtain ⟨oc, od, kV, doc, pm, an, cdv, ct, osl, rfl, lk, hcd⟩ := F.ex
  refine ⟨len, fun A outer s H args us vs Q E hr hgd e0 hb r hsp => ?_⟩
  have hl := len _ _ _ _ hsp
  have KX : K.In s.heap := e0.mod.kin.keeps fun b o e => (e0.bs b o e).1
  have lim : s.heap.NoLimit := e0.mod.nolimit.keeps fun b o e => (e0.bs b o e).1
  refine codeAny_call_function hr.depth (KX _ _ lk) rfl S.co S.gen rfl (PySem.W.codeRec_of KX hcd) (hb _ _ _ _ ?_)
  refine wpAny_newFunctionEnv_cells S.kind (fun ⟨n, v⟩ hy => ?_) fun env he s1 x => ?_
  · rcases S.par n (List.of_mem_zip hy).1 with q | q
    · exact .inl q
    · exact .inr ⟨q, PySem.W.cellsFrom_some _ _ _ (.inl q)⟩
  subst he
  refine ⟨lim.keeps x.toInCall.keep, codeAny_func ?_⟩
  obtain ⟨t, ht, hq⟩ := hbody cdv A outer s H vs Q E (hr.deeper _) hgd hsp
  have I : Inv (cxOf CX P w K mg base N qual (defScope st) f cdv A outer s H E) [] (L2.start N vs) H s1 := inv_start S hr.hd e0 hl r x
  refine wpAny_mono (ht.run [] s1 (L2.start N vs) H _ I hq) (fun fl s' hs => ?_) fun e s' hs => hs
  cases fl with
  | ret u =>
    obtain ⟨v, σ', H', J, rv, q⟩ := hs
    exact ⟨v, H', J.os, J.bare, J.base, J.hok, rv, q⟩
  | next =>
    obtain ⟨σ', H', J, q⟩ := hs
    exact ⟨V.non, H', J.os, J.bare, J.base, J.hok, rfl, q⟩
  | brk =>
    obtain ⟨_, _, _, q⟩ := hs
    exact False.elim q
  | cont =>
    obtain ⟨_, _, _, q⟩ := hs
    exact False.elim q
section
variable {X : Cx} {CX : CXT} {k : Nat} {f : Addr} {fd : FuncData} {ps : List Str} {sp : Sp} {E : L2.St → XK} {x : Str} {e : Expr} {es : List Expr} {t : TA} {p pos : Pos}
theorem run_fnG {pins : List (Addr × Obj)} {σ : L2.St} {H : Hp} {s : Shared} {Q : VK} {us : List Value} {vs : List V} (F : FnG X.prog X.w X.K X.mg X.base CX k f fd ps sp) (hr : Room k X.A) (hgd : X.A.guards = some []) (hb : Binds X.K fd ps []) (hx : PassesAt CX X σ (E σ))
    (I : Inv X pins σ H s) (r : Vals vs us) (h : sp vs H Q (E σ)) : wpAny (model X.prog X.w) X.A (call (.ref f) us) (EP X pins σ Q) X.xe s := by
  have hl : us.length = ps.length := by rw [← r.length]; exact F.len _ _ _ _ h
  have b := hb s us I.kIn (by rw [List.append_nil]; exact hl)
  rw [List.append_nil] at b
  refine wpAny_call (codeAny_mono (F.run X.A X.stack s H ⟨us, []⟩ us vs Q (E σ) hr hgd I.env0 b r h) fun r s' hq => ?_)
  match r, hq with
  | .error e, hq => exact hx pins H s e s' I hq
  | .ok (.ret u), hq => exact I.after hq
  | .ok .next, hq => exact False.elim hq
  | .ok .brk, hq => exact False.elim hq
  | .ok .cont, hq => exact False.elim hq
theorem pe_callG (F : FnG X.prog X.w X.K X.mg X.base CX k f fd ps sp) (hr : Room k X.A) (hgd : X.A.guards = some []) (hg : Gl X x) (hm : X.mg x = some (.ref f)) (hk : PySem.W.keepIn X.K (.ref f) = true) (hb : Binds X.K fd ps []) (hx : ∀ σ, PassesAt CX X σ (E σ))
    (ha : PA X (e :: es) t) (hdb : (x == ("__debug__" : Str)) = false := by decide) (he : starEach (e :: es) X.env = (false, eval e X.env) :: starEach es X.env := by rfl) (hpl : (backTo pos (starEach es X.env)).any (·.1) = false := by rfl) :
    PE X (.Call (.Name x p) (e :: es) [] pos) (tCallS sp E t) := by
  refine ⟨fun pins s σ H Q I h => ?_⟩
  refine wpAny_Call_Name_kw (ld_glob I hg hm ?_ hdb)
  refine PySem.W.callWith_K (h₀ := X.base) I.ok.mod.kin hk (thn (ha.run pos pins s σ H _ I h) fun us s1 ⟨vs, H1, I1, r, q⟩ => ⟨I1.kIn, ?_⟩) he hpl
  exact run_fnG F hr hgd hb (hx σ) I1 r q
end
/-! ### calls of own defs -/
def spD (K : PySem.W.Frag) (mg : Str → Option Value) (n : Nat) (g : List D → ER D) : Sp := fun vs H Q E => vs.length = n ∧ ∃ F ds, Same F H ∧ DpAll K F vs ds ∧ okE K mg (fun c d _ H' => E c d H') [] H F (Dp K) Q (g ds)
structure Callee (P : Program) (w : World) (K : PySem.W.Frag) (mg : Str → Option Value) (base : Heap) (x : Str) (k n : Nat) (g : List D → ER D) : Prop where
  ex : ∃ f fd ps, FnG P w K mg base (L2.CX P w) k f fd ps (spD K mg n g) ∧ mg x = some (.ref f) ∧ PySem.W.keepIn K (.ref f) = true ∧ Binds K fd ps [] ∧ ps.length = n ∧
    ∀ (s : Shared) (us : List Value), us.length = ps.length → BindsTo s fd ⟨us, []⟩ (ps.zip us)
theorem de_call {ms : List (EnvD → ER D)} {g : List D → ER D} {k' n : Nat} (C : CB X W k) (c : Callee X.prog X.w X.K X.mg X.base x k' n g) (hk : k' ≤ k) (ha : DA X W M (e :: es) (aL ms)) (hn : ms.length = n) (hg : Gl X x := by rfl) (hdb : (x == ("__debug__" : Str)) = false := by decide)
    (he : starEach (e :: es) X.env = (false, eval e X.env) :: starEach es X.env := by rfl) (hpl : (backTo pos (starEach es X.env)).any (·.1) = false := by rfl) : DE X W M (.Call (.Name x p1) (e :: es) [] pos) (eF g ms) := by
  obtain ⟨f, fd, ps, F, hm, hkp, hb, _, _⟩ := c.ex
  refine pe_weak (pe_callG F (C.room.mono hk) C.gd hg hm hkp hb (fun σ => passAt C.tk σ) ha hdb he hpl) fun σ H Q h => ?_
  obtain ⟨F', ρ, sF, r, q⟩ := h
  exact ⟨F', ρ, sF, r, ok_bindE r q fun vs H1 F1 ds el g1 r1 dv q1 => ⟨by rw [dpAll_len dv, aL_len el]; exact hn, F1, ds, g1.sub, dv, by
    cases eg : g ds with
    | ok z => rw [eg] at q1; exact q1
    | ex z => rw [eg] at q1; exact q1
    | no => rw [eg] at q1; exact q1⟩⟩
theorem de_call0 {g : List D → ER D} {k' : Nat} (C : CB X W k) (c : Callee X.prog X.w X.K X.mg X.base x k' 0 g) (hk : k' ≤ k) (hg : Gl X x := by rfl) (hdb : (x == ("__debug__" : Str)) = false := by decide) : DE X W M (.Call (.Name x p1) [] [] pos) (eF g []) := by
  obtain ⟨f, fd, ps, F, hm, hkp, hb, _, _⟩ := c.ex
  refine ⟨fun pins s σ H Q I h => ?_⟩
  obtain ⟨F', ρ, sF, r, q⟩ := h
  refine wpAny_Call_Name_kw (ld_glob I hg hm ?_ hdb)
  refine PySem.W.callWith_K0 I.kIn hkp (run_fnG (us := []) (vs := []) (E := WE W) F (C.room.mono hk) C.gd hb (passAt C.tk σ) I .nil ⟨rfl, F', [], sF, .nil, ?_⟩)
  have q' : okE X.K X.mg W σ H F' (Dp X.K) Q (g []) := q
  cases eg : g [] with
  | ok z => rw [eg] at q'; exact q'
  | ex z => rw [eg] at q'; exact q'
  | no => rw [eg] at q'; exact q'

/-! ### defs -/
def callM (N n : Nat) (m : EnvD → SR) : List D → ER D := fun ds => if ds.length = n then (match m (ds.map some ++ List.replicate (N - n) none) with
  | .nx _ => .ok .none
  | .ret d => .ok d
  | .ex x _ => .ex x
  | _ => .no) else .no
/-- a def's body -/
abbrev cxD (P : Program) (w : World) (K : PySem.W.Frag) (mg : Str → Option Value) (base : Heap) (N : List Str) (qual : Str) (sc : Scope) (f : Addr) (cdv : Value) (A : Around) (outer : List Env) (s : Shared) (H : Hp) (E : XK) : Cx :=
  cxOf (L2.CX P w) P w K mg base N qual sc f cdv A outer s H E
theorem rep_start {K : PySem.W.Frag} {F : Hp} {vs : List V} {ds : List D} {n : Nat} (h : DpAll K F vs ds) : RepF K [] F (vs.map some ++ List.replicate n none) (ds.map some ++ List.replicate n none) := by
  have hl := dpAll_len h
  refine ⟨fun j d _ e => ?_, by simp [hl]⟩
  by_cases hj : j < ds.length
  · rw [List.getElem?_append_left (by simpa using hj)] at e
    rw [List.getElem?_append_left (by simpa [hl] using hj)]
    rw [List.getElem?_map] at e ⊢
    rw [List.getElem?_eq_getElem hj] at e
    obtain ⟨v, e1, e2⟩ := dpAll_get h (List.getElem?_eq_getElem hj)
    rw [e1]
    cases e
    exact ⟨v, rfl, e2⟩
  · rw [List.getElem?_append_right (by simpa using hj)] at e
    rw [List.getElem?_replicate] at e
    by_cases z : j - (ds.map some).length < n
    · rw [if_pos z] at e; cases e
    · rw [if_neg z] at e; cases e
theorem def_ok {P : Program} {w : World} {K : PySem.W.Frag} {mg : Str → Option Value} {base : Heap} {x qual : Str} {st : Stmt} {f : Addr} {fd : FuncData} {N ps : List Str} {n k : Nat} {m : EnvD → SR} (F : Fun K x qual st f fd) (S : FnScope N ps (defScope st)) (hn : ps.length = n)
    (hb : ∀ (cdv : Value) (A : Around) (outer : List Env) (s : Shared) (H : Hp) (E : XK), CB (cxD P w K mg base N qual (defScope st) f cdv A outer s H E) (fun c d _ H => E c d H) k →
      DS (cxD P w K mg base N qual (defScope st) f cdv A outer s H E) (fun c d _ H => E c d H) ⟨[], [], .val⟩ [] [] (defBody st) m) : FnG P w K mg base (L2.CX P w) (k + 1) f fd ps (spD K mg n (callM N.length n m)) := by
  refine fnG_of F S (fun vs H Q E h => by rw [hn]; exact h.1) (fun cdv A outer s H vs Q E hr hgd h => ?_)
  refine ⟨_, hb cdv A outer s H E ⟨rfl, S.nd, takes_of rfl rfl rfl rfl, passes_of rfl, hr, hgd⟩, ?_⟩
  obtain ⟨hl, F', ds, sF, dv, q⟩ := h
  have el : ds.length = n := by rw [← dpAll_len dv]; exact hl
  unfold callM at q
  rw [if_pos el] at q
  refine ⟨H, (F', 0), F', ds.map some ++ List.replicate (N.length - n) none, ⟨Grow.refl sF, ?_, ?_, (fun j hj => absurd hj (List.not_mem_nil)), (fun i j a hi => absurd hi (List.not_mem_nil)), (fun h => nomatch h)⟩, ?_⟩
  · unfold L2.start
    simp [el, hl]
  · unfold L2.start
    rw [hl]
    exact rep_start dv
  · cases em : m (ds.map some ++ List.replicate (N.length - n) none) with
    | nx ρ => rw [em] at q; exact fun σ' H' F2 s' => q .non H' F2 s'.grow .non
    | ret d => rw [em] at q; exact q
    | ex x ρ => rw [em] at q; exact fun c dc σ' H' F2 s' ix => q c dc H' F2 s'.grow ix
    | brk ρ => rw [em] at q; exact q.elim
    | cont ρ => rw [em] at q; exact q.elim
    | no => rw [em] at q; exact q.elim
theorem callee_mk {P : Program} {w : World} {K : PySem.W.Frag} {mg : Str → Option Value} {base : Heap} {x qual : Str} {st : Stmt} {f : Addr} {fd : FuncData} {N ps : List Str} {n k : Nat} {m : EnvD → SR} {g : List D → ER D} (F : Fun K x qual st f fd) (hm : mg x = some (.ref f)) (S : FnScope N ps (defScope st)) (hn : ps.length = n)
    (hbd : ∀ (kV doc pm : Value) (an : Option Addr) (cdv ct : Value) (us : List Value), us.length = ps.length → bindArgs (PySem.W.fnOf x qual (defArgs st) (defBody st) (defScope st) .none kV doc pm an cdv ct) ⟨us, []⟩ = pure (ps.zip us)) (hg : g = callM N.length n m)
    (hb : ∀ (cdv : Value) (A : Around) (outer : List Env) (s : Shared) (H : Hp) (E : XK), CB (cxD P w K mg base N qual (defScope st) f cdv A outer s H E) (fun c d _ H => E c d H) k →
      DS (cxD P w K mg base N qual (defScope st) f cdv A outer s H E) (fun c d _ H => E c d H) ⟨[], [], .val⟩ [] [] (defBody st) m) : Callee P w K mg base x (k + 1) n g :=
  ⟨f, fd, ps, by rw [hg]; exact def_ok F S hn hb, hm, F.kp, F.binds hbd, hn, fun s us hl => by
    obtain ⟨oc, od, kV, doc, pm, an, cdv, ct, osl, rfl, lk, hcd⟩ := F.ex
    exact BindsTo.of_eq (hbd kV doc pm an cdv ct us hl)⟩
theorem Callee.lv {P : Program} {w : World} {K : PySem.W.Frag} {mg : Str → Option Value} {base : Heap} {n k k' : Nat} {g : List D → ER D} (c : Callee P w K mg base x k n g) (h : k ≤ k') : Callee P w K mg base x k' n g := by
  obtain ⟨f, fd, ps, F, h1, h2, h3, h4, h5⟩ := c.ex
  exact ⟨f, fd, ps, F.mono h, h1, h2, h3, h4, h5⟩
/-- a def of which nothing is said -/
theorem callee_no {P : Program} {w : World} {K : PySem.W.Frag} {mg : Str → Option Value} {base : Heap} {x qual : Str} {st : Stmt} {f : Addr} {fd : FuncData} {ps : List Str} {k : Nat} (F : Fun K x qual st f fd) (hm : mg x = some (.ref f))
    (hbd : ∀ (kV doc pm : Value) (an : Option Addr) (cdv ct : Value) (us : List Value), us.length = ps.length → bindArgs (PySem.W.fnOf x qual (defArgs st) (defBody st) (defScope st) .none kV doc pm an cdv ct) ⟨us, []⟩ = pure (ps.zip us)) : Callee P w K mg base x k ps.length (fun _ => .no) :=
  ⟨f, fd, ps, ⟨fun vs H Q E h => h.1, fun A outer s H args us vs Q E hr hgd he hb r h => by
    obtain ⟨_, F', ds, _, _, q⟩ := h
    exact q.elim⟩, hm, F.kp, F.binds hbd, rfl, fun s us hl => by
    obtain ⟨oc, od, kV, doc, pm, an, cdv, ct, osl, rfl, lk, hcd⟩ := F.ex
    exact BindsTo.of_eq (hbd kV doc pm an cdv ct us hl)⟩
end
end Z

namespace Z
open PySem PySem.Spec PyProof.Rows L2
section
variable {X : Cx} {W : WX} {J : Js} {M Mn M1 M' : List Nat} {pos p1 p2 p3 : Pos} {e a b : Expr} {es : List Expr} {me ma mb : EnvD → ER D} {k : Nat} {x : Str} {i : Nat}
abbrev W0 : WX := fun _ _ _ _ => False
/-! ### comprehensions -/
def wipeR (ρ : EnvD) : List Nat → EnvD
  | [] => ρ
  | v :: vs => (wipeR ρ vs).set v none
theorem wipeR_len {ρ : EnvD} : ∀ {vs : List Nat}, (wipeR ρ vs).length = ρ.length
  | [] => rfl
  | v :: vs => by show ((wipeR ρ vs).set v none).length = _; rw [List.length_set, wipeR_len]
theorem wipe_len' {σ : L2.St} : ∀ {vs : List Nat}, (wipe σ vs).length = σ.length
  | [] => rfl
  | v :: vs => by show ((wipe σ vs).set v none).length = _; rw [List.length_set, wipe_len']
theorem wipe_out {σ : L2.St} {j : Nat} : ∀ {vs : List Nat}, j ∉ vs → (wipe σ vs)[j]? = σ[j]?
  | [], _ => rfl
  | v :: vs, h => by
    show ((wipe σ vs).set v none)[j]? = _
    rw [set_ne (fun z => h (by simp [z])), wipe_out (fun z => h (List.mem_cons_of_mem _ z))]
theorem wipe_in {σ : L2.St} {j : Nat} : ∀ {vs : List Nat}, j ∈ vs → j < σ.length → (wipe σ vs)[j]? = some none
  | v :: vs, h, hl => by
    show ((wipe σ vs).set v none)[j]? = _
    by_cases z : j = v
    · subst z
      exact set_at (by rw [wipe_len']; exact hl)
    · rw [set_ne z]
      rcases List.mem_cons.mp h with h | h
      · exact absurd h z
      · exact wipe_in h hl
theorem wipe_eq {σ1 σ2 : L2.St} {vs : List Nat} (hl : σ1.length = σ2.length) (h : ∀ j, j ∉ vs → σ1[j]? = σ2[j]?) : wipe σ1 vs = wipe σ2 vs := by
  apply List.ext_getElem?
  intro j
  by_cases hj : j ∈ vs
  · by_cases hs : j < σ1.length
    · rw [wipe_in hj hs, wipe_in hj (by rw [← hl]; exact hs)]
    · rw [List.getElem?_eq_none (by rw [wipe_len']; omega), List.getElem?_eq_none (by rw [wipe_len']; omega)]
  · rw [wipe_out hj, wipe_out hj]
    exact h j hj
theorem wipeR_some {ρ : EnvD} {j : Nat} {d : D} : ∀ {vs : List Nat}, (wipeR ρ vs)[j]? = some (some d) → j ∉ vs ∧ ρ[j]? = some (some d)
  | [], h => ⟨List.not_mem_nil, h⟩
  | v :: vs, h => by
    rcases set_get (show ((wipeR ρ vs).set v none)[j]? = some (some d) from h) with ⟨_, h2⟩ | ⟨h1, h2⟩
    · cases h2
    · obtain ⟨h3, h4⟩ := wipeR_some h2
      exact ⟨fun z => (List.mem_cons.mp z).elim h1 h3, h4⟩
theorem rep_wipe {K : PySem.W.Frag} {F : Hp} {σ : L2.St} {ρ : EnvD} {vs : List Nat} (r : RepF K M F σ ρ) : RepF K M F (wipe σ vs) (wipeR ρ vs) := ⟨fun j d hj e => by
  obtain ⟨h1, h2⟩ := wipeR_some e
  rw [wipe_out h1]
  exact r.get j d hj h2, by rw [wipeR_len, wipe_len']; exact r.len⟩
def lcM (p : Pat) (t : EnvD → ER Bool) (m : EnvD → ER D) (ρ0 : EnvD) : List D → ER (List D)
  | [] => .ok []
  | d :: ds => match bindP p d ρ0 with
    | none => .no
    | some ρ1 => match t ρ1 with
      | .ok true => (match m ρ1 with
        | .ok x => (lcM p t m ρ0 ds).bind fun xs => .ok (x :: xs)
        | _ => .no)
      | .ok false => lcM p t m ρ0 ds
      | _ => .no
def eLc (p : Pat) (vs : List Nat) (it : EnvD → ER (List D)) (t : EnvD → ER Bool) (m : EnvD → ER D) : EnvD → ER (List D) := fun ρ => (it ρ).bind fun ds => if ds.length ≤ 1000000 then lcM p t m (wipeR ρ vs) ds else .no
def tTrue : EnvD → ER Bool := fun _ => .ok true
theorem lcM_no_ex {p : Pat} {t : EnvD → ER Bool} {m : EnvD → ER D} {ρ0 : EnvD} {x : EX} : ∀ {ds : List D}, lcM p t m ρ0 ds ≠ .ex x
  | [], h => by cases h
  | d :: ds, h => by
    unfold lcM at h
    split at h
    · cases h
    · split at h
      · split at h
        · cases e : lcM p t m ρ0 ds with
          | ok _ => rw [e] at h; cases h
          | ex y => exact lcM_no_ex e
          | no => rw [e] at h; cases h
        · cases h
      · exact lcM_no_ex h
      · cases h
/-- the tests of a comprehension -/
abbrev DTs (X : Cx) (M : List Nat) (ifs : List Expr) (m : EnvD → ER Bool) : Prop := PTs X ifs (TTm X.K X.mg W0 M m)
theorem pts_weak {X : Cx} {ifs : List Expr} {t t' : TT} (h : PTs X ifs t) (w : ∀ σ H Q, t' σ H Q → t σ H Q) : PTs X ifs t' := ⟨fun pins s σ H Q I q => h.run pins s σ H Q I (w σ H Q q)⟩
theorem dts_nil : DTs X M [] tTrue := pts_weak pts_nil fun σ H Q ⟨F, ρ, sF, r, q⟩ => q true H F (Grow.refl sF) rfl
theorem dts_one {c : Expr} {mc : EnvD → ER Bool} (h : DT X W0 M c mc) : DTs X M [c] mc := pts_one h
theorem lcM_len {p : Pat} {t : EnvD → ER Bool} {m : EnvD → ER D} {ρ0 : EnvD} : ∀ {ds xs : List D}, lcM p t m ρ0 ds = .ok xs → xs.length ≤ ds.length
  | [], xs, h => by cases h; exact Nat.le_refl _
  | d :: ds, xs, h => by
    unfold lcM at h
    split at h
    · cases h
    · split at h
      · split at h
        · cases e : lcM p t m ρ0 ds with
          | ok ys =>
            rw [e] at h
            cases h
            have := lcM_len e
            simp only [List.length_cons]
            omega
          | ex y => rw [e] at h; cases h
          | no => rw [e] at h; cases h
        · cases h
      · have := lcM_len h
        simp only [List.length_cons]
        omega
      · cases h
theorem size_ok {n : Nat} (h : n ≤ 1000000) : n < sizeLine := by
  rw [sizeLine_eq]
  exact Nat.lt_of_le_of_lt h (by decide)
theorem lc_sem {p : Pat} {vs : List Nat} {it : EnvD → ER (List D)} {t : EnvD → ER Bool} {m : EnvD → ER D} (hp : ∀ j ∈ slotsP p, j ∈ vs) {σ : L2.St} {H : Hp} {Q : VK} (h : TNm X.K X.mg W M (eLc p vs it t m) σ H Q) : tLc (TIm X.K X.mg W M it) (TGm X.K M p) (TTm X.K X.mg W0 M t) (TEm X.K X.mg W0 M m) vs σ H Q := by
  obtain ⟨F, ρ, sF, r, q⟩ := h
  refine ⟨F, ρ, sF, r, ?_⟩
  unfold eLc at q
  cases ei : it ρ with
  | no => rw [ei] at q; exact q
  | ex x => rw [ei] at q; exact q
  | ok ds =>
    rw [ei] at q
    intro J H1 F1 g1 wk D hD
    by_cases hz : ds.length ≤ 1000000
    · have q' := q
      simp only [ER.bind, if_pos hz] at q'
      cases el : lcM p t m (wipeR ρ vs) ds with
      | no => rw [el] at q'; exact q'.elim
      | ex x => exact absurd el lcM_no_ex
      | ok zs =>
        rw [el] at q'
        have q2 : ∀ a vs H' F', Grow H F H' F' → H a = none → F' a = none → H' a = some (.lst vs) → DpAll X.K F' vs zs → Q (.ref a) H' := q'
        have hzl := lcM_len el
        refine ⟨fun i n H' => n = ds.length - i ∧ ∃ F' acc xs rest, Grow H1 F1 H' F' ∧ F' D = none ∧ H' D = some (.lst acc) ∧ DpAll X.K F' acc xs ∧ lcM p t m (wipeR ρ vs) (ds.drop i) = .ok rest ∧ zs = xs ++ rest, ⟨ds.length, by simp, F1, [], [], zs, Grow.newH g1.sub hD, g1.sub.free hD, upd_same, .nil, by simpa using el, rfl⟩, ?_⟩
        rintro i n H' ⟨rfl, F', acc, xs, rest, gr, fD, hD', dacc, erest, ez⟩
        obtain ⟨stop, go⟩ := wk i H' F' gr.f gr.sub
        by_cases hlt : i < ds.length
        · obtain ⟨g2, g3⟩ := go _ (List.getElem?_eq_getElem hlt)
          refine .inr ⟨g2, fun H'' => ∃ F' acc xs rest, Grow H1 F1 H'' F' ∧ F' D = none ∧ H'' D = some (.lst acc) ∧ DpAll X.K F' acc xs ∧ lcM p t m (wipeR ρ vs) (ds.drop (i + 1)) = .ok rest ∧ zs = xs ++ rest, fun H'' h => ⟨ds.length - (i + 1), by omega, rfl, h⟩, fun x H2 y => ?_⟩
          obtain ⟨F2, gr2, dx⟩ := g3 x H2 y
          have gr12 := gr.trans gr2
          have fD2 : F2 D = none := gr2.old D (by rw [hD']; exact fun z => nomatch z) fD
          have hD2 := gr2.h _ _ hD'
          rw [List.drop_eq_getElem_cons hlt] at erest
          unfold lcM at erest
          cases eb : bindP p ds[i] (wipeR ρ vs) with
          | none => rw [eb] at erest; cases erest
          | some ρ1 =>
            rw [eb] at erest
            dsimp only at erest
            have r2 : RepF X.K M F2 (wipe σ vs) (wipeR ρ vs) := rep_wipe (r.mono (g1.f.trans gr12.f))
            · have hlen := r.len
              refine ⟨F2, ds[i], _, ρ1, gr2.sub, dx, r2, by rw [wipeR_len, wipe_len']; exact hlen, eb, fun σ' kp => ⟨?_, ?_⟩⟩
              · rw [← wipe_eq (σ1 := σ') (σ2 := σ) (by rw [kp.sl, wipe_len']) fun j hj => by rw [kp.chg j (fun z => hj (hp j z)), wipe_out hj]]
              · refine ⟨F2, ρ1, gr2.sub, kp.rep, ?_⟩
                cases et : t ρ1 with
                | no => rw [et] at erest; cases erest
                | ex _ => rw [et] at erest; cases erest
                | ok c =>
                  rw [et] at erest
                  intro c' H3 F3 g3' ec
                  subst ec
                  cases c' with
                  | false =>
                    rw [if_neg Bool.false_ne_true]
                    have gr3 := gr12.trans g3'
                    exact ⟨F3, acc, xs, rest, gr3, g3'.old D (by rw [hD2]; exact fun z => nomatch z) fD2, g3'.h _ _ hD2, dpAll_mono (gr2.f.trans g3'.f) _ _ dacc, erest, ez⟩
                  | true =>
                    rw [if_pos rfl]
                    dsimp only at erest
                    refine ⟨F3, ρ1, g3'.sub, kp.rep.mono g3'.f, ?_⟩
                    cases em : m ρ1 with
                    | no => rw [em] at erest; cases erest
                    | ex _ => rw [em] at erest; cases erest
                    | ok y =>
                      rw [em] at erest
                      dsimp only at erest
                      intro v H4 F4 g4 dv
                      cases er : lcM p t m (wipeR ρ vs) (ds.drop (i + 1)) with
                      | no => rw [er] at erest; cases erest
                      | ex _ => rw [er] at erest; cases erest
                      | ok rest' =>
                        rw [er] at erest
                        cases erest
                        have gr4 := (gr12.trans g3').trans g4
                        have fD3 := g3'.old D (by rw [hD2]; exact fun z => nomatch z) fD2
                        have hD3 := g3'.h _ _ hD2
                        have fD4 := g4.old D (by rw [hD3]; exact fun z => nomatch z) fD3
                        have hD4 := g4.h _ _ hD3
                        have hacc : acc.length = xs.length := dpAll_len dacc
                        refine ⟨acc, hD4, size_ok ?_, F4, acc ++ [v], xs ++ [y], rest', ⟨fun b o e => ?_, gr4.f, fun b o e => ?_, gr4.old⟩, fD4, upd_same, dpAll_append (dpAll_mono ((gr2.f.trans g3'.f).trans g4.f) _ _ dacc) (.cons dv .nil), rfl, by rw [ez, List.append_assoc]; rfl⟩
                        · have : xs.length ≤ zs.length := by rw [ez]; simp
                          omega
                        · rw [upd_ne (fun z => by rw [z, hD] at e; cases e)]
                          exact gr4.h _ _ e
                        · rw [upd_ne (fun z => by rw [z, fD4] at e; cases e)]
                          exact gr4.sub _ _ e
        · refine .inl ⟨stop (by omega), ?_⟩
          rw [List.drop_of_length_le (by omega)] at erest
          cases erest
          rw [List.append_nil] at ez
          subst ez
          exact q2 D acc H' F' (g1.trans gr) (g1.h.free hD) fD hD' dacc
    · simp only [ER.bind, if_neg hz] at q

theorem dn_lc {elt tg iter : Expr} {ifs : List Expr} {scope : Scope} {own : List (Str × Nat)} {p : Pat} {vs : List Nat} {it : EnvD → ER (List D)} {t : EnvD → ER Bool} {m : EnvD → ER D} (C : CB X W k) (hi : DI X W M tg iter it) (ok : blkC X.N X.env.scope scope own = true) (hv : vs = own.map (·.2)) (hp : ∀ j ∈ slotsP p, j ∈ vs)
    (hb : ∀ (s : Shared) (H : Hp) (C' : Addr) (cl : List (Str × Addr)) (fp : List Addr), CB (X.blk s H scope (compEnvC scope cl C' X.env) fp) W0 k →
      DG (X.blk s H scope (compEnvC scope cl C' X.env) fp) M tg p ∧ DTs (X.blk s H scope (compEnvC scope cl C' X.env) fp) M ifs t ∧ DE (X.blk s H scope (compEnvC scope cl C' X.env) fp) W0 M elt m)
    (hs : ∀ x, foldedSetIterable iter X.env x = pure x := by intro _; rfl) : DN X W M (.ListComp elt [⟨tg, iter, ifs, 0⟩] scope pos) (eLc p vs it t m) := by
  have cb : ∀ (s : Shared) (H : Hp) (C' : Addr) (cl : List (Str × Addr)) (fp : List Addr), CB (X.blk s H scope (compEnvC scope cl C' X.env) fp) W0 k := fun s H C' cl fp => ⟨C.calm, C.nd, takes0, PassesOwn.never, C.room, C.gd⟩
  subst hv
  exact pe_weak (pe_lc (own := own) (g := TGm X.K M p) (tt := TTm X.K X.mg W0 M t) (te := TEm X.K X.mg W0 M m) C.calm C.nd hi (blkOk_by ok) (fun s H C' cl fp => (hb s H C' cl fp (cb s H C' cl fp)).1) (fun s H C' cl fp => (hb s H C' cl fp (cb s H C' cl fp)).2.1) (fun s H C' cl fp => (hb s H C' cl fp (cb s H C' cl fp)).2.2) hs) fun σ H Q h => lc_sem hp h
/-- name = [..], where the model stores it within the comprehension -/
theorem d1_newLc {y : Str} {py spos : Pos} {elt tg iter : Expr} {ifs : List Expr} {scope : Scope} {own : List (Str × Nat)} {p : Pat} {vs : List Nat} {it : EnvD → ER (List D)} {t : EnvD → ER Bool} {m : EnvD → ER D} (C : CB X W k) (hy : X.N[i]? = some y) (hyl : X.env.scope.names.lookup y = some .local)
    (hsw : swapsWith (.ListComp elt [⟨tg, iter, ifs, 0⟩] scope pos) (some (.Name y py)) spos.line X.env = pure true) (hM : M' = i :: M.filter (· != i)) (hi : DI X W M tg iter it) (ok : blkC X.N X.env.scope scope own = true) (hv : vs = own.map (·.2)) (hp : ∀ j ∈ slotsP p, j ∈ vs)
    (hb : ∀ (s : Shared) (H : Hp) (C' : Addr) (cl : List (Str × Addr)) (fp : List Addr), CB (X.blk s H scope (compEnvC scope cl C' X.env) fp) W0 k →
      DG (X.blk s H scope (compEnvC scope cl C' X.env) fp) M tg p ∧ DTs (X.blk s H scope (compEnvC scope cl C' X.env) fp) M ifs t ∧ DE (X.blk s H scope (compEnvC scope cl C' X.env) fp) W0 M elt m)
    (hs : ∀ x, foldedSetIterable iter X.env x = pure x := by intro _; rfl) (hr : J.r = .own → i ≠ 0 := by intro h; first | decide | cases h) : D1 X W J M M' (.Assign [.Name y py] (.ListComp elt [⟨tg, iter, ifs, 0⟩] scope pos) spos) (sNew i (eLc p vs it t m)) := by
  have cb : ∀ (s : Shared) (H : Hp) (C' : Addr) (cl : List (Str × Addr)) (fp : List Addr), CB (X.blk s H scope (compEnvC scope cl C' X.env) fp) W0 k := fun s H C' cl fp => ⟨C.calm, C.nd, takes0, PassesOwn.never, C.room, C.gd⟩
  subst hv
  refine ⟨fun pins s σ H D I h => ?_⟩
  refine (ps_setLc (own := own) (g := TGm X.K M p) (tt := TTm X.K X.mg W0 M t) (te := TEm X.K X.mg W0 M m) C.calm C.nd hy hyl hsw hi (blkOk_by ok) (fun s H C' cl fp => (hb s H C' cl fp (cb s H C' cl fp)).1) (fun s H C' cl fp => (hb s H C' cl fp (cb s H C' cl fp)).2.1) (fun s H C' cl fp => (hb s H C' cl fp (cb s H C' cl fp)).2.2) hs).run pins s σ H D I ?_
  obtain ⟨H0, F0, F, ρ, s5, q⟩ := h
  have hl : i < ρ.length := by
    rw [s5.len, I.len]
    exact (List.getElem?_eq_some_iff.mp hy).1
  refine lc_sem (X := X) (W := W) (Q := fun x H1 => gName i x σ H1 D.nx) hp ⟨F, ρ, s5.grow.sub, s5.val, ?_⟩
  unfold sNew at q
  generalize eLc p (own.map (·.2)) it t m ρ = r at q ⊢
  cases r with
  | ok ds =>
    intro a vs H' F' g ha fa ha' dv
    subst hM
    refine q _ _ _ ((s5.expr g).setNew hr hl (s5.grow.h.free ha) fa ha' dv fun j hj z => ?_)
    obtain ⟨a2, _, _, e1, _, _, _, e5, _⟩ := s5.own j hj
    rw [z] at e1
    cases e1
    rw [ha] at e5
    cases e5
  | ex x =>
    intro c dc H1 F1 g ix
    obtain ⟨F', sF, s', _⟩ := (s5.expr g).freeze (M' := []) (by simp)
    exact q c dc σ H1 F' s' (ix.mono (Same.refl _) sF)
  | no => exact q
/-! ### exceptions -/
/-- an own exception class without __init__ -/
def ExcOk (K : PySem.W.Frag) (mg : Str → Option Value) (x : Str) : Prop := ∃ C, mg x = some (.ref C) ∧ PySem.W.excIn K C [.type "ValueError", .type "Exception", .type "BaseException", .type "object"] "ValueError.__new__" = true ∧ PySem.W.keepIn K (.ref C) = true ∧ PySem.W.subIn K (.ref C) (.type "BaseException") = some true ∧ PySem.W.typeIn K (.ref C) = some (.type "type")
def sRaise (x : Str) : EnvD → SR := fun ρ => .ex ⟨x, []⟩ ρ
theorem d1_raise {msg : Str} {j : Nat} (C : CB X W k) (c : ExcOk X.K X.mg x) (hg : Gl X x := by rfl) (hdb : (x == ("__debug__" : Str)) = false := by decide) : D1 X W J M Mn (.Raise (some (.Call (.Name x p1) [.Constant (.str msg) j p2] [] p3)) none pos) (sRaise x) := by
  obtain ⟨A, gC, xC, kC, bC, tC⟩ := c
  exact ps_weak (ps_raise C.calm C.tk (pmk_own PySem.F.excBase_ValueError xC gC kC (raises_own bC tC) hg hdb)) fun D σ H ⟨H0, F0, F, ρ, s, q⟩ => by
    obtain ⟨F', sF, s', _⟩ := s.freeze (M' := []) (by simp)
    exact q _ _ σ H F' s' ⟨⟨A, rfl, gC⟩, .inl ⟨rfl, rfl⟩⟩
/-- which classes a clause takes, by names: each class that may come -/
def Catch (K : PySem.W.Frag) (mg : Str → Option Value) (h : Str) (f : Str → Option Bool) : Prop := ∃ Ch, mg h = some (.ref Ch) ∧ ∀ x b, f x = some b → ∀ C, mg x = some (.ref C) → PySem.W.exmOne K (.ref C) (.ref Ch) = some b
def sTry (m : EnvD → SR) (f : Str → Option Bool) (h : EX → EnvD → SR) : EnvD → SR := fun ρ => match m ρ with
  | .ex x ρ1 => (match f x.cls with
    | some true => (match h x ρ1 with
      | .ex _ _ => .no
      | r => r)
    | some false => .ex x ρ1
    | none => .no)
  | r => r
/-- try: .. except X: suite, the suite without the error -/
theorem d1_try {body suite : List Stmt} {b₀ : Stmt} {m : EnvD → SR} {f : Str → Option Bool} {h : Str} {mh : EX → EnvD → SR} {np pos' : Pos} (C : CB X W k) (hst : X.stack = X.env :: X.outer) (hfr : X.env.frame = some X.env.locals) (c : Catch X.K X.mg h f) (hg : Gl X h) 
    (hb : ∀ (W' : WX) (pn : List (Addr × Obj)) (xe : Value → Shared → Prop), CB (X.tr pn xe) W' k → DS (X.tr pn xe) W' J M Mn body m)
    (hsu : ∀ (x : EX) (a : Addr) (pn : List (Addr × Obj)), DS (X.suite a pn) W0 J [] Mn (b₀ :: suite) (mh x)) (hdb : (h == ("__debug__" : Str)) = false := by decide) :
    D1 X W J M Mn (.Try body [.ExceptHandler (some (.Name h np)) none (b₀ :: suite) pos'] [] [] pos) (sTry m f mh) := by
  obtain ⟨Ch, hm, hc⟩ := c
  refine ps_weak (ps_try_only (tb := fun W' => TSm X.K X.mg W' J M Mn m) (ts := fun a cls d => fun D σ H => ∃ x : EX, (∃ C, cls = .ref C ∧ X.mg x.cls = some (.ref C)) ∧ TSm X.K X.mg W0 J [] Mn (mh x) D σ H) hst hfr ⟨hg, hdb, .inl hm⟩ C.tk (fun W' pn xe tk po => hb W' pn xe ⟨C.calm, C.nd, tk, po, C.room, C.gd⟩) (fun a oe cls d pn hz hv => ⟨fun pins s σ H D I ⟨x, _, q⟩ => (hsu x a _).run pins s σ H D I q⟩)) fun D σ H h => ?_
  obtain ⟨H0, F0, F, ρ, s, q⟩ := h
  refine ⟨H0, F0, F, ρ, s, ?_⟩
  unfold sTry at q
  cases em : m ρ with
  | ex x ρ1 =>
    rw [em] at q
    intro cc dc σ1 H1 F1 s1 ix
    obtain ⟨⟨A, ec, gC⟩, _⟩ := id ix
    subst ec
    dsimp only at q
    cases ef : f x.cls with
    | none => rw [ef] at q; exact q.elim
    | some b =>
      rw [ef] at q
      refine ⟨b, hc _ _ ef _ gC, fun eb a ha => ?_, fun eb => ?_⟩
      · subst eb
        refine ⟨x, ⟨A, rfl, gC⟩, H0, F0, F1, ρ1, s1, ?_⟩
        cases eh : mh x ρ1 with
        | ex y ρ2 => rw [eh] at q; exact q.elim
        | nx ρ2 => rw [eh] at q; exact q
        | ret d => rw [eh] at q; exact q
        | brk ρ2 => rw [eh] at q; exact q
        | cont ρ2 => rw [eh] at q; exact q
        | no => rw [eh] at q; exact q
      · subst eb
        exact q _ dc σ1 H1 F1 s1 ix
  | nx ρ2 => rw [em] at q; exact q
  | ret d => rw [em] at q; exact q
  | brk ρ2 => rw [em] at q; exact q
  | cont ρ2 => rw [em] at q; exact q
  | no => rw [em] at q; exact q
/-! an error that is asked by isinstance -/
def tXB (i : Nat) (a : Addr) (b : Bool) : TE := fun σ H Q => σ[i]? = some (some (.ref a)) ∧ Q (.bl b) H
def XB (X : Cx) (i : Nat) (a : Addr) (oe : Obj) (pn : List (Addr × Obj)) (xn : Str) (e : Expr) (G : Str → Option Bool) : Prop := ∀ b, G xn = some b → PE (X.suite a ((a, oe) :: pn)) e (tXB i a b)
/-- isinstance(error, T): T's value, and the answer for each class that may come -/
def IsiT (K : PySem.W.Frag) (mg : Str → Option Value) (T : Str) (g : Str → Option Bool) : Prop := ∃ (v : V) (cv : Value), ((mg T = some cv) ∨ (mg T = none ∧ bootBuiltins T = some cv ∧ T ≠ "__name__")) ∧ RelV v cv ∧ (∀ u, RelV v u → u = cv) ∧ ∀ x b, g x = some b → ∀ C, mg x = some (.ref C) → PySem.W.kitOne K (.ref C) cv = some b ∧ ExcC K C
theorem xb_isi {T en xn : Str} {g : Str → Option Bool} {Dc : Addr} {oe : Obj} {pn : List (Addr × Obj)} {a : Addr} (c : IsiT X.K X.mg T g) (hD : X.mg xn = some (.ref Dc)) (hz : Zc (.ref Dc) none oe) (hf : ∃ vs, oe.data = .fields vs) (hm : X.mg "isinstance" = none) (hN : X.N[i]? = some en) (hv : Vis X.env.scope en) (hgT : Gl X T := by rfl) (hg : Gl X "isinstance" := by rfl)
    (hd : (en == ("__debug__" : Str)) = false := by decide) (hcd : (en == ("__classdict__" : Str)) = false := by decide) (hTd : (T == ("__debug__" : Str)) = false := by decide) 
    (hs1 : starEach [.Name en p2, .Name T p3] X.env = (false, eval (.Name en p2) X.env) :: starEach [.Name T p3] X.env := by rfl) (hs2 : starEach [.Name T p3] X.env = (false, eval (.Name T p3) X.env) :: starEach [] X.env := by rfl) (hpl : (backTo pos (starEach [.Name T p3] X.env)).any (·.1) = false := by rfl) :
    XB X i a oe pn xn (.Call (.Name "isinstance" p1) [.Name en p2, .Name T p3] [] pos) g := fun b hb => by
  obtain ⟨v, cv, hT, rv, uv, tbl⟩ := c
  obtain ⟨h1, h2⟩ := tbl xn b hb Dc hD
  have pT : PE (X.suite a ((a, oe) :: pn)) (.Name T p3) (tC v) := by
    rcases hT with hT | ⟨hT, hb, hn⟩
    · exact pe_glob (X := X.suite a ((a, oe) :: pn)) hgT hT rv hTd
    · exact pe_bltn (X := X.suite a ((a, oe) :: pn)) hgT hT hb rv hn hTd
  refine pe_weak (pe_callB (X := X.suite a ((a, oe) :: pn)) (call_isE h2 hz hf) hg hm (by decide +kernel) (pa_cons (pe_var hN hv hd hcd) (pa_cons pT pa_nil hs2) hs1) (by decide) (by decide) hs1 hpl) fun σ H Q h => ?_
  obtain ⟨e1, q⟩ := h
  exact ⟨_, e1, v, cv, b, rfl, uv, h1, q⟩
theorem xb_one {op} {xn : Str} {g : Str → Option Bool} {oe : Obj} {pn : List (Addr × Obj)} {a : Addr} (h : XB X i a oe pn xn e g) : XB X i a oe pn xn (.BoolOp op [e] pos) g := fun b hb => pe_one (h b hb)
def gAnd (g g' : Str → Option Bool) : Str → Option Bool := fun n => match g n with
  | some true => g' n
  | some false => some false
  | none => none
theorem xb_and {e2 : Expr} {xn : Str} {g g' : Str → Option Bool} {oe : Obj} {pn : List (Addr × Obj)} {a : Addr} (h : XB X i a oe pn xn e g) (h' : XB X i a oe pn xn (.BoolOp .And (e2 :: es) pos) g') : XB X i a oe pn xn (.BoolOp .And (e :: e2 :: es) pos) (gAnd g g') := fun b hb => by
  unfold gAnd at hb
  cases e1 : g xn with
  | none => rw [e1] at hb; cases hb
  | some c =>
    rw [e1] at hb
    cases c with
    | true => 
      refine pe_weak (pe_and (h true e1) (h' b hb)) fun σ H Q q => ⟨q.1, true, rfl, ?_⟩
      rw [if_pos rfl]
      exact q
    | false =>
      cases hb
      refine ⟨fun pins s σ H Q I q => ?_⟩
      refine BoolOp_and (thn ((h false e1).run pins s σ H (fun v H1 => v = .bl false ∧ Q (.bl false) H1) I ⟨q.1, rfl, q.2⟩) fun v s1 ⟨x, H1, I1, r1, ex, q1⟩ => ?_)
      subst ex
      cases r1
      exact wpAny_truthy_bool ⟨.bl false, H1, I1, rfl, q1⟩
theorem xb_not {xn : Str} {g : Str → Option Bool} {oe : Obj} {pn : List (Addr × Obj)} {a : Addr} (h : XB X i a oe pn xn e g) : XB X i a oe pn xn (.UnaryOp .Not e pos) (fun n => (g n).map not) := fun b hb => by
  dsimp only at hb
  cases e1 : g xn with
  | none => rw [e1] at hb; cases hb
  | some c =>
    rw [e1] at hb
    cases hb
    exact pe_weak (pe_not (h c e1)) fun σ H Q q => ⟨q.1, c, rfl, q.2⟩
/-- what a clause that asks its error gives back -/
def hB (i : Nat) (g : Str → Option Bool) : EX → EnvD → SR := fun x ρ => match x.fs with
  | [] => (match g x.cls with
    | some b => if i < ρ.length then .ret (.bool b) else .no
    | none => .no)
  | _ => .no
theorem d1_tryB {body : List Stmt} {m : EnvD → SR} {f g : Str → Option Bool} {h n : Str} {np pos' rp : Pos} (C : CB X W k) (hst : X.stack = X.env :: X.outer) (hfr : X.env.frame = some X.env.locals) (hi : X.N[i]? = some n) (hln : X.env.kindOf n = some .local) (c : Catch X.K X.mg h f) (hg : Gl X h)
    (hb : ∀ (W' : WX) (pn : List (Addr × Obj)) (xe : Value → Shared → Prop), CB (X.tr pn xe) W' k → DS (X.tr pn xe) W' J M Mn body m)
    (hsu : ∀ (xn : Str) (Dc a : Addr) (oe : Obj) (pn : List (Addr × Obj)), X.mg xn = some (.ref Dc) → Zc (.ref Dc) none oe → (∃ vs, oe.data = .fields vs) → XB X i a oe pn xn e g) (hdb : (h == ("__debug__" : Str)) = false := by decide) (hr : J.r = .val := by rfl) :
    D1 X W J M Mn (.Try body [.ExceptHandler (some (.Name h np)) (some n) [.Return (some e) rp] pos'] [] [] pos) (sTry m f (hB i g)) := by
  obtain ⟨Ch, hm, hc⟩ := c
  refine ps_weak (ps_try_as (tb := fun W' => TSm X.K X.mg W' J M Mn m) (ts := fun a cls d => fun D σ H => ∃ (xn : Str) (Dc : Addr) (b : Bool), cls = .ref Dc ∧ d = none ∧ X.mg xn = some (.ref Dc) ∧ g xn = some b ∧ σ[i]? = some (some (.ref a)) ∧ D.rt (.bl b) H) hst hfr C.nd hi hln ⟨hg, hdb, .inl hm⟩ C.tk (fun W' pn xe tk po => hb W' pn xe ⟨C.calm, C.nd, tk, po, C.room, C.gd⟩) (fun a oe cls d pn hz hv => ⟨fun pins s σ H D I hh => ?_⟩)) fun D σ H h => ?_
  · obtain ⟨xn, Dc, b, rfl, rfl, h1, h2, h3, h4⟩ := hh
    exact (pss_one (ps_ret (hsu xn Dc a oe pn h1 hz hv b h2))).run pins s σ H D I ⟨h3, h4⟩
  · obtain ⟨H0, F0, F, ρ, s, q⟩ := h
    refine ⟨H0, F0, F, ρ, s, ?_⟩
    unfold sTry at q
    cases em : m ρ with
    | ex x ρ1 =>
      rw [em] at q
      intro cc dc σ1 H1 F1 s1 ix
      obtain ⟨⟨A, ec, gC⟩, ifs⟩ := id ix
      subst ec
      dsimp only at q
      cases ef : f x.cls with
      | none => rw [ef] at q; exact q.elim
      | some b =>
        rw [ef] at q
        refine ⟨b, hc _ _ ef _ gC, fun eb a ha => ?_, fun eb => ?_⟩
        · subst eb
          unfold hB at q
          cases efs : x.fs with
          | cons z zs => rw [efs] at q; exact q.elim
          | nil =>
            rw [efs] at q
            dsimp only at q
            cases eg : g x.cls with
            | none => rw [eg] at q; exact q.elim
            | some bb =>
              rw [eg] at q
              dsimp only at q
              by_cases hl : i < ρ1.length
              · rw [if_pos hl] at q
                rcases ifs with ⟨_, ed⟩ | ⟨e0, _⟩
                · exact ⟨x.cls, A, bb, rfl, ed, gC, eg, set_at (by rw [← s1.len]; exact hl), retS_val hr q _ H1 F1 s1.grow (.bl _)⟩
                · exact absurd efs e0
              · rw [if_neg hl] at q
                exact q.elim
        · subst eb
          exact q _ dc σ1 H1 F1 s1 ix
    | nx ρ2 => rw [em] at q; exact q
    | ret d => rw [em] at q; exact q
    | brk ρ2 => rw [em] at q; exact q
    | cont ρ2 => rw [em] at q; exact q
    | no => rw [em] at q; exact q
end
end Z

namespace Z
open PySem PySem.Spec PyProof.Rows L2
theorem vis_free {sc : Scope} {x : Str} (h : (sc.names.lookup x == some .free) = true) : Vis sc x := .inr (.inr (by simpa using h))
theorem bt_len : bootBuiltins "len" = some (.builtin "len") := by decide +kernel
theorem bt_abs : bootBuiltins "abs" = some (.builtin "abs") := by decide +kernel
theorem bt_max : bootBuiltins "max" = some (.builtin "max") := by decide +kernel
theorem bt_min : bootBuiltins "min" = some (.builtin "min") := by decide +kernel
theorem bt_sorted : bootBuiltins "sorted" = some (.builtin "sorted") := by decide +kernel
theorem bt_sum : bootBuiltins "sum" = some (.builtin "sum") := by decide +kernel
theorem bt_isinstance : bootBuiltins "isinstance" = some (.builtin "isinstance") := by decide +kernel
theorem bt_int : bootBuiltins "int" = some (.type "int") := by decide +kernel
theorem bt_bool : bootBuiltins "bool" = some (.type "bool") := by decide +kernel
theorem bt_str : bootBuiltins "str" = some (.type "str") := by decide +kernel
theorem bt_tuple : bootBuiltins "tuple" = some (.type "tuple") := by decide +kernel
theorem bt_list : bootBuiltins "list" = some (.type "list") := by decide +kernel
theorem bt_dict : bootBuiltins "dict" = some (.type "dict") := by decide +kernel
section
variable {X : Cx} {W : WX} {J : Js} {M Mn M1 M' : List Nat} {pos p1 p2 p3 : Pos} {e a b c : Expr} {es : List Expr} {me ma mb mc : EnvD → ER D} {k : Nat} {x : Str} {i : Nat}
/-- a < b < c -/
def eCh (f g : D → D → Option D) (a b c : EnvD → ER D) : EnvD → ER D := fun ρ => (a ρ).bind fun x => (b ρ).bind fun y => (optE ((f x y).bind isBool)).bind fun q => if q = true then (c ρ).bind fun z => optE (g y z) else .ok (.bool false)
theorem okO_bool {K : PySem.W.Frag} {H F : Hp} {Q : VK} {o : Option D} {q : Bool} (s : Same F H) (e : o.bind isBool = some q) (h : Q (.bl q) H) (hQ : ∀ H' F', Grow H F H' F' → Q (.bl q) H') : okO K H F Q o := by
  cases o with
  | none => cases e
  | some z => exact fun v H' F' g dv => by rw [isBool_dp dv e]; exact hQ H' F' g
theorem de_chain {op op' : CmpOp} {f g : D → D → Option D} (ho : OpR X (compareOp op) (rD X.K f)) (ho' : OpR X (compareOp op') (rD X.K g)) (ha : DE X W M a ma) (hb : DE X W M b mb) (hc : DE X W M c mc) (hm : lastMarks [op, op'] [b, c] = false := by with_unfolding_all rfl) :
    DE X W M (.Compare a [op, op'] [b, c] pos) (eCh f g ma mb mc) :=
  pe_weak (pe_chain ho ho' ha hb hc hm) fun σ H Q ⟨F, ρ, sF, r, q⟩ => ⟨F, ρ, sF, r, ok_bind r q fun v H1 F1 x g1 r1 dx q1 => ⟨F1, ρ, g1.sub, r1, ok_bind r1 q1 fun u H2 F2 y g2 r2 dy q2 => by
    obtain ⟨t, et, q3⟩ := okE_opt q2
    refine ⟨F2, x, y, g2.sub, dp_mono g2.f _ _ dx, dy, ?_⟩
    cases ef : f x y with
    | none => rw [ef] at et; cases et
    | some z =>
      rw [ef] at et
      intro v' H3 F3 g3 dz
      refine ⟨t, isBool_dp dz et, ?_⟩
      cases t with
      | false =>
        rw [if_neg Bool.false_ne_true] at q3 ⊢
        exact q3 _ _ _ g3 (.bl _)
      | true =>
        rw [if_pos rfl] at q3 ⊢
        have r3 := r2.mono g3.f
        exact ⟨F3, ρ, g3.sub, r3, ok_bind r3 (okE.grow q3 g3) fun w H4 F4 zz g4 r4 dzz q4 => ⟨F4, y, zz, g4.sub, dp_mono (g3.f.trans g4.f) _ _ dy, dzz, okO_of q4⟩⟩⟩⟩
theorem dt_of {e : Expr} {m : EnvD → ER D} {t : TE} (h : PT X e (tTest t)) (hw : ∀ σ H Q, TEm X.K X.mg W M m σ H Q → t σ H Q) : DT X W M e (tV isBool m) :=
  pt_weak h fun σ H Q ⟨F, ρ, sF, r, q⟩ => hw σ H _ ⟨F, ρ, sF, r, ok_bind r q fun v H1 F1 x g r1 dx q1 => by
    obtain ⟨c, ec, q2⟩ := okE_opt' q1
    exact ⟨c, isBool_dp dx ec, q2 c _ _ (Grow.refl g.sub) rfl⟩⟩
theorem dt_chain {op op' : CmpOp} {f g : D → D → Option D} (ho : OpR X (compareOp op) (rD X.K f)) (ho' : OpR X (compareOp op') (rD X.K g)) (ha : DE X W M a ma) (hb : DE X W M b mb) (hc : DE X W M c mc) (hm : lastMarks [op, op'] [b, c] = false := by with_unfolding_all rfl) :
    DT X W M (.Compare a [op, op'] [b, c] pos) (tV isBool (eCh f g ma mb mc)) :=
  dt_of (pt_chain ho ho' ha hb hc hm) fun σ H Q ⟨F, ρ, sF, r, q⟩ => ⟨F, ρ, sF, r, ok_bind r q fun v H1 F1 x g1 r1 dx q1 => ⟨F1, ρ, g1.sub, r1, ok_bind r1 q1 fun u H2 F2 y g2 r2 dy q2 => by
    obtain ⟨t, et, q3⟩ := okE_opt q2
    refine ⟨F2, x, y, g2.sub, dp_mono g2.f _ _ dx, dy, ?_⟩
    cases ef : f x y with
    | none => rw [ef] at et; cases et
    | some z =>
      rw [ef] at et
      intro v' H3 F3 g3 dz
      refine ⟨t, isBool_dp dz et, ?_⟩
      cases t with
      | false =>
        rw [if_neg Bool.false_ne_true] at q3 ⊢
        exact q3 _ _ _ g3 (.bl _)
      | true =>
        rw [if_pos rfl] at q3 ⊢
        have r3 := r2.mono g3.f
        exact ⟨F3, ρ, g3.sub, r3, ok_bind r3 (okE.grow q3 g3) fun w H4 F4 zz g4 r4 dzz q4 => ⟨F4, y, zz, g4.sub, dp_mono (g3.f.trans g4.f) _ _ dy, dzz, okO_of q4⟩⟩⟩⟩
/-! name op= e, whole numbers -/
def addI : Int → Int → Int := fun i j => i + j
def subI : Int → Int → Int := fun i j => i - j
def sAug (f : Int → Int → Int) (i : Nat) (m : EnvD → ER D) : EnvD → SR := fun ρ => SR.ofE ((eN i ρ).bind fun x => (optE (isInt x)).bind fun n => (m ρ).bind fun y => (optE (isInt y)).bind fun q => .ok (PyData.int (f n q))) ρ fun d => .nx (ρ.set i (some d))
theorem d1_aug {op : Operator} {f : Int → Int → Int} (hp : PIp X op (ipI f)) (hM : i ∉ M) (hN : X.N.Nodup) (hi : X.N[i]? = some x) (hx : Loc X.env.scope x) (he : DE X W M e me) (hf : X.fn x = true ∨ X.env.scope.names.lookup x = some .local := by first | exact .inl rfl | exact .inr rfl | assumption)  (hd : (x == ("__debug__" : Str)) = false := by decide) (hcd : (x == ("__classdict__" : Str)) = false := by decide) :
    D1 X W J M M (.AugAssign (.Name x p1) op e pos) (sAug f i me) := by
  refine ps_weak (ps_aug hN hi hx he hp) fun D σ H h => ?_
  obtain ⟨H0, F0, F, ρ, s, q⟩ := h
  unfold sAug eN at q
  cases eρ : ρ[i]? with
  | none => rw [eρ] at q; exact q.elim
  | some o =>
    cases o with
    | none => rw [eρ] at q; exact q.elim
    | some d =>
      rw [eρ] at q
      obtain ⟨v, e1, dv⟩ := s.val.get i d hM eρ
      cases en : isInt d with
      | none => simp only [ER.bind, en, optE] at q; exact q.elim
      | some n =>
        have ev := isInt_dp dv en
        subst ev
        refine ⟨_, e1, F, ρ, s.grow.sub, s.val, ?_⟩
        simp only [ER.bind, en, optE] at q
        cases em : me ρ with
        | no => rw [em] at q; exact q
        | ex x =>
          rw [em] at q
          intro c dc H1 F1 g ix
          obtain ⟨F', sF, s', _⟩ := (s.expr g).freeze (M' := []) (by simp)
          exact q c dc σ H1 F' s' (ix.mono (Same.refl _) sF)
        | ok y =>
          rw [em] at q
          intro u H1 F1 g du
          cases eq : isInt y with
          | none => simp only [ER.bind, eq, optE] at q; exact q.elim
          | some z =>
            simp only [ER.bind, eq, optE] at q
            have eu := isInt_dp du eq
            subst eu
            refine ⟨_, _, rfl, rfl, ?_⟩
            have s1 := (s.expr g).set (i := i) (d := .int (f n z)) (v := .int (f n z)) (.int _)
            have em : M.filter (· != i) = M := List.filter_eq_self.mpr fun j hj => by simpa using fun z : j = i => hM (z ▸ hj)
            rw [em] at s1
            exact q _ _ _ s1
theorem d1_augAdd (hM : i ∉ M) (hN : X.N.Nodup) (hi : X.N[i]? = some x) (hx : Loc X.env.scope x) (he : DE X W M e me) (hf : X.fn x = true ∨ X.env.scope.names.lookup x = some .local := by first | exact .inl rfl | exact .inr rfl | assumption) (hd : (x == ("__debug__" : Str)) = false := by decide) (hcd : (x == ("__classdict__" : Str)) = false := by decide) :
    D1 X W J M M (.AugAssign (.Name x p1) .Add e pos) (sAug addI i me) := d1_aug ip_add hM hN hi hx he hf hd hcd
end
end Z

namespace Z
open PySem PySem.Spec PyProof.Rows L2
section
variable {X : Cx} {W : WX} {J : Js} {M Mn M1 M' : List Nat} {pos p p1 p2 p3 : Pos} {e a b : Expr} {es : List Expr} {me ma mb : EnvD → ER D} {k : Nat} {x : Str} {i : Nat}
/-! ### str, sum, max, min of data -/
def strD : List D → Option D
  | [.int i] => if i.natAbs.log2 < 1920 then some (.str (toString i)) else none
  | [.str z] => some (.str z)
  | _ => none
theorem callD_str : CallR X (.type "str") (rDn X.K strD) := by
  intro pins s σ H xs us Q I r h
  obtain ⟨F, ds, sF, hd, q⟩ := h
  match ds, hd, q with
  | [.int i], .cons (.int _) .nil, q =>
    have q' : okO X.K H F Q (if i.natAbs.log2 < 1920 then some (.str (toString i)) else none) := q
    obtain ⟨hz, q⟩ := okO_if q'
    exact call_str_int pins s σ H _ us Q I r ⟨i, rfl, hz, q _ _ _ (Grow.refl sF) (.str _)⟩
  | [.str z], .cons (.str _) .nil, q => exact SkE.call_str_str pins s σ H _ us Q I r ⟨z, rfl, q _ _ _ (Grow.refl sF) (.str _)⟩
  | [.none], _, q => exact q.elim
  | [.bool _], _, q => exact q.elim
  | [.list _], _, q => exact q.elim
  | [.tuple _], _, q => exact q.elim
  | [.dict _], _, q => exact q.elim
  | [], _, q => exact q.elim
  | a :: _ :: _, _, q => cases a <;> exact q.elim
def sumD : List D → Option D
  | [.list ds] => (intsOf ds).map fun ns => .int ns.sum
  | _ => none
theorem callD_sum (hc : X.calm = true) : CallR X (.builtin "sum") (rDn X.K sumD) := by
  intro pins s σ H xs us Q I r h
  obtain ⟨F, ds, sF, hd, q⟩ := h
  match ds, hd, q with
  | [.list es], .cons (.lst ha ra) .nil, q =>
    have q' : okO X.K H F Q ((intsOf es).map fun ns => .int ns.sum) := q
    cases e : intsOf es with
    | none => rw [e] at q'; exact q'.elim
    | some ns =>
      rw [e] at q'
      have := intsOf_eq e
      subst this
      have ex := dpAll_intsOf ra
      subst ex
      exact cr_sum hc pins s σ H _ us Q I r ⟨_, ns, rfl, sF.seq ha, q' _ _ _ (Grow.refl sF) (.int _)⟩
  | [.int _], _, q => exact q.elim
  | [.str _], _, q => exact q.elim
  | [.none], _, q => exact q.elim
  | [.bool _], _, q => exact q.elim
  | [.tuple _], _, q => exact q.elim
  | [.dict _], _, q => exact q.elim
  | [], _, q => exact q.elim
  | a :: _ :: _, _, q => cases a <;> exact q.elim
def maxI : Int → List Int → Int
  | m, [] => m
  | m, n :: ns => maxI (if m < n then n else m) ns
def minI : Int → List Int → Int
  | m, [] => m
  | m, n :: ns => minI (if n < m then n else m) ns
theorem maxI_mem : ∀ {ns : List Int} {m : Int}, maxI m ns ∈ m :: ns
  | [], m => List.mem_cons_self ..
  | n :: ns, m => by
    unfold maxI
    have := maxI_mem (ns := ns) (m := if m < n then n else m)
    by_cases h : m < n
    · rw [if_pos h] at this ⊢
      exact List.mem_cons_of_mem _ this
    · rw [if_neg h] at this ⊢
      rcases List.mem_cons.mp this with h | h
      · rw [h]; exact List.mem_cons_self ..
      · exact List.mem_cons_of_mem _ (List.mem_cons_of_mem _ h)
theorem maxI_ge : ∀ {ns : List Int} {m y : Int}, y ∈ m :: ns → y ≤ maxI m ns
  | [], m, y, h => by
    rw [List.mem_singleton.mp h]
    exact Int.le_refl _
  | n :: ns, m, y, h => by
    unfold maxI
    have i1 := maxI_ge (ns := ns) (m := if m < n then n else m) (y := if m < n then n else m) (List.mem_cons_self ..)
    rcases List.mem_cons.mp h with h | h
    · by_cases z : m < n
      · rw [if_pos z] at i1 ⊢; omega
      · rw [if_neg z] at i1 ⊢; omega
    · rcases List.mem_cons.mp h with h | h
      · by_cases z : m < n
        · rw [if_pos z] at i1 ⊢; omega
        · rw [if_neg z] at i1 ⊢; omega
      · exact maxI_ge (List.mem_cons_of_mem _ h)
theorem minI_mem : ∀ {ns : List Int} {m : Int}, minI m ns ∈ m :: ns
  | [], m => List.mem_cons_self ..
  | n :: ns, m => by
    unfold minI
    have := minI_mem (ns := ns) (m := if n < m then n else m)
    by_cases h : n < m
    · rw [if_pos h] at this ⊢
      exact List.mem_cons_of_mem _ this
    · rw [if_neg h] at this ⊢
      rcases List.mem_cons.mp this with h | h
      · rw [h]; exact List.mem_cons_self ..
      · exact List.mem_cons_of_mem _ (List.mem_cons_of_mem _ h)
theorem minI_le : ∀ {ns : List Int} {m y : Int}, y ∈ m :: ns → minI m ns ≤ y
  | [], m, y, h => by
    rw [List.mem_singleton.mp h]
    exact Int.le_refl _
  | n :: ns, m, y, h => by
    unfold minI
    have i1 := minI_le (ns := ns) (m := if n < m then n else m) (y := if n < m then n else m) (List.mem_cons_self ..)
    rcases List.mem_cons.mp h with h | h
    · by_cases z : n < m
      · rw [if_pos z] at i1 ⊢; omega
      · rw [if_neg z] at i1 ⊢; omega
    · rcases List.mem_cons.mp h with h | h
      · by_cases z : n < m
        · rw [if_pos z] at i1 ⊢; omega
        · rw [if_neg z] at i1 ⊢; omega
      · exact minI_le (List.mem_cons_of_mem _ h)
def mostD : List D → Option D
  | [.list ds] => (intsOf ds).bind fun ns => match ns with
    | [] => none
    | n :: ns => some (.int (maxI n ns))
  | _ => none
def leastD : List D → Option D
  | [.list ds] => (intsOf ds).bind fun ns => match ns with
    | [] => none
    | n :: ns => some (.int (minI n ns))
  | _ => none
theorem callD_most (hc : X.calm = true) : CallR X (.builtin "max") (rDn X.K mostD) := by
  intro pins s σ H xs us Q I r h
  obtain ⟨F, ds, sF, hd, q⟩ := h
  match ds, hd, q with
  | [.list es], .cons (.lst ha ra) .nil, q =>
    have q' : okO X.K H F Q ((intsOf es).bind fun ns => match ns with
      | [] => none
      | n :: ns => some (.int (maxI n ns))) := q
    cases e : intsOf es with
    | none => rw [e] at q'; exact q'.elim
    | some ns =>
      rw [e] at q'
      have := intsOf_eq e
      subst this
      have ex := dpAll_intsOf ra
      subst ex
      match ns, q', ha, r with
      | [], q', _, _ => exact q'.elim
      | n :: ns, q', ha, r =>
        refine cr_max hc pins s σ H _ us Q I r ⟨_, n :: ns, rfl, sF.seq ha, Nat.succ_pos _, fun m hm hy => ?_⟩
        have : m = maxI n ns := Int.le_antisymm (maxI_ge hm) (hy _ maxI_mem)
        rw [this]
        exact q' _ _ _ (Grow.refl sF) (.int _)
  | [.int _], _, q => exact q.elim
  | [.str _], _, q => exact q.elim
  | [.none], _, q => exact q.elim
  | [.bool _], _, q => exact q.elim
  | [.tuple _], _, q => exact q.elim
  | [.dict _], _, q => exact q.elim
  | [], _, q => exact q.elim
  | a :: _ :: _, _, q => cases a <;> exact q.elim
theorem callD_least (hc : X.calm = true) : CallR X (.builtin "min") (rDn X.K leastD) := by
  intro pins s σ H xs us Q I r h
  obtain ⟨F, ds, sF, hd, q⟩ := h
  match ds, hd, q with
  | [.list es], .cons (.lst ha ra) .nil, q =>
    have q' : okO X.K H F Q ((intsOf es).bind fun ns => match ns with
      | [] => none
      | n :: ns => some (.int (minI n ns))) := q
    cases e : intsOf es with
    | none => rw [e] at q'; exact q'.elim
    | some ns =>
      rw [e] at q'
      have := intsOf_eq e
      subst this
      have ex := dpAll_intsOf ra
      subst ex
      match ns, q', ha, r with
      | [], q', _, _ => exact q'.elim
      | n :: ns, q', ha, r =>
        refine cr_min hc pins s σ H _ us Q I r ⟨_, n :: ns, rfl, sF.seq ha, Nat.succ_pos _, fun m hm hy => ?_⟩
        have : m = minI n ns := Int.le_antisymm (hy _ minI_mem) (minI_le hm)
        rw [this]
        exact q' _ _ _ (Grow.refl sF) (.int _)
  | [.int _], _, q => exact q.elim
  | [.str _], _, q => exact q.elim
  | [.none], _, q => exact q.elim
  | [.bool _], _, q => exact q.elim
  | [.tuple _], _, q => exact q.elim
  | [.dict _], _, q => exact q.elim
  | [], _, q => exact q.elim
  | a :: _ :: _, _, q => cases a <;> exact q.elim
/-! ### tuple(range(..)), list(range(..)) -/
theorem dpAll_map {K : PySem.W.Frag} {F : Hp} {α : Type} {f : α → V} {g : α → D} (h : ∀ i, Dp K F (f i) (g i)) : ∀ l : List α, DpAll K F (l.map f) (l.map g)
  | [] => .nil
  | i :: l => .cons (h i) (dpAll_map h l)
theorem dpAll_rg {K : PySem.W.Frag} {F : Hp} {a b : Int} : DpAll K F (rgV a b) (intsD a (b - a).toNat) := dpAll_map (fun i => .int _) _
def rgT1 : D → Option D
  | .int n => if n.natAbs ≤ 16777216 then some (.tuple (intsD 0 (n - 0).toNat)) else none
  | _ => none
def rgL1 : D → Option D
  | .int n => if n.natAbs ≤ 16777216 then some (.list (intsD 0 (n - 0).toNat)) else none
  | _ => none
theorem rgOk1 {n : Int} (h : n.natAbs ≤ 16777216) : RgOk 0 n := ⟨by omega, by omega, by omega, by omega, by omega⟩
theorem de_tupRg1 {pr posr : Pos} (hc : X.calm = true) (hm : X.mg "tuple" = none) (hr : X.mg "range" = none) (ha : DE X W M a ma) (hg : Gl X "tuple" := by rfl) (hgr : Gl X "range" := by rfl)
    (na : starEach [a] X.env = (false, eval a X.env) :: starEach [] X.env := by rfl) (nb : starEach [.Call (.Name "range" pr) [a] [] posr] X.env = (false, eval (.Call (.Name "range" pr) [a] [] posr) X.env) :: starEach [] X.env := by rfl) :
    DE X W M (.Call (.Name "tuple" p) [.Call (.Name "range" pr) [a] [] posr] [] pos) (e1 rgT1 ma) :=
  pe_weak (pe_tupRg hc hg hm (prg_1 hgr hr ha na) nb) fun σ H Q ⟨F, ρ, sF, r, q⟩ => ⟨F, ρ, sF, r, ok_bind r q fun v H1 F1 x g r1 dx q1 => by
    obtain ⟨c, ec, q2⟩ := okE_opt' q1
    cases dx with
    | int n =>
      have ec : (if n.natAbs ≤ 16777216 then some (PyData.tuple (intsD 0 (n - 0).toNat)) else none) = some c := ec
      by_cases hb : n.natAbs ≤ 16777216
      · rw [if_pos hb] at ec
        cases ec
        exact ⟨n, rfl, rgOk1 hb, fun p hp => q2 _ _ _ (Grow.new g.sub hp) (.tup (.inl (.inl upd_same)) dpAll_rg)⟩
      · rw [if_neg hb] at ec; cases ec
    | _ => cases ec⟩
theorem de_lstRg1 {pr posr : Pos} (hc : X.calm = true) (hm : X.mg "list" = none) (hr : X.mg "range" = none) (ha : DE X W M a ma) (hg : Gl X "list" := by rfl) (hgr : Gl X "range" := by rfl)
    (na : starEach [a] X.env = (false, eval a X.env) :: starEach [] X.env := by rfl) (nb : starEach [.Call (.Name "range" pr) [a] [] posr] X.env = (false, eval (.Call (.Name "range" pr) [a] [] posr) X.env) :: starEach [] X.env := by rfl) :
    DE X W M (.Call (.Name "list" p) [.Call (.Name "range" pr) [a] [] posr] [] pos) (e1 rgL1 ma) :=
  pe_weak (pe_listRg hc hg hm (prg_1 hgr hr ha na) nb) fun σ H Q ⟨F, ρ, sF, r, q⟩ => ⟨F, ρ, sF, r, ok_bind r q fun v H1 F1 x g r1 dx q1 => by
    obtain ⟨c, ec, q2⟩ := okE_opt' q1
    cases dx with
    | int n =>
      have ec : (if n.natAbs ≤ 16777216 then some (PyData.list (intsD 0 (n - 0).toNat)) else none) = some c := ec
      by_cases hb : n.natAbs ≤ 16777216
      · rw [if_pos hb] at ec
        cases ec
        exact ⟨n, rfl, rgOk1 hb, fun p hp => q2 _ _ _ (Grow.new g.sub hp) (.lst (.inl (.inl upd_same)) dpAll_rg)⟩
      · rw [if_neg hb] at ec; cases ec
    | _ => cases ec⟩
/-! ### t[::-1], a tuple -/
theorem sliceApplied_rev {prog : Program} {w : World} {A : Around} {E : Value → Shared → Prop} {s : Shared} {sl : Addr} {vl vu vs : Value} {n : Nat} {Q : Int × Int × Nat → Shared → Prop} (hs : s.heap.IsSliceOf sl vl vu vs) (pl : IsPart vl none) (pu : IsPart vu none) (ps : IsPart vs (some (-1)))
    (h : Q ((n : Int) - 1, -1, n) s) : wpAny (model prog w) A (Builtin.Slice.sliceApplied (.ref sl) (pure (n : Int))) Q E s := by
  obtain ⟨os, hos, hcs, hds⟩ := id hs
  unfold Builtin.Slice.sliceApplied Builtin.Slice.sliceFields
  refine wpAny_bind (wpAny_bind (wpAny_field hos hds (x := vl) rfl (wpAny_bind (wpAny_field hos hds (x := vu) rfl (wpAny_bind (wpAny_field hos hds (x := vs) rfl (wpAny_pure ?_)))))))
  refine wpAny_bind (HT.slicePart_ ps ?_)
  show wpAny _ _ (if ((-1 : Int) == 0) = true then _ else _) _ _ s
  rw [if_neg (by decide)]
  refine wpAny_bind (HT.slicePart_ pl (wpAny_bind (HT.slicePart_ pu (wpAny_bind (wpAny_pure ?_)))))
  have e1 : Builtin.Slice.sliceAdjust none none (-1) (n : Int) = ((n : Int) - 1, -1) := by
    unfold Builtin.Slice.sliceAdjust
    simp
  have e2 : Builtin.Slice.slicePlaces ((n : Int) - 1) (-1) (-1) = n := by
    unfold Builtin.Slice.slicePlaces
    simp
    omega
  show wpAny _ _ (match Builtin.Slice.sliceAdjust none none (-1) (n : Int) with | (lo, hi) => pure (lo, (-1 : Int), Builtin.Slice.slicePlaces lo hi (-1))) _ _ s
  rw [e1]
  show wpAny _ _ (pure ((n : Int) - 1, (-1 : Int), Builtin.Slice.slicePlaces ((n : Int) - 1) (-1) (-1))) _ _ s
  rw [e2]
  exact wpAny_pure h
theorem pick_rev (xs : Array Value) : ((List.range xs.size).filterMap fun (m : Nat) => xs[(((xs.size : Int) - 1) + (m : Int) * (-1)).toNat]?).toArray = xs.toList.reverse.toArray := by
  have e0 : (fun (m : Nat) => xs[(((xs.size : Int) - 1) + (m : Int) * (-1)).toNat]?) = (fun k => xs[k]?) ∘ fun (m : Nat) => (((xs.size : Int) - 1) + (m : Int) * (-1)).toNat := rfl
  have e1 : (List.range xs.size).map (fun (m : Nat) => (((xs.size : Int) - 1) + (m : Int) * (-1)).toNat) = (List.range xs.size).reverse := by
    rw [← PySem.W.krv_range]
    apply List.map_congr_left
    intro m hm
    have := List.mem_range.mp hm
    omega
  rw [e0, ← List.filterMap_map, e1, List.filterMap_reverse, PySem.W.krv_all]
theorem getItem_tuple_rev {prog : Program} {w : World} {A : Around} {E : Value → Shared → Prop} {s : Shared} {t sl : Addr} {items : Array Value} {vl vu vs : Value} {Q : Value → Shared → Prop} (ht : IsTup s.heap t items) (hs : s.heap.IsSliceOf sl vl vu vs) (pl : IsPart vl none) (pu : IsPart vu none) (ps : IsPart vs (some (-1)))
    (h : Q (.ref s.heap.objs.size) { s with heap := s.heap.push { cls := .type "tuple", data := .seq items.toList.reverse.toArray } })
    (hsz : items.size ≤ sizeLine) : wpAny (model prog w) A (getItem (.ref t) (.ref sl)) Q E s := by
  have htake : sizeOk (.seq items.toList.reverse.toArray) := by
    show items.toList.reverse.toArray.size ≤ sizeLine
    rw [List.size_toArray, List.length_reverse, Array.length_toList]
    exact hsz
  obtain ⟨os, hos, hcs, hds⟩ := id hs
  have hTs : s.TypeIs (.ref sl) "slice" := ⟨os, hos, hcs⟩
  unfold getItem
  try with_reducible refine wpAny_holding ?_
  first | refine wpAny_bind (wpAny_pure ?_) | skip
  refine wpAny_bind (wpAny_sequenceKey ht.typeIs (by decide) ?_)
  refine wpAny_bind (wpAny_callSpecial?_slot (name := Str.ofString "__getitem__") ht.typeIs PyProof.Rows.slot_tuple_getitem
    (wpAny_call_entry PyProof.Rows.slot_tuple_getitem ht.typeIs entry_tuple_getitem ?_ (args_tuple_getitem _ _)))
  show wpAny _ _ (Builtin.Tuple.tupleItemsOf (.ref t) >>= _) _ _ s
  refine wpAny_bind (tupleItemsOf_ ht ?_)
  refine wpAny_bind (wpAny_typeOf hTs ?_)
  rw [if_pos (by decide)]
  refine wpAny_bind (sliceApplied_rev hs pl pu ps ?_)
  have hno : ¬ (((((items.size : Int) - 1) == 0) && ((-1 : Int) == 1) && (items.size == items.size)) = true) := by
    rw [show ((-1 : Int) == 1) = false by decide, Bool.and_false, Bool.false_and]
    exact Bool.false_ne_true
  show wpAny _ _ (if ((((items.size : Int) - 1) == 0) && ((-1 : Int) == 1) && (items.size == items.size)) = true then _ else _) _ _ s
  rw [if_neg hno, pick_rev]
  first
    | exact wpAny_bind (m := Builtin.Tuple.tupleExact _) (wpAny_newObj_type (wpAny_pure ⟨_, rfl, wpAny_pure h⟩) htake)
    | exact wpAny_bind (m := Builtin.Tuple.tupleExact _) (wpAny_newObj_type (wpAny_bind (wpAny_pure (wpAny_pure ⟨_, rfl, wpAny_pure h⟩))) htake)
    | exact wpAny_bind (wpAny_bind (m := Builtin.Tuple.tupleExact _) (wpAny_newObj_type (wpAny_pure (wpAny_pure ⟨_, rfl, wpAny_pure h⟩)) htake))
    | exact wpAny_bind (wpAny_bind (m := Builtin.Tuple.tupleExact _) (wpAny_newObj_type (wpAny_pure ⟨_, rfl, wpAny_pure h⟩) htake))
def tRevT (K : PySem.W.Frag) (te : TE) : TE := fun σ H Q => te σ H fun x H1 => ∃ a xs, x = .ref a ∧ ((SqL K H1 a xs ∧ ∀ p, H1 p = none → Q (.ref p) (upd H1 p (.lst xs.reverse))) ∨ (SqT K H1 a xs ∧ ∀ p, H1 p = none → Q (.ref p) (upd H1 p (.tup xs.reverse))))
theorem pe_revA {X : Cx} {e : Expr} {te : TE} {k : Nat} {p1 p2 p3 pos : Pos} (he : PE X e te) : PE X (.Subscript e (.Slice none none (some (.UnaryOp .USub (.Constant (.int 1) k p1) p2)) p3) pos) (tRevT X.K te) := by
  refine ⟨fun pins s σ H Q I h => ?_⟩
  refine Subscript_ (thn (he.run pins s σ H _ I h) fun v s1 ⟨x, H1, I1, r1, q1⟩ => ?_)
  obtain ⟨a, xs, ex, q1⟩ := q1
  subst ex
  cases r1
  have hst : PO X (some (.UnaryOp .USub (.Constant (.int 1) k p1) p2)) (tPart (tUn (rU fun i => .int (-i)) (tC (.int 1)))) := po_some (pe_un un_neg pe_int)
  refine wpAny_Slice (thn (po_none.run pins s1 σ H1 (fun o H2 => o = none ∧ H2 = H1) I1 ⟨rfl, rfl⟩) fun vl s2 ⟨l, H2, I2, pl, el, e2⟩ => ?_)
  subst el e2
  refine thn (po_none.run pins s2 σ H2 (fun o H3 => o = none ∧ H3 = H2) I2 ⟨rfl, rfl⟩) fun vu s3 ⟨u, H3, I3, pu, eu, e3⟩ => ?_
  subst eu e3
  refine thn (hst.run pins s3 σ H3 (fun o H4 => o = some (-1) ∧ H4 = H3) I3 ⟨1, rfl, -1, rfl, rfl, rfl⟩) fun vs s4 ⟨o, H4, I4, ps, eo, e4⟩ => ?_
  subst eo e4
  have I5 : Inv X pins σ H4 { s4 with heap := s4.heap.push { cls := .type "slice", data := .fields #[vl, vu, vs] } } := I4.kept (t' := s4.toks) fun b ob q => Heap.get?_push_of_some _ q
  show wpAny (model X.prog X.w) X.A (subscriptTail e (.Slice none none (some (.UnaryOp .USub (.Constant (.int 1) k p1) p2)) p3) (.ref a) (.ref s4.heap.objs.size)) (EP X pins σ Q) X.xe { s4 with heap := s4.heap.push { cls := .type "slice", data := .fields #[vl, vu, vs] } }
  rcases q1 with ⟨hx, q⟩ | ⟨hx, q⟩
  · obtain ⟨its, r, ht, hz⟩ := I5.list hx
    have hlen := r.length
    refine tail_any (ops := [.ref a, .ref s4.heap.objs.size]) ht.isList.typeIs (PySem.slot_list_getitem.lookup) ?_ (by with_unfolding_all rfl)
    refine wpAny_getItem_list_slice ht.isList (Heap.IsSliceOf.new _ vl vu vs) pl pu ps (by decide) ?_ (by rw [List.size_toArray]; omega)
    rw [PySem.W.krv_pick]
    refine ⟨.ref _, _, I5.laid (t' := s4.toks) (o := .lst xs.reverse) (fun b ob q => Heap.get?_push_of_some _ q) (Nat.le_refl _) ?_, rfl, q _ (I5.hok.fresh (Nat.le_refl _))⟩
    exact ⟨by rw [List.length_reverse]; exact hz, _, 0, r.reverse, Heap.get?_push_size _ rfl⟩
  · obtain ⟨its, r, ht, hz⟩ := I5.tuple hx
    have hlen := r.length
    refine tail_any (ops := [.ref a, .ref s4.heap.objs.size]) ht.typeIs (PyProof.Rows.slot_tuple_getitem.lookup) ?_ (by with_unfolding_all rfl)
    refine getItem_tuple_rev ht (Heap.IsSliceOf.new _ vl vu vs) pl pu ps ?_ (by rw [List.size_toArray]; omega)
    refine ⟨.ref _, _, I5.laid (t' := s4.toks) (o := .tup xs.reverse) (fun b ob q => Heap.get?_push_of_some _ q) (Nat.le_refl _) ?_, rfl, q _ (I5.hok.fresh (Nat.le_refl _))⟩
    exact ⟨by rw [List.length_reverse]; exact hz, _, r.reverse, IsTup.new _ _⟩
def revD : D → Option D
  | .list ds => some (.list ds.reverse)
  | .tuple ds => some (.tuple ds.reverse)
  | _ => none
theorem dpAll_snoc {K : PySem.W.Frag} {F : Hp} {v : V} {d : D} (h : Dp K F v d) : ∀ {vs : List V} {ds : List D}, DpAll K F vs ds → DpAll K F (vs ++ [v]) (ds ++ [d]) := fun r => dpAll_append r (.cons h .nil)
theorem dpAll_rev {K : PySem.W.Frag} {F : Hp} : ∀ {vs : List V} {ds : List D}, DpAll K F vs ds → DpAll K F vs.reverse ds.reverse
  | _, _, .nil => .nil
  | _, _, .cons h r => by
    rw [List.reverse_cons, List.reverse_cons]
    exact dpAll_snoc h (dpAll_rev r)
theorem de_rev {kk : Nat} {q1 q2 q3 : Pos} (ha : DE X W M a ma) : DE X W M (.Subscript a (.Slice none none (some (.UnaryOp .USub (.Constant (.int 1) kk q1) q2)) q3) pos) (e1 revD ma) :=
  pe_weak (pe_revA ha) fun σ H Q ⟨F, ρ, sF, r, q⟩ => ⟨F, ρ, sF, r, ok_bind r q fun v H1 F1 x g r1 dx q1 => by
    obtain ⟨c, ec, q2⟩ := okE_opt' q1
    cases dx with
    | lst hx rx =>
      cases ec
      exact ⟨_, _, rfl, .inl ⟨g.sub.seq hx, fun p hp => q2 _ _ _ (Grow.new g.sub hp) (.lst (.inl (.inl upd_same)) (dpAll_mono (same_new (g.sub.free hp)) _ _ (dpAll_rev rx)))⟩⟩
    | tup hx rx =>
      cases ec
      exact ⟨_, _, rfl, .inr ⟨sqT_mono g.sub hx, fun p hp => q2 _ _ _ (Grow.new g.sub hp) (.tup (.inl (.inl upd_same)) (dpAll_mono (same_new (g.sub.free hp)) _ _ (dpAll_rev rx)))⟩⟩
    | _ => cases ec⟩
end
/-! ### sorted, of ints and of strings -/
def insB {α : Type} (le : α → α → Bool) (x : α) : List α → List α
  | [] => [x]
  | y :: r => if le x y = true then x :: y :: r else y :: insB le x r
def sortB {α : Type} (le : α → α → Bool) : List α → List α
  | [] => []
  | x :: r => insB le x (sortB le r)
theorem insB_perm {α : Type} (le : α → α → Bool) (x : α) : ∀ l : List α, (insB le x l).Perm (x :: l)
  | [] => .refl _
  | y :: r => by
    unfold insB
    by_cases h : le x y = true
    · rw [if_pos h]
    · rw [if_neg h]
      exact ((insB_perm le x r).cons y).trans (.swap x y r)
theorem sortB_perm {α : Type} (le : α → α → Bool) : ∀ l : List α, (sortB le l).Perm l
  | [] => .refl _
  | x :: r => (insB_perm le x _).trans ((sortB_perm le r).cons x)
section
variable {α : Type} {le : α → α → Bool} (ht : ∀ a b, le a b = true ∨ le b a = true) (hr : ∀ a b c, le a b = true → le b c = true → le a c = true)
include ht hr
theorem insB_srt (x : α) : ∀ l : List α, l.Pairwise (fun a b => le a b = true) → (insB le x l).Pairwise (fun a b => le a b = true)
  | [], _ => List.pairwise_singleton _ _
  | y :: r, h => by
    have h1 := List.pairwise_cons.mp h
    unfold insB
    by_cases c : le x y = true
    · rw [if_pos c]
      refine List.pairwise_cons.mpr ⟨fun z hz => ?_, h⟩
      rcases List.mem_cons.mp hz with rfl | hz
      · exact c
      · exact hr _ _ _ c (h1.1 z hz)
    · rw [if_neg c]
      refine List.pairwise_cons.mpr ⟨fun z hz => ?_, insB_srt x r h1.2⟩
      rcases List.mem_cons.mp ((insB_perm le x r).mem_iff.mp hz) with rfl | hz
      · exact (ht z y).resolve_left c
      · exact h1.1 z hz
theorem sortB_srt : ∀ l : List α, (sortB le l).Pairwise (fun a b => le a b = true)
  | [] => List.Pairwise.nil
  | x :: r => insB_srt ht hr x _ (sortB_srt r)
end
def leI (a b : Int) : Bool := decide (a ≤ b)
def sortI (ns : List Int) : List Int := sortB leI ns
theorem sortI_eq {ns ms : List Int} (hp : ms.Perm ns) (hs : ms.Pairwise (· ≤ ·)) : ms = sortI ns :=
  List.Perm.eq_of_pairwise (fun _ _ _ _ a b => Int.le_antisymm a b) hs ((sortB_srt (le := leI) (fun a b => by unfold leI; simp only [decide_eq_true_eq]; omega) (fun a b c => by unfold leI; simp only [decide_eq_true_eq]; omega) ns).imp fun {a b} h => by unfold leI at h; simpa using h) (hp.trans (sortB_perm leI ns).symm)
def leS (a b : Str) : Bool := !ltCps b.cps.toList a.cps.toList
theorem leS_iff (a b : Str) : leS a b = true ↔ a.cps.toList ≤ b.cps.toList := by
  unfold leS
  rw [ltCps_eq]
  simp
def sortS (zs : List Str) : List Str := sortB leS zs
theorem risS_pw : ∀ (x : Str) (l : List Str), risingS x l = true → (x :: l).Pairwise (fun a b => leS a b = true)
  | x, [], _ => List.pairwise_singleton _ _
  | x, y :: r, h => by
    have h : (leS x y && risingS y r) = true := h
    rw [Bool.and_eq_true] at h
    have ih := risS_pw y r h.2
    refine List.pairwise_cons.mpr ⟨fun z hz => ?_, ih⟩
    rcases List.mem_cons.mp hz with rfl | hz
    · exact h.1
    · have h2 := (List.pairwise_cons.mp ih).1 z hz
      exact (leS_iff x z).mpr (List.le_trans ((leS_iff x y).mp h.1) ((leS_iff y z).mp h2))
theorem srtS_pw : ∀ {l : List Str}, sortedS l = true → l.Pairwise (fun a b => leS a b = true)
  | [], _ => List.Pairwise.nil
  | x :: r, h => risS_pw x r h
theorem leS_anti {a b : Str} (h1 : leS a b = true) (h2 : leS b a = true) : a = b := by
  have e : a.cps.toList = b.cps.toList := List.le_antisymm ((leS_iff a b).mp h1) ((leS_iff b a).mp h2)
  cases a; cases b
  congr 1
  exact Array.toList_inj.mp e
theorem sortS_eq {zs ms : List Str} (hp : ms.Perm zs) (hs : sortedS ms = true) : ms = sortS zs :=
  List.Perm.eq_of_pairwise (fun _ _ _ _ a b => leS_anti a b) (srtS_pw hs) (sortB_srt (le := leS) (fun a b => by
    rw [leS_iff, leS_iff]; exact List.le_total _ _) (fun a b c h1 h2 => by
    rw [leS_iff] at *; exact List.le_trans h1 h2) zs) (hp.trans (sortB_perm leS zs).symm)
def strsOf : List D → Option (List Str)
  | [] => some []
  | .str i :: ds => (strsOf ds).map (i :: ·)
  | _ :: _ => none
theorem strsOf_map : ∀ {ns : List Str}, strsOf (ns.map PyData.str) = some ns
  | [] => rfl
  | n :: ns => by
    show (strsOf (ns.map PyData.str)).map (n :: ·) = _
    rw [strsOf_map]
    rfl
theorem strsOf_eq : ∀ {ds : List D} {ns : List Str}, strsOf ds = some ns → ds = ns.map PyData.str
  | [], _, h => by cases h; rfl
  | .str i :: ds, ns, h => by
    cases e : strsOf ds with
    | none =>
      have h : (strsOf ds).map (i :: ·) = some ns := h
      rw [e] at h
      cases h
    | some ms =>
      have h : (strsOf ds).map (i :: ·) = some ns := h
      rw [e] at h
      cases h
      rw [strsOf_eq e]
      rfl
  | .none :: _, _, h => by cases h
  | .bool _ :: _, _, h => by cases h
  | .int _ :: _, _, h => by cases h
  | .list _ :: _, _, h => by cases h
  | .tuple _ :: _, _, h => by cases h
  | .dict _ :: _, _, h => by cases h
theorem dpAll_strsOf {K : PySem.W.Frag} {F : Hp} : ∀ {ns : List Str} {xs : List V}, DpAll K F xs (ns.map PyData.str) → xs = ns.map V.str
  | [], _, h => by cases h; rfl
  | n :: ns, _, h => by
    cases h with
    | cons h r => cases h; rw [dpAll_strsOf r]; rfl
theorem dpAll_strs {K : PySem.W.Frag} {F : Hp} : ∀ ns : List Str, DpAll K F (ns.map V.str) (ns.map PyData.str)
  | [] => .nil
  | n :: ns => .cons (.str n) (dpAll_strs ns)
def sortL (ds : List D) : Option D := match intsOf ds with
  | some ns => some (.list ((sortI ns).map PyData.int))
  | none => match strsOf ds with
    | some zs => if zs.length < 64 then some (.list ((sortS zs).map PyData.str)) else none
    | none => none
def sortedD : List D → Option D
  | [.list ds] => sortL ds
  | [.tuple ds] => sortL ds
  | _ => none
/-- the heap after a sequence's items are gathered in a new list -/
def gath (h : Heap) (vs : List Value) : Heap := (h.push (seqObj "list" #[] 0)).update h.objs.size (Obj.mapSeq (· ++ vs.toArray))
section
variable {prog : Program} {w : World} {A : Around} {Ex : Value → Shared → Prop} {s : Shared}
theorem gath_size (h : Heap) (vs : List Value) : (gath h vs).objs.size = h.objs.size + 1 := by
  unfold gath
  rw [Heap.size_update]
  exact size_push' ..
theorem gath_old {h : Heap} {vs : List Value} {b : Addr} {o : Obj} (e : h.get? b = some o) : (gath h vs).get? b = some o := by
  unfold gath
  rw [Heap.get?_update_ne _ _ _ _ (Nat.ne_of_lt (Heap.lt_size e))]
  exact Heap.get?_push_of_some _ e
theorem coll_sq {l : Addr} {vs : List Value} {T : String} {o : Obj} {n : Nat} {Q : List Value → Shared → Prop} (hT : T = "list" ∨ T = "tuple") (ho : s.heap.get? l = some o) (hc : o.cls = .type T)
    (hd : o.data = .seq vs.toArray n) (hL : vs.length ≤ sizeLine) (fin : Q vs { s with heap := gath s.heap vs }) : wpAny (model prog w) A (collect (.ref l)) Q Ex s := by
  have k := Heap.get?_push_of_some (seqObj "list" #[] 0) ho
  have ne : (s.heap.push (seqObj "list" #[] 0)).get? s.heap.objs.size = some (seqObj "list" #[] 0) := Heap.get?_push_size _ rfl
  have tt : (Value.type T == Value.type "list" || Value.type T == Value.type "tuple") = true := by
    rcases hT with rfl | rfl
    · rfl
    · exact Bool.or_true _
  unfold collect
  refine wpAny_bind (wpAny_runValue
    (codeAny_builtin entry_proto_collect' ?_))
  show wpAny _ _ (newList [] >>= fun t =>
    again (.builtin "list.__iadd__" ⟨[t, .ref l], []⟩)) _ _ s
  refine wpAny_bind (wpAny_newList (wpAny_pure ⟨Code.quiet_builtin _
    (by decide +kernel), codeAny_builtin entry_list_iadd' ?_⟩))
  show wpAny _ _ (Builtin.List.listExtendWith _
    (.ref l) _) _ _ { s with heap := s.heap.push (seqObj "list" #[] 0) }
  unfold Builtin.List.listExtendWith
  refine wpAny_bind (wpAny_typeOf (T := T)
    ⟨o, k, hc⟩ ?_)
  rw [if_pos (by rw [Bool.or_assoc, tt, Bool.or_true])]
  refine wpAny_bind (listItems_at k hd
    (wpAny_bind (listItems_at ne rfl ?_)))
  rw [if_neg (by simp)]
  refine wpAny_bind (listUpdate_at ne rfl (wpAny_pure ?_) (Nat.zero_le _)
    (by show (#[] ++ vs.toArray).size ≤ sizeLine + 1; simp; omega))
  show wpAny (model prog w) A (do
    let o2 ← load s.heap.objs.size
    match o2.data with
    | .seq ys _ => pure ys.toList
    | _ => unsupported "internal:collect") Q Ex { s with heap := gath s.heap vs }
  refine wpAny_bind (wpAny_load (get?_update_seq
    ne _) ?_)
  show wpAny _ _ (pure ((#[] : Array Value) ++
    vs.toArray).toList) Q Ex _
  have ev : ((#[] : Array Value) ++ vs.toArray).toList = vs := by simp
  rw [ev]
  exact wpAny_pure fin
theorem sorted_seq {κ : KeyKind} (hO : κ.OneLt) {l : Addr} {vs : List Value} {T : String} {o : Obj} {n : Nat}
    {Q : Value → Shared → Prop} (hT : T = "list" ∨ T = "tuple") (ho : s.heap.get? l = some o) (hc : o.cls = .type T) (hd : o.data = .seq vs.toArray n) (h0 : KeysOf κ (pairsOf vs))
    (hkk : ∀ v₁ v₂ rest, vs = v₁ :: v₂ :: rest → keyKind' (v₁ :: v₂ :: rest).toArray = pure oneType') (hL : vs.length ≤ sizeLine)
    (fin : ∀ (st : SortSt) (g : Heap) (p : Addr) (e : Nat), (arrOf st).Perm (pairsOf vs) → SortedToK κ (arrOf st) (pairsOf vs).size → s.heap.objs.size ≤ p → (∀ b u, s.heap.get? b = some u → g.get? b = some u) →
      g.get? p = some (seqObj "list" ((arrOf st).map (·.2)) e) → Q (.ref p) { s with heap := g }) :
    wpAny (model prog w) A (call (.builtin "sorted") [.ref l]) Q Ex s := by
  refine Calls.call_function_entry kind_sorted
    plain_sorted entry_sorted (args_sorted1 _) ?_
  unfold Builtin.«sorted»
  refine wpAny_bind (m := checkCount "sorted" 1 1 _)
    (wpAny_pure (wpAny_bind (coll_sq hT ho hc hd hL (wpAny_bind (wpAny_newList (hsz := hL) ?_)))))
  have hg : ((gath s.heap vs).push (seqObj "list" vs.toArray 0)).get? (gath s.heap vs).objs.size = some (seqObj "list" vs.toArray 0) := Heap.get?_push_size _ rfl
  show wpAny _ _ _ _ _ { s with heap := (gath s.heap vs).push (seqObj "list" vs.toArray 0) }
  have hz := gath_size s.heap vs
  have hold : ∀ b u, s.heap.get? b = some u → ((gath s.heap vs).push (seqObj "list" vs.toArray 0)).get? b = some u := fun b u e => Heap.get?_push_of_some _ (gath_old e)
  have hsz : (gath s.heap vs).objs.size < ((gath s.heap vs).push (seqObj "list" vs.toArray 0)).objs.size := by rw [size_push']; exact Nat.lt_succ_self _
  refine wpAny_bind (wpAny_holding (wpAny_call_entry slot_list_sort ⟨_, hg, rfl⟩
    entry_list_sort (list_sort_treeKAny hO hg h0 hkk hL fun st' q1 q2 => ⟨_, rfl, ?_⟩) (args_list_sort _)))
  obtain ⟨e, he⟩ := sortedHeap_at (vs := vs) (out := (arrOf st').map (·.2)) hg
  refine wpAny_pure ⟨_, rfl, fin st' _ _ e q1 q2 (by rw [hz]; exact Nat.le_succ _) (fun b u eb => ?_) he⟩
  rw [sortedHeap_old (by
    show b ≠ (gath s.heap vs).objs.size
    rw [hz]
    exact Nat.ne_of_lt (Nat.lt_succ_of_lt (Heap.lt_size eb))) (Nat.lt_trans (by rw [hz]; exact Nat.lt_succ_of_lt (Heap.lt_size eb)) hsz)]
  exact hold b u eb
end
section
variable {X : Cx}
theorem callD_sorted : CallR X (.builtin "sorted") (rDn X.K sortedD) := by
  intro pins s σ H xs us Q I r h
  obtain ⟨F, ds, sF, hd, q⟩ := h
  have core : ∀ (a : Addr) (es : List D) (ys : List V) (its : List Value) (T : String) (o : Obj) (n : Nat), xs = [.ref a] → (T = "list" ∨ T = "tuple") → Vals ys its → s.heap.get? a = some o → o.cls = .type T → o.data = .seq its.toArray n → ys.length ≤ sizeLine →
      DpAll X.K F ys es → okO X.K H F Q (sortL es) → wpAny (model X.prog X.w) X.A (call (.builtin "sorted") us) (EP X pins σ Q) X.xe s := by
    intro a es ys its T o n hx hT rv ho hc hdt hz ra q
    subst hx
    rw [Vals.ref1 r]
    have hlen := rv.length
    unfold sortL at q
    cases e : intsOf es with
    | some ns =>
      rw [e] at q
      have e1 := intsOf_eq e
      subst e1
      have e2 := dpAll_intsOf ra
      subst e2
      have hI := rv.ints
      refine sorted_seq intKind_oneLt hT ho hc hdt hI.keysOfInt (fun _ _ _ e => keyKind_ints (by rw [← e]; exact hI)) (by rw [← hlen]; exact hz) fun st g p ep a1 a2 a3 a4 a5 => ?_
      obtain ⟨ms, b1, b2, b3⟩ := sorted_out hI a1 (sortedTo_of_int a2)
      have hl2 : (ms.map V.int).length ≤ sizeLine := by rw [List.length_map] at hz ⊢; rw [b2.length_eq]; exact hz
      have hn := I.hok.fresh a3
      refine ⟨.ref p, upd H p (.lst (ms.map V.int)), I.laid (t' := s.toks) a4 a3 ⟨hl2, _, ep, vals_of_ints b1, by rw [Array.toArray_toList]; exact a5⟩, rfl, ?_⟩
      rw [sortI_eq b2 b3] at *
      have q : okO X.K H F Q (some (.list ((sortI ns).map PyData.int))) := q
      exact q _ _ _ (Grow.new sF hn) (.lst (.inl (.inl upd_same)) (dpAll_ints _))
    | none =>
      rw [e] at q
      cases e3 : strsOf es with
      | none => rw [e3] at q; exact q.elim
      | some zs =>
        rw [e3] at q
        have q' : okO X.K H F Q (if zs.length < 64 then some (.list ((sortS zs).map PyData.str)) else none) := q
        obtain ⟨h64, q⟩ := okO_if q'
        have e1 := strsOf_eq e3
        subst e1
        have e2 := dpAll_strsOf ra
        subst e2
        have hS := rv.strs
        refine sorted_seq strKind_oneLt hT ho hc hdt hS.keysOf (fun _ _ _ e => keyKind_strs (by rw [← e]; exact hS)) (by rw [← hlen]; exact hz) fun st g p ep a1 a2 a3 a4 a5 => ?_
        obtain ⟨ms, b1, b2, b3⟩ := sorted_out_str hS a1 a2
        have hl2 : (ms.map V.str).length ≤ sizeLine := by rw [List.length_map] at hz ⊢; rw [b2.length_eq]; exact hz
        have hn := I.hok.fresh a3
        refine ⟨.ref p, upd H p (.lst (ms.map V.str)), I.laid (t' := s.toks) a4 a3 ⟨hl2, _, ep, vals_of_strs b1, by rw [Array.toArray_toList]; exact a5⟩, rfl, ?_⟩
        rw [sortS_eq b2 b3] at *
        exact q _ _ _ (Grow.new sF hn) (.lst (.inl (.inl upd_same)) (dpAll_strs _))
  match ds, hd, q with
  | [.list es], .cons (.lst ha ra) .nil, q =>
    obtain ⟨its, rv, pl, hz⟩ := I.list (sF.seq ha)
    obtain ⟨o, n, ho, hc, _, hdt⟩ := pl
    exact core _ es _ its "list" o n rfl (.inl rfl) rv ho hc hdt hz ra q
  | [.tuple es], .cons (.tup ha ra) .nil, q =>
    obtain ⟨its, rv, pl, hz⟩ := I.tuple (sqT_mono sF ha)
    obtain ⟨o, ho, hc, n, hdt⟩ := pl
    exact core _ es _ its "tuple" o n rfl (.inr rfl) rv ho hc hdt hz ra q
  | [.str _], _, q => exact q.elim
  | [.none], _, q => exact q.elim
  | [.bool _], _, q => exact q.elim
  | [.int _], _, q => exact q.elim
  | [.dict _], _, q => exact q.elim
  | [], _, q => exact q.elim
  | a :: _ :: _, _, q => cases a <;> exact q.elim
end
/-! ### own lists, read where new ones are made -/
section
variable {X : Cx} {W : WX} {J : Js} {M Mn M1 M' : List Nat} {pos p1 p2 p3 : Pos} {e a b : Expr} {es : List Expr} {me ma mb : EnvD → ER D} {k : Nat} {x : Str} {i : Nat}
/-- a new list out of own lists: its items hold no list -/
def sNewB (i : Nat) (m : EnvD → ER (List D)) : EnvD → SR := fun ρ => SR.ofE (m ρ) ρ fun ds => if lfAll ds = true then .nx (ρ.set i (some (.list ds))) else .no
theorem newB_sem {m : EnvD → ER (List D)} {H0 H F : Hp} {F0 : FB} {σ : L2.St} {ρ : EnvD} {D : Ends} {v0 : Nat} (hr : J.r = .own → i ≠ 0) (hl : i < ρ.length) (s5 : S5 X.K J.r M H0 F0 H F σ ρ) (hM : M' = i :: M.filter (· != i)) (q : okS X.K X.mg W J M' H0 F0 D (sNewB i m ρ)) :
    ∃ F1, Same F1 H ∧ RepF X.K [] F1 σ ρ ∧ (match m ρ with
      | .ok ds => ∀ a vs H' F', Grow H F1 H' F' → H a = none → F' a = none → H' a = some (.lst vs) → DpAll X.K F' vs ds → D.nx (σ.set i (some (.ref a))) H'
      | .ex x => ∀ c dc H' F', Grow H F1 H' F' → IsX X.K X.mg H' F' c dc x → W c dc σ H'
      | .no => False) := by
  obtain ⟨F1, sF, s', hd⟩ := s5.freeze (M' := []) (by simp)
  refine ⟨F1, s'.grow.sub, s'.val, ?_⟩
  unfold sNewB at q
  cases em : m ρ with
  | ok ds =>
    rw [em] at q
    intro a vs H' F' g ha fa ha' dv
    have q : okS X.K X.mg W J M' H0 F0 D (if lfAll ds = true then .nx (ρ.set i (some (.list ds))) else .no) := q
    by_cases z : lfAll ds = true
    · rw [if_pos z] at q
      subst hM
      have g2 := s5.unlend hd sF g
      refine q _ _ _ ((s5.expr g2).setNew hr hl (s5.grow.h.free ha) ?_ ha' (dpAll_lf (s5.lendT g.h g.sub) ds vs z dv) fun j hj z => ?_)
      · unfold lendF
        by_cases y : isOwn M σ a = true
        · rw [if_pos y]
        · rw [if_neg y]; exact fa
      · obtain ⟨a2, _, _, e1, _, _, _, e5, _⟩ := s5.own j hj
        rw [z] at e1
        cases e1
        rw [ha] at e5
        cases e5
    · rw [if_neg z] at q
      exact q.elim
  | ex x =>
    rw [em] at q
    intro c dc H1 F2 g ix
    exact q c dc σ H1 F2 (s'.expr g) ix
  | no => rw [em] at q; exact q
theorem d1_newB {m : EnvD → ER (List D)} {pos' : Pos} (hN : X.N.Nodup) (hi : X.N[i]? = some x) (hx : Loc X.env.scope x) (he : DN X W [] e m) (hM : M' = i :: M.filter (· != i)) (hr : J.r = .own → i ≠ 0 := by intro h; first | decide | cases h) (hs : swapsWith e (some (.Name x pos')) pos.line X.env = pure false := by rfl) (hf : X.fn x = true ∨ X.env.scope.names.lookup x = some .local := by first | exact .inl rfl | exact .inr rfl | assumption) :
    D1 X W J M M' (.Assign [.Name x pos'] e pos) (sNewB i m) := by
  refine ⟨fun pins s σ H D I h => ?_⟩
  refine (ps_set hN hi hx he hs hf).run pins s σ H D I ?_
  obtain ⟨H0, F0, F, ρ, s5, q⟩ := h
  have hl : i < ρ.length := by
    rw [s5.len, I.len]
    exact (List.getElem?_eq_some_iff.mp hi).1
  obtain ⟨F1, h1, h2, h3⟩ := newB_sem (v0 := 0) hr hl s5 hM q
  exact ⟨F1, ρ, h1, h2, h3⟩
theorem d1_newLcB {y : Str} {py spos : Pos} {elt tg iter : Expr} {ifs : List Expr} {scope : Scope} {own : List (Str × Nat)} {p : Pat} {vs : List Nat} {it : EnvD → ER (List D)} {t : EnvD → ER Bool} {m : EnvD → ER D} (C : CB X W k) (hy : X.N[i]? = some y) (hyl : X.env.scope.names.lookup y = some .local)
    (hsw : swapsWith (.ListComp elt [⟨tg, iter, ifs, 0⟩] scope pos) (some (.Name y py)) spos.line X.env = pure true) (hM : M' = i :: M.filter (· != i)) (hi : DI X W [] tg iter it) (ok : blkC X.N X.env.scope scope own = true) (hv : vs = own.map (·.2)) (hp : ∀ j ∈ slotsP p, j ∈ vs)
    (hb : ∀ (s : Shared) (H : Hp) (C' : Addr) (cl : List (Str × Addr)) (fp : List Addr), CB (X.blk s H scope (compEnvC scope cl C' X.env) fp) W0 k →
      DG (X.blk s H scope (compEnvC scope cl C' X.env) fp) [] tg p ∧ DTs (X.blk s H scope (compEnvC scope cl C' X.env) fp) [] ifs t ∧ DE (X.blk s H scope (compEnvC scope cl C' X.env) fp) W0 [] elt m)
    (hs : ∀ x, foldedSetIterable iter X.env x = pure x := by intro _; rfl) (hr : J.r = .own → i ≠ 0 := by intro h; first | decide | cases h) : D1 X W J M M' (.Assign [.Name y py] (.ListComp elt [⟨tg, iter, ifs, 0⟩] scope pos) spos) (sNewB i (eLc p vs it t m)) := by
  have cb : ∀ (s : Shared) (H : Hp) (C' : Addr) (cl : List (Str × Addr)) (fp : List Addr), CB (X.blk s H scope (compEnvC scope cl C' X.env) fp) W0 k := fun s H C' cl fp => ⟨C.calm, C.nd, takes0, PassesOwn.never, C.room, C.gd⟩
  subst hv
  refine ⟨fun pins s σ H D I h => ?_⟩
  refine (ps_setLc (own := own) (g := TGm X.K [] p) (tt := TTm X.K X.mg W0 [] t) (te := TEm X.K X.mg W0 [] m) C.calm C.nd hy hyl hsw hi (blkOk_by ok) (fun s H C' cl fp => (hb s H C' cl fp (cb s H C' cl fp)).1) (fun s H C' cl fp => (hb s H C' cl fp (cb s H C' cl fp)).2.1) (fun s H C' cl fp => (hb s H C' cl fp (cb s H C' cl fp)).2.2) hs).run pins s σ H D I ?_
  obtain ⟨H0, F0, F, ρ, s5, q⟩ := h
  have hl : i < ρ.length := by
    rw [s5.len, I.len]
    exact (List.getElem?_eq_some_iff.mp hy).1
  obtain ⟨F1, h1, h2, h3⟩ := newB_sem (v0 := 0) hr hl s5 hM q
  exact lc_sem (X := X) (W := W) (Q := fun x H1 => gName i x σ H1 D.nx) hp ⟨F1, ρ, h1, h2, h3⟩
theorem sNewB_ap {m : EnvD → ER (List D)} {ρ : EnvD} : sNewB i m ρ = SR.ofE (m ρ) ρ fun ds => if lfAll ds = true then .nx (ρ.set i (some (.list ds))) else .no := rfl
/-- xs = xs + e, xs an own list -/
def sCatO (i : Nat) (m : EnvD → ER D) : EnvD → SR := fun ρ => SR.ofE (m ρ) ρ fun d => match d with
  | .list es => (match ownL i ρ with
    | some ds => if ds.length + es.length ≤ sizeLine then .nx (ρ.set i (some (.list (ds ++ es)))) else .no
    | none => .no)
  | _ => .no
theorem d1_catO {pos' pb : Pos} (hN : X.N.Nodup) (hi0 : i ∈ M) (hi : X.N[i]? = some x) (hx : Loc X.env.scope x) (hv : Vis X.env.scope x) (he : DE X W M e me) (hM : M' = i :: M.filter (· != i)) (hr : J.r = .own → i ≠ 0 := by intro h; first | decide | cases h) (hd : (x == ("__debug__" : Str)) = false := by decide) (hcd : (x == ("__classdict__" : Str)) = false := by decide) (hs : swapsWith (.BinOp (.Name x p1) .Add e pb) (some (.Name x pos')) pos.line X.env = pure false := by rfl) (hf : X.fn x = true ∨ X.env.scope.names.lookup x = some .local := by first | exact .inl rfl | exact .inr rfl | assumption) :
    D1 X W J M M' (.Assign [.Name x pos'] (.BinOp (.Name x p1) .Add e pb) pos) (sCatO i me) := by
  refine ⟨fun pins s σ H D I h => ?_⟩
  refine (ps_set hN hi hx (pe_op op_catL (pe_var hi hv hd hcd) he) hs hf).run pins s σ H D I ?_
  obtain ⟨H0, F0, F, ρ, s, q⟩ := h
  have hl : i < ρ.length := by
    rw [s.len, I.len]
    exact (List.getElem?_eq_some_iff.mp hi).1
  obtain ⟨a, vs, ds, e1, e2, e3, e4, e5, e6⟩ := s.own i hi0
  refine ⟨_, e1, F, ρ, s.grow.sub, s.val, s.ev q fun v H1 F1 d _ s1 dv q1 => ?_⟩
  obtain ⟨a', vs', ds', f1, f2, f3, f4, f5, f6⟩ := s1.own i hi0
  rw [e1] at f1
  cases f1
  have eo : ownL i ρ = some ds' := by unfold ownL; rw [f2]
  cases d with
  | list es =>
    dsimp only at q1
    rw [eo] at q1
    dsimp only at q1
    cases dv with
    | lst hb rb =>
      by_cases hz : ds'.length + es.length ≤ sizeLine
      · rw [if_pos hz] at q1
        subst hM
        refine ⟨_, _, _, _, rfl, rfl, .inl (.inl f5), s1.grow.sub.seq hb, by rw [dpAll_len f6, dpAll_len rb]; exact hz, fun p hp => q1 _ _ _ ((s1.expr (Grow.newH s1.grow.sub hp)).setNew hr hl (s1.grow.h.free hp) (s1.grow.sub.free hp) upd_same (dpAll_append f6 rb) fun j hj z => ?_)⟩
        obtain ⟨a2, _, _, g1, _, _, _, g5, _⟩ := s1.own j hj
        rw [z] at g1
        cases g1
        rw [hp] at g5
        cases g5
      · rw [if_neg hz] at q1
        exact q1.elim
  | _ => exact q1.elim
theorem sCatO_ap {m : EnvD → ER D} {ρ : EnvD} : sCatO i m ρ = SR.ofE (m ρ) ρ fun d => match d with
  | .list es => (match ownL i ρ with
    | some ds => if ds.length + es.length ≤ sizeLine then .nx (ρ.set i (some (.list (ds ++ es)))) else .no
    | none => .no)
  | _ => .no := rfl
/-! ### xs[k] += e, xs an own list -/
theorem get_list : PGet X (rIxL X.K) := by
  intro pins s σ H x y v u Q I rx ry h
  obtain ⟨p, xs, i, z, rfl, rfl, hq, he, q⟩ := h
  cases rx
  obtain ⟨t, rfl⟩ := ry
  obtain ⟨its, r, pl, hz⟩ := I.list hq
  obtain ⟨j, h1, h2, h3, h4, h5⟩ := atI_get he
  obtain ⟨w, ew, rw'⟩ := r.get h2
  have hl := r.length
  have hn := line63
  have fin : EP X pins σ Q w s := ⟨z, H, I, rw', q⟩
  by_cases h0 : 0 ≤ i
  · have hj : i.toNat = j := by
      rw [seqIndex_of h0 h5] at h1
      exact Option.some.inj h1
    exact wpAny_getItem_list pl.isList h0 (by omega) (by rw [hj]; simpa using ew) fin
  · have hj : (i + (its.toArray.size : Int)).toNat = j := by
      rw [seqIndex_neg (by omega) h4] at h1
      rw [List.size_toArray, ← hl]
      exact Option.some.inj h1
    exact wpAny_getItem_list_neg pl.isList (by omega) (by rw [List.size_toArray] <;> omega) (by omega) (by rw [hj]; simpa using ew) fin
def sAugIx (f : Int → Int → Int) (i : Nat) (mi me : EnvD → ER D) : EnvD → SR := fun ρ => SR.ofE (mi ρ) ρ fun y => match y with
  | .int k => (match (ownL i ρ).bind (atI · k) with
    | some (.int old) => SR.ofE (me ρ) ρ fun z => match z with
      | .int w => (match ownL i ρ with
        | some ds => (match ixN ds.length k with
          | some j => .nx (ρ.set i (some (.list (ds.set j (.int (f old w))))))
          | none => .no)
        | none => .no)
      | _ => .no
    | _ => .no)
  | _ => .no
theorem dpAll_atI {K : PySem.W.Frag} {F : Hp} {vs : List V} {ds : List D} {k : Int} {d : D} (h : DpAll K F vs ds) (e : atI ds k = some d) : ∃ v, atI vs k = some v ∧ Dp K F v d := by
  unfold atI at e ⊢
  rw [dpAll_len h]
  cases ej : ixN ds.length k with
  | none => rw [ej] at e; cases e
  | some j =>
    rw [ej] at e
    exact dpAll_get h e
theorem d1_augix {f : Int → Int → Int} {op : Operator} {ie : Expr} {mi : EnvD → ER D} (hi : i ∈ M) (hN : X.N[i]? = some x) (hv : Vis X.env.scope x) (hx : DE X W M ie mi) (he : DE X W M e me) (hop : PIp X op (ipI f)) (hd : (x == ("__debug__" : Str)) = false := by decide) (hcd : (x == ("__classdict__" : Str)) = false := by decide)
    (ha : ∀ ov iv new, augStore ie ov iv new = (do holding [new, ov, iv] (setItem ov iv new); release [new, ov, iv] []; pure .next) := by intros; rfl) :
    D1 X W J M M (.AugAssign (.Subscript (.Name x p1) ie p2) op e pos) (sAugIx f i mi me) :=
  ps_weak (ps_augS (pe_var hN hv hd hcd) hx get_list he hop set_list ha) fun D σ H ⟨H0, F0, F, ρ, s, q⟩ => by
    obtain ⟨a, vs, ds, e1, e2, e3, e4, e5, e6⟩ := s.own i hi
    refine ⟨_, e1, F, ρ, s.grow.sub, s.val, s.ev q fun y H1 F1 dy _ s1 dvy q1 => ?_⟩
    obtain ⟨a', vs', ds', f1, f2, f3, f4, f5, f6⟩ := s1.own i hi
    rw [e1] at f1
    cases f1
    have eo : ownL i ρ = some ds' := by unfold ownL; rw [f2]
    cases dy with
    | int k =>
      cases dvy
      dsimp only at q1
      rw [eo] at q1
      cases ea : atI ds' k with
      | none => rw [show (some ds').bind (atI · k) = atI ds' k from rfl, ea] at q1; exact q1.elim
      | some od =>
        rw [show (some ds').bind (atI · k) = atI ds' k from rfl, ea] at q1
        cases od with
        | int old =>
          dsimp only at q1
          obtain ⟨ov, eov, dov⟩ := dpAll_atI f6 ea
          cases dov
          refine ⟨_, _, k, _, rfl, rfl, .inl (.inl f5), eov, F1, ρ, s1.grow.sub, s1.val, s1.ev q1 fun z H2 F2 dz _ s2 dvz q2 => ?_⟩
          cases dz with
          | int w =>
            cases dvz
            dsimp only at q2
            obtain ⟨a2, vs2, ds2, g1, g2, g3, g4, g5, g6⟩ := s2.own i hi
            rw [e1] at g1
            cases g1
            rw [f2] at g2
            cases g2
            cases ej : ixN ds'.length k with
            | none => rw [ej] at q2; exact q2.elim
            | some j =>
              rw [ej] at q2
              exact ⟨old, w, rfl, rfl, _, _, k, j, rfl, rfl, g5, by rw [dpAll_len g6]; exact ej, q2 _ _ _ (s2.mut hi e1 (dpAll_set j g6 (.int _)))⟩
          | _ => exact q2.elim
        | _ => exact q1.elim
    | _ => exact q1.elim
theorem sAugIx_ap {f : Int → Int → Int} {mi : EnvD → ER D} {ρ : EnvD} : sAugIx f i mi me ρ = SR.ofE (mi ρ) ρ fun y => match y with
  | .int k => (match (ownL i ρ).bind (atI · k) with
    | some (.int old) => SR.ofE (me ρ) ρ fun z => match z with
      | .int w => (match ownL i ρ with
        | some ds => (match ixN ds.length k with
          | some j => .nx (ρ.set i (some (.list (ds.set j (.int (f old w))))))
          | none => .no)
        | none => .no)
      | _ => .no
    | _ => .no)
  | _ => .no := rfl
end
end Z

namespace Z
open PySem PySem.Spec PyProof.Rows L2
/-! ### tuple * int -/
theorem tuple_mul1 (l : Addr) (items : Array Value) (n : Nat) (dd : Option Addr) (sl : Array (Option Value)) (u : Tok) :
    Meets (Builtin.«tuple.__mul__» ⟨[.ref l, .int 1 u], []⟩) (fun _ R s => s.heap.get? l = some { cls := .type "tuple", dict := dd, data := .seq items n, slots := sl } ∧ R (.ok (.ret (Value.ref l))) s) :=
  .of_wp fun prog w A R s h => by
    obtain ⟨hp, g, d, tk, os⟩ := s
    obtain ⟨hl, h⟩ := h
    have hT : Shared.TypeIs ⟨hp, g, d, tk, os⟩ (.ref l) "tuple" := ⟨_, hl, rfl⟩
    have f1 := AutoSeq1.idx_int
    wp_walk using wpAny_loadPart' hl, wpAny_typeOf hT
    repeat (first
      | (refine wpAny_ite_false (by decide) ?_; wp_walk using wpAny_loadPart' hl, wpAny_typeOf hT)
      | (refine wpAny_ite_true (by simp) ?_; wp_walk using wpAny_loadPart' hl, wpAny_typeOf hT))
    exact ⟨_, rfl, h⟩
theorem tuple_mul0 (l : Addr) (items : Array Value) (n : Nat) (dd : Option Addr) (sl : Array (Option Value)) (x : Int) (u : Tok) (c0 : (decide (x < -(2 ^ 63)) || decide (x ≥ 2 ^ 63)) = false) (c1 : (items.isEmpty || x == 1) = false) (c2 : (decide (x ≤ 0) || items.isEmpty) = true) :
    Meets (Builtin.«tuple.__mul__» ⟨[.ref l, .int x u], []⟩) (fun _ R s => s.heap.get? l = some { cls := .type "tuple", dict := dd, data := .seq items n, slots := sl } ∧
      R (.ok (.ret (Value.ref s.heap.objs.size))) { s with heap := s.heap.push { cls := Value.type "tuple", data := Data.seq #[] } }) :=
  .of_wp fun prog w A R s h => by
    obtain ⟨hp, g, d, tk, os⟩ := s
    obtain ⟨hl, h⟩ := h
    have f1 := AutoSeq1.idx_int
    wp_walk using wpAny_loadPart' hl
    repeat (first
      | (refine wpAny_ite_false (decide_eq_false (by rw [c0]; exact Bool.false_ne_true)) ?_; wp_walk using wpAny_loadPart' hl)
      | (refine wpAny_ite_false (decide_eq_false (by rw [c1]; exact Bool.false_ne_true)) ?_; wp_walk using wpAny_loadPart' hl)
      | (refine wpAny_ite_true (decide_eq_true c2) ?_; wp_walk using wpAny_loadPart' hl))
    exact ⟨_, rfl, h⟩
section
variable {X : Cx}
theorem op_rep1 : OpR X (binaryOp .Mult) (fun x y H Q => ∃ l xs, x = .ref l ∧ y = .int 1 ∧ SqT X.K H l xs ∧ Q (.ref l) H) := by
  intro pins s σ H x y v u Q I rx ry h
  obtain ⟨l, xs, rfl, rfl, hT, q⟩ := h
  cases rx
  obtain ⟨t, rfl⟩ := ry
  obtain ⟨its, r, ⟨⟨cls, dd, data, sl⟩, ho, hc, n, hd⟩, hs⟩ := I.tuple hT
  simp only at hc hd
  subst hc hd
  exact wpAny_binaryOp_repeat_ref (T := "tuple") (U := "int") (by decide) ⟨_, ho, rfl⟩ (fun s' => typeIs_int s' 1 t) noFill_tuple_mul F.fills_int_mul F.slot_int_rmul repeat_tuple F.slot_int_index.lookup
    (call_meets F.slot_int_rmul (typeIs_int s 1 t) F.entry_int_rmul (F.args_int_rmul_2 _ _) (int_rmul_tuple 1 t l its.toArray n dd sl)
      ⟨ho, rfl, ⟨_, ho, rfl⟩, call_meets F.slot_tuple_mul ⟨_, ho, rfl⟩ F.entry_tuple_mul (F.args_tuple_mul_2 _ _) (tuple_mul1 l its.toArray n dd sl t) ⟨ho, .ref l, H, I, rfl, q⟩⟩)
theorem op_rep0 : OpR X (binaryOp .Mult) (fun x y H Q => ∃ l xs, x = .ref l ∧ y = .int 0 ∧ SqT X.K H l xs ∧ xs ≠ [] ∧ ∀ p, H p = none → Q (.ref p) (upd H p (.tup []))) := by
  intro pins s σ H x y v u Q I rx ry h
  obtain ⟨l, xs, rfl, rfl, hT, hne, q⟩ := h
  cases rx
  obtain ⟨t, rfl⟩ := ry
  obtain ⟨its, r, ⟨⟨cls, dd, data, sl⟩, ho, hc, n, hd⟩, hs⟩ := I.tuple hT
  simp only at hc hd
  subst hc hd
  have hle : its.length = xs.length := r.length.symm
  have hn : its ≠ [] := fun e => hne (by
    rw [e] at hle
    exact List.eq_nil_of_length_eq_zero hle.symm)
  have hi : its.toArray.isEmpty = false := by
    cases its with
    | nil => exact absurd rfl hn
    | cons a b => rfl
  refine wpAny_binaryOp_repeat_ref (T := "tuple") (U := "int") (by decide) ⟨_, ho, rfl⟩ (fun s' => typeIs_int s' 0 t) noFill_tuple_mul F.fills_int_mul F.slot_int_rmul repeat_tuple F.slot_int_index.lookup
    (call_meets F.slot_int_rmul (typeIs_int s 0 t) F.entry_int_rmul (F.args_int_rmul_2 _ _) (int_rmul_tuple 0 t l its.toArray n dd sl)
      ⟨ho, rfl, ⟨_, ho, rfl⟩, call_meets F.slot_tuple_mul ⟨_, ho, rfl⟩ F.entry_tuple_mul (F.args_tuple_mul_2 _ _) (tuple_mul0 l its.toArray n dd sl 0 t (by decide) (by rw [hi]; rfl) (by rfl)) ⟨ho, ?_⟩⟩)
  refine ⟨.ref s.heap.objs.size, _, I.laid (t' := s.toks) (o := .tup []) (fun b ob q => Heap.get?_push_of_some _ q) (Nat.le_refl _) ?_, rfl, q _ (I.hok.fresh (Nat.le_refl _))⟩
  exact ⟨by rw [sizeLine_eq]; decide, [], .nil, IsTup.new _ _⟩
def repD : D → D → Option D
  | .tuple xs, .int k => if xs = [] then none else if k = 0 then some (.tuple []) else if k = 1 then some (.tuple xs) else if 2 ≤ k ∧ k ≤ 1000 ∧ xs.length ≤ 1000 then some (.tuple (List.replicate k.toNat xs).flatten) else none
  | _, _ => none
theorem dpAll_rep {K : PySem.W.Frag} {F : Hp} {ds : List D} {xs : List V} (h : DpAll K F xs ds) : ∀ n, DpAll K F (List.replicate n xs).flatten (List.replicate n ds).flatten
  | 0 => .nil
  | n + 1 => by
    rw [List.replicate_succ, List.replicate_succ, List.flatten_cons, List.flatten_cons]
    exact dpAll_append h (dpAll_rep h n)
theorem opD_rep : OpR X (binaryOp .Mult) (rD X.K repD) := by
  intro pins s σ H x y v u Q I rx ry h
  obtain ⟨F, d, e, sF, hd, he, q⟩ := h
  cases hd with
  | tup ha ra =>
    rename_i p ds es
    cases he with
    | int k =>
      have q' : okO X.K H F Q (if es = [] then none else if k = 0 then some (.tuple []) else if k = 1 then some (.tuple es) else if 2 ≤ k ∧ k ≤ 1000 ∧ es.length ≤ 1000 then some (.tuple (List.replicate k.toNat es).flatten) else none) := q
      have hl := dpAll_len ra
      by_cases h0 : es = []
      · rw [if_pos h0] at q'; exact q'.elim
      rw [if_neg h0] at q'
      have hne : ds ≠ [] := fun z => h0 (List.eq_nil_of_length_eq_zero (by rw [← hl, z]; rfl))
      by_cases h1 : k = 0
      · rw [if_pos h1] at q'
        subst h1
        exact op_rep0 pins s σ H _ _ v u Q I rx ry ⟨_, _, rfl, rfl, sqT_mono sF ha, hne, fun l hl => q' _ _ _ (Grow.new sF hl) (.tup (.inl (.inl upd_same)) .nil)⟩
      rw [if_neg h1] at q'
      by_cases h2 : k = 1
      · rw [if_pos h2] at q'
        subst h2
        exact op_rep1 pins s σ H _ _ v u Q I rx ry ⟨_, _, rfl, rfl, sqT_mono sF ha, q' _ _ _ (Grow.refl sF) (.tup ha ra)⟩
      rw [if_neg h2] at q'
      obtain ⟨⟨h3, h4, h5⟩, q'⟩ := okO_if q'
      exact op_repT pins s σ H _ _ v u Q I rx ry ⟨_, k, _, rfl, rfl, sqT_mono sF ha, hne, h3, h4, by omega, fun l hl => q' _ _ _ (Grow.new sF hl) (.tup (.inl (.inl upd_same)) (dpAll_mono (same_new (sF.free hl)) _ _ (dpAll_rep ra _)))⟩
    | _ => exact q.elim
  | _ => exact q.elim

/-! ### tuple(text) -/
theorem code_tuple_new_str {prog : Program} {w : World} {A : Around} {E : Value → Shared → Prop} {s : Shared} {Q₁ : Value → Shared → Prop} (hh : A.handled = none) (x : Str) (t : Tok) (hlen : x.cps.size ≤ sizeLine)
    (h : ∀ (s' : Shared) (acc : Array Value), (∀ b o, s.heap.get? b = some o → s'.heap.get? b = some o) → s'.gens = s.gens → s'.drawn = s.drawn → s'.os = s.os → ItemsOf (SignAt x) acc x.cps.size →
      Q₁ (.ref s'.heap.objs.size) { s' with heap := s'.heap.push { cls := .type "tuple", data := .seq acc } }) :
    codeAny (model prog w) A (.call (.builtin "tuple.__new__") ⟨[.type "tuple", .str x t], []⟩) (wants Q₁ E) s := by
  refine codeAny_of_tree ?_
  show wpAny _ A.in1 (do checkBuiltinCall "tuple.__new__" ⟨[.type "tuple", .str x t], []⟩; again (.builtin "tuple.__new__" ⟨[.type "tuple", .str x t], []⟩)) _ _ s
  refine wpAny_bind (wpAny_of_eq (F.newCall_tuple_1 _) (wpAny_pure ⟨plainId_quiet F.plain_tuple_new _, codeAny_builtin F.entry_tuple_new ?_⟩))
  rw [Around.under_plainId F.plain_tuple_new _]
  have hsub := sub_tuple_self
  have hinit := init_tuple_lookup
  have hmh := madeHere_tuple
  have hTI : s.TypeIs (.str x t) "str" := rfl
  have hh1 : A.in1.handled = none := hh
  wp_walk using wpAny_typeOf hTI, wpAny_collect_str (A := A.in1) hh1 x t (hn := hlen)
  intro s' acc hk hg hd ho hacc
  show wpAny _ _ (Builtin.Tuple.tupleExact acc.toList.toArray >>= fun v => ret v) _ _ _
  unfold Builtin.Tuple.tupleExact
  refine wpAny_bind (wpAny_newObj_type ?_ (by show acc.toList.toArray.size ≤ sizeLine; simp only [Array.toArray_toList]; rw [hacc.1]; exact hlen))
  refine wpAny_pure ?_
  have e : acc.toList.toArray = acc := by simp
  rw [e]
  exact h s' acc hk hg hd ho hacc
theorem call_tuple_str {prog : Program} {w : World} {A : Around} {E : Value → Shared → Prop} {s : Shared} {Q : Value → Shared → Prop} (hh : A.handled = none) (x : Str) (t : Tok) (hlen : x.cps.size ≤ sizeLine)
    (hQ : ∀ (s' : Shared) (acc : Array Value), (∀ b o, s.heap.get? b = some o → s'.heap.get? b = some o) → s'.gens = s.gens → s'.drawn = s.drawn → s'.os = s.os → ItemsOf (SignAt x) acc x.cps.size →
      Q (.ref s'.heap.objs.size) { s' with heap := s'.heap.push { cls := .type "tuple", data := .seq acc } }) :
    wpAny (model prog w) A (call (.type "tuple") [.str x t]) Q E s := by
  refine callType_codes (Q₁ := fun obj s₁ => s₁.TypeIs obj "tuple" ∧ Q obj s₁) F.called_tuple (F.typeCall_tuple_1 _) F.entry_object_init
    (code_tuple_new_str (A := A.in1) hh x t hlen fun s' acc hk hg hd ho hacc => ⟨⟨_, Heap.get?_push_size _ rfl, rfl⟩, hQ s' acc hk hg hd ho hacc⟩) fun obj s₁ h₁ => ?_
  exact ⟨h₁.1, F.args_object_init_2 obj _, object_init_meets F.called_tuple.init.lookup F.called_tuple.made (by decide) prog w A.in1 _ s₁ ⟨h₁.1, rfl, h₁.2⟩⟩
def tupleSD : List D → Option D
  | [.str z] => if z.length ≤ sizeLine then some (.tuple (z.cps.toList.map fun c => .str ⟨#[c]⟩)) else none
  | _ => none
theorem dpAll_chars {K : PySem.W.Frag} {F : Hp} : ∀ l : List Nat, DpAll K F (l.map fun c => V.str ⟨#[c]⟩) (l.map fun c => .str ⟨#[c]⟩)
  | [] => .nil
  | _ :: l => .cons (.str _) (dpAll_chars l)
theorem callD_tupleS (hc : X.calm = true) : CallR X (.type "tuple") (rDn X.K tupleSD) := by
  intro pins s σ H xs us Q I r h
  obtain ⟨F, ds, sF, hd, q⟩ := h
  unfold tupleSD at q
  split at q
  · rename_i z
    obtain ⟨hz, q⟩ := okO_if q
    cases hd with
    | cons h1 h2 =>
      cases h1; cases h2
      obtain ⟨u, rfl, t, rfl⟩ := vals1 r
      refine call_tuple_str (I.ok.hd hc) z t hz fun s' acc hk hg hdr ho hacc => ?_
      obtain ⟨h', g', d', t', o'⟩ := s'
      obtain ⟨h0, g0, d0, t0, o0⟩ := s
      simp only at hk hg hdr ho
      subst hg hdr ho
      have I1 := I.kept (h' := h') (t' := t') hk
      have rv : Vals (z.cps.toList.map fun c => V.str ⟨#[c]⟩) acc.toList := by
        have h2 : acc.toList.length = z.cps.toList.length := by rw [Array.length_toList, Array.length_toList]; exact hacc.1
        have h3 := vals_of_get acc.toList (fun j => V.str ⟨#[z.cps.toList.getD j 0]⟩) fun j u e => by
          obtain ⟨c, u', e1, e2⟩ := hacc.2 j u (by simpa using e)
          rw [e2]
          refine ⟨u', ?_⟩
          have e3 : z.cps.toList.getD j 0 = c := by
            rw [List.getD_eq_getElem?_getD, Array.getElem?_toList, e1]; rfl
          rw [e3]
        have h4 : (z.cps.toList.map fun c => V.str ⟨#[c]⟩) = (List.range acc.toList.length).map fun j => V.str ⟨#[z.cps.toList.getD j 0]⟩ := by
          apply List.ext_getElem
          · simp [h2]
          · intro i h5 h6
            simp at h5
            simp [h5]
        rw [h4]; exact h3
      have I2 := I1.laid (t' := t') (o := .tup (z.cps.toList.map fun c => V.str ⟨#[c]⟩)) (h' := h'.push { cls := .type "tuple", data := .seq acc }) (fun b ob q => Heap.get?_push_of_some _ q) (Nat.le_refl _) ⟨by rw [List.length_map, Array.length_toList]; exact hz, acc.toList, rv, by simpa using IsTup.new h' acc⟩
      have hn := I1.hok.fresh (Nat.le_refl _)
      refine ⟨.ref h'.objs.size, _, I2, rfl, q _ _ _ (Grow.new sF hn) (.tup (.inl (.inl upd_same)) ?_)⟩
      exact dpAll_chars _
  · exact q.elim
end
end Z

namespace Z
open PySem PySem.Spec PyProof.Rows L2
open PySem.Sem (wp)
/-! ### iterators over a list (false) or a tuple (true) -/
def ItB (h : Heap) (b : Bool) (i l : Addr) (k : Nat) : Prop := match b with | true => h.IsTupleIter i l k | false => h.IsListIter i l k
def SqA (h : Heap) (b : Bool) (l : Addr) (xs : Array Value) : Prop := match b with | true => h.IsTuple l xs | false => h.IsList l xs
theorem ItB.extBut {h h' : Heap} {b : Bool} {a c l : Addr} {k : Nat} (y : ItB h b a l k) (hs : Heap.ExtBut c h h') (hab : a ≠ c) : ItB h' b a l k := by
  cases b
  · exact Heap.IsListIter.extBut y hs hab
  · exact Heap.IsTupleIter.extBut y hs hab
theorem SqA.extBut {h h' : Heap} {b : Bool} {a c : Addr} {xs : Array Value} (y : SqA h b a xs) (hs : Heap.ExtBut c h h') (hab : a ≠ c) : SqA h' b a xs := by
  cases b
  · exact Heap.IsList.extBut y hs hab
  · exact Heap.IsTuple.extBut y hs hab
theorem ItB.at {h h' : Heap} {b : Bool} {a l : Addr} {k : Nat} (y : ItB h b a l k) (hk : ∀ o, h.get? a = some o → h'.get? a = some o) : ItB h' b a l k := by
  cases b
  · exact Heap.IsListIter.at y hk
  · exact Heap.IsTupleIter.at y hk
theorem ItB.lt {h : Heap} {b : Bool} {a l : Addr} {k : Nat} (y : ItB h b a l k) : a < h.objs.size := by
  cases b
  · obtain ⟨_, e, _⟩ := y; exact Heap.lt_size e
  · obtain ⟨_, e, _⟩ := y; exact Heap.lt_size e
theorem ItB.obj {h : Heap} {b : Bool} {a l : Addr} {k : Nat} (y : ItB h b a l k) : ∃ o, h.get? a = some o ∧ ∀ v, o.data ≠ .cell v := by
  cases b
  · obtain ⟨o, e, _, d⟩ := y; exact ⟨o, e, fun v z => by rw [d] at z; cases z⟩
  · obtain ⟨o, e, _, d⟩ := y; exact ⟨o, e, fun v z => by rw [d] at z; cases z⟩
theorem SqA.lt {h : Heap} {b : Bool} {a : Addr} {xs : Array Value} (y : SqA h b a xs) : a < h.objs.size := by
  cases b
  · obtain ⟨_, e, _⟩ := y; exact Heap.lt_size e
  · obtain ⟨_, e, _⟩ := y; exact Heap.lt_size e
section
variable {prog : Program} {w : World} {A : Around} {E : Value → Shared → Prop} {s : Shared}
theorem nextOfB_item {b : Bool} {it l : Addr} {i : Nat} {items} {x : Value} {Q : Value → Shared → Prop} (hit : ItB s.heap b it l i)
    (hl : SqA s.heap b l items) (hx : items[i]? = some x)
    (hQ : ∀ h', ItB h' b it l (i + 1) → Heap.SameBut it s.heap h' → Q x { s with heap := h' }) :
    wpAny (model prog w) A (Builtin.SmallTypes.nextOf (.ref it)) Q E s := by
  cases b
  · exact wpAny_nextOf_list_item hit hl hx hQ
  · exact RZ.nextOf_tuple_item hit hl hx hQ
theorem nextOfB_end {b : Bool} {it l : Addr} {i : Nat} {items} {Q : Value → Shared → Prop} (hh : A.handled = none)
    (hit : ItB s.heap b it l i) (hl : SqA s.heap b l items) (hx : items[i]? = none)
    (hE : ∀ h' e, Heap.ExtBut it s.heap h' → (∃ o, h'.get? e = some o ∧ o.cls = .type "StopIteration") → E (.ref e) { s with heap := h' }) :
    wpAny (model prog w) A (Builtin.SmallTypes.nextOf (.ref it)) Q E s := by
  cases b
  · exact wpAny_nextOf_list_end hh hit hl hx hE
  · exact RZ.nextOf_tuple_end hh hit hl hx hE
abbrev itBObj (b : Bool) (l : Addr) : Obj := match b with | true => { cls := .type "tuple_iterator", data := .fields #[.ref l, .int 0 0] } | false => { cls := .type "list_iterator", data := .fields #[.ref l, .int 0 0] }
theorem pyIterB {b : Bool} {l : Addr} {xs : Array Value} {Q : Value → Shared → Prop} (hl : SqA s.heap b l xs) (h : Q (.ref s.heap.objs.size) { s with heap := s.heap.push (itBObj b l) }) :
    wpAny (model prog w) A (pyIter (.ref l)) Q E s := by
  cases b
  · exact wpAny_pyIter_list hl h
  · exact wpAny_pyIter_tuple hl h
theorem SqA.push {h : Heap} {b : Bool} {a : Addr} {xs : Array Value} (y : SqA h b a xs) (o : Obj) : SqA (h.push o) b a xs := by
  cases b
  · exact Heap.IsList.push y o
  · exact Heap.IsTuple.push y o
theorem itB_new {h : Heap} {b : Bool} {a l : Addr} (e : h.get? a = some (itBObj b l)) : ItB h b a l 0 := by
  cases b
  · exact ⟨_, e, rfl, rfl⟩
  · exact ⟨_, e, rfl, rfl⟩
abbrev IsTu (h : Heap) (T : Addr) (vs : Array Value) : Prop := h.get? T = some { cls := .type "tuple", data := .seq vs }
theorem updateSeq_tu {T : Addr} {vs : Array Value} {x : Value} {k : Nat} {Q : Unit → Shared → Prop} (hT : IsTu s.heap T vs) (hv : vs.size ≤ 3)
    (h : ∀ h', h'.get? T = some { cls := .type "tuple", data := .seq (vs.setIfInBounds k x) } → Heap.SameBut T s.heap h' → Q () { s with heap := h' }) :
    wpAny (model prog w) A (updateSeq T (·.setIfInBounds k x)) Q E s := by
  refine wpAny_updateSeq (f := fun z => z.setIfInBounds k x) (hz := by rw [sizeLine_eq]; omega) (_hz' := by show (vs.setIfInBounds k x).size ≤ _; rw [sizeLine_eq, Array.size_setIfInBounds]; omega) hT rfl (h _ ?_ (Heap.SameBut.update ..))
  rw [Heap.get?_update_self _ hT rfl]
  simp [Obj.mapSeq]
end
/-- a list (false) or a tuple (true) of the hand layer -/
def SqK (K : PySem.W.Frag) (b : Bool) (H : Hp) (a : Addr) (xs : List V) : Prop := match b with | true => SqT K H a xs | false => SqL K H a xs
theorem sqK_at {X : Cx} {pins : List (Addr × Obj)} {σ : L2.St} {H : Hp} {s : Shared} {b : Bool} {a : Addr} {xs : List V} (I : Inv X pins σ H s) (h : SqK X.K b H a xs) : ∃ its, Vals xs its ∧ SqA s.heap b a its.toArray := by
  cases b
  · obtain ⟨its, rv, p, _⟩ := I.list h; exact ⟨its, rv, p.isList⟩
  · obtain ⟨its, rv, p, _⟩ := I.tuple h; exact ⟨its, rv, p⟩
theorem sqK_inj {X : Cx} {pins : List (Addr × Obj)} {σ : L2.St} {H : Hp} {s : Shared} {b : Bool} {a : Addr} {xs ys : List V} (I : Inv X pins σ H s) (h : SqK X.K b H a xs) (h' : SqK X.K b H a ys) : xs = ys := by
  cases b
  · exact I.list_inj h h'
  · exact I.tuple_inj h h'
theorem sqK_mono {K : PySem.W.Frag} {F H : Hp} {b : Bool} {a : Addr} {xs : List V} (s : Same F H) (h : SqK K b F a xs) : SqK K b H a xs := by
  cases b
  · exact s.seq h
  · exact sqT_mono s h
structure Apart2 (z TI TO i1 i2 l1 l2 : Addr) : Prop where
  TIz : TI ≠ z
  TOz : TO ≠ z
  TITO : TI ≠ TO
  i1z : i1 ≠ z
  TIi1 : TI ≠ i1
  TOi1 : TO ≠ i1
  l1z : l1 ≠ z
  l1TO : l1 ≠ TO
  l1i1 : l1 ≠ i1
  l1i2 : l1 ≠ i2
  i1i2 : i1 ≠ i2
  i2z : i2 ≠ z
  TIi2 : TI ≠ i2
  TOi2 : TO ≠ i2
  l2z : l2 ≠ z
  l2TO : l2 ≠ TO
  l2i1 : l2 ≠ i1
  l2i2 : l2 ≠ i2
  i2i1 : i2 ≠ i1
theorem apart2 (a l1 l2 : Nat) (h1 : l1 < a) (h2 : l2 < a) : Apart2 (a + 4) (a + 2) (a + 3) a (a + 1) l1 l2 where
  TIz := by show @Ne Nat _ _; omega
  TOz := by show @Ne Nat _ _; omega
  TITO := by show @Ne Nat _ _; omega
  i1z := by show @Ne Nat _ _; omega
  TIi1 := by show @Ne Nat _ _; omega
  TOi1 := by show @Ne Nat _ _; omega
  l1z := by show @Ne Nat _ _; omega
  l1TO := by show @Ne Nat _ _; omega
  l1i1 := by show @Ne Nat _ _; omega
  l1i2 := by show @Ne Nat _ _; omega
  i1i2 := by show @Ne Nat _ _; omega
  i2z := by show @Ne Nat _ _; omega
  TIi2 := by show @Ne Nat _ _; omega
  TOi2 := by show @Ne Nat _ _; omega
  l2z := by show @Ne Nat _ _; omega
  l2TO := by show @Ne Nat _ _; omega
  l2i1 := by show @Ne Nat _ _; omega
  l2i2 := by show @Ne Nat _ _; omega
  i2i1 := by show @Ne Nat _ _; omega
section
variable {prog : Program} {w : World} {A : Around} {E : Value → Shared → Prop} {s : Shared}
theorem zip2_next_item {z TI TO i1 i2 l1 l2 : Addr} {b1 b2 : Bool} {k1 k2 : Nat} {xs1 xs2 : Array Value} {a1 a2 : Value} {x1 x2 : Value} {Q : Value → Shared → Prop} (D : Apart2 z TI TO i1 i2 l1 l2) (hz : IsZip s.heap z TI TO .none) (hTI : IsTu s.heap TI #[.ref i1, .ref i2]) (hTO : IsTu s.heap TO #[a1, a2]) (h1 : ItB s.heap b1 i1 l1 k1) (h2 : ItB s.heap b2 i2 l2 k2) (hl1 : SqA s.heap b1 l1 xs1) (hl2 : SqA s.heap b2 l2 xs2) (hx1 : xs1[k1]? = some x1) (hx2 : xs2[k2]? = some x2)
    (hQ : ∀ h', IsZip h' z TI TO (rawInt s.heap.objs.size) → IsTu h' TO #[x1, x2] → ItB h' b1 i1 l1 (k1 + 1) → ItB h' b2 i2 l2 (k2 + 1) → IsTu h' s.heap.objs.size #[x1, x2] → h'.objs.size = s.heap.objs.size + 1 → (∀ c o, c ≠ z → c ≠ TO → c ≠ i1 → c ≠ i2 → s.heap.get? c = some o → h'.get? c = some o) → Q (.ref s.heap.objs.size) { s with heap := h' }) :
    wpAny (model prog w) A (Builtin.«zip.__next__» ⟨[.ref z], []⟩) (fun fin s' => ∃ v, fin = .done (.ret v) ∧ Q v s') E s := by
  show wpAny _ _ (field (.ref z) 2 >>= _) _ _ _
  refine wpAny_bind (wpAny_field hz rfl (x := .bool false) rfl ?_)
  show wpAny _ _ (field (.ref z) 3 >>= _) _ _ _
  refine wpAny_bind (wpAny_field hz rfl (x := .ref TI) rfl ?_)
  refine wpAny_bind (wpAny_seqItems hTI rfl ?_)
  show wpAny _ _ (Builtin.SmallTypes.ownedTupleIsFree (.ref z) >>= _) _ _ _
  refine wpAny_bind ?_
  unfold Builtin.SmallTypes.ownedTupleIsFree
  refine wpAny_bind (wpAny_field hz rfl (x := .none) rfl (wpAny_pure ?_))
  simp only [if_true]
  refine wpAny_bind (wpAny_rule ?_)
  refine wpAny_bind (wpAny_field hz rfl (x := .ref TO) rfl ?_)
  refine wpAny_bind (wpAny_setField_rec hz (by simp) fun g0 hz0 s0 => ?_)
  replace hz0 : IsZip g0 z TI TO .ellipsis := hz0
  refine wpAny_bind ?_
  simp only [List.zipIdx_cons, List.zipIdx_nil, List.forIn_cons, List.forIn_nil]
  refine wpAny_bind (wpAny_bind (wpAny_onRaise ?_))
  show wpAny _ _ (Builtin.SmallTypes.nextOf (.ref i1) >>= _) _ _ _
  refine wpAny_bind (nextOfB_item (h1.extBut s0.extBut D.i1z) (hl1.extBut s0.extBut D.l1z) hx1 fun f1 w1 t1 => wpAny_pure ?_)
  have v1 : IsTu f1 TO #[a1, a2] := (t1.extBut _ _ D.TOi1 (s0.extBut _ _ D.TOz hTO))
  refine wpAny_bind (wpAny_seqItems v1 rfl ?_)
  refine wpAny_bind (updateSeq_tu v1 (by simp) fun g1 u1 s1 => ?_)
  replace u1 : IsTu g1 TO #[x1, a2] := u1
  refine wpAny_bind (wpAny_letGo (wpAny_pure ?_))
  refine wpAny_bind (wpAny_bind (wpAny_onRaise ?_))
  show wpAny _ _ (Builtin.SmallTypes.nextOf (.ref i2) >>= _) _ _ _
  refine wpAny_bind (nextOfB_item (((h2.extBut s0.extBut D.i2z).extBut t1.extBut D.i2i1).extBut s1.extBut D.TOi2.symm) (((hl2.extBut s0.extBut D.l2z).extBut t1.extBut D.l2i1).extBut s1.extBut D.l2TO) hx2 fun f2 w2 t2 => wpAny_pure ?_)
  have v2 : IsTu f2 TO #[x1, a2] := (t2.extBut _ _ D.TOi2 u1)
  refine wpAny_bind (wpAny_seqItems v2 rfl ?_)
  refine wpAny_bind (updateSeq_tu v2 (by simp) fun g2 u2 s2 => ?_)
  replace u2 : IsTu g2 TO #[x1, x2] := u2
  refine wpAny_bind (wpAny_letGo (wpAny_pure (wpAny_pure ?_)))
  refine wpAny_bind (wpAny_seqItems u2 rfl ?_)
  refine wpAny_bind (wpAny_newTuple ?_)
  have hsz : g2.objs.size = s.heap.objs.size := by rw [s2.1, t2.1, s1.1, t1.1, s0.1]
  have hzn : IsZip g2 z TI TO .ellipsis := (s2.extBut _ _ D.TOz.symm (t2.extBut _ _ D.i2z.symm (s1.extBut _ _ D.TOz.symm (t1.extBut _ _ D.i1z.symm hz0))))
  have hkn : ∀ c o, c ≠ z → c ≠ TO → c ≠ i1 → c ≠ i2 → s.heap.get? c = some o → g2.get? c = some o := fun c o cz cTO ci1 ci2 e => s2.extBut _ _ cTO (t2.extBut _ _ ci2 (s1.extBut _ _ cTO (t1.extBut _ _ ci1 (s0.extBut _ _ cz (e)))))
  have y1 : ItB g2 b1 i1 l1 (k1 + 1) := (((w1.extBut s1.extBut D.TOi1.symm).extBut t2.extBut D.i1i2).extBut s2.extBut D.TOi1.symm)
  have y2 : ItB g2 b2 i2 l2 (k2 + 1) := (w2.extBut s2.extBut D.TOi2.symm)
  have hzlt : z < g2.objs.size := Heap.lt_size hzn
  show wpAny _ _ (Builtin.SmallTypes.ownedTupleHandOut (.ref z) (.ref g2.objs.size) >>= _) _ _ _
  refine wpAny_bind ?_
  unfold Builtin.SmallTypes.ownedTupleHandOut
  have hz6 : IsZip (g2.push { cls := .type "tuple", data := .seq #[x1, x2] }) z TI TO .ellipsis := Heap.get?_push_of_some _ hzn
  refine wpAny_bind (wpAny_setField_rec hz6 (by simp) fun h7 hz7 hs7 => ?_)
  replace hz7 : IsZip h7 z TI TO (rawInt g2.objs.size) := hz7
  refine wpAny_setField_rec hz7 (by simp) fun h8 hz8 hs8 => ?_
  replace hz8 : IsZip h8 z TI TO (rawInt g2.objs.size) := hz8
  have up : ∀ c o, c ≠ z → g2.get? c = some o → h8.get? c = some o := fun c o c1 e => hs8.extBut _ _ c1 (hs7.extBut _ _ c1 (Heap.get?_push_of_some _ e))
  have hT8 : IsTu h8 g2.objs.size #[x1, x2] := hs8.extBut _ _ (Nat.ne_of_gt hzlt) (hs7.extBut _ _ (Nat.ne_of_gt hzlt) (Heap.get?_push_size _ rfl))
  have hsz8 : h8.objs.size = g2.objs.size + 1 := by rw [hs8.1, hs7.1, Heap.size_push]
  rw [hsz] at hz8 hT8 hsz8
  refine wpAny_pure ⟨_, rfl, ?_⟩
  show Q (.ref g2.objs.size) _
  rw [hsz]
  exact hQ h8 hz8 (up _ _ D.TOz u2) (y1.at fun o e => up _ o D.i1z e) (y2.at fun o e => up _ o D.i2z e) hT8 hsz8 fun c o cz cTO ci1 ci2 e => up c o cz (hkn c o cz cTO ci1 ci2 e)
theorem zip2_next_end {z TI TO i1 i2 l1 l2 : Addr} {b1 b2 : Bool} {k1 k2 : Nat} {xs1 xs2 : Array Value} {a1 a2 : Value} {Q : Fin → Shared → Prop} (hh : A.handled = none) (D : Apart2 z TI TO i1 i2 l1 l2) (hz : IsZip s.heap z TI TO .none) (hTI : IsTu s.heap TI #[.ref i1, .ref i2]) (hTO : IsTu s.heap TO #[a1, a2]) (h1 : ItB s.heap b1 i1 l1 k1) (h2 : ItB s.heap b2 i2 l2 k2) (hl1 : SqA s.heap b1 l1 xs1) (hl2 : SqA s.heap b2 l2 xs2) (hend : xs1[k1]? = none ∨ xs2[k2]? = none)
    (hE : ∀ h' e, (∀ c o, c ≠ z → c ≠ TO → c ≠ i1 → c ≠ i2 → s.heap.get? c = some o → h'.get? c = some o) → (∃ o, h'.get? e = some o ∧ o.cls = .type "StopIteration") → E (.ref e) { s with heap := h' }) :
    wpAny (model prog w) A (Builtin.«zip.__next__» ⟨[.ref z], []⟩) Q E s := by
  show wpAny _ _ (field (.ref z) 2 >>= _) _ _ _
  refine wpAny_bind (wpAny_field hz rfl (x := .bool false) rfl ?_)
  show wpAny _ _ (field (.ref z) 3 >>= _) _ _ _
  refine wpAny_bind (wpAny_field hz rfl (x := .ref TI) rfl ?_)
  refine wpAny_bind (wpAny_seqItems hTI rfl ?_)
  show wpAny _ _ (Builtin.SmallTypes.ownedTupleIsFree (.ref z) >>= _) _ _ _
  refine wpAny_bind ?_
  unfold Builtin.SmallTypes.ownedTupleIsFree
  refine wpAny_bind (wpAny_field hz rfl (x := .none) rfl (wpAny_pure ?_))
  simp only [if_true]
  refine wpAny_bind (wpAny_rule ?_)
  refine wpAny_bind (wpAny_field hz rfl (x := .ref TO) rfl ?_)
  refine wpAny_bind (wpAny_setField_rec hz (by simp) fun g0 hz0 s0 => ?_)
  replace hz0 : IsZip g0 z TI TO .ellipsis := hz0
  refine wpAny_bind ?_
  simp only [List.zipIdx_cons, List.zipIdx_nil, List.forIn_cons, List.forIn_nil]
  refine wpAny_bind (wpAny_bind (wpAny_onRaise ?_))
  show wpAny _ _ (Builtin.SmallTypes.nextOf (.ref i1) >>= _) _ _ _
  cases hx1 : xs1[k1]? with
  | none =>
    refine wpAny_bind (nextOfB_end hh (h1.extBut s0.extBut D.i1z) (hl1.extBut s0.extBut D.l1z) hx1 fun f1 e t1 he => ?_)
    obtain ⟨oe, hoe, hce⟩ := he
    have hzz : IsZip f1 z TI TO .ellipsis := t1 _ _ D.i1z.symm hz0
    have hez : e ≠ z := fun x => by subst x; rw [hzz] at hoe; cases hoe; simp at hce
    refine wpAny_setField_rec hzz (by simp) fun hq _ hsq => hE hq e (fun c o cz cTO ci1 ci2 x => hsq.extBut _ _ cz (t1 _ _ ci1 (s0.extBut _ _ cz (x)))) ⟨oe, hsq.extBut _ _ hez hoe, hce⟩
  | some x1 =>
    refine wpAny_bind (nextOfB_item (h1.extBut s0.extBut D.i1z) (hl1.extBut s0.extBut D.l1z) hx1 fun f1 w1 t1 => wpAny_pure ?_)
    have v1 : IsTu f1 TO #[a1, a2] := (t1.extBut _ _ D.TOi1 (s0.extBut _ _ D.TOz hTO))
    refine wpAny_bind (wpAny_seqItems v1 rfl ?_)
    refine wpAny_bind (updateSeq_tu v1 (by simp) fun g1 u1 s1 => ?_)
    replace u1 : IsTu g1 TO #[x1, a2] := u1
    refine wpAny_bind (wpAny_letGo (wpAny_pure ?_))
    refine wpAny_bind (wpAny_bind (wpAny_onRaise ?_))
    show wpAny _ _ (Builtin.SmallTypes.nextOf (.ref i2) >>= _) _ _ _
    cases hx2 : xs2[k2]? with
    | none =>
      refine wpAny_bind (nextOfB_end hh (((h2.extBut s0.extBut D.i2z).extBut t1.extBut D.i2i1).extBut s1.extBut D.TOi2.symm) (((hl2.extBut s0.extBut D.l2z).extBut t1.extBut D.l2i1).extBut s1.extBut D.l2TO) hx2 fun f2 e t2 he => ?_)
      obtain ⟨oe, hoe, hce⟩ := he
      have hzz : IsZip f2 z TI TO .ellipsis := t2 _ _ D.i2z.symm (s1.extBut _ _ D.TOz.symm (t1.extBut _ _ D.i1z.symm hz0))
      have hez : e ≠ z := fun x => by subst x; rw [hzz] at hoe; cases hoe; simp at hce
      refine wpAny_setField_rec hzz (by simp) fun hq _ hsq => hE hq e (fun c o cz cTO ci1 ci2 x => hsq.extBut _ _ cz (t2 _ _ ci2 (s1.extBut _ _ cTO (t1.extBut _ _ ci1 (s0.extBut _ _ cz (x)))))) ⟨oe, hsq.extBut _ _ hez hoe, hce⟩
    | some x2 =>
      exfalso
      rcases hend with h | h
      · rw [hx1] at h; cases h
      · rw [hx2] at h; cases h
theorem pyNextZ2_item {z TI TO i1 i2 l1 l2 : Addr} {b1 b2 : Bool} {k1 k2 : Nat} {xs1 xs2 : Array Value} {a1 a2 : Value} {x1 x2 : Value} {Q : Option Value → Shared → Prop} (D : Apart2 z TI TO i1 i2 l1 l2) (hz : IsZip s.heap z TI TO .none) (hTI : IsTu s.heap TI #[.ref i1, .ref i2]) (hTO : IsTu s.heap TO #[a1, a2]) (h1 : ItB s.heap b1 i1 l1 k1) (h2 : ItB s.heap b2 i2 l2 k2) (hl1 : SqA s.heap b1 l1 xs1) (hl2 : SqA s.heap b2 l2 xs2) (hx1 : xs1[k1]? = some x1) (hx2 : xs2[k2]? = some x2)
    (hQ : ∀ h', IsZip h' z TI TO (rawInt s.heap.objs.size) → IsTu h' TO #[x1, x2] → ItB h' b1 i1 l1 (k1 + 1) → ItB h' b2 i2 l2 (k2 + 1) → IsTu h' s.heap.objs.size #[x1, x2] → h'.objs.size = s.heap.objs.size + 1 → (∀ c o, c ≠ z → c ≠ TO → c ≠ i1 → c ≠ i2 → s.heap.get? c = some o → h'.get? c = some o) → Q (some (.ref s.heap.objs.size)) { s with heap := h' }) :
    wpAny (model prog w) A (pyNext (.ref z)) Q E s := by
  have hT : s.TypeIs (.ref z) "zip" := ⟨_, hz, rfl⟩
  unfold pyNext
  exact wpAny_bind (wpAny_attempt (wpAny_callSpecial?_slot (name := Str.ofString "__next__") hT F.slot_zip_next
    (wpAny_call_entry F.slot_zip_next hT F.entry_zip_next
      (zip2_next_item D hz hTI hTO h1 h2 hl1 hl2 hx1 hx2 fun h' q0 q1 q2 q3 q4 q5 q6 => wpAny_pure (hQ h' q0 q1 q2 q3 q4 q5 q6)) (F.args_zip_next_1 _))))
theorem pyNextZ2_end {z TI TO i1 i2 l1 l2 : Addr} {b1 b2 : Bool} {k1 k2 : Nat} {xs1 xs2 : Array Value} {a1 a2 : Value} {Q : Option Value → Shared → Prop} (hh : A.handled = none) (D : Apart2 z TI TO i1 i2 l1 l2) (hz : IsZip s.heap z TI TO .none) (hTI : IsTu s.heap TI #[.ref i1, .ref i2]) (hTO : IsTu s.heap TO #[a1, a2]) (h1 : ItB s.heap b1 i1 l1 k1) (h2 : ItB s.heap b2 i2 l2 k2) (hl1 : SqA s.heap b1 l1 xs1) (hl2 : SqA s.heap b2 l2 xs2) (hend : xs1[k1]? = none ∨ xs2[k2]? = none)
    (hQ : ∀ h', (∀ c o, c ≠ z → c ≠ TO → c ≠ i1 → c ≠ i2 → s.heap.get? c = some o → h'.get? c = some o) → Q none { s with heap := h' }) : wpAny (model prog w) A (pyNext (.ref z)) Q E s := by
  have hT : s.TypeIs (.ref z) "zip" := ⟨_, hz, rfl⟩
  unfold pyNext
  refine wpAny_bind (wpAny_attempt (wpAny_callSpecial?_slot (name := Str.ofString "__next__") hT F.slot_zip_next
    (wpAny_call_entry F.slot_zip_next hT F.entry_zip_next (zip2_next_end hh D hz hTI hTO h1 h2 hl1 hl2 hend fun h' e hk he => ?_) (F.args_zip_next_1 _))))
  obtain ⟨o, ho, hc⟩ := he
  refine wpAny_bind (wpAny_isInstance (T := "StopIteration") (b := true) ⟨o, ho, hc⟩ isSubtype_stop ?_)
  exact wpAny_pure (hQ _ hk)
end
abbrev z2H1 (h : Heap) (b1 : Bool) (l1 : Addr) : Heap := h.push (itBObj b1 l1)
abbrev z2H2 (h : Heap) (b1 : Bool) (l1 : Addr) (b2 : Bool) (l2 : Addr) : Heap := (z2H1 h b1 l1).push (itBObj b2 l2)
abbrev z2H3 (h : Heap) (b1 : Bool) (l1 : Addr) (b2 : Bool) (l2 : Addr) : Heap := (z2H2 h b1 l1 b2 l2).push { cls := .type "tuple", data := .seq #[.ref h.objs.size, .ref (z2H1 h b1 l1).objs.size] }
abbrev z2H4 (h : Heap) (b1 : Bool) (l1 : Addr) (b2 : Bool) (l2 : Addr) : Heap := (z2H3 h b1 l1 b2 l2).push { cls := .type "tuple", data := .seq #[.none, .none] }
abbrev z2H5 (h : Heap) (b1 : Bool) (l1 : Addr) (b2 : Bool) (l2 : Addr) : Heap := (z2H4 h b1 l1 b2 l2).push { cls := .type "zip", data := .fields #[.none, .bool false, .bool false, .ref (z2H2 h b1 l1 b2 l2).objs.size, .ref (z2H3 h b1 l1 b2 l2).objs.size] }
theorem meets_zip2_new (b1 : Bool) (l1 : Addr) (b2 : Bool) (l2 : Addr) (xs1 xs2 : Array Value) :
    Meets (Builtin.«zip.__new__» ⟨[.type "zip", .ref l1, .ref l2], []⟩) (fun _ R s => SqA s.heap b1 l1 xs1 ∧ SqA s.heap b2 l2 xs2 ∧
      R (.ok (.ret (.ref (z2H4 s.heap b1 l1 b2 l2).objs.size))) { s with heap := (z2H5 s.heap b1 l1 b2 l2) }) :=
  .of_wp fun prog w A R s h => by
    obtain ⟨hp, g, d, tk, os⟩ := s; obtain ⟨hl1, hl2, h⟩ := h
    have hsub := sub_zip
    have hL1 : SqA (Shared.heap ⟨hp, g, d, tk, os⟩) b1 l1 xs1 := hl1
    have hL2 : SqA (Shared.heap ⟨(z2H1 hp b1 l1), g, d, tk, os⟩) b2 l2 xs2 := (SqA.push hl2 _)
    wp_walk using pyIterB hL1, pyIterB hL2
    exact ⟨_, rfl, h⟩
section
variable {prog : Program} {w : World} {A : Around} {E : Value → Shared → Prop} {s : Shared}
theorem call_zip2 {b1 b2 : Bool} {l1 l2 : Addr} {xs1 xs2 : Array Value} {Q : Value → Shared → Prop} (hl1 : SqA s.heap b1 l1 xs1) (hl2 : SqA s.heap b2 l2 xs2)
    (h : ∀ h', IsZip h' (s.heap.objs.size + 4) (s.heap.objs.size + 2) (s.heap.objs.size + 3) .none → IsTu h' (s.heap.objs.size + 2) #[.ref (s.heap.objs.size), .ref (s.heap.objs.size + 1)] → IsTu h' (s.heap.objs.size + 3) #[.none, .none] → ItB h' b1 (s.heap.objs.size) l1 0 → ItB h' b2 (s.heap.objs.size + 1) l2 0 → h'.objs.size = s.heap.objs.size + 5 →
      (∀ c o, s.heap.get? c = some o → h'.get? c = some o) → Q (.ref (s.heap.objs.size + 4)) { s with heap := h' }) :
    wpAny (model prog w) A (call (.type "zip") [.ref l1, .ref l2]) Q E s := by
  refine callType_new F.called_zip (by decide) (F.typeCall_zip_2 _ _) (F.newCall_zip_2 _ _) (fun obj => F.args_object_init_3 obj _ _) F.entry_zip_new
    (meets_zip2_new b1 l1 b2 l2 xs1 xs2) ⟨hl1, hl2, ?_⟩
  have e1 : (z2H1 s.heap b1 l1).objs.size = s.heap.objs.size + 1 := Heap.size_push ..
  have e2 : (z2H2 s.heap b1 l1 b2 l2).objs.size = s.heap.objs.size + 2 := by rw [Heap.size_push, e1]
  have e3 : (z2H3 s.heap b1 l1 b2 l2).objs.size = s.heap.objs.size + 3 := by rw [Heap.size_push, e2]
  have e4 : (z2H4 s.heap b1 l1 b2 l2).objs.size = s.heap.objs.size + 4 := by rw [Heap.size_push, e3]
  have e5 : (z2H5 s.heap b1 l1 b2 l2).objs.size = s.heap.objs.size + 5 := by rw [Heap.size_push, e4]
  have g5 : (z2H5 s.heap b1 l1 b2 l2).get? (z2H4 s.heap b1 l1 b2 l2).objs.size = some _ := (Heap.get?_push_size _ rfl)
  have g4 : (z2H5 s.heap b1 l1 b2 l2).get? (z2H3 s.heap b1 l1 b2 l2).objs.size = some _ := (Heap.get?_push_of_some _ (Heap.get?_push_size _ rfl))
  have g3 : (z2H5 s.heap b1 l1 b2 l2).get? (z2H2 s.heap b1 l1 b2 l2).objs.size = some _ := (Heap.get?_push_of_some _ (Heap.get?_push_of_some _ (Heap.get?_push_size _ rfl)))
  have g2 : (z2H5 s.heap b1 l1 b2 l2).get? (z2H1 s.heap b1 l1).objs.size = some _ := (Heap.get?_push_of_some _ (Heap.get?_push_of_some _ (Heap.get?_push_of_some _ (Heap.get?_push_size _ (by cases b2 <;> rfl)))))
  have g1 : (z2H5 s.heap b1 l1 b2 l2).get? s.heap.objs.size = some _ := (Heap.get?_push_of_some _ (Heap.get?_push_of_some _ (Heap.get?_push_of_some _ (Heap.get?_push_of_some _ (Heap.get?_push_size _ (by cases b1 <;> rfl))))))
  show _ ∧ _
  rw [e2, e3, e4] at g5
  rw [e3] at g4
  rw [e1, e2] at g3
  rw [e1] at g2
  rw [e4]
  exact ⟨⟨_, g5, rfl⟩, h _ g5 g3 g4 (itB_new g1) (itB_new g2) e5 fun c o x => (Heap.get?_push_of_some _ (Heap.get?_push_of_some _ (Heap.get?_push_of_some _ (Heap.get?_push_of_some _ (Heap.get?_push_of_some _ x)))))⟩
end
def Itz2 (K : PySem.W.Frag) (b1 : Bool) (b2 : Bool) (l1 : Addr) (l2 : Addr) : It :=
  ⟨fun i H => ∃ (ys1 ys2 : List V) (x1 x2 : V), SqK K b1 H l1 ys1 ∧ SqK K b2 H l2 ys2 ∧ ys1[i]? = some x1 ∧ ys2[i]? = some x2,
    fun i H v H' => ∃ T x1 x2, v = .ref T ∧ H T = none ∧ H' = upd H T (.tup [x1, x2]) ∧ (∀ xs, SqK K b1 H l1 xs → xs[i]? = some x1) ∧ (∀ xs, SqK K b2 H l2 xs → xs[i]? = some x2),
    fun i H => ∃ ys1 ys2 : List V, SqK K b1 H l1 ys1 ∧ SqK K b2 H l2 ys2 ∧ (ys1.length ≤ i ∨ ys2.length ≤ i)⟩
theorem turn_zip2' {P : Program} {w : World} {K : PySem.W.Frag} {elts : List Expr} {kk : Nat} {tpos : Pos} {b1 b2 : Bool} {l1 l2 z TI TO i1 i2 : Addr} (D : Apart2 z TI TO i1 i2 l1 l2) :
    Turn P w K (.Tuple elts kk tpos) (Itz2 K b1 b2 l1 l2) [z, TI, TO, i1, i2] z (fun i h => IsZip h z TI TO .none ∧ IsTu h TI #[.ref i1, .ref i2] ∧ (∃ a1 a2, IsTu h TO #[a1, a2]) ∧ ItB h b1 i1 l1 i ∧ ItB h b2 i2 l2 i) where
  mem := by simp
  obj := fun i h st c hc => by
    obtain ⟨hz, hTI, ⟨a1, a2, hTO⟩, h1, h2⟩ := st
    have e' : c = z ∨ c = TI ∨ c = TO ∨ c = i1 ∨ c = i2 := by simpa using hc
    rcases e' with q | q | q | q | q
    · rw [q]; exact ⟨_, hz, fun v q => nomatch q⟩
    · rw [q]; exact ⟨_, hTI, fun v q => nomatch q⟩
    · rw [q]; exact ⟨_, hTO, fun v q => nomatch q⟩
    · rw [q]; exact h1.obj
    · rw [q]; exact h2.obj
  keep := fun i h h' st k => by
    obtain ⟨hz, hTI, ⟨a1, a2, hTO⟩, h1, h2⟩ := st
    exact ⟨k z (by simp) _ hz, k TI (by simp) _ hTI, ⟨a1, a2, k TO (by simp) _ hTO⟩, h1.at fun o q => k i1 (by simp) o q, h2.at fun o q => k i2 (by simp) o q⟩
  item := by
    intro X hP hw hK hc i pins s σ H E I hf st hg
    subst hP hw hK
    obtain ⟨hz, hTI, ⟨a1, a2, hTO⟩, h1, h2⟩ := st
    obtain ⟨ys1, ys2, x1, x2, hq1, hq2, hx1, hx2⟩ := hg
    obtain ⟨its1, rv1, p1⟩ := sqK_at I hq1
    obtain ⟨its2, rv2, p2⟩ := sqK_at I hq2
    obtain ⟨u1, hu1, ru1⟩ := rv1.get hx1
    obtain ⟨u2, hu2, ru2⟩ := rv2.get hx2
    have hzl : z < s.heap.objs.size := Heap.lt_size hz
    refine pyNextZ2_item D hz hTI hTO h1 h2 p1 p2 (x1 := u1) (x2 := u2) (by simpa using hu1) (by simpa using hu2) fun h' z' TO' h1' h2' hT hsz hk => ?_
    refine ⟨_, rfl, wpAny_letOwnedTupleGo_zip (s := { s with heap := h' }) z' fun h'' z'' sb => ?_⟩
    have hT2 : h''.get? s.heap.objs.size = some { cls := .type "tuple", data := .seq #[u1, u2] } := (sb.2 _ (Nat.ne_of_gt hzl)).trans hT
    have new : ObjOk X.prog X.w (upd H s.heap.objs.size (.tup [x1, x2])) h'' s.heap.objs.size (.tup [x1, x2]) :=
      ⟨by show 2 ≤ sizeLine; decide, [u1, u2], (.cons ru1 (.cons ru2 .nil)), ⟨_, hT2, rfl, _, rfl⟩⟩
    have I1 : Inv X pins σ (upd H s.heap.objs.size (.tup [x1, x2])) { s with heap := h'' } :=
      I.turnedNew (t' := s.toks) (ch := [z, TI, TO, i1, i2]) (fun c o hb q => (sb.2 c (fun q' => hb (by simp [q']))).trans (hk c o (fun q' => hb (by simp [q'])) (fun q' => hb (by simp [q'])) (fun q' => hb (by simp [q'])) (fun q' => hb (by simp [q'])) q)) hf (Nat.le_refl _) new
    refine ⟨.ref s.heap.objs.size, _, I1, rfl, ⟨_, x1, x2, rfl, I.hok.fresh (Nat.le_refl _), rfl, fun l hl => by rw [sqK_inj I hl hq1]; exact hx1, fun l hl => by rw [sqK_inj I hl hq2]; exact hx2⟩, ⟨z'', ?_, ⟨u1, u2, ?_⟩, ?_, ?_⟩, fun c hcm => ?_⟩
    · exact (sb.2 _ D.TIz).trans (hk _ _ D.TIz D.TITO D.TIi1 D.TIi2 hTI)
    · exact (sb.2 _ D.TOz).trans TO'
    · exact h1'.at fun o q => (sb.2 _ D.i1z).trans q
    · exact h2'.at fun o q => (sb.2 _ D.i2z).trans q
    · have hlt : c < s.heap.objs.size := by
        have e' : c = z ∨ c = TI ∨ c = TO ∨ c = i1 ∨ c = i2 := by simpa using hcm
        rcases e' with q | q | q | q | q
        · rw [q]; exact hzl
        · rw [q]; exact Heap.lt_size hTI
        · rw [q]; exact Heap.lt_size hTO
        · rw [q]; exact h1.lt
        · rw [q]; exact h2.lt
      rw [upd_ne (Nat.ne_of_lt hlt)]
      exact (hf c hcm).1
  done := by
    intro X hP hw hK hc i pins s σ H E I hf st hg
    subst hP hw hK
    obtain ⟨hz, hTI, ⟨a1, a2, hTO⟩, h1, h2⟩ := st
    obtain ⟨ys1, ys2, hq1, hq2, hend⟩ := hg
    obtain ⟨its1, rv1, p1⟩ := sqK_at I hq1
    have e1 := rv1.length
    obtain ⟨its2, rv2, p2⟩ := sqK_at I hq2
    have e2 := rv2.length
    have he : its1.toArray[i]? = none ∨ its2.toArray[i]? = none := by
      rcases hend with q | q
      · exact .inl (by simp; omega)
      · exact .inr ((by simp; omega))
    exact pyNextZ2_end (I.ok.hd hc) D hz hTI hTO h1 h2 p1 p2 he fun h' hk => ⟨rfl, I.turnedL (t' := s.toks) (ch := [z, TI, TO, i1, i2]) (fun c o hb q => hk c o (fun q' => hb (by simp [q'])) (fun q' => hb (by simp [q'])) (fun q' => hb (by simp [q'])) (fun q' => hb (by simp [q'])) q) hf⟩
  self := fun A i s Q E st h => wpAny_pyIter_zip st.1 h
def iZip2 (K : PySem.W.Frag) (ta : TA) : TI := fun σ H R => ta σ H fun vs H1 => ∃ b1 b2 l1 l2 ys1 ys2, vs = [.ref l1, .ref l2] ∧ SqK K b1 H1 l1 ys1 ∧ SqK K b2 H1 l2 ys2 ∧ R (Itz2 K b1 b2 l1 l2) H1
theorem pi_zip2 {X : Cx} {e1 e2 : Expr} {ta : TA} {p pos tpos : Pos} {elts : List Expr} {kk : Nat} (hg : Gl X "zip") (hm : X.mg "zip" = none) (ha : PA X [e1, e2] ta)
    (hs : starEach [e1, e2] X.env = (false, eval e1 X.env) :: starEach [e2] X.env := by rfl) (hpl : (backTo pos (starEach [e2] X.env)).any (·.1) = false := by rfl) :
    PI X (.Tuple elts kk tpos) (.Call (.Name "zip" p) [e1, e2] [] pos) (iZip2 X.K ta) := by
  refine ⟨fun pins s σ H R I h => ?_⟩
  refine Call_ (ld_blt I hg hm PyProof.Rows.boot_zip (PyProof.Rows.callWith_type1 (thn (ha.run pos pins s σ H _ I h) fun us s1 ⟨vs, H1, I1, r1, q1⟩ => ?_) hs hpl))
  obtain ⟨b1, b2, l1, l2, ys1, ys2, ex, hq1, hq2, q⟩ := q1
  subst ex
  cases r1 with
  | cons r11 rr1 =>
    cases rr1 with
    | cons r12 rr2 =>
      cases rr2
      cases r11
      cases r12
      have fresh : ∀ c, c ∈ [s1.heap.objs.size + 4, s1.heap.objs.size + 2, s1.heap.objs.size + 3, s1.heap.objs.size, s1.heap.objs.size + 1] → FpOk X pins H1 c := fun c hcm => by
        have e' : c = s1.heap.objs.size + 4 ∨ c = s1.heap.objs.size + 2 ∨ c = s1.heap.objs.size + 3 ∨ c = s1.heap.objs.size ∨ c = s1.heap.objs.size + 1 := by simpa using hcm
        have hle : s1.heap.objs.size ≤ c := by
          rcases e' with z | z | z | z | z
          · rw [z]; exact Nat.le_add_right _ _
          · rw [z]; exact Nat.le_add_right _ _
          · rw [z]; exact Nat.le_add_right _ _
          · rw [z]; exact Nat.le_refl _
          · rw [z]; exact Nat.le_add_right _ _
        exact I1.fpOk hle (I1.hok.fresh hle)
      obtain ⟨its1, rv1, p1⟩ := sqK_at I1 hq1
      obtain ⟨its2, rv2, p2⟩ := sqK_at I1 hq2
      refine call_zip2 p1 p2 fun h' hz hTI hTO h1 h2 hsz hk => wpAny_pyIter_zip hz ?_
      have I2 : Inv X pins σ H1 { s1 with heap := h' } := I1.kept (t' := s1.toks) hk
      exact ⟨s1.heap.objs.size + 4, [s1.heap.objs.size + 4, s1.heap.objs.size + 2, s1.heap.objs.size + 3, s1.heap.objs.size, s1.heap.objs.size + 1], _, _, H1, rfl, I2, turn_zip2' (apart2 s1.heap.objs.size l1 l2 p1.lt p2.lt), ⟨hz, hTI, ⟨_, _, hTO⟩, h1, h2⟩, fresh, q⟩
structure Apart3 (z TI TO i1 i2 i3 l1 l2 l3 : Addr) : Prop where
  TIz : TI ≠ z
  TOz : TO ≠ z
  TITO : TI ≠ TO
  i1z : i1 ≠ z
  TIi1 : TI ≠ i1
  TOi1 : TO ≠ i1
  l1z : l1 ≠ z
  l1TO : l1 ≠ TO
  l1i1 : l1 ≠ i1
  l1i2 : l1 ≠ i2
  l1i3 : l1 ≠ i3
  i1i2 : i1 ≠ i2
  i1i3 : i1 ≠ i3
  i2z : i2 ≠ z
  TIi2 : TI ≠ i2
  TOi2 : TO ≠ i2
  l2z : l2 ≠ z
  l2TO : l2 ≠ TO
  l2i1 : l2 ≠ i1
  l2i2 : l2 ≠ i2
  l2i3 : l2 ≠ i3
  i2i1 : i2 ≠ i1
  i2i3 : i2 ≠ i3
  i3z : i3 ≠ z
  TIi3 : TI ≠ i3
  TOi3 : TO ≠ i3
  l3z : l3 ≠ z
  l3TO : l3 ≠ TO
  l3i1 : l3 ≠ i1
  l3i2 : l3 ≠ i2
  l3i3 : l3 ≠ i3
  i3i1 : i3 ≠ i1
  i3i2 : i3 ≠ i2
theorem apart3 (a l1 l2 l3 : Nat) (h1 : l1 < a) (h2 : l2 < a) (h3 : l3 < a) : Apart3 (a + 5) (a + 3) (a + 4) a (a + 1) (a + 2) l1 l2 l3 where
  TIz := by show @Ne Nat _ _; omega
  TOz := by show @Ne Nat _ _; omega
  TITO := by show @Ne Nat _ _; omega
  i1z := by show @Ne Nat _ _; omega
  TIi1 := by show @Ne Nat _ _; omega
  TOi1 := by show @Ne Nat _ _; omega
  l1z := by show @Ne Nat _ _; omega
  l1TO := by show @Ne Nat _ _; omega
  l1i1 := by show @Ne Nat _ _; omega
  l1i2 := by show @Ne Nat _ _; omega
  l1i3 := by show @Ne Nat _ _; omega
  i1i2 := by show @Ne Nat _ _; omega
  i1i3 := by show @Ne Nat _ _; omega
  i2z := by show @Ne Nat _ _; omega
  TIi2 := by show @Ne Nat _ _; omega
  TOi2 := by show @Ne Nat _ _; omega
  l2z := by show @Ne Nat _ _; omega
  l2TO := by show @Ne Nat _ _; omega
  l2i1 := by show @Ne Nat _ _; omega
  l2i2 := by show @Ne Nat _ _; omega
  l2i3 := by show @Ne Nat _ _; omega
  i2i1 := by show @Ne Nat _ _; omega
  i2i3 := by show @Ne Nat _ _; omega
  i3z := by show @Ne Nat _ _; omega
  TIi3 := by show @Ne Nat _ _; omega
  TOi3 := by show @Ne Nat _ _; omega
  l3z := by show @Ne Nat _ _; omega
  l3TO := by show @Ne Nat _ _; omega
  l3i1 := by show @Ne Nat _ _; omega
  l3i2 := by show @Ne Nat _ _; omega
  l3i3 := by show @Ne Nat _ _; omega
  i3i1 := by show @Ne Nat _ _; omega
  i3i2 := by show @Ne Nat _ _; omega
section
variable {prog : Program} {w : World} {A : Around} {E : Value → Shared → Prop} {s : Shared}
theorem zip3_next_item {z TI TO i1 i2 i3 l1 l2 l3 : Addr} {b1 b2 b3 : Bool} {k1 k2 k3 : Nat} {xs1 xs2 xs3 : Array Value} {a1 a2 a3 : Value} {x1 x2 x3 : Value} {Q : Value → Shared → Prop} (D : Apart3 z TI TO i1 i2 i3 l1 l2 l3) (hz : IsZip s.heap z TI TO .none) (hTI : IsTu s.heap TI #[.ref i1, .ref i2, .ref i3]) (hTO : IsTu s.heap TO #[a1, a2, a3]) (h1 : ItB s.heap b1 i1 l1 k1) (h2 : ItB s.heap b2 i2 l2 k2) (h3 : ItB s.heap b3 i3 l3 k3) (hl1 : SqA s.heap b1 l1 xs1) (hl2 : SqA s.heap b2 l2 xs2) (hl3 : SqA s.heap b3 l3 xs3) (hx1 : xs1[k1]? = some x1) (hx2 : xs2[k2]? = some x2) (hx3 : xs3[k3]? = some x3)
    (hQ : ∀ h', IsZip h' z TI TO (rawInt s.heap.objs.size) → IsTu h' TO #[x1, x2, x3] → ItB h' b1 i1 l1 (k1 + 1) → ItB h' b2 i2 l2 (k2 + 1) → ItB h' b3 i3 l3 (k3 + 1) → IsTu h' s.heap.objs.size #[x1, x2, x3] → h'.objs.size = s.heap.objs.size + 1 → (∀ c o, c ≠ z → c ≠ TO → c ≠ i1 → c ≠ i2 → c ≠ i3 → s.heap.get? c = some o → h'.get? c = some o) → Q (.ref s.heap.objs.size) { s with heap := h' }) :
    wpAny (model prog w) A (Builtin.«zip.__next__» ⟨[.ref z], []⟩) (fun fin s' => ∃ v, fin = .done (.ret v) ∧ Q v s') E s := by
  show wpAny _ _ (field (.ref z) 2 >>= _) _ _ _
  refine wpAny_bind (wpAny_field hz rfl (x := .bool false) rfl ?_)
  show wpAny _ _ (field (.ref z) 3 >>= _) _ _ _
  refine wpAny_bind (wpAny_field hz rfl (x := .ref TI) rfl ?_)
  refine wpAny_bind (wpAny_seqItems hTI rfl ?_)
  show wpAny _ _ (Builtin.SmallTypes.ownedTupleIsFree (.ref z) >>= _) _ _ _
  refine wpAny_bind ?_
  unfold Builtin.SmallTypes.ownedTupleIsFree
  refine wpAny_bind (wpAny_field hz rfl (x := .none) rfl (wpAny_pure ?_))
  simp only [if_true]
  refine wpAny_bind (wpAny_rule ?_)
  refine wpAny_bind (wpAny_field hz rfl (x := .ref TO) rfl ?_)
  refine wpAny_bind (wpAny_setField_rec hz (by simp) fun g0 hz0 s0 => ?_)
  replace hz0 : IsZip g0 z TI TO .ellipsis := hz0
  refine wpAny_bind ?_
  simp only [List.zipIdx_cons, List.zipIdx_nil, List.forIn_cons, List.forIn_nil]
  refine wpAny_bind (wpAny_bind (wpAny_onRaise ?_))
  show wpAny _ _ (Builtin.SmallTypes.nextOf (.ref i1) >>= _) _ _ _
  refine wpAny_bind (nextOfB_item (h1.extBut s0.extBut D.i1z) (hl1.extBut s0.extBut D.l1z) hx1 fun f1 w1 t1 => wpAny_pure ?_)
  have v1 : IsTu f1 TO #[a1, a2, a3] := (t1.extBut _ _ D.TOi1 (s0.extBut _ _ D.TOz hTO))
  refine wpAny_bind (wpAny_seqItems v1 rfl ?_)
  refine wpAny_bind (updateSeq_tu v1 (by simp) fun g1 u1 s1 => ?_)
  replace u1 : IsTu g1 TO #[x1, a2, a3] := u1
  refine wpAny_bind (wpAny_letGo (wpAny_pure ?_))
  refine wpAny_bind (wpAny_bind (wpAny_onRaise ?_))
  show wpAny _ _ (Builtin.SmallTypes.nextOf (.ref i2) >>= _) _ _ _
  refine wpAny_bind (nextOfB_item (((h2.extBut s0.extBut D.i2z).extBut t1.extBut D.i2i1).extBut s1.extBut D.TOi2.symm) (((hl2.extBut s0.extBut D.l2z).extBut t1.extBut D.l2i1).extBut s1.extBut D.l2TO) hx2 fun f2 w2 t2 => wpAny_pure ?_)
  have v2 : IsTu f2 TO #[x1, a2, a3] := (t2.extBut _ _ D.TOi2 u1)
  refine wpAny_bind (wpAny_seqItems v2 rfl ?_)
  refine wpAny_bind (updateSeq_tu v2 (by simp) fun g2 u2 s2 => ?_)
  replace u2 : IsTu g2 TO #[x1, x2, a3] := u2
  refine wpAny_bind (wpAny_letGo (wpAny_pure ?_))
  refine wpAny_bind (wpAny_bind (wpAny_onRaise ?_))
  show wpAny _ _ (Builtin.SmallTypes.nextOf (.ref i3) >>= _) _ _ _
  refine wpAny_bind (nextOfB_item (((((h3.extBut s0.extBut D.i3z).extBut t1.extBut D.i3i1).extBut s1.extBut D.TOi3.symm).extBut t2.extBut D.i3i2).extBut s2.extBut D.TOi3.symm) (((((hl3.extBut s0.extBut D.l3z).extBut t1.extBut D.l3i1).extBut s1.extBut D.l3TO).extBut t2.extBut D.l3i2).extBut s2.extBut D.l3TO) hx3 fun f3 w3 t3 => wpAny_pure ?_)
  have v3 : IsTu f3 TO #[x1, x2, a3] := (t3.extBut _ _ D.TOi3 u2)
  refine wpAny_bind (wpAny_seqItems v3 rfl ?_)
  refine wpAny_bind (updateSeq_tu v3 (by simp) fun g3 u3 s3 => ?_)
  replace u3 : IsTu g3 TO #[x1, x2, x3] := u3
  refine wpAny_bind (wpAny_letGo (wpAny_pure (wpAny_pure ?_)))
  refine wpAny_bind (wpAny_seqItems u3 rfl ?_)
  refine wpAny_bind (wpAny_newTuple ?_)
  have hsz : g3.objs.size = s.heap.objs.size := by rw [s3.1, t3.1, s2.1, t2.1, s1.1, t1.1, s0.1]
  have hzn : IsZip g3 z TI TO .ellipsis := (s3.extBut _ _ D.TOz.symm (t3.extBut _ _ D.i3z.symm (s2.extBut _ _ D.TOz.symm (t2.extBut _ _ D.i2z.symm (s1.extBut _ _ D.TOz.symm (t1.extBut _ _ D.i1z.symm hz0))))))
  have hkn : ∀ c o, c ≠ z → c ≠ TO → c ≠ i1 → c ≠ i2 → c ≠ i3 → s.heap.get? c = some o → g3.get? c = some o := fun c o cz cTO ci1 ci2 ci3 e => s3.extBut _ _ cTO (t3.extBut _ _ ci3 (s2.extBut _ _ cTO (t2.extBut _ _ ci2 (s1.extBut _ _ cTO (t1.extBut _ _ ci1 (s0.extBut _ _ cz (e)))))))
  have y1 : ItB g3 b1 i1 l1 (k1 + 1) := (((((w1.extBut s1.extBut D.TOi1.symm).extBut t2.extBut D.i1i2).extBut s2.extBut D.TOi1.symm).extBut t3.extBut D.i1i3).extBut s3.extBut D.TOi1.symm)
  have y2 : ItB g3 b2 i2 l2 (k2 + 1) := (((w2.extBut s2.extBut D.TOi2.symm).extBut t3.extBut D.i2i3).extBut s3.extBut D.TOi2.symm)
  have y3 : ItB g3 b3 i3 l3 (k3 + 1) := (w3.extBut s3.extBut D.TOi3.symm)
  have hzlt : z < g3.objs.size := Heap.lt_size hzn
  show wpAny _ _ (Builtin.SmallTypes.ownedTupleHandOut (.ref z) (.ref g3.objs.size) >>= _) _ _ _
  refine wpAny_bind ?_
  unfold Builtin.SmallTypes.ownedTupleHandOut
  have hz6 : IsZip (g3.push { cls := .type "tuple", data := .seq #[x1, x2, x3] }) z TI TO .ellipsis := Heap.get?_push_of_some _ hzn
  refine wpAny_bind (wpAny_setField_rec hz6 (by simp) fun h7 hz7 hs7 => ?_)
  replace hz7 : IsZip h7 z TI TO (rawInt g3.objs.size) := hz7
  refine wpAny_setField_rec hz7 (by simp) fun h8 hz8 hs8 => ?_
  replace hz8 : IsZip h8 z TI TO (rawInt g3.objs.size) := hz8
  have up : ∀ c o, c ≠ z → g3.get? c = some o → h8.get? c = some o := fun c o c1 e => hs8.extBut _ _ c1 (hs7.extBut _ _ c1 (Heap.get?_push_of_some _ e))
  have hT8 : IsTu h8 g3.objs.size #[x1, x2, x3] := hs8.extBut _ _ (Nat.ne_of_gt hzlt) (hs7.extBut _ _ (Nat.ne_of_gt hzlt) (Heap.get?_push_size _ rfl))
  have hsz8 : h8.objs.size = g3.objs.size + 1 := by rw [hs8.1, hs7.1, Heap.size_push]
  rw [hsz] at hz8 hT8 hsz8
  refine wpAny_pure ⟨_, rfl, ?_⟩
  show Q (.ref g3.objs.size) _
  rw [hsz]
  exact hQ h8 hz8 (up _ _ D.TOz u3) (y1.at fun o e => up _ o D.i1z e) (y2.at fun o e => up _ o D.i2z e) (y3.at fun o e => up _ o D.i3z e) hT8 hsz8 fun c o cz cTO ci1 ci2 ci3 e => up c o cz (hkn c o cz cTO ci1 ci2 ci3 e)
theorem zip3_next_end {z TI TO i1 i2 i3 l1 l2 l3 : Addr} {b1 b2 b3 : Bool} {k1 k2 k3 : Nat} {xs1 xs2 xs3 : Array Value} {a1 a2 a3 : Value} {Q : Fin → Shared → Prop} (hh : A.handled = none) (D : Apart3 z TI TO i1 i2 i3 l1 l2 l3) (hz : IsZip s.heap z TI TO .none) (hTI : IsTu s.heap TI #[.ref i1, .ref i2, .ref i3]) (hTO : IsTu s.heap TO #[a1, a2, a3]) (h1 : ItB s.heap b1 i1 l1 k1) (h2 : ItB s.heap b2 i2 l2 k2) (h3 : ItB s.heap b3 i3 l3 k3) (hl1 : SqA s.heap b1 l1 xs1) (hl2 : SqA s.heap b2 l2 xs2) (hl3 : SqA s.heap b3 l3 xs3) (hend : xs1[k1]? = none ∨ xs2[k2]? = none ∨ xs3[k3]? = none)
    (hE : ∀ h' e, (∀ c o, c ≠ z → c ≠ TO → c ≠ i1 → c ≠ i2 → c ≠ i3 → s.heap.get? c = some o → h'.get? c = some o) → (∃ o, h'.get? e = some o ∧ o.cls = .type "StopIteration") → E (.ref e) { s with heap := h' }) :
    wpAny (model prog w) A (Builtin.«zip.__next__» ⟨[.ref z], []⟩) Q E s := by
  show wpAny _ _ (field (.ref z) 2 >>= _) _ _ _
  refine wpAny_bind (wpAny_field hz rfl (x := .bool false) rfl ?_)
  show wpAny _ _ (field (.ref z) 3 >>= _) _ _ _
  refine wpAny_bind (wpAny_field hz rfl (x := .ref TI) rfl ?_)
  refine wpAny_bind (wpAny_seqItems hTI rfl ?_)
  show wpAny _ _ (Builtin.SmallTypes.ownedTupleIsFree (.ref z) >>= _) _ _ _
  refine wpAny_bind ?_
  unfold Builtin.SmallTypes.ownedTupleIsFree
  refine wpAny_bind (wpAny_field hz rfl (x := .none) rfl (wpAny_pure ?_))
  simp only [if_true]
  refine wpAny_bind (wpAny_rule ?_)
  refine wpAny_bind (wpAny_field hz rfl (x := .ref TO) rfl ?_)
  refine wpAny_bind (wpAny_setField_rec hz (by simp) fun g0 hz0 s0 => ?_)
  replace hz0 : IsZip g0 z TI TO .ellipsis := hz0
  refine wpAny_bind ?_
  simp only [List.zipIdx_cons, List.zipIdx_nil, List.forIn_cons, List.forIn_nil]
  refine wpAny_bind (wpAny_bind (wpAny_onRaise ?_))
  show wpAny _ _ (Builtin.SmallTypes.nextOf (.ref i1) >>= _) _ _ _
  cases hx1 : xs1[k1]? with
  | none =>
    refine wpAny_bind (nextOfB_end hh (h1.extBut s0.extBut D.i1z) (hl1.extBut s0.extBut D.l1z) hx1 fun f1 e t1 he => ?_)
    obtain ⟨oe, hoe, hce⟩ := he
    have hzz : IsZip f1 z TI TO .ellipsis := t1 _ _ D.i1z.symm hz0
    have hez : e ≠ z := fun x => by subst x; rw [hzz] at hoe; cases hoe; simp at hce
    refine wpAny_setField_rec hzz (by simp) fun hq _ hsq => hE hq e (fun c o cz cTO ci1 ci2 ci3 x => hsq.extBut _ _ cz (t1 _ _ ci1 (s0.extBut _ _ cz (x)))) ⟨oe, hsq.extBut _ _ hez hoe, hce⟩
  | some x1 =>
    refine wpAny_bind (nextOfB_item (h1.extBut s0.extBut D.i1z) (hl1.extBut s0.extBut D.l1z) hx1 fun f1 w1 t1 => wpAny_pure ?_)
    have v1 : IsTu f1 TO #[a1, a2, a3] := (t1.extBut _ _ D.TOi1 (s0.extBut _ _ D.TOz hTO))
    refine wpAny_bind (wpAny_seqItems v1 rfl ?_)
    refine wpAny_bind (updateSeq_tu v1 (by simp) fun g1 u1 s1 => ?_)
    replace u1 : IsTu g1 TO #[x1, a2, a3] := u1
    refine wpAny_bind (wpAny_letGo (wpAny_pure ?_))
    refine wpAny_bind (wpAny_bind (wpAny_onRaise ?_))
    show wpAny _ _ (Builtin.SmallTypes.nextOf (.ref i2) >>= _) _ _ _
    cases hx2 : xs2[k2]? with
    | none =>
      refine wpAny_bind (nextOfB_end hh (((h2.extBut s0.extBut D.i2z).extBut t1.extBut D.i2i1).extBut s1.extBut D.TOi2.symm) (((hl2.extBut s0.extBut D.l2z).extBut t1.extBut D.l2i1).extBut s1.extBut D.l2TO) hx2 fun f2 e t2 he => ?_)
      obtain ⟨oe, hoe, hce⟩ := he
      have hzz : IsZip f2 z TI TO .ellipsis := t2 _ _ D.i2z.symm (s1.extBut _ _ D.TOz.symm (t1.extBut _ _ D.i1z.symm hz0))
      have hez : e ≠ z := fun x => by subst x; rw [hzz] at hoe; cases hoe; simp at hce
      refine wpAny_setField_rec hzz (by simp) fun hq _ hsq => hE hq e (fun c o cz cTO ci1 ci2 ci3 x => hsq.extBut _ _ cz (t2 _ _ ci2 (s1.extBut _ _ cTO (t1.extBut _ _ ci1 (s0.extBut _ _ cz (x)))))) ⟨oe, hsq.extBut _ _ hez hoe, hce⟩
    | some x2 =>
      refine wpAny_bind (nextOfB_item (((h2.extBut s0.extBut D.i2z).extBut t1.extBut D.i2i1).extBut s1.extBut D.TOi2.symm) (((hl2.extBut s0.extBut D.l2z).extBut t1.extBut D.l2i1).extBut s1.extBut D.l2TO) hx2 fun f2 w2 t2 => wpAny_pure ?_)
      have v2 : IsTu f2 TO #[x1, a2, a3] := (t2.extBut _ _ D.TOi2 u1)
      refine wpAny_bind (wpAny_seqItems v2 rfl ?_)
      refine wpAny_bind (updateSeq_tu v2 (by simp) fun g2 u2 s2 => ?_)
      replace u2 : IsTu g2 TO #[x1, x2, a3] := u2
      refine wpAny_bind (wpAny_letGo (wpAny_pure ?_))
      refine wpAny_bind (wpAny_bind (wpAny_onRaise ?_))
      show wpAny _ _ (Builtin.SmallTypes.nextOf (.ref i3) >>= _) _ _ _
      cases hx3 : xs3[k3]? with
      | none =>
        refine wpAny_bind (nextOfB_end hh (((((h3.extBut s0.extBut D.i3z).extBut t1.extBut D.i3i1).extBut s1.extBut D.TOi3.symm).extBut t2.extBut D.i3i2).extBut s2.extBut D.TOi3.symm) (((((hl3.extBut s0.extBut D.l3z).extBut t1.extBut D.l3i1).extBut s1.extBut D.l3TO).extBut t2.extBut D.l3i2).extBut s2.extBut D.l3TO) hx3 fun f3 e t3 he => ?_)
        obtain ⟨oe, hoe, hce⟩ := he
        have hzz : IsZip f3 z TI TO .ellipsis := t3 _ _ D.i3z.symm (s2.extBut _ _ D.TOz.symm (t2.extBut _ _ D.i2z.symm (s1.extBut _ _ D.TOz.symm (t1.extBut _ _ D.i1z.symm hz0))))
        have hez : e ≠ z := fun x => by subst x; rw [hzz] at hoe; cases hoe; simp at hce
        refine wpAny_setField_rec hzz (by simp) fun hq _ hsq => hE hq e (fun c o cz cTO ci1 ci2 ci3 x => hsq.extBut _ _ cz (t3 _ _ ci3 (s2.extBut _ _ cTO (t2.extBut _ _ ci2 (s1.extBut _ _ cTO (t1.extBut _ _ ci1 (s0.extBut _ _ cz (x)))))))) ⟨oe, hsq.extBut _ _ hez hoe, hce⟩
      | some x3 =>
        exfalso
        rcases hend with h | h | h
        · rw [hx1] at h; cases h
        · rw [hx2] at h; cases h
        · rw [hx3] at h; cases h
theorem pyNextZ3_item {z TI TO i1 i2 i3 l1 l2 l3 : Addr} {b1 b2 b3 : Bool} {k1 k2 k3 : Nat} {xs1 xs2 xs3 : Array Value} {a1 a2 a3 : Value} {x1 x2 x3 : Value} {Q : Option Value → Shared → Prop} (D : Apart3 z TI TO i1 i2 i3 l1 l2 l3) (hz : IsZip s.heap z TI TO .none) (hTI : IsTu s.heap TI #[.ref i1, .ref i2, .ref i3]) (hTO : IsTu s.heap TO #[a1, a2, a3]) (h1 : ItB s.heap b1 i1 l1 k1) (h2 : ItB s.heap b2 i2 l2 k2) (h3 : ItB s.heap b3 i3 l3 k3) (hl1 : SqA s.heap b1 l1 xs1) (hl2 : SqA s.heap b2 l2 xs2) (hl3 : SqA s.heap b3 l3 xs3) (hx1 : xs1[k1]? = some x1) (hx2 : xs2[k2]? = some x2) (hx3 : xs3[k3]? = some x3)
    (hQ : ∀ h', IsZip h' z TI TO (rawInt s.heap.objs.size) → IsTu h' TO #[x1, x2, x3] → ItB h' b1 i1 l1 (k1 + 1) → ItB h' b2 i2 l2 (k2 + 1) → ItB h' b3 i3 l3 (k3 + 1) → IsTu h' s.heap.objs.size #[x1, x2, x3] → h'.objs.size = s.heap.objs.size + 1 → (∀ c o, c ≠ z → c ≠ TO → c ≠ i1 → c ≠ i2 → c ≠ i3 → s.heap.get? c = some o → h'.get? c = some o) → Q (some (.ref s.heap.objs.size)) { s with heap := h' }) :
    wpAny (model prog w) A (pyNext (.ref z)) Q E s := by
  have hT : s.TypeIs (.ref z) "zip" := ⟨_, hz, rfl⟩
  unfold pyNext
  exact wpAny_bind (wpAny_attempt (wpAny_callSpecial?_slot (name := Str.ofString "__next__") hT F.slot_zip_next
    (wpAny_call_entry F.slot_zip_next hT F.entry_zip_next
      (zip3_next_item D hz hTI hTO h1 h2 h3 hl1 hl2 hl3 hx1 hx2 hx3 fun h' q0 q1 q2 q3 q4 q5 q6 q7 => wpAny_pure (hQ h' q0 q1 q2 q3 q4 q5 q6 q7)) (F.args_zip_next_1 _))))
theorem pyNextZ3_end {z TI TO i1 i2 i3 l1 l2 l3 : Addr} {b1 b2 b3 : Bool} {k1 k2 k3 : Nat} {xs1 xs2 xs3 : Array Value} {a1 a2 a3 : Value} {Q : Option Value → Shared → Prop} (hh : A.handled = none) (D : Apart3 z TI TO i1 i2 i3 l1 l2 l3) (hz : IsZip s.heap z TI TO .none) (hTI : IsTu s.heap TI #[.ref i1, .ref i2, .ref i3]) (hTO : IsTu s.heap TO #[a1, a2, a3]) (h1 : ItB s.heap b1 i1 l1 k1) (h2 : ItB s.heap b2 i2 l2 k2) (h3 : ItB s.heap b3 i3 l3 k3) (hl1 : SqA s.heap b1 l1 xs1) (hl2 : SqA s.heap b2 l2 xs2) (hl3 : SqA s.heap b3 l3 xs3) (hend : xs1[k1]? = none ∨ xs2[k2]? = none ∨ xs3[k3]? = none)
    (hQ : ∀ h', (∀ c o, c ≠ z → c ≠ TO → c ≠ i1 → c ≠ i2 → c ≠ i3 → s.heap.get? c = some o → h'.get? c = some o) → Q none { s with heap := h' }) : wpAny (model prog w) A (pyNext (.ref z)) Q E s := by
  have hT : s.TypeIs (.ref z) "zip" := ⟨_, hz, rfl⟩
  unfold pyNext
  refine wpAny_bind (wpAny_attempt (wpAny_callSpecial?_slot (name := Str.ofString "__next__") hT F.slot_zip_next
    (wpAny_call_entry F.slot_zip_next hT F.entry_zip_next (zip3_next_end hh D hz hTI hTO h1 h2 h3 hl1 hl2 hl3 hend fun h' e hk he => ?_) (F.args_zip_next_1 _))))
  obtain ⟨o, ho, hc⟩ := he
  refine wpAny_bind (wpAny_isInstance (T := "StopIteration") (b := true) ⟨o, ho, hc⟩ isSubtype_stop ?_)
  exact wpAny_pure (hQ _ hk)
end
abbrev z3H1 (h : Heap) (b1 : Bool) (l1 : Addr) : Heap := h.push (itBObj b1 l1)
abbrev z3H2 (h : Heap) (b1 : Bool) (l1 : Addr) (b2 : Bool) (l2 : Addr) : Heap := (z3H1 h b1 l1).push (itBObj b2 l2)
abbrev z3H3 (h : Heap) (b1 : Bool) (l1 : Addr) (b2 : Bool) (l2 : Addr) (b3 : Bool) (l3 : Addr) : Heap := (z3H2 h b1 l1 b2 l2).push (itBObj b3 l3)
abbrev z3H4 (h : Heap) (b1 : Bool) (l1 : Addr) (b2 : Bool) (l2 : Addr) (b3 : Bool) (l3 : Addr) : Heap := (z3H3 h b1 l1 b2 l2 b3 l3).push { cls := .type "tuple", data := .seq #[.ref h.objs.size, .ref (z3H1 h b1 l1).objs.size, .ref (z3H2 h b1 l1 b2 l2).objs.size] }
abbrev z3H5 (h : Heap) (b1 : Bool) (l1 : Addr) (b2 : Bool) (l2 : Addr) (b3 : Bool) (l3 : Addr) : Heap := (z3H4 h b1 l1 b2 l2 b3 l3).push { cls := .type "tuple", data := .seq #[.none, .none, .none] }
abbrev z3H6 (h : Heap) (b1 : Bool) (l1 : Addr) (b2 : Bool) (l2 : Addr) (b3 : Bool) (l3 : Addr) : Heap := (z3H5 h b1 l1 b2 l2 b3 l3).push { cls := .type "zip", data := .fields #[.none, .bool false, .bool false, .ref (z3H3 h b1 l1 b2 l2 b3 l3).objs.size, .ref (z3H4 h b1 l1 b2 l2 b3 l3).objs.size] }
theorem meets_zip3_new (b1 : Bool) (l1 : Addr) (b2 : Bool) (l2 : Addr) (b3 : Bool) (l3 : Addr) (xs1 xs2 xs3 : Array Value) :
    Meets (Builtin.«zip.__new__» ⟨[.type "zip", .ref l1, .ref l2, .ref l3], []⟩) (fun _ R s => SqA s.heap b1 l1 xs1 ∧ SqA s.heap b2 l2 xs2 ∧ SqA s.heap b3 l3 xs3 ∧
      R (.ok (.ret (.ref (z3H5 s.heap b1 l1 b2 l2 b3 l3).objs.size))) { s with heap := (z3H6 s.heap b1 l1 b2 l2 b3 l3) }) :=
  .of_wp fun prog w A R s h => by
    obtain ⟨hp, g, d, tk, os⟩ := s; obtain ⟨hl1, hl2, hl3, h⟩ := h
    have hsub := sub_zip
    have hL1 : SqA (Shared.heap ⟨hp, g, d, tk, os⟩) b1 l1 xs1 := hl1
    have hL2 : SqA (Shared.heap ⟨(z3H1 hp b1 l1), g, d, tk, os⟩) b2 l2 xs2 := (SqA.push hl2 _)
    have hL3 : SqA (Shared.heap ⟨(z3H2 hp b1 l1 b2 l2), g, d, tk, os⟩) b3 l3 xs3 := (SqA.push (SqA.push hl3 _) _)
    wp_walk using pyIterB hL1, pyIterB hL2, pyIterB hL3
    exact ⟨_, rfl, h⟩
theorem typeCall_zip_3 (a b c : Value) : checkTypeCall "zip" ⟨[a, b, c], []⟩ = pure () := by kernel_rfl
theorem newCall_zip_3 (a b c : Value) : checkBuiltinCall "zip.__new__" ⟨[.type "zip", a, b, c], []⟩ = pure () := by kernel_rfl
theorem args_object_init_4 (a b c d : Value) : argsOk "object.__init__" ⟨[a, b, c, d], []⟩ := by
  unfold argsOk; rw [signature?_of (id := "object.__init__") (n := ['_', '_', 't', 'i', 'n', 'i', '_', '_']) (o := ['t', 'c', 'e', 'j', 'b', 'o']) (by kernel_rfl) F.owner_object]; kernel_rfl
section
variable {prog : Program} {w : World} {A : Around} {E : Value → Shared → Prop} {s : Shared}
theorem call_zip3 {b1 b2 b3 : Bool} {l1 l2 l3 : Addr} {xs1 xs2 xs3 : Array Value} {Q : Value → Shared → Prop} (hl1 : SqA s.heap b1 l1 xs1) (hl2 : SqA s.heap b2 l2 xs2) (hl3 : SqA s.heap b3 l3 xs3)
    (h : ∀ h', IsZip h' (s.heap.objs.size + 5) (s.heap.objs.size + 3) (s.heap.objs.size + 4) .none → IsTu h' (s.heap.objs.size + 3) #[.ref (s.heap.objs.size), .ref (s.heap.objs.size + 1), .ref (s.heap.objs.size + 2)] → IsTu h' (s.heap.objs.size + 4) #[.none, .none, .none] → ItB h' b1 (s.heap.objs.size) l1 0 → ItB h' b2 (s.heap.objs.size + 1) l2 0 → ItB h' b3 (s.heap.objs.size + 2) l3 0 → h'.objs.size = s.heap.objs.size + 6 →
      (∀ c o, s.heap.get? c = some o → h'.get? c = some o) → Q (.ref (s.heap.objs.size + 5)) { s with heap := h' }) :
    wpAny (model prog w) A (call (.type "zip") [.ref l1, .ref l2, .ref l3]) Q E s := by
  refine callType_new F.called_zip (by decide) (typeCall_zip_3 _ _ _) (newCall_zip_3 _ _ _) (fun obj => args_object_init_4 obj _ _ _) F.entry_zip_new
    (meets_zip3_new b1 l1 b2 l2 b3 l3 xs1 xs2 xs3) ⟨hl1, hl2, hl3, ?_⟩
  have e1 : (z3H1 s.heap b1 l1).objs.size = s.heap.objs.size + 1 := Heap.size_push ..
  have e2 : (z3H2 s.heap b1 l1 b2 l2).objs.size = s.heap.objs.size + 2 := by rw [Heap.size_push, e1]
  have e3 : (z3H3 s.heap b1 l1 b2 l2 b3 l3).objs.size = s.heap.objs.size + 3 := by rw [Heap.size_push, e2]
  have e4 : (z3H4 s.heap b1 l1 b2 l2 b3 l3).objs.size = s.heap.objs.size + 4 := by rw [Heap.size_push, e3]
  have e5 : (z3H5 s.heap b1 l1 b2 l2 b3 l3).objs.size = s.heap.objs.size + 5 := by rw [Heap.size_push, e4]
  have e6 : (z3H6 s.heap b1 l1 b2 l2 b3 l3).objs.size = s.heap.objs.size + 6 := by rw [Heap.size_push, e5]
  have g6 : (z3H6 s.heap b1 l1 b2 l2 b3 l3).get? (z3H5 s.heap b1 l1 b2 l2 b3 l3).objs.size = some _ := (Heap.get?_push_size _ rfl)
  have g5 : (z3H6 s.heap b1 l1 b2 l2 b3 l3).get? (z3H4 s.heap b1 l1 b2 l2 b3 l3).objs.size = some _ := (Heap.get?_push_of_some _ (Heap.get?_push_size _ rfl))
  have g4 : (z3H6 s.heap b1 l1 b2 l2 b3 l3).get? (z3H3 s.heap b1 l1 b2 l2 b3 l3).objs.size = some _ := (Heap.get?_push_of_some _ (Heap.get?_push_of_some _ (Heap.get?_push_size _ rfl)))
  have g3 : (z3H6 s.heap b1 l1 b2 l2 b3 l3).get? (z3H2 s.heap b1 l1 b2 l2).objs.size = some _ := (Heap.get?_push_of_some _ (Heap.get?_push_of_some _ (Heap.get?_push_of_some _ (Heap.get?_push_size _ (by cases b3 <;> rfl)))))
  have g2 : (z3H6 s.heap b1 l1 b2 l2 b3 l3).get? (z3H1 s.heap b1 l1).objs.size = some _ := (Heap.get?_push_of_some _ (Heap.get?_push_of_some _ (Heap.get?_push_of_some _ (Heap.get?_push_of_some _ (Heap.get?_push_size _ (by cases b2 <;> rfl))))))
  have g1 : (z3H6 s.heap b1 l1 b2 l2 b3 l3).get? s.heap.objs.size = some _ := (Heap.get?_push_of_some _ (Heap.get?_push_of_some _ (Heap.get?_push_of_some _ (Heap.get?_push_of_some _ (Heap.get?_push_of_some _ (Heap.get?_push_size _ (by cases b1 <;> rfl)))))))
  show _ ∧ _
  rw [e3, e4, e5] at g6
  rw [e4] at g5
  rw [e1, e2, e3] at g4
  rw [e1] at g2
  rw [e2] at g3
  rw [e5]
  exact ⟨⟨_, g6, rfl⟩, h _ g6 g4 g5 (itB_new g1) (itB_new g2) (itB_new g3) e6 fun c o x => (Heap.get?_push_of_some _ (Heap.get?_push_of_some _ (Heap.get?_push_of_some _ (Heap.get?_push_of_some _ (Heap.get?_push_of_some _ (Heap.get?_push_of_some _ x))))))⟩
end
def Itz3 (K : PySem.W.Frag) (b1 : Bool) (b2 : Bool) (b3 : Bool) (l1 : Addr) (l2 : Addr) (l3 : Addr) : It :=
  ⟨fun i H => ∃ (ys1 ys2 ys3 : List V) (x1 x2 x3 : V), SqK K b1 H l1 ys1 ∧ SqK K b2 H l2 ys2 ∧ SqK K b3 H l3 ys3 ∧ ys1[i]? = some x1 ∧ ys2[i]? = some x2 ∧ ys3[i]? = some x3,
    fun i H v H' => ∃ T x1 x2 x3, v = .ref T ∧ H T = none ∧ H' = upd H T (.tup [x1, x2, x3]) ∧ (∀ xs, SqK K b1 H l1 xs → xs[i]? = some x1) ∧ (∀ xs, SqK K b2 H l2 xs → xs[i]? = some x2) ∧ (∀ xs, SqK K b3 H l3 xs → xs[i]? = some x3),
    fun i H => ∃ ys1 ys2 ys3 : List V, SqK K b1 H l1 ys1 ∧ SqK K b2 H l2 ys2 ∧ SqK K b3 H l3 ys3 ∧ (ys1.length ≤ i ∨ ys2.length ≤ i ∨ ys3.length ≤ i)⟩
theorem turn_zip3' {P : Program} {w : World} {K : PySem.W.Frag} {elts : List Expr} {kk : Nat} {tpos : Pos} {b1 b2 b3 : Bool} {l1 l2 l3 z TI TO i1 i2 i3 : Addr} (D : Apart3 z TI TO i1 i2 i3 l1 l2 l3) :
    Turn P w K (.Tuple elts kk tpos) (Itz3 K b1 b2 b3 l1 l2 l3) [z, TI, TO, i1, i2, i3] z (fun i h => IsZip h z TI TO .none ∧ IsTu h TI #[.ref i1, .ref i2, .ref i3] ∧ (∃ a1 a2 a3, IsTu h TO #[a1, a2, a3]) ∧ ItB h b1 i1 l1 i ∧ ItB h b2 i2 l2 i ∧ ItB h b3 i3 l3 i) where
  mem := by simp
  obj := fun i h st c hc => by
    obtain ⟨hz, hTI, ⟨a1, a2, a3, hTO⟩, h1, h2, h3⟩ := st
    have e' : c = z ∨ c = TI ∨ c = TO ∨ c = i1 ∨ c = i2 ∨ c = i3 := by simpa using hc
    rcases e' with q | q | q | q | q | q
    · rw [q]; exact ⟨_, hz, fun v q => nomatch q⟩
    · rw [q]; exact ⟨_, hTI, fun v q => nomatch q⟩
    · rw [q]; exact ⟨_, hTO, fun v q => nomatch q⟩
    · rw [q]; exact h1.obj
    · rw [q]; exact h2.obj
    · rw [q]; exact h3.obj
  keep := fun i h h' st k => by
    obtain ⟨hz, hTI, ⟨a1, a2, a3, hTO⟩, h1, h2, h3⟩ := st
    exact ⟨k z (by simp) _ hz, k TI (by simp) _ hTI, ⟨a1, a2, a3, k TO (by simp) _ hTO⟩, h1.at fun o q => k i1 (by simp) o q, h2.at fun o q => k i2 (by simp) o q, h3.at fun o q => k i3 (by simp) o q⟩
  item := by
    intro X hP hw hK hc i pins s σ H E I hf st hg
    subst hP hw hK
    obtain ⟨hz, hTI, ⟨a1, a2, a3, hTO⟩, h1, h2, h3⟩ := st
    obtain ⟨ys1, ys2, ys3, x1, x2, x3, hq1, hq2, hq3, hx1, hx2, hx3⟩ := hg
    obtain ⟨its1, rv1, p1⟩ := sqK_at I hq1
    obtain ⟨its2, rv2, p2⟩ := sqK_at I hq2
    obtain ⟨its3, rv3, p3⟩ := sqK_at I hq3
    obtain ⟨u1, hu1, ru1⟩ := rv1.get hx1
    obtain ⟨u2, hu2, ru2⟩ := rv2.get hx2
    obtain ⟨u3, hu3, ru3⟩ := rv3.get hx3
    have hzl : z < s.heap.objs.size := Heap.lt_size hz
    refine pyNextZ3_item D hz hTI hTO h1 h2 h3 p1 p2 p3 (x1 := u1) (x2 := u2) (x3 := u3) (by simpa using hu1) (by simpa using hu2) (by simpa using hu3) fun h' z' TO' h1' h2' h3' hT hsz hk => ?_
    refine ⟨_, rfl, wpAny_letOwnedTupleGo_zip (s := { s with heap := h' }) z' fun h'' z'' sb => ?_⟩
    have hT2 : h''.get? s.heap.objs.size = some { cls := .type "tuple", data := .seq #[u1, u2, u3] } := (sb.2 _ (Nat.ne_of_gt hzl)).trans hT
    have new : ObjOk X.prog X.w (upd H s.heap.objs.size (.tup [x1, x2, x3])) h'' s.heap.objs.size (.tup [x1, x2, x3]) :=
      ⟨by show 3 ≤ sizeLine; decide, [u1, u2, u3], (.cons ru1 (.cons ru2 (.cons ru3 .nil))), ⟨_, hT2, rfl, _, rfl⟩⟩
    have I1 : Inv X pins σ (upd H s.heap.objs.size (.tup [x1, x2, x3])) { s with heap := h'' } :=
      I.turnedNew (t' := s.toks) (ch := [z, TI, TO, i1, i2, i3]) (fun c o hb q => (sb.2 c (fun q' => hb (by simp [q']))).trans (hk c o (fun q' => hb (by simp [q'])) (fun q' => hb (by simp [q'])) (fun q' => hb (by simp [q'])) (fun q' => hb (by simp [q'])) (fun q' => hb (by simp [q'])) q)) hf (Nat.le_refl _) new
    refine ⟨.ref s.heap.objs.size, _, I1, rfl, ⟨_, x1, x2, x3, rfl, I.hok.fresh (Nat.le_refl _), rfl, fun l hl => by rw [sqK_inj I hl hq1]; exact hx1, fun l hl => by rw [sqK_inj I hl hq2]; exact hx2, fun l hl => by rw [sqK_inj I hl hq3]; exact hx3⟩, ⟨z'', ?_, ⟨u1, u2, u3, ?_⟩, ?_, ?_, ?_⟩, fun c hcm => ?_⟩
    · exact (sb.2 _ D.TIz).trans (hk _ _ D.TIz D.TITO D.TIi1 D.TIi2 D.TIi3 hTI)
    · exact (sb.2 _ D.TOz).trans TO'
    · exact h1'.at fun o q => (sb.2 _ D.i1z).trans q
    · exact h2'.at fun o q => (sb.2 _ D.i2z).trans q
    · exact h3'.at fun o q => (sb.2 _ D.i3z).trans q
    · have hlt : c < s.heap.objs.size := by
        have e' : c = z ∨ c = TI ∨ c = TO ∨ c = i1 ∨ c = i2 ∨ c = i3 := by simpa using hcm
        rcases e' with q | q | q | q | q | q
        · rw [q]; exact hzl
        · rw [q]; exact Heap.lt_size hTI
        · rw [q]; exact Heap.lt_size hTO
        · rw [q]; exact h1.lt
        · rw [q]; exact h2.lt
        · rw [q]; exact h3.lt
      rw [upd_ne (Nat.ne_of_lt hlt)]
      exact (hf c hcm).1
  done := by
    intro X hP hw hK hc i pins s σ H E I hf st hg
    subst hP hw hK
    obtain ⟨hz, hTI, ⟨a1, a2, a3, hTO⟩, h1, h2, h3⟩ := st
    obtain ⟨ys1, ys2, ys3, hq1, hq2, hq3, hend⟩ := hg
    obtain ⟨its1, rv1, p1⟩ := sqK_at I hq1
    have e1 := rv1.length
    obtain ⟨its2, rv2, p2⟩ := sqK_at I hq2
    have e2 := rv2.length
    obtain ⟨its3, rv3, p3⟩ := sqK_at I hq3
    have e3 := rv3.length
    have he : its1.toArray[i]? = none ∨ its2.toArray[i]? = none ∨ its3.toArray[i]? = none := by
      rcases hend with q | q | q
      · exact .inl (by simp; omega)
      · exact .inr (.inl (by simp; omega))
      · exact .inr (.inr ((by simp; omega)))
    exact pyNextZ3_end (I.ok.hd hc) D hz hTI hTO h1 h2 h3 p1 p2 p3 he fun h' hk => ⟨rfl, I.turnedL (t' := s.toks) (ch := [z, TI, TO, i1, i2, i3]) (fun c o hb q => hk c o (fun q' => hb (by simp [q'])) (fun q' => hb (by simp [q'])) (fun q' => hb (by simp [q'])) (fun q' => hb (by simp [q'])) (fun q' => hb (by simp [q'])) q) hf⟩
  self := fun A i s Q E st h => wpAny_pyIter_zip st.1 h
def iZip3 (K : PySem.W.Frag) (ta : TA) : TI := fun σ H R => ta σ H fun vs H1 => ∃ b1 b2 b3 l1 l2 l3 ys1 ys2 ys3, vs = [.ref l1, .ref l2, .ref l3] ∧ SqK K b1 H1 l1 ys1 ∧ SqK K b2 H1 l2 ys2 ∧ SqK K b3 H1 l3 ys3 ∧ R (Itz3 K b1 b2 b3 l1 l2 l3) H1
theorem pi_zip3 {X : Cx} {e1 e2 e3 : Expr} {ta : TA} {p pos tpos : Pos} {elts : List Expr} {kk : Nat} (hg : Gl X "zip") (hm : X.mg "zip" = none) (ha : PA X [e1, e2, e3] ta)
    (hs : starEach [e1, e2, e3] X.env = (false, eval e1 X.env) :: starEach [e2, e3] X.env := by rfl) (hpl : (backTo pos (starEach [e2, e3] X.env)).any (·.1) = false := by rfl) :
    PI X (.Tuple elts kk tpos) (.Call (.Name "zip" p) [e1, e2, e3] [] pos) (iZip3 X.K ta) := by
  refine ⟨fun pins s σ H R I h => ?_⟩
  refine Call_ (ld_blt I hg hm PyProof.Rows.boot_zip (PyProof.Rows.callWith_type1 (thn (ha.run pos pins s σ H _ I h) fun us s1 ⟨vs, H1, I1, r1, q1⟩ => ?_) hs hpl))
  obtain ⟨b1, b2, b3, l1, l2, l3, ys1, ys2, ys3, ex, hq1, hq2, hq3, q⟩ := q1
  subst ex
  cases r1 with
  | cons r11 rr1 =>
    cases rr1 with
    | cons r12 rr2 =>
      cases rr2 with
      | cons r13 rr3 =>
        cases rr3
        cases r11
        cases r12
        cases r13
        have fresh : ∀ c, c ∈ [s1.heap.objs.size + 5, s1.heap.objs.size + 3, s1.heap.objs.size + 4, s1.heap.objs.size, s1.heap.objs.size + 1, s1.heap.objs.size + 2] → FpOk X pins H1 c := fun c hcm => by
          have e' : c = s1.heap.objs.size + 5 ∨ c = s1.heap.objs.size + 3 ∨ c = s1.heap.objs.size + 4 ∨ c = s1.heap.objs.size ∨ c = s1.heap.objs.size + 1 ∨ c = s1.heap.objs.size + 2 := by simpa using hcm
          have hle : s1.heap.objs.size ≤ c := by
            rcases e' with z | z | z | z | z | z
            · rw [z]; exact Nat.le_add_right _ _
            · rw [z]; exact Nat.le_add_right _ _
            · rw [z]; exact Nat.le_add_right _ _
            · rw [z]; exact Nat.le_refl _
            · rw [z]; exact Nat.le_add_right _ _
            · rw [z]; exact Nat.le_add_right _ _
          exact I1.fpOk hle (I1.hok.fresh hle)
        obtain ⟨its1, rv1, p1⟩ := sqK_at I1 hq1
        obtain ⟨its2, rv2, p2⟩ := sqK_at I1 hq2
        obtain ⟨its3, rv3, p3⟩ := sqK_at I1 hq3
        refine call_zip3 p1 p2 p3 fun h' hz hTI hTO h1 h2 h3 hsz hk => wpAny_pyIter_zip hz ?_
        have I2 : Inv X pins σ H1 { s1 with heap := h' } := I1.kept (t' := s1.toks) hk
        exact ⟨s1.heap.objs.size + 5, [s1.heap.objs.size + 5, s1.heap.objs.size + 3, s1.heap.objs.size + 4, s1.heap.objs.size, s1.heap.objs.size + 1, s1.heap.objs.size + 2], _, _, H1, rfl, I2, turn_zip3' (apart3 s1.heap.objs.size l1 l2 l3 p1.lt p2.lt p3.lt), ⟨hz, hTI, ⟨_, _, _, hTO⟩, h1, h2, h3⟩, fresh, q⟩
/-! ### the rules -/
def sqD : D → Option (List D)
  | .list xs => some xs
  | .tuple xs => some xs
  | _ => none
theorem dp_sq {K : PySem.W.Frag} {F : Hp} {v : V} {d : D} {ds : List D} (h : Dp K F v d) (e : sqD d = some ds) : ∃ b a xs, v = .ref a ∧ SqK K b F a xs ∧ DpAll K F xs ds := by
  cases h with
  | lst ha ra => cases e; exact ⟨false, _, _, rfl, ha, ra⟩
  | tup ha ra => cases e; exact ⟨true, _, _, rfl, ha, ra⟩
  | _ => cases e
def zip2Q (x y : D) : Option (List D) := (sqD x).bind fun a => (sqD y).bind fun b => some (zipD a b)
def iZq (a b : EnvD → ER D) : EnvD → ER (List D) := fun ρ => (a ρ).bind fun x => (b ρ).bind fun y => optE (zip2Q x y)
def zipD3 : List D → List D → List D → List D
  | x :: xs, y :: ys, z :: zs => .tuple [x, y, z] :: zipD3 xs ys zs
  | _, _, _ => []
theorem zipD3_get : ∀ {xs ys zs : List D} {i : Nat} {d : D}, (zipD3 xs ys zs)[i]? = some d → ∃ x y z, xs[i]? = some x ∧ ys[i]? = some y ∧ zs[i]? = some z ∧ d = .tuple [x, y, z]
  | [], _, _, _, _, h => by simp [zipD3] at h
  | _ :: _, [], _, _, _, h => by simp [zipD3] at h
  | _ :: _, _ :: _, [], _, _, h => by simp [zipD3] at h
  | x :: xs, y :: ys, z :: zs, 0, d, h => ⟨x, y, z, rfl, rfl, rfl, (Option.some.inj h).symm⟩
  | x :: xs, y :: ys, z :: zs, i + 1, d, h => by
    obtain ⟨x', y', z', e1, e2, e3, e4⟩ := zipD3_get (xs := xs) (ys := ys) (zs := zs) (i := i) h
    exact ⟨x', y', z', e1, e2, e3, e4⟩
theorem zipD3_len : ∀ {xs ys zs : List D}, (zipD3 xs ys zs).length = min xs.length (min ys.length zs.length)
  | [], _, _ => by simp [zipD3]
  | _ :: _, [], _ => by simp [zipD3]
  | _ :: _, _ :: _, [] => by simp [zipD3]
  | x :: xs, y :: ys, z :: zs => by
    show (zipD3 xs ys zs).length + 1 = min (xs.length + 1) (min (ys.length + 1) (zs.length + 1))
    rw [zipD3_len]
    omega
def zip3Q (x y z : D) : Option (List D) := (sqD x).bind fun a => (sqD y).bind fun b => (sqD z).bind fun c => some (zipD3 a b c)
def iZ3 (a b c : EnvD → ER D) : EnvD → ER (List D) := fun ρ => (a ρ).bind fun x => (b ρ).bind fun y => (c ρ).bind fun z => optE (zip3Q x y z)
theorem grow_tri {K : PySem.W.Frag} {H F : Hp} {T : Addr} {x y z : V} {d e f : D} (s : Same F H) (h : H T = none) (dx : Dp K F x d) (dy : Dp K F y e) (dz : Dp K F z f) : ∃ F2, Grow H F (upd H T (.tup [x, y, z])) F2 ∧ Dp K F2 (.ref T) (.tuple [d, e, f]) :=
  ⟨_, Grow.new s h, .tup (.inl (.inl upd_same)) (.cons (dp_mono (same_new (s.free h)) _ _ dx) (.cons (dp_mono (same_new (s.free h)) _ _ dy) (.cons (dp_mono (same_new (s.free h)) _ _ dz) .nil)))⟩
section
variable {X : Cx} {W : WX} {M : List Nat} {a b c : Expr} {ma mb mc : EnvD → ER D} {pos : Pos}
theorem di_zipQ {p tpos : Pos} {elts : List Expr} {kk : Nat} (hm : X.mg "zip" = none) (ha : DE X W M a ma) (hb : DE X W M b mb) (hg : Gl X "zip" := by rfl) (hs : starEach [a, b] X.env = (false, eval a X.env) :: starEach [b] X.env := by rfl) (hs2 : starEach [b] X.env = (false, eval b X.env) :: starEach [] X.env := by rfl) (hpl : (backTo pos (starEach [b] X.env)).any (·.1) = false := by rfl) :
    DI X W M (.Tuple elts kk tpos) (.Call (.Name "zip" p) [a, b] [] pos) (iZq ma mb) :=
  pi_weak (pi_zip2 hg hm (pa_cons ha (pa_cons hb pa_nil hs2) hs) hs hpl) fun σ H R ⟨F, ρ, sF, r, q⟩ => ⟨F, ρ, sF, r, ok_bind r q fun v H1 F1 x g r1 dx q1 => ⟨F1, ρ, g.sub, r1, ok_bind r1 q1 fun u H2 F2 y g2 r2 dy q2 => by
    obtain ⟨c, ec, q3⟩ := okE_opt' q2
    have dx := dp_mono g2.f _ _ dx
    unfold zip2Q at ec
    cases ex : sqD x with
    | none => rw [ex] at ec; cases ec
    | some as =>
    cases ey : sqD y with
    | none => rw [ex, ey] at ec; cases ec
    | some bs =>
    rw [ex, ey] at ec
    cases ec
    obtain ⟨k1, pa, xs, rfl, hx, rx⟩ := dp_sq dx ex
    obtain ⟨k2, pb, ys, rfl, hy, ry⟩ := dp_sq dy ey
    refine ⟨k1, k2, pa, pb, xs, ys, rfl, sqK_mono g2.sub hx, sqK_mono g2.sub hy, q3 _ _ _ (Grow.refl g2.sub) fun i H' F' s1 s2 => ⟨fun hl => ?_, fun d e => ?_⟩⟩
    · rw [zipD_len] at hl
      refine ⟨xs, ys, sqK_mono s2 (sqK_mono s1 hx), sqK_mono s2 (sqK_mono s1 hy), ?_⟩
      rw [dpAll_len rx, dpAll_len ry]
      omega
    · obtain ⟨d1, d2, e1, e2, e3⟩ := zipD_get e
      obtain ⟨v1, f1, h1⟩ := dpAll_get rx e1
      obtain ⟨v2, f2, h2⟩ := dpAll_get ry e2
      refine ⟨⟨xs, ys, v1, v2, sqK_mono s2 (sqK_mono s1 hx), sqK_mono s2 (sqK_mono s1 hy), f1, f2⟩, fun z Hz yl => ?_⟩
      obtain ⟨T, z1, z2, ez, nT, eH, w1, w2⟩ := yl
      have i1 := w1 _ (sqK_mono s2 (sqK_mono s1 hx))
      rw [f1] at i1
      have i2 := w2 _ (sqK_mono s2 (sqK_mono s1 hy))
      rw [f2] at i2
      cases i1; cases i2
      subst ez eH e3
      exact grow_pair s2 nT (dp_mono s1 _ _ h1) (dp_mono s1 _ _ h2)⟩⟩
theorem di_zip3 {p tpos : Pos} {elts : List Expr} {kk : Nat} (hm : X.mg "zip" = none) (ha : DE X W M a ma) (hb : DE X W M b mb) (hc : DE X W M c mc) (hg : Gl X "zip" := by rfl) (hs : starEach [a, b, c] X.env = (false, eval a X.env) :: starEach [b, c] X.env := by rfl) (hs2 : starEach [b, c] X.env = (false, eval b X.env) :: starEach [c] X.env := by rfl) (hs3 : starEach [c] X.env = (false, eval c X.env) :: starEach [] X.env := by rfl) (hpl : (backTo pos (starEach [b, c] X.env)).any (·.1) = false := by rfl) :
    DI X W M (.Tuple elts kk tpos) (.Call (.Name "zip" p) [a, b, c] [] pos) (iZ3 ma mb mc) :=
  pi_weak (pi_zip3 hg hm (pa_cons ha (pa_cons hb (pa_cons hc pa_nil hs3) hs2) hs) hs hpl) fun σ H R ⟨F, ρ, sF, r, q⟩ => ⟨F, ρ, sF, r, ok_bind r q fun v H1 F1 x g r1 dx q1 => ⟨F1, ρ, g.sub, r1, ok_bind r1 q1 fun u H2 F2 y g2 r2 dy q2 => ⟨F2, ρ, g2.sub, r2, ok_bind r2 q2 fun t H3 F3 z g3 r3 dz q3 => by
    obtain ⟨c, ec, q4⟩ := okE_opt' q3
    have dx := dp_mono g3.f _ _ (dp_mono g2.f _ _ dx)
    have dy := dp_mono g3.f _ _ dy
    unfold zip3Q at ec
    cases ex : sqD x with
    | none => rw [ex] at ec; cases ec
    | some as =>
    cases ey : sqD y with
    | none => rw [ex, ey] at ec; cases ec
    | some bs =>
    cases ez : sqD z with
    | none => rw [ex, ey, ez] at ec; cases ec
    | some cs =>
    rw [ex, ey, ez] at ec
    cases ec
    obtain ⟨k1, pa, xs, rfl, hx, rx⟩ := dp_sq dx ex
    obtain ⟨k2, pb, ys, rfl, hy, ry⟩ := dp_sq dy ey
    obtain ⟨k3, pc, zs, rfl, hz, rz⟩ := dp_sq dz ez
    refine ⟨k1, k2, k3, pa, pb, pc, xs, ys, zs, rfl, sqK_mono g3.sub hx, sqK_mono g3.sub hy, sqK_mono g3.sub hz, q4 _ _ _ (Grow.refl g3.sub) fun i H' F' s1 s2 => ⟨fun hl => ?_, fun d e => ?_⟩⟩
    · rw [zipD3_len] at hl
      refine ⟨xs, ys, zs, sqK_mono s2 (sqK_mono s1 hx), sqK_mono s2 (sqK_mono s1 hy), sqK_mono s2 (sqK_mono s1 hz), ?_⟩
      rw [dpAll_len rx, dpAll_len ry, dpAll_len rz]
      omega
    · obtain ⟨d1, d2, d3, e1, e2, e3, e4⟩ := zipD3_get e
      obtain ⟨v1, f1, h1⟩ := dpAll_get rx e1
      obtain ⟨v2, f2, h2⟩ := dpAll_get ry e2
      obtain ⟨v3, f3, h3⟩ := dpAll_get rz e3
      refine ⟨⟨xs, ys, zs, v1, v2, v3, sqK_mono s2 (sqK_mono s1 hx), sqK_mono s2 (sqK_mono s1 hy), sqK_mono s2 (sqK_mono s1 hz), f1, f2, f3⟩, fun z Hz yl => ?_⟩
      obtain ⟨T, z1, z2, z3, ez, nT, eH, w1, w2, w3⟩ := yl
      have i1 := w1 _ (sqK_mono s2 (sqK_mono s1 hx))
      rw [f1] at i1
      have i2 := w2 _ (sqK_mono s2 (sqK_mono s1 hy))
      rw [f2] at i2
      have i3 := w3 _ (sqK_mono s2 (sqK_mono s1 hz))
      rw [f3] at i3
      cases i1; cases i2; cases i3
      subst ez eH e4
      exact grow_tri s2 nT (dp_mono s1 _ _ h1) (dp_mono s1 _ _ h2) (dp_mono s1 _ _ h3)⟩⟩⟩
/-! ### range(i, j, -1) -/
def downD (lo : Int) (n : Nat) : List D := (List.range n).map fun (i : Nat) => .int (lo - (i : Int))
def rng3D : D → D → D → Option (List D)
  | .int i, .int j, .int k => if k = -1 ∧ i.natAbs < 4611686018427387904 ∧ j.natAbs < 4611686018427387904 then some (downD i (i - j).toNat) else none
  | _, _, _ => none
def iR3 (a b c : EnvD → ER D) : EnvD → ER (List D) := fun ρ => (a ρ).bind fun x => (b ρ).bind fun y => (c ρ).bind fun z => optE (rng3D x y z)
theorem downD_get {lo : Int} {n i : Nat} {d : D} (h : (downD lo n)[i]? = some d) : i < n ∧ d = .int (lo - (i : Int)) := by
  unfold downD at h
  rw [List.getElem?_map] at h
  by_cases hi : i < n
  · rw [List.getElem?_range hi] at h
    exact ⟨hi, (Option.some.inj h).symm⟩
  · rw [List.getElem?_eq_none (by simp; omega)] at h
    cases h
theorem walks_down {K : PySem.W.Frag} {F : Hp} {lo : Int} {n : Nat} : Walks K (Itc lo (-1) n) (downD lo n) F := fun i H' F' s1 s2 =>
  ⟨fun hl => by
    show n ≤ i
    simpa [downD] using hl, fun d e => by
    obtain ⟨hi, ed⟩ := downD_get e
    refine ⟨hi, fun x H2 y => ?_⟩
    obtain ⟨eh, ex⟩ := y
    have e3 : lo + (i : Int) * (-1) = lo - (i : Int) := by omega
    rw [e3] at ex
    subst eh ex ed
    exact ⟨F', Grow.refl s2, .int _⟩⟩
theorem di_rng3 {tg : Expr} {p : Pos} (hm : X.mg "range" = none) (ha : DE X W M a ma) (hb : DE X W M b mb) (hc : DE X W M c mc) (hg : Gl X "range" := by rfl) (hs : starEach [a, b, c] X.env = (false, eval a X.env) :: starEach [b, c] X.env := by rfl) (hs2 : starEach [b, c] X.env = (false, eval b X.env) :: starEach [c] X.env := by rfl) (hs3 : starEach [c] X.env = (false, eval c X.env) :: starEach [] X.env := by rfl) (hpl : (backTo pos (starEach [b, c] X.env)).any (·.1) = false := by rfl) : DI X W M tg (.Call (.Name "range" p) [a, b, c] [] pos) (iR3 ma mb mc) :=
  pi_weak (pi_range3 hg hm (pa_cons ha (pa_cons hb (pa_cons hc pa_nil hs3) hs2) hs) hs hpl) fun σ H R ⟨F, ρ, sF, r, q⟩ => ⟨F, ρ, sF, r, ok_bind r q fun v H1 F1 x g r1 dx q1 => ⟨F1, ρ, g.sub, r1, ok_bind r1 q1 fun u H2 F2 y g2 r2 dy q2 => ⟨F2, ρ, g2.sub, r2, ok_bind r2 q2 fun t H3 F3 z g3 r3 dz q3 => by
    obtain ⟨c, ec, q4⟩ := okE_opt' q3
    unfold rng3D at ec
    split at ec
    · rename_i i j k
      cases dx; cases dy; cases dz
      by_cases hb : k = -1 ∧ i.natAbs < 4611686018427387904 ∧ j.natAbs < 4611686018427387904
      · rw [if_pos hb] at ec
        cases ec
        obtain ⟨rfl, h1, h2⟩ := hb
        exact ⟨i, j, -1, _, rfl, RgC.neg (by omega) (by omega) (by omega) (by omega), q4 _ _ _ (Grow.refl g3.sub) walks_down⟩
      · rw [if_neg hb] at ec; cases ec
    · cases ec⟩⟩⟩
end
end Z


namespace Z
open PySem PySem.Spec PyProof.Rows L2
/-! ### repr -/
def shOk (d : D) : Bool := decide (d.depth ≤ 60) && d.showable && !d.hasDict && decide (d.shown.length ≤ sizeLine)
def reprD : List D → Option D
  | [.int i] => if shOk (.int i) = true then some (.str (PyData.shown (.int i))) else none
  | [.tuple ds] => if shOk (.tuple ds) = true then some (.str (PyData.shown (.tuple ds))) else none
  | [.list ds] => if shOk (.list ds) = true then some (.str (PyData.shown (.list ds))) else none
  | _ => none
theorem bt_repr : bootBuiltins "repr" = some (.builtin "repr") := by decide +kernel
section
variable {X : Cx}
theorem repr_seq (hgd : X.A.guards = some []) (hu : X.A.units + 64 < cLine) {pins : List (Addr × Obj)} {s : Shared} {σ : L2.St} {H F : Hp} {Q : VK} {a : Addr} {d : D} (sF : Same F H) (I : Inv X pins σ H s) (hd : Dp X.K F (.ref a) d) (h : shOk d = true)
    (q : okO X.K H F Q (some (.str d.shown))) : wpAny (model X.prog X.w) X.A (call (.builtin "repr") [.ref a]) (EP X pins σ Q) X.xe s := by
  unfold shOk at h
  rw [Bool.and_eq_true, Bool.and_eq_true, Bool.and_eq_true, decide_eq_true_eq, decide_eq_true_eq] at h
  obtain ⟨⟨⟨h1, h2⟩, h3⟩, h4⟩ := h
  have h3' : d.hasDict = false := by simpa using h3
  obtain ⟨as, r⟩ := Dp.reads I d (.ref a) (.ref a) (dp_mono sF _ _ hd) rfl
  exact repr_of_reads' r h2 (fun z => by rw [h3'] at z; cases z) hgd (by omega) (fun b o e => e) (fun h' u tk hk => ⟨.str d.shown, H, I.kept (t' := tk) hk, ⟨u, rfl⟩, q _ _ _ (Grow.refl sF) (.str _)⟩) h4
theorem callD_repr (hgd : X.A.guards = some []) (hu : X.A.units + 64 < cLine) : CallR X (.builtin "repr") (rDn X.K reprD) := by
  intro pins s σ H xs us Q I r h
  obtain ⟨F, ds, sF, hd, q⟩ := h
  match ds, hd, q with
  | [.int i], .cons (.int _) .nil, q =>
    have q' : okO X.K H F Q (if shOk (.int i) = true then some (.str (PyData.shown (.int i))) else none) := q
    obtain ⟨hz, q⟩ := okO_if q'
    unfold shOk at hz
    rw [Bool.and_eq_true, Bool.and_eq_true, Bool.and_eq_true] at hz
    exact SkE.call_repr_int pins s σ H _ us Q I r ⟨i, rfl, of_decide_eq_true hz.1.1.2, q _ _ _ (Grow.refl sF) (.str _)⟩
  | [.tuple es], .cons h1 .nil, q =>
    have q' : okO X.K H F Q (if shOk (.tuple es) = true then some (.str (PyData.shown (.tuple es))) else none) := q
    obtain ⟨hz, q⟩ := okO_if q'
    cases h1 with
    | tup ha ra =>
      obtain ⟨u, rfl, rx⟩ := vals1 r
      cases rx
      exact repr_seq hgd hu sF I (.tup ha ra) hz q
  | [.list es], .cons h1 .nil, q =>
    have q' : okO X.K H F Q (if shOk (.list es) = true then some (.str (PyData.shown (.list es))) else none) := q
    obtain ⟨hz, q⟩ := okO_if q'
    cases h1 with
    | lst ha ra =>
      obtain ⟨u, rfl, rx⟩ := vals1 r
      cases rx
      exact repr_seq hgd hu sF I (.lst ha ra) hz q
  | [.str _], _, q => exact q.elim
  | [.none], _, q => exact q.elim
  | [.bool _], _, q => exact q.elim
  | [.dict _], _, q => exact q.elim
  | [], _, q => exact q.elim
  | a :: _ :: _, _, q => cases a <;> exact q.elim
end
/-! numbers in tuples are short enough to be written -/
mutual
def shInt (B : Nat) : D → Bool
  | .int i => decide (i.natAbs.log2 < B)
  | .tuple ds => shInts B ds
  | .list ds => shInts B ds
  | .bool _ => true
  | .none => true
  | _ => false
def shInts (B : Nat) : List D → Bool
  | [] => true
  | d :: ds => shInt B d && shInts B ds
end
mutual
theorem shInt_ok {B : Nat} (h0 : 0 < B) (hB : B ≤ 1920) : ∀ (d : D), shInt B d = true → d.showable = true ∧ d.hasDict = false ∧ d.leavesShort (B + 1) = true
  | .int i, h => by
    have h := of_decide_eq_true (show decide (i.natAbs.log2 < B) = true from h)
    refine ⟨decide_eq_true (by omega), rfl, decide_eq_true ?_⟩
    exact Nat.le_trans (Nat.le_of_eq (PySem.ofString_length _)) (int_text_length_le h0 h)
  | .tuple ds, h => shInts_ok h0 hB ds h
  | .list ds, h => shInts_ok h0 hB ds h
  | .bool _, _ => ⟨rfl, rfl, rfl⟩
  | .none, _ => ⟨rfl, rfl, rfl⟩
  | .str _, h => by cases h
  | .dict _, h => by cases h
theorem shInts_ok {B : Nat} (h0 : 0 < B) (hB : B ≤ 1920) : ∀ (ds : List D), shInts B ds = true → PyData.showableAll ds = true ∧ PyData.hasDictAll ds = false ∧ PyData.leavesShortAll (B + 1) ds = true
  | [], _ => ⟨rfl, rfl, rfl⟩
  | d :: ds, h => by
    have h : (shInt B d && shInts B ds) = true := h
    rw [Bool.and_eq_true] at h
    obtain ⟨a1, a2, a3⟩ := shInt_ok h0 hB d h.1
    obtain ⟨b1, b2, b3⟩ := shInts_ok h0 hB ds h.2
    refine ⟨?_, ?_, ?_⟩
    · show (PyData.showable d && PyData.showableAll ds) = true
      rw [a1, b1]; rfl
    · show (PyData.hasDict d || PyData.hasDictAll ds) = false
      rw [a2, b2]; rfl
    · show (PyData.leavesShort (B + 1) d && PyData.leavesShortAll (B + 1) ds) = true
      rw [a3, b3]; rfl
end
mutual
/-- how many numbers and items -/
def cntD : D → Nat
  | .tuple ds => cntsD ds
  | .list ds => cntsD ds
  | _ => 1
def cntsD : List D → Nat
  | [] => 0
  | d :: ds => cntD d + 1 + cntsD ds
end
mutual
theorem weight_le {B : Nat} (h0 : 0 < B) : ∀ (d : D), shInt B d = true → d.weight ≤ B * cntD d
  | .int i, h => by
    have h := of_decide_eq_true (show decide (i.natAbs.log2 < B) = true from h)
    show (if (i == 0) = true then 0 else i.natAbs.log2 + 1) ≤ B * 1
    split <;> omega
  | .tuple ds, h => weights_le h0 ds h
  | .list ds, h => weights_le h0 ds h
  | .bool _, _ => Nat.zero_le _
  | .none, _ => Nat.zero_le _
  | .str _, h => by cases h
  | .dict _, h => by cases h
theorem weights_le {B : Nat} (h0 : 0 < B) : ∀ (ds : List D), shInts B ds = true → PyData.weightAll ds ≤ B * cntsD ds
  | [], _ => Nat.zero_le _
  | d :: ds, h => by
    have h : (shInt B d && shInts B ds) = true := h
    rw [Bool.and_eq_true] at h
    have a := weight_le h0 d h.1
    have b := weights_le h0 ds h.2
    show d.weight + 1 + PyData.weightAll ds ≤ B * (cntD d + 1 + cntsD ds)
    rw [Nat.mul_add, Nat.mul_add]
    omega
end
theorem shOk_of {d : D} {B N : Nat} (h : shInt B d = true) (hd : d.depth ≤ 60) (hc : cntD d ≤ N) (h0 : 12 ≤ B := by decide) (hB : B ≤ 1920 := by decide) (hw : (B + 3) * (B * N) + (B + 1) ≤ 16777216 := by decide) : shOk d = true := by
  obtain ⟨a1, a2, a3⟩ := shInt_ok (by omega) hB d h
  have l := PyData.shown_le (B + 1) (by omega) d a3
  have w := weight_le (by omega) d h
  have w2 : B * cntD d ≤ B * N := Nat.mul_le_mul_left _ hc
  have w3 : (B + 1 + 2) * d.weight ≤ (B + 3) * (B * N) := Nat.mul_le_mul (by omega) (Nat.le_trans w w2)
  unfold shOk
  rw [decide_eq_true hd, a1, a2, decide_eq_true (show d.shown.length ≤ sizeLine from Nat.le_trans (Nat.le_trans l (Nat.add_le_add_right w3 _)) hw)]
  rfl
end Z

namespace Z
open PySem PySem.Spec PyProof.Rows L2
/-! ### expressions that change own lists: the mirror gives the value and the slots behind it -/
abbrev XR (α : Type) := Option (α × EnvD)
/-- growth but for the own lists -/
structure GrowX (M : List Nat) (σ : L2.St) (H F H' F' : Hp) : Prop where
  h : ∀ b o, isOwn M σ b = false → H b = some o → H' b = some o
  f : Same F F'
  old : ∀ b, H b ≠ none → F b = none → F' b = none
  dom : ∀ b, H b ≠ none → H' b ≠ none
theorem GrowX.refl {M : List Nat} {σ : L2.St} {H F : Hp} : GrowX M σ H F H F := ⟨fun _ _ _ e => e, Same.refl _, fun _ _ e => e, fun _ e => e⟩
theorem GrowX.of {M : List Nat} {σ : L2.St} {H F H' F' : Hp} (g : Grow H F H' F') : GrowX M σ H F H' F' := ⟨fun _ _ _ e => g.h _ _ e, g.f, g.old, fun _ e => same_ne g.h e⟩
theorem GrowX.trans {M : List Nat} {σ : L2.St} {H F H1 F1 H2 F2 : Hp} (a : GrowX M σ H F H1 F1) (b : GrowX M σ H1 F1 H2 F2) : GrowX M σ H F H2 F2 :=
  ⟨fun x o n e => b.h x o n (a.h x o n e), a.f.trans b.f, fun x h e => b.old x (a.dom x h) (a.old x h e), fun x h => b.dom x (a.dom x h)⟩
def okX {α β : Type} (K : PySem.W.Frag) (r : RK) (M : List Nat) (H0 : Hp) (F0 : FB) (σ : L2.St) (H F : Hp) (R : Hp → β → α → Prop) (Q : β → Hp → Prop) : XR α → Prop
  | some (d, ρ') => ∀ v H' F', S5 K r M H0 F0 H' F' σ ρ' → GrowX M σ H F H' F' → R F' v d → Q v H'
  | none => False
theorem okX.mono {α β : Type} {K : PySem.W.Frag} {r : RK} {M : List Nat} {H0 : Hp} {F0 : FB} {σ : L2.St} {H F H1 F1 : Hp} {R : Hp → β → α → Prop} {Q : β → Hp → Prop} {x : XR α} (s : GrowX M σ H F H1 F1) (h : okX K r M H0 F0 σ H F R Q x) : okX K r M H0 F0 σ H1 F1 R Q x := by
  cases x with
  | none => exact h
  | some p => exact fun v H' F' s5 sf rv => h v H' F' s5 (s.trans sf) rv
theorem okx_bind {α β γ δ : Type} {K : PySem.W.Frag} {r : RK} {M : List Nat} {H0 : Hp} {F0 : FB} {σ : L2.St} {H F : Hp} {R : Hp → β → α → Prop} {R' : Hp → δ → γ → Prop} {Q : δ → Hp → Prop} {x : XR α} {k : α × EnvD → XR γ} {Q' : β → Hp → Prop} (h : okX K r M H0 F0 σ H F R' Q (x.bind k))
    (w : ∀ v H1 F1 d ρ1, x = some (d, ρ1) → S5 K r M H0 F0 H1 F1 σ ρ1 → GrowX M σ H F H1 F1 → R F1 v d → okX K r M H0 F0 σ H1 F1 R' Q (k (d, ρ1)) → Q' v H1) : okX K r M H0 F0 σ H F R Q' x := by
  cases x with
  | none => exact h
  | some p =>
    obtain ⟨d, ρ1⟩ := p
    exact fun v H1 F1 s5 sf rv => w v H1 F1 d ρ1 rfl s5 sf rv (okX.mono sf h)
section
variable (K : PySem.W.Frag) (r : RK) (M : List Nat)
def TXm (m : EnvD → XR D) : TE := fun σ H Q => ∃ H0 F0 F ρ, S5 K r M H0 F0 H F σ ρ ∧ okX K r M H0 F0 σ H F (Dp K) Q (m ρ)
def TXt (m : EnvD → XR Bool) : TT := fun σ H Q => ∃ H0 F0 F ρ, S5 K r M H0 F0 H F σ ρ ∧ okX K r M H0 F0 σ H F (fun _ b c => b = c) Q (m ρ)
def TXa (m : EnvD → XR (List D)) : TA := fun σ H Q => ∃ H0 F0 F ρ, S5 K r M H0 F0 H F σ ρ ∧ okX K r M H0 F0 σ H F (DpAll K) Q (m ρ)
def TXi (m : EnvD → XR (List D)) : TI := fun σ H R => ∃ H0 F0 F ρ, S5 K r M H0 F0 H F σ ρ ∧ okX K r M H0 F0 σ H F (fun F' (J : It) ds => Walks K J ds F') R (m ρ)
/-- a new list -/
def TXn (m : EnvD → XR (List D)) : TE := fun σ H Q => ∃ H0 F0 F ρ, S5 K r M H0 F0 H F σ ρ ∧ match m ρ with
  | some (ds, ρ') => ∀ a vs H' F', S5 K r M H0 F0 H' F' σ ρ' → GrowX M σ H F H' F' → H a = none → H0 a = none → (∀ j ∈ M, σ[j]? ≠ some (some (.ref a))) → F' a = none → H' a = some (.lst vs) → DpAll K F' vs ds → Q (.ref a) H'
  | none => False
end
abbrev XE (X : Cx) (r : RK) (M : List Nat) (e : Expr) (m : EnvD → XR D) : Prop := PE X e (TXm X.K r M m)
abbrev XT (X : Cx) (r : RK) (M : List Nat) (e : Expr) (m : EnvD → XR Bool) : Prop := PT X e (TXt X.K r M m)
abbrev XW (X : Cx) (r : RK) (M : List Nat) (e : Expr) (m : EnvD → XR Bool) : Prop := PW X e (TXt X.K r M m)
abbrev XA (X : Cx) (r : RK) (M : List Nat) (es : List Expr) (m : EnvD → XR (List D)) : Prop := PA X es (TXa X.K r M m)
abbrev XI (X : Cx) (r : RK) (M : List Nat) (tg iter : Expr) (m : EnvD → XR (List D)) : Prop := PI X tg iter (TXi X.K r M m)
abbrev XN (X : Cx) (r : RK) (M : List Nat) (e : Expr) (m : EnvD → XR (List D)) : Prop := PE X e (TXn X.K r M m)
/-! mirrors -/
def xP {α : Type} (m : EnvD → ER α) : EnvD → XR α := fun ρ => match m ρ with
  | .ok d => some (d, ρ)
  | _ => none
def x1 (f : D → Option D) (a : EnvD → XR D) : EnvD → XR D := fun ρ => (a ρ).bind fun p => (f p.1).map fun z => (z, p.2)
def x2 (f : D → D → Option D) (a b : EnvD → XR D) : EnvD → XR D := fun ρ => (a ρ).bind fun p => (b p.2).bind fun q => (f p.1 q.1).map fun z => (z, q.2)
def xL : List (EnvD → XR D) → EnvD → XR (List D)
  | [], ρ => some ([], ρ)
  | m :: ms, ρ => (m ρ).bind fun p => (xL ms p.2).bind fun q => some (p.1 :: q.1, q.2)
def xTu (ms : List (EnvD → XR D)) : EnvD → XR D := fun ρ => (xL ms ρ).bind fun p => some (.tuple p.1, p.2)
def xLi (ms : List (EnvD → XR D)) : EnvD → XR D := fun ρ => (xL ms ρ).bind fun p => some (.list p.1, p.2)
def xB (f : List D → Option D) (ms : List (EnvD → XR D)) : EnvD → XR D := fun ρ => (xL ms ρ).bind fun p => (f p.1).map fun z => (z, p.2)
def xF (g : List D → ER D) (ms : List (EnvD → XR D)) : EnvD → XR D := fun ρ => (xL ms ρ).bind fun p => match g p.1 with
  | .ok z => some (z, p.2)
  | _ => none
/-- a value and an own list -/
def pairD : ER D → Option (D × List D)
  | .ok (.tuple [x, .list es]) => some (x, es)
  | _ => none
def xO (g : List D → ER D) (i : Nat) (ms : List (EnvD → XR D)) : EnvD → XR D := fun ρ => (xL ms ρ).bind fun p => (ownL i p.2).bind fun es => (pairD (g (.list es :: p.1))).map fun z => (z.1, p.2.set i (some (.list z.2)))
def xPop (i : Nat) : EnvD → XR D := fun ρ => (ownL i ρ).bind fun es => match es with
  | x :: es => some (x, ρ.set i (some (.list es)))
  | [] => none
def xV (f : D → Option Bool) (a : EnvD → XR D) : EnvD → XR Bool := fun ρ => (a ρ).bind fun p => (f p.1).map fun z => (z, p.2)
def xAnd (a b : EnvD → XR Bool) : EnvD → XR Bool := fun ρ => (a ρ).bind fun p => if p.1 = true then b p.2 else some (false, p.2)
def xOr (a b : EnvD → XR Bool) : EnvD → XR Bool := fun ρ => (a ρ).bind fun p => if p.1 = true then some (true, p.2) else b p.2
def xNot (a : EnvD → XR Bool) : EnvD → XR Bool := fun ρ => (a ρ).bind fun p => some (!p.1, p.2)
def xiD (m : EnvD → XR D) : EnvD → XR (List D) := fun ρ => (m ρ).bind fun p => (itemsD p.1).map fun z => (z, p.2)
def xiR1 (m : EnvD → XR D) : EnvD → XR (List D) := fun ρ => (m ρ).bind fun p => (rng1D p.1).map fun z => (z, p.2)
def xN' (m : EnvD → XR (List D)) : EnvD → XR D := fun ρ => (m ρ).bind fun p => some (.list p.1, p.2)
def xnL (m : EnvD → XR D) : EnvD → XR (List D) := fun ρ => (m ρ).bind fun p => (itemsL [p.1]).map fun z => (z, p.2)

section
variable {X : Cx} {W : WX} {r : RK} {M : List Nat} {pos p p1 p2 p3 : Pos} {e a b : Expr} {es : List Expr} {me ma mb : EnvD → XR D} {ms : List (EnvD → XR D)} {k : Nat} {x : Str} {i : Nat}
theorem okxO {K : PySem.W.Frag} {H0 H F : Hp} {F0 : FB} {σ : L2.St} {ρ : EnvD} {Q : VK} {o : Option D} (s : S5 K r M H0 F0 H F σ ρ) (h : okX K r M H0 F0 σ H F (Dp K) Q (o.map fun z => (z, ρ))) : okO K H F Q o := by
  cases o with
  | none => exact h
  | some z => exact fun v H' F' g dv => h v H' F' (s.expr g) (.of g) dv
theorem okx_opt {α β γ : Type} {K : PySem.W.Frag} {H0 : Hp} {F0 : FB} {σ : L2.St} {H F : Hp} {ρ : EnvD} {R : Hp → β → α → Prop} {Q : β → Hp → Prop} {o : Option α} (h : okX K r M H0 F0 σ H F R Q (o.map fun z => (z, ρ))) : ∃ c, o = some c ∧ ∀ v H' F', S5 K r M H0 F0 H' F' σ ρ → GrowX M σ H F H' F' → R F' v c → Q v H' := by
  cases o with
  | none => exact h.elim
  | some c => exact ⟨c, rfl, h⟩
theorem xe_pure (C : CB X W k) {m : EnvD → ER D} (h : DE X W M e m) : XE X r M e (xP m) :=
  pe_weak h fun σ H Q ⟨H0, F0, F, ρ, s, q⟩ => ⟨F, ρ, s.grow.sub, s.val, by
    unfold xP at q
    cases em : m ρ with
    | ok d => rw [em] at q; exact fun v H' F' g dv => q v H' F' (s.expr g) (.of g) dv
    | ex _ => rw [em] at q; exact q.elim
    | no => rw [em] at q; exact q.elim⟩
theorem xt_pure (C : CB X W k) {m : EnvD → ER Bool} (h : DT X W M e m) : XT X r M e (xP m) :=
  pt_weak h fun σ H Q ⟨H0, F0, F, ρ, s, q⟩ => ⟨F, ρ, s.grow.sub, s.val, by
    unfold xP at q
    cases em : m ρ with
    | ok d => rw [em] at q; exact fun v H' F' g dv => q v H' F' (s.expr g) (.of g) dv
    | ex _ => rw [em] at q; exact q.elim
    | no => rw [em] at q; exact q.elim⟩
theorem xi_pure (C : CB X W k) {tg iter : Expr} {m : EnvD → ER (List D)} (h : DI X W M tg iter m) : XI X r M tg iter (xP m) :=
  pi_weak h fun σ H Q ⟨H0, F0, F, ρ, s, q⟩ => ⟨F, ρ, s.grow.sub, s.val, by
    unfold xP at q
    cases em : m ρ with
    | ok d => rw [em] at q; exact fun v H' F' g dv => q v H' F' (s.expr g) (.of g) dv
    | ex _ => rw [em] at q; exact q.elim
    | no => rw [em] at q; exact q.elim⟩
theorem xe_op {op : Operator} {f : D → D → Option D} (ho : OpR X (binaryOp op) (rD X.K f)) (ha : XE X r M a ma) (hb : XE X r M b mb) : XE X r M (.BinOp a op b pos) (x2 f ma mb) :=
  pe_weak (pe_op ho ha hb) fun σ H Q ⟨H0, F0, F, ρ, s, q⟩ => ⟨H0, F0, F, ρ, s, okx_bind q fun v H1 F1 x ρ1 _ s1 sf dx q1 => ⟨H0, F0, F1, ρ1, s1, okx_bind q1 fun u H2 F2 y ρ2 _ s2 sf2 dy q2 => ⟨F2, x, y, s2.grow.sub, dp_mono sf2.f _ _ dx, dy, okxO s2 q2⟩⟩⟩
theorem xe_cmp {op : CmpOp} {f : D → D → Option D} (ho : OpR X (compareOp op) (rD X.K f)) (ha : XE X r M a ma) (hb : XE X r M b mb) (hm : behindInMarks op b = false) : XE X r M (.Compare a [op] [b] pos) (x2 f ma mb) :=
  pe_weak (pe_cmpR ho ha hb hm) fun σ H Q ⟨H0, F0, F, ρ, s, q⟩ => ⟨H0, F0, F, ρ, s, okx_bind q fun v H1 F1 x ρ1 _ s1 sf dx q1 => ⟨H0, F0, F1, ρ1, s1, okx_bind q1 fun u H2 F2 y ρ2 _ s2 sf2 dy q2 => ⟨F2, x, y, s2.grow.sub, dp_mono sf2.f _ _ dx, dy, okxO s2 q2⟩⟩⟩
theorem xe_ix (ha : XE X r M a ma) (hb : XE X r M b mb) (hs : PlainIx b) : XE X r M (.Subscript a b pos) (x2 atD ma mb) :=
  pe_weak (pe_ix ixD ha hb hs) fun σ H Q ⟨H0, F0, F, ρ, s, q⟩ => ⟨H0, F0, F, ρ, s, okx_bind q fun v H1 F1 x ρ1 _ s1 sf dx q1 => ⟨H0, F0, F1, ρ1, s1, okx_bind q1 fun u H2 F2 y ρ2 _ s2 sf2 dy q2 => ⟨F2, x, y, s2.grow.sub, dp_mono sf2.f _ _ dx, dy, okxO s2 q2⟩⟩⟩
theorem xe_un {op : UnaryOp} {f : D → Option D} (ho : UnR X (unaryOp op) (rD1 X.K f)) (ha : XE X r M a ma) : XE X r M (.UnaryOp op a pos) (x1 f ma) :=
  pe_weak (pe_un ho ha) fun σ H Q ⟨H0, F0, F, ρ, s, q⟩ => ⟨H0, F0, F, ρ, s, okx_bind q fun v H1 F1 x ρ1 _ s1 sf dx q1 => ⟨F1, x, s1.grow.sub, dx, okxO s1 q1⟩⟩
theorem xa_nil : XA X r M [] (xL []) := pa_weak pa_nil fun σ H Q ⟨H0, F0, F, ρ, s, q⟩ => q _ _ _ s .refl .nil
theorem xa_cons (h : XE X r M e me) (hr : XA X r M es (xL ms)) (hs : starEach (e :: es) X.env = (false, eval e X.env) :: starEach es X.env := by rfl) : XA X r M (e :: es) (xL (me :: ms)) :=
  pa_weak (pa_cons h hr hs) fun σ H Q ⟨H0, F0, F, ρ, s, q⟩ => ⟨H0, F0, F, ρ, s, okx_bind q fun v H1 F1 x ρ1 _ s1 sf dx q1 => ⟨H0, F0, F1, ρ1, s1, okx_bind q1 fun vs H2 F2 xs ρ2 _ s2 sf2 dxs q2 => q2 _ _ _ s2 .refl (.cons (dp_mono sf2.f _ _ dx) dxs)⟩⟩
theorem xL_len : ∀ {ms : List (EnvD → XR D)} {ρ ρ' : EnvD} {ds : List D}, xL ms ρ = some (ds, ρ') → ds.length = ms.length
  | [], _, _, _, h => by cases h; rfl
  | m :: ms, ρ, ρ', ds, h => by
    unfold xL at h
    cases e : m ρ with
    | none => rw [e] at h; cases h
    | some p =>
      rw [e] at h
      have h' : ((xL ms p.2).bind fun q => some (p.1 :: q.1, q.2)) = some (ds, ρ') := h
      cases e2 : xL ms p.2 with
      | none => rw [e2] at h'; cases h'
      | some q =>
        obtain ⟨qs, ρ2⟩ := q
        rw [e2] at h'
        cases h'
        simp [xL_len e2]
theorem xe_tup {k : Nat} (h : XA X r M es (xL ms)) (hl : ms.length ≤ 1000) : XE X r M (.Tuple es k pos) (xTu ms) :=
  pe_weak (pe_tup h) fun σ H Q ⟨H0, F0, F, ρ, s, q⟩ => ⟨H0, F0, F, ρ, s, okx_bind q fun vs H1 F1 ds ρ1 e s1 sf dv q1 => ⟨by rw [dpAll_len dv, xL_len e]; exact line1000 hl, fun p hp => q1 _ _ _ (s1.expr (Grow.new s1.grow.sub hp)) (.of (Grow.new s1.grow.sub hp)) (.tup (.inl (.inl upd_same)) (dpAll_mono (same_new (s1.grow.sub.free hp)) _ _ dv))⟩⟩
theorem xe_lst (h : XA X r M es (xL ms)) (hl : ms.length ≤ 1000) : XE X r M (.List es pos) (xLi ms) :=
  pe_weak (pe_lst h) fun σ H Q ⟨H0, F0, F, ρ, s, q⟩ => ⟨H0, F0, F, ρ, s, okx_bind q fun vs H1 F1 ds ρ1 e s1 sf dv q1 => ⟨by rw [dpAll_len dv, xL_len e]; exact line1000 hl, fun p hp => q1 _ _ _ (s1.expr (Grow.new s1.grow.sub hp)) (.of (Grow.new s1.grow.sub hp)) (.lst (.inl (.inl upd_same)) (dpAll_mono (same_new (s1.grow.sub.free hp)) _ _ dv))⟩⟩
theorem xe_callB {id : String} {f : List D → Option D} (hc : CallR X (.builtin id) (rDn X.K f)) (hm : X.mg x = none) (hv : bootBuiltins x = some (.builtin id)) (hg : Gl X x) (ha : XA X r M (e :: es) (xL ms)) (hn : x ≠ "__name__" := by decide) (hdb : (x == ("__debug__" : Str)) = false := by decide)
    (he : starEach (e :: es) X.env = (false, eval e X.env) :: starEach es X.env := by rfl) (hpl : (backTo pos (starEach es X.env)).any (·.1) = false := by rfl) : XE X r M (.Call (.Name x p) (e :: es) [] pos) (xB f ms) :=
  pe_weak (pe_callB hc hg hm hv ha hn hdb he hpl) fun σ H Q ⟨H0, F0, F, ρ, s, q⟩ => ⟨H0, F0, F, ρ, s, okx_bind q fun vs H1 F1 ds ρ1 _ s1 sf dv q1 => ⟨F1, ds, s1.grow.sub, dv, okxO s1 q1⟩⟩
theorem xe_callT {T : String} {f : List D → Option D} (hc : CallR X (.type T) (rDn X.K f)) (hm : X.mg x = none) (hv : bootBuiltins x = some (.type T)) (hg : Gl X x) (ha : XA X r M (e :: es) (xL ms)) (hn : x ≠ "__name__" := by decide) (hdb : (x == ("__debug__" : Str)) = false := by decide)
    (he : starEach (e :: es) X.env = (false, eval e X.env) :: starEach es X.env := by rfl) (hpl : (backTo pos (starEach es X.env)).any (·.1) = false := by rfl) : XE X r M (.Call (.Name x p) (e :: es) [] pos) (xB f ms) :=
  pe_weak (pe_callTy hc hg hm hv ha hn hdb he hpl) fun σ H Q ⟨H0, F0, F, ρ, s, q⟩ => ⟨H0, F0, F, ρ, s, okx_bind q fun vs H1 F1 ds ρ1 _ s1 sf dv q1 => ⟨F1, ds, s1.grow.sub, dv, okxO s1 q1⟩⟩
theorem xe_call {g : List D → ER D} {k' n : Nat} (C : CB X W k) (c : Callee X.prog X.w X.K X.mg X.base x k' n g) (hk : k' ≤ k) (ha : XA X r M (e :: es) (xL ms)) (hn : ms.length = n) (hg : Gl X x := by rfl) (hdb : (x == ("__debug__" : Str)) = false := by decide)
    (he : starEach (e :: es) X.env = (false, eval e X.env) :: starEach es X.env := by rfl) (hpl : (backTo pos (starEach es X.env)).any (·.1) = false := by rfl) : XE X r M (.Call (.Name x p1) (e :: es) [] pos) (xF g ms) := by
  obtain ⟨f, fd, ps, F, hm, hkp, hb, _, _⟩ := c.ex
  refine pe_weak (pe_callG F (C.room.mono hk) C.gd hg hm hkp hb (fun σ => passAt C.tk σ) ha hdb he hpl) fun σ H Q h => ?_
  obtain ⟨H0, F0, F', ρ, s, q⟩ := h
  exact ⟨H0, F0, F', ρ, s, okx_bind q fun vs H1 F1 ds ρ1 el s1 sf dv q1 => ⟨by rw [dpAll_len dv, xL_len el]; exact hn, F1, ds, s1.grow.sub, dv, by
    dsimp only at q1
    cases eg : g ds with
    | ok z => rw [eg] at q1; exact fun v H' F' g dv => q1 v H' F' (s1.expr g) (.of g) dv
    | ex z => rw [eg] at q1; exact q1.elim
    | no => rw [eg] at q1; exact q1.elim⟩⟩
/-! tests -/
theorem xt_cmp {op : CmpOp} {f : D → D → Option D} (ho : OpR X (compareOp op) (rD X.K f)) (ha : XE X r M a ma) (hb : XE X r M b mb) (hm : behindInMarks op b = false) : XT X r M (.Compare a [op] [b] pos) (xV isBool (x2 f ma mb)) :=
  pt_weak (pt_cmpR ho ha hb hm) fun σ H Q h => by
    obtain ⟨H0, F0, F, ρ, s, q⟩ := h
    have q' : okX X.K r M H0 F0 σ H F (fun _ b c => b = c) Q ((ma ρ).bind fun p => (mb p.2).bind fun q => ((f p.1 q.1).bind isBool).map fun z => (z, q.2)) := by
      have z : xV isBool (x2 f ma mb) ρ = ((ma ρ).bind fun p => (mb p.2).bind fun q => ((f p.1 q.1).bind isBool).map fun z => (z, q.2)) := by
        unfold xV x2
        cases ma ρ with
        | none => rfl
        | some p =>
          dsimp only [Option.bind_some]
          cases mb p.2 with
          | none => rfl
          | some q =>
            dsimp only [Option.bind_some]
            cases f p.1 q.1 <;> rfl
      rw [← z]
      exact q
    refine ⟨H0, F0, F, ρ, s, okx_bind q' fun v H1 F1 x ρ1 _ s1 sf dx q1 => ⟨H0, F0, F1, ρ1, s1, okx_bind q1 fun u H2 F2 y ρ2 _ s2 sf2 dy q2 => ?_⟩⟩
    obtain ⟨c, ec, q4⟩ := okx_opt (γ := D) q2
    refine ⟨F2, x, y, s2.grow.sub, dp_mono sf2.f _ _ dx, dy, ?_⟩
    dsimp only at ec
    cases ew : f x y with
    | none => rw [ew] at ec; cases ec
    | some w =>
      rw [ew] at ec
      exact fun v' H' F' g' dv => ⟨c, isBool_dp dv ec, q4 c H' F' (s2.expr g') (.of g') rfl⟩
theorem xt_val (h : XE X r M e me) (he : ∀ whole, isTrue e X.env whole = (do let v ← whole; standAt e.pos; holding [v] (truthy v)) := by intro _; rfl) : XT X r M e (xV truD me) :=
  pt_weak (pt_truth h he) fun σ H Q ⟨H0, F0, F, ρ, s, q⟩ => ⟨H0, F0, F, ρ, s, okx_bind q fun v H1 F1 x ρ1 _ s1 sf dx q1 => by
    obtain ⟨c, ec, q2⟩ := okx_opt (γ := D) q1
    exact ⟨c, tru_of (dp_mono s1.grow.sub _ _ dx) ec, q2 c _ _ s1 .refl rfl⟩⟩
variable {ta tb : EnvD → XR Bool}
theorem xw_and1 (ha : XT X r M a ta) : XW X r M (.BoolOp .And [a] pos) ta := pw_and1 ha
theorem xw_or1 (ha : XT X r M a ta) : XW X r M (.BoolOp .Or [a] pos) ta := pw_or1 ha
theorem xw_and (ha : XT X r M a ta) (hb : XW X r M (.BoolOp .And (b :: es) pos) tb) : XW X r M (.BoolOp .And (a :: b :: es) pos) (xAnd ta tb) :=
  pw_weak (pw_and ha hb) fun σ H Q ⟨H0, F0, F, ρ, s, q⟩ => ⟨H0, F0, F, ρ, s, okx_bind (R := fun _ b c => b = c) q fun d H1 F1 x ρ1 _ s1 sf ed q1 => by
    subst ed
    cases d with
    | true => rw [if_pos rfl]; rw [if_pos rfl] at q1; exact ⟨H0, F0, F1, ρ1, s1, q1⟩
    | false => rw [if_neg Bool.false_ne_true]; rw [if_neg Bool.false_ne_true] at q1; exact q1 _ _ _ s1 .refl rfl⟩
theorem xw_or (ha : XT X r M a ta) (hb : XW X r M (.BoolOp .Or (b :: es) pos) tb) : XW X r M (.BoolOp .Or (a :: b :: es) pos) (xOr ta tb) :=
  pw_weak (pw_or ha hb) fun σ H Q ⟨H0, F0, F, ρ, s, q⟩ => ⟨H0, F0, F, ρ, s, okx_bind (R := fun _ b c => b = c) q fun d H1 F1 x ρ1 _ s1 sf ed q1 => by
    subst ed
    cases d with
    | true => rw [if_pos rfl]; rw [if_pos rfl] at q1; exact q1 _ _ _ s1 .refl rfl
    | false => rw [if_neg Bool.false_ne_true]; rw [if_neg Bool.false_ne_true] at q1; exact ⟨H0, F0, F1, ρ1, s1, q1⟩⟩
theorem xt_bool (h : XW X r M e ta) : XT X r M e ta := h.pt
theorem xt_not (ha : XT X r M a ta) : XT X r M (.UnaryOp .Not a pos) (xNot ta) :=
  pt_weak (pt_not ha) fun σ H Q ⟨H0, F0, F, ρ, s, q⟩ => ⟨H0, F0, F, ρ, s, okx_bind (R := fun _ b c => b = c) q fun d H1 F1 x ρ1 _ s1 sf ed q1 => by
    subst ed
    exact q1 _ _ _ s1 .refl rfl⟩
end
end Z

namespace Z
open PySem PySem.Spec PyProof.Rows L2
section
variable {X : Cx} {W : WX} {J : Js} {r : RK} {M Mn M1 M' : List Nat} {pos p p1 p2 p3 : Pos} {e a b : Expr} {es : List Expr} {me ma mb : EnvD → XR D} {ms : List (EnvD → XR D)} {k : Nat} {x : Str} {i : Nat}
/-! ### calls that change an own list -/
/-- behind a call that had the own list at a -/
structure GrowO (a : Addr) (H F H' F' : Hp) : Prop where
  h : ∀ b o, b ≠ a → H b = some o → H' b = some o
  f : Same F F'
  sub : Same F' H'
  old : ∀ b, H b ≠ none → F b = none → F' b = none
theorem S5.callO {K : PySem.W.Frag} {H0 H F H' F' : Hp} {F0 : FB} {σ : L2.St} {ρ : EnvD} {a : Addr} {vs : List V} {ds : List D} (s : S5 K r M H0 F0 H F σ ρ) (hi : i ∈ M) (ha : σ[i]? = some (some (.ref a))) (g : GrowO a H F H' F') (hv : H' a = some (.lst vs)) (rr : DpAll K F' vs ds) :
    S5 K r M H0 F0 H' F' σ (ρ.set i (some (.list ds))) := by
  obtain ⟨a', vs0, ds0, e1, e2, e3, e4, e5, e6⟩ := s.own i hi
  rw [ha] at e1
  cases e1
  have hl : i < ρ.length := (List.getElem?_eq_some_iff.mp e2).1
  refine ⟨⟨fun b o q => ?_, s.grow.f.trans g.f, g.sub, fun b q1 q2 => ?_⟩, by rw [List.length_set]; exact s.len, ⟨fun j d hj q => ?_, by rw [List.length_set]; exact s.len⟩, fun j hj => ?_, s.inj, s.pin⟩
  · exact g.h b o (fun z => by rw [z, e4] at q; cases q) (s.grow.h _ _ q)
  · exact g.old b (same_ne s.grow.h q1) (s.grow.old b q1 q2)
  · rcases set_get q with ⟨e1, _⟩ | ⟨e1, e2⟩
    · exact absurd (e1 ▸ hi) hj
    · obtain ⟨v, h1, h2⟩ := s.val.get j d hj e2
      exact ⟨v, h1, dp_mono g.f _ _ h2⟩
  · by_cases z : j = i
    · subst z
      exact ⟨a, vs, ds, ha, set_at hl, g.old a (by rw [e5]; exact fun z => nomatch z) e3, e4, hv, rr⟩
    · obtain ⟨a2, vs2, ds2, f1, f2, f3, f4, f5, f6⟩ := s.own j hj
      have hne : a2 ≠ a := fun q => z (s.inj j i a2 hj hi f1 (by rw [q]; exact ha))
      exact ⟨a2, vs2, ds2, f1, by rw [set_ne z]; exact f2, g.old a2 (by rw [f5]; exact fun z => nomatch z) f3, f4, g.h _ _ hne f5, dpAll_mono g.f _ _ f6⟩
def spO (K : PySem.W.Frag) (n : Nat) (g : List D → ER D) : Sp := fun vs H Q E => vs.length = n + 1 ∧ ∃ F a xs es us ds, vs = .ref a :: us ∧ Same F H ∧ F a = none ∧ H a = some (.lst xs) ∧ DpAll K F xs es ∧ DpAll K F us ds ∧ ∃ x es', pairD (g (.list es :: ds)) = some (x, es') ∧ ∀ v H' F' xs', GrowO a H F H' F' → H' a = some (.lst xs') → DpAll K F' xs' es' → Dp K F' v x → Q v H'
structure CalleeO (P : Program) (w : World) (K : PySem.W.Frag) (mg : Str → Option Value) (base : Heap) (x : Str) (k n : Nat) (g : List D → ER D) : Prop where
  ex : ∃ f fd ps, FnG P w K mg base (L2.CX P w) k f fd ps (spO K n g) ∧ mg x = some (.ref f) ∧ PySem.W.keepIn K (.ref f) = true ∧ Binds K fd ps []
theorem xe_callO {g : List D → ER D} {k' n : Nat} {y : Str} {py : Pos} (C : CB X W k) (c : CalleeO X.prog X.w X.K X.mg X.base x k' n g) (hk : k' ≤ k) (hi : i ∈ M) (hN : X.N[i]? = some y) (hv : Vis X.env.scope y) (ha : XA X r M es (xL ms)) (hn : ms.length = n) (hg : Gl X x := by rfl) (hdb : (x == ("__debug__" : Str)) = false := by decide)
    (hd : (y == ("__debug__" : Str)) = false := by decide) (hcd : (y == ("__classdict__" : Str)) = false := by decide)
    (he : starEach (.Name y py :: es) X.env = (false, eval (.Name y py) X.env) :: starEach es X.env := by rfl) (hpl : (backTo pos (starEach es X.env)).any (·.1) = false := by rfl) : XE X r M (.Call (.Name x p1) (.Name y py :: es) [] pos) (xO g i ms) := by
  obtain ⟨f, fd, ps, F, hm, hkp, hb⟩ := c.ex
  refine pe_weak (pe_callG F (C.room.mono hk) C.gd hg hm hkp hb (fun σ => passAt C.tk σ) (pa_cons (pe_var hN hv hd hcd) ha he) hdb he hpl) fun σ H Q h => ?_
  obtain ⟨H0, F0, F', ρ, s, q⟩ := h
  obtain ⟨a, vs, ds, e1, e2, e3, e4, e5, e6⟩ := s.own i hi
  refine ⟨_, e1, H0, F0, F', ρ, s, okx_bind q fun us H1 F1 dus ρ1 el s1 sf dv q1 => ?_⟩
  obtain ⟨a', vs', ds', f1, f2, f3, f4, f5, f6⟩ := s1.own i hi
  rw [e1] at f1
  cases f1
  have eo : ownL i ρ1 = some ds' := by unfold ownL; rw [f2]
  dsimp only at q1
  rw [eo] at q1
  have q1 : okX X.K r M H0 F0 σ H1 F1 (Dp X.K) Q ((pairD (g (.list ds' :: dus))).map fun z => (z.1, ρ1.set i (some (.list z.2)))) := q1
  cases ep : pairD (g (.list ds' :: dus)) with
  | none => rw [ep] at q1; exact q1.elim
  | some z =>
    rw [ep] at q1
    refine ⟨by rw [List.length_cons, dpAll_len dv, xL_len el, hn], F1, a, vs', ds', us, dus, rfl, s1.grow.sub, f3, f5, f6, dv, z.1, z.2, ep, fun v H' F' xs' g hv dl dx => ?_⟩
    have ow : ∀ b, isOwn M σ b = false → b ≠ a := fun b hb z => by
      subst z
      rw [isOwn_iff.mpr ⟨i, hi, e1⟩] at hb
      cases hb
    exact q1 v H' F' (s1.callO hi e1 g hv dl) ⟨fun b o n e => g.h b o (ow b n) e, g.f, g.old, fun b hb => by
      by_cases z : b = a
      · subst z; rw [hv]; exact fun z => nomatch z
      · cases eb : H1 b with
        | none => exact absurd eb hb
        | some o => rw [g.h b o z eb]; exact fun z => nomatch z⟩ dx
theorem xe_callO1 {g : List D → ER D} {k' : Nat} {y : Str} {py : Pos} (C : CB X W k) (c : CalleeO X.prog X.w X.K X.mg X.base x k' 0 g) (hk : k' ≤ k) (hi : i ∈ M) (hN : X.N[i]? = some y) (hv : Vis X.env.scope y) (hg : Gl X x := by rfl) (hdb : (x == ("__debug__" : Str)) = false := by decide)
    (hd : (y == ("__debug__" : Str)) = false := by decide) (hcd : (y == ("__classdict__" : Str)) = false := by decide)
    (he : starEach [.Name y py] X.env = (false, eval (.Name y py) X.env) :: starEach [] X.env := by rfl) (hpl : (backTo pos (starEach [] X.env)).any (·.1) = false := by rfl) : XE X r M (.Call (.Name x p1) [.Name y py] [] pos) (xO g i []) :=
  xe_callO C c hk hi hN hv xa_nil rfl hg hdb hd hcd he hpl
/-- xs.pop(0) -/
theorem xe_pop {j : Nat} {pc : Pos} (hi : i ∈ M) (hN : X.N[i]? = some x) (hv : Vis X.env.scope x) (hd : (x == ("__debug__" : Str)) = false := by decide) (hcd : (x == ("__classdict__" : Str)) = false := by decide)
    (hbase : attributeBase (.Name x p1) "pop" X.env (eval (.Name x p1) X.env) = eval (.Name x p1) X.env := by rfl)
    (hfew : ((backTo p3 (starEach [.Constant (.int 0) j pc] X.env)).all (fun x => !x.1) && (backToKw p3 (keywordEach [] X.env)).all (fun x => x.1.isSome)
      && decide ([Expr.Constant (.int 0) j pc].length + ([] : List Keyword).length + (if ([] : List Keyword).isEmpty then 0 else 1) < 30)) = true := by rfl)
    (hline : (p2.endLine == p3.line) = true := by rfl) (hs : starEach [.Constant (.int 0) j pc] X.env = (false, eval (.Constant (.int 0) j pc) X.env) :: starEach [] X.env := by rfl) (hplain : (backTo p3 (starEach [] X.env)).any (·.1) = false := by rfl) :
    XE X r M (.Call (.Attribute (.Name x p1) "pop" p2) [.Constant (.int 0) j pc] [] p3) (xPop i) :=
  pe_weak (pe_bm PySem.F.plainAttrs_list PySem.F.slot_list_pop PySem.F.type_list_pop mt_popAt (pe_var hN hv hd hcd) (pa_cons pe_int pa_nil hs) hbase hfew hline hs hplain) fun σ H Q ⟨H0, F0, F, ρ, s, q⟩ => by
    obtain ⟨a, vs, ds, e1, e2, e3, e4, e5, e6⟩ := s.own i hi
    have eo : ownL i ρ = some ds := by unfold ownL; rw [e2]
    unfold xPop at q
    rw [eo] at q
    cases e6 with
    | nil => exact q.elim
    | cons h1 h2 =>
      rename_i v0 vs' d ds'
      refine ⟨_, e1, .inl ⟨rfl, _, .inl (.inl e5)⟩, ?_⟩
      exact ⟨a, _, 0, 0, v0, rfl, rfl, e5, by decide, by decide, by simp [seqIndex?], rfl, q v0 _ F (s.mut hi e1 h2) ⟨fun b o n e => by
        have hb : b ≠ a := fun z => by
          subst z
          rw [isOwn_iff.mpr ⟨i, hi, e1⟩] at n
          cases n
        show upd H a _ b = _
        rw [upd_ne hb]
        exact e, Same.refl _, fun _ _ e => e, fun b hb => by
        by_cases z : b = a
        · subst z; rw [upd_same]; exact fun z => nomatch z
        · rw [upd_ne z]; exact hb⟩ h1⟩
/-! ### what is walked -/
theorem xi_rng1 {tg : Expr} (hm : X.mg "range" = none) (ha : XE X r M a ma) (hg : Gl X "range" := by rfl) (hs : starEach [a] X.env = [(false, eval a X.env)] := by rfl) : XI X r M tg (.Call (.Name "range" p) [a] [] pos) (xiR1 ma) :=
  pi_weak (pi_range1 hg hm (pa_cons ha pa_nil hs) hs) fun σ H R ⟨H0, F0, F, ρ, s, q⟩ => ⟨H0, F0, F, ρ, s, okx_bind q fun v H1 F1 x ρ1 _ s1 sf dx q1 => by
    obtain ⟨c, ec, q2⟩ := okx_opt (γ := D) q1
    unfold rng1D at ec
    split at ec
    · rename_i j hj
      dsimp only at hj
      subst hj
      cases dx
      by_cases hb : j.natAbs < 4611686018427387904
      · rw [if_pos hb] at ec
        cases ec
        exact ⟨j, rfl, by omega, by omega, q2 _ _ _ s1 (.refl) walks_rng⟩
      · rw [if_neg hb] at ec; cases ec
    · cases ec⟩
theorem xi_val {tg : Expr} (he : XE X r M e me) : XI X r M tg e (xiD me) :=
  pi_weak (pi_or (pi_list he) (pi_or (pi_tup he) (pi_str he))) fun σ H R h => by
    obtain ⟨H0, F0, F, ρ, s, q⟩ := h
    cases em : me ρ with
    | none =>
      have q' : okX X.K r M H0 F0 σ H F (fun F' (J : It) ds => Walks X.K J ds F') R ((me ρ).bind fun p => (itemsD p.1).map fun z => (z, p.2)) := q
      rw [em] at q'
      exact q'.elim
    | some z =>
      obtain ⟨d, ρ1⟩ := z
      have q' : okX X.K r M H0 F0 σ H F (fun F' (J : It) ds => Walks X.K J ds F') R ((me ρ).bind fun p => (itemsD p.1).map fun z => (z, p.2)) := q
      rw [em] at q'
      cases d with
      | list ds =>
        refine .inl ⟨H0, F0, F, ρ, s, ?_⟩
        rw [em]
        intro v H1 F1 s1 sf dv
        cases dv with
        | lst ha ra => exact ⟨_, rfl, ⟨_, s1.grow.sub.seq ha⟩, q' _ _ _ s1 sf (walks_list ha ra)⟩
      | tuple ds =>
        refine .inr (.inl ⟨H0, F0, F, ρ, s, ?_⟩)
        rw [em]
        intro v H1 F1 s1 sf dv
        cases dv with
        | tup ha ra => exact ⟨_, rfl, ⟨_, sqT_mono s1.grow.sub ha⟩, q' _ _ _ s1 sf (walks_tup ha ra)⟩
      | str z =>
        refine .inr (.inr ⟨H0, F0, F, ρ, s, ?_⟩)
        rw [em]
        intro v H1 F1 s1 sf dv
        cases dv
        exact ⟨_, rfl, q' _ _ _ s1 sf walks_str⟩
      | _ => exact q'.elim
/-! ### comprehensions -/
/-- the own slots of ρ' in ρ -/
def mrg : List Nat → EnvD → EnvD → EnvD
  | [], ρ, _ => ρ
  | j :: M, ρ, ρ' => match ρ'[j]? with
    | some o => (mrg M ρ ρ').set j o
    | none => mrg M ρ ρ'
def lcX (M : List Nat) (p : Pat) (vs : List Nat) (t : EnvD → ER Bool) (m : EnvD → XR D) : List D → EnvD → XR (List D)
  | [], ρ => some ([], ρ)
  | d :: ds, ρ => (bindP p d (wipeR ρ vs)).bind fun ρ1 => match t ρ1 with
    | .ok true => (m ρ1).bind fun z => (lcX M p vs t m ds (mrg M ρ z.2)).bind fun q => some (z.1 :: q.1, q.2)
    | .ok false => lcX M p vs t m ds ρ
    | _ => none
def xLc (M : List Nat) (p : Pat) (vs : List Nat) (it : EnvD → XR (List D)) (t : EnvD → ER Bool) (m : EnvD → XR D) : EnvD → XR (List D) := fun ρ => (it ρ).bind fun z => if z.1.length ≤ 1000000 then lcX M p vs t m z.1 z.2 else none
theorem mrg_len : ∀ {M : List Nat} {ρ ρ' : EnvD}, (mrg M ρ ρ').length = ρ.length
  | [], _, _ => rfl
  | j :: M, ρ, ρ' => by
    unfold mrg
    split
    · rw [List.length_set, mrg_len]
    · exact mrg_len
theorem mrg_out : ∀ {M : List Nat} {ρ ρ' : EnvD} {j : Nat}, j ∉ M → (mrg M ρ ρ')[j]? = ρ[j]?
  | [], _, _, _, _ => rfl
  | i :: M, ρ, ρ', j, h => by
    unfold mrg
    have h1 : j ≠ i := fun z => h (by simp [z])
    have h2 : j ∉ M := fun z => h (List.mem_cons_of_mem _ z)
    split
    · rw [set_ne h1, mrg_out h2]
    · exact mrg_out h2
theorem mrg_in : ∀ {M : List Nat} {ρ ρ' : EnvD} {j : Nat} {o : Option D}, j ∈ M → ρ'[j]? = some o → j < ρ.length → (mrg M ρ ρ')[j]? = some o
  | i :: M, ρ, ρ', j, o, h, e, hl => by
    unfold mrg
    by_cases z : j = i
    · subst z
      rw [e]
      exact set_at (by rw [mrg_len]; exact hl)
    · have h2 : j ∈ M := (List.mem_cons.mp h).resolve_left z
      split
      · rw [set_ne z]; exact mrg_in h2 e hl
      · exact mrg_in h2 e hl
/-- a comprehension's block: the slots vs are wiped -/
theorem S5.wiped {K : PySem.W.Frag} {H0 H F : Hp} {F0 : FB} {σ : L2.St} {ρ : EnvD} {vs : List Nat} (s : S5 K r M H0 F0 H F σ ρ) (hd : ∀ j ∈ M, j ∉ vs) : S5 K r M H0 F0 H F (wipe σ vs) (wipeR ρ vs) where
  grow := s.grow
  len := by rw [wipeR_len, wipe_len']; exact s.len
  val := rep_wipe s.val
  own := fun j hj => by
    obtain ⟨a, ws, ds, e1, e2, e⟩ := s.own j hj
    refine ⟨a, ws, ds, by rw [wipe_out (hd j hj)]; exact e1, ?_, e⟩
    have : ∀ vs : List Nat, j ∉ vs → (wipeR ρ vs)[j]? = ρ[j]? := fun vs => by
      induction vs with
      | nil => exact fun _ => rfl
      | cons v vs ih =>
        intro h
        show ((wipeR ρ vs).set v none)[j]? = _
        rw [set_ne (fun z => h (by simp [z])), ih (fun z => h (List.mem_cons_of_mem _ z))]
    rw [this vs (hd j hj)]
    exact e2
  inj := fun i j a hi hj e1 e2 => by
    rw [wipe_out (hd i hi)] at e1
    rw [wipe_out (hd j hj)] at e2
    exact s.inj i j a hi hj e1 e2
  pin := fun hr h0 => by
    rw [wipe_out (hd 0 h0)]
    exact s.pin hr h0
/-- .. and back -/
theorem S5.unwiped {K : PySem.W.Frag} {H0 H F H1 F1 : Hp} {F0 : FB} {σ σ1 : L2.St} {ρ ρ1 : EnvD} {vs : List Nat} (s : S5 K r M H0 F0 H F σ ρ) (hd : ∀ j ∈ M, j ∉ vs) (sf : Same F F1) (s1 : S5 K r M H0 F0 H1 F1 σ1 ρ1) (hw : wipe σ1 vs = wipe σ vs) : S5 K r M H0 F0 H1 F1 σ (mrg M ρ ρ1) := by
  have sg : ∀ j ∈ M, σ1[j]? = σ[j]? := fun j hj => by
    rw [← wipe_out (σ := σ1) (hd j hj), ← wipe_out (σ := σ) (hd j hj), hw]
  refine ⟨s1.grow, by rw [mrg_len]; exact s.len, ⟨fun j d hj e => ?_, by rw [mrg_len]; exact s.len⟩, fun j hj => ?_, s.inj, s.pin⟩
  · rw [mrg_out hj] at e
    obtain ⟨v, h1, h2⟩ := s.val.get j d hj e
    exact ⟨v, h1, dp_mono sf _ _ h2⟩
  · obtain ⟨a, ws, ds, e1, e2, e⟩ := s1.own j hj
    obtain ⟨_, _, _, f1, f2, _⟩ := s.own j hj
    refine ⟨a, ws, ds, by rw [← sg j hj]; exact e1, mrg_in hj e2 (List.getElem?_eq_some_iff.mp f2).1, e⟩
theorem lcX_len {p : Pat} {vs : List Nat} {t : EnvD → ER Bool} {m : EnvD → XR D} : ∀ {ds : List D} {ρ ρ' : EnvD} {xs : List D}, lcX M p vs t m ds ρ = some (xs, ρ') → xs.length ≤ ds.length
  | [], _, _, _, h => by cases h; exact Nat.le_refl _
  | d :: ds, ρ, ρ', xs, h => by
    unfold lcX at h
    cases e1 : bindP p d (wipeR ρ vs) with
    | none => rw [e1] at h; cases h
    | some ρ1 =>
      rw [e1] at h
      dsimp only [Option.bind_some] at h
      split at h
      · cases e2 : m ρ1 with
        | none => rw [e2] at h; cases h
        | some z =>
          rw [e2] at h
          dsimp only [Option.bind_some] at h
          cases e3 : lcX M p vs t m ds (mrg M ρ z.2) with
          | none => rw [e3] at h; cases h
          | some q =>
            obtain ⟨ys, ρ2⟩ := q
            rw [e3] at h
            cases h
            have := lcX_len e3
            simp only [List.length_cons]
            omega
      · have := lcX_len h
        simp only [List.length_cons]
        omega
      · cases h
theorem lcX_sem {p : Pat} {vs : List Nat} {it : EnvD → XR (List D)} {t : EnvD → ER Bool} {m : EnvD → XR D} (hp : ∀ j ∈ slotsP p, j ∈ vs) (hd : ∀ j ∈ M, j ∉ vs) {σ : L2.St} {H : Hp} {Q : VK} (h : TXn X.K r M (xLc M p vs it t m) σ H Q) : tLc (TXi X.K r M it) (TGm X.K M p) (TTm X.K X.mg W0 M t) (TXm X.K r M m) vs σ H Q := by
  obtain ⟨H0, F0, F, ρ, s, q⟩ := h
  refine ⟨H0, F0, F, ρ, s, ?_⟩
  unfold xLc at q
  cases ei : it ρ with
  | none => rw [ei] at q; exact q.elim
  | some z =>
    obtain ⟨ds, ρi⟩ := z
    rw [ei] at q
    intro J H1 F1 s1 sf1 wk Da hD
    dsimp only [Option.bind_some] at q
    by_cases hz : ds.length ≤ 1000000
    · rw [if_pos hz] at q
      cases el : lcX M p vs t m ds ρi with
      | none => rw [el] at q; exact q.elim
      | some w =>
        obtain ⟨zs, ρe⟩ := w
        rw [el] at q
        dsimp only at q
        have hzl := lcX_len el
        have hH0 : H0 Da = none := s1.grow.h.free hD
        have hne : ∀ j ∈ M, σ[j]? ≠ some (some (.ref Da)) := fun j hj z => by
          obtain ⟨a2, _, _, e1, _, _, _, e5, _⟩ := s1.own j hj
          rw [z] at e1
          cases e1
          rw [hD] at e5
          cases e5
        have hnO : isOwn M σ Da = false := by
          cases e : isOwn M σ Da with
          | false => rfl
          | true =>
            obtain ⟨j, h1, h2⟩ := isOwn_iff.mp e
            exact absurd h2 (hne j h1)
        refine ⟨fun i n H' => n = ds.length - i ∧ ∃ F' ρ' acc xs rest, S5 X.K r M H0 F0 H' F' σ ρ' ∧ GrowX M σ H1 F1 H' F' ∧ F' Da = none ∧ H' Da = some (.lst acc) ∧ DpAll X.K F' acc xs ∧ lcX M p vs t m (ds.drop i) ρ' = some (rest, ρe) ∧ zs = xs ++ rest, ⟨ds.length, by simp, F1, ρi, [], [], zs, s1.expr (Grow.newH s1.grow.sub hD), .of (Grow.newH s1.grow.sub hD), s1.grow.sub.free hD, upd_same, .nil, by simpa using el, rfl⟩, ?_⟩
        rintro i n H' ⟨rfl, F', ρ', acc, xs, rest, s2, sf, fD, hD', dacc, erest, ez⟩
        obtain ⟨stop, go⟩ := wk i H' F' sf.f s2.grow.sub
        by_cases hlt : i < ds.length
        · obtain ⟨g2, g3⟩ := go _ (List.getElem?_eq_getElem hlt)
          refine .inr ⟨g2, fun H'' => ∃ F' ρ' acc xs rest, S5 X.K r M H0 F0 H'' F' σ ρ' ∧ GrowX M σ H1 F1 H'' F' ∧ F' Da = none ∧ H'' Da = some (.lst acc) ∧ DpAll X.K F' acc xs ∧ lcX M p vs t m (ds.drop (i + 1)) ρ' = some (rest, ρe) ∧ zs = xs ++ rest, fun H'' h => ⟨ds.length - (i + 1), by omega, rfl, h⟩, fun x H2 y => ?_⟩
          obtain ⟨F2, gr2, dx⟩ := g3 x H2 y
          have s3 := s2.expr gr2
          have fD2 : F2 Da = none := gr2.old Da (by rw [hD']; exact fun z => nomatch z) fD
          have hD2 := gr2.h _ _ hD'
          rw [List.drop_eq_getElem_cons hlt] at erest
          unfold lcX at erest
          cases eb : bindP p ds[i] (wipeR ρ' vs) with
          | none => rw [eb] at erest; cases erest
          | some ρ1 =>
            rw [eb] at erest
            dsimp only [Option.bind_some] at erest
            have s4 := s3.wiped (vs := vs) hd
            refine ⟨F2, ds[i], _, ρ1, gr2.sub, dx, s4.val, s4.len, eb, fun σ' kp => ⟨?_, ?_⟩⟩
            · rw [← wipe_eq (σ1 := σ') (σ2 := σ) (by rw [kp.sl, wipe_len']) fun j hj => by rw [kp.chg j (fun z => hj (hp j z)), wipe_out hj]]
            · have hw : wipe σ' vs = wipe σ vs := wipe_eq (by rw [kp.sl, wipe_len']) fun j hj => by rw [kp.chg j (fun z => hj (hp j z)), wipe_out hj]
              have s5 := s4.kept kp
              refine ⟨F2, ρ1, gr2.sub, kp.rep, ?_⟩
              cases et : t ρ1 with
              | no => rw [et] at erest; cases erest
              | ex _ => rw [et] at erest; cases erest
              | ok c =>
                rw [et] at erest
                intro c' H3 F3 g3' ec
                subst ec
                cases c' with
                | false =>
                  rw [if_neg Bool.false_ne_true]
                  exact ⟨F3, ρ', acc, xs, rest, s3.expr g3', (sf.trans (.of gr2)).trans (.of g3'), g3'.old Da (by rw [hD2]; exact fun z => nomatch z) fD2, g3'.h _ _ hD2, dpAll_mono (gr2.f.trans g3'.f) _ _ dacc, erest, ez⟩
                | true =>
                  rw [if_pos rfl]
                  dsimp only at erest
                  have s6 := s5.expr g3'
                  refine ⟨H0, F0, F3, ρ1, s6, ?_⟩
                  cases em : m ρ1 with
                  | none => rw [em] at erest; cases erest
                  | some z =>
                    obtain ⟨yy, ρz⟩ := z
                    rw [em] at erest
                    dsimp only [Option.bind_some] at erest
                    intro v H4 F4 s7 sf4 dv
                    cases er : lcX M p vs t m (ds.drop (i + 1)) (mrg M ρ' ρz) with
                    | none => rw [er] at erest; cases erest
                    | some w =>
                      obtain ⟨rest', ρw⟩ := w
                      rw [er] at erest
                      cases erest
                      have fD3 := g3'.old Da (by rw [hD2]; exact fun z => nomatch z) fD2
                      have hD3 := g3'.h _ _ hD2
                      have hnO' : isOwn M σ' Da = false := by
                        cases e : isOwn M σ' Da with
                        | false => rfl
                        | true =>
                          obtain ⟨j, h1, h2⟩ := isOwn_iff.mp e
                          refine absurd ?_ (hne j h1)
                          rw [← wipe_out (σ := σ) (hd j h1), ← hw, wipe_out (hd j h1)]
                          exact h2
                      have fD4 := sf4.old Da (by rw [hD3]; exact fun z => nomatch z) fD3
                      have hD4 := sf4.h _ _ hnO' hD3
                      have hacc : acc.length = xs.length := dpAll_len dacc
                      have s8 := s3.unwiped hd (g3'.f.trans sf4.f) s7 hw
                      have so : ∀ b, isOwn M σ b = false → isOwn M σ' b = false := fun b hb => by
                        cases e : isOwn M σ' b with
                        | false => rfl
                        | true =>
                          obtain ⟨j, h1, h2⟩ := isOwn_iff.mp e
                          rw [isOwn_iff.mpr ⟨j, h1, by rw [← wipe_out (σ := σ) (hd j h1), ← hw, wipe_out (hd j h1)]; exact h2⟩] at hb
                          cases hb
                      have gx : GrowX M σ H2 F2 H4 F4 := ⟨fun b o n e => sf4.h b o (so b n) (g3'.h b o e), g3'.f.trans sf4.f, fun b h e => sf4.old b (same_ne g3'.h h) (g3'.old b h e), fun b h => sf4.dom b (same_ne g3'.h h)⟩
                      have gy := (sf.trans (.of gr2)).trans gx
                      refine ⟨acc, hD4, size_ok ?_, F4, mrg M ρ' ρz, acc ++ [v], xs ++ [yy], rest', ⟨⟨fun b o e => ?_, s8.grow.f, fun b o e => ?_, s8.grow.old⟩, s8.len, s8.val, fun j hj => ?_, s8.inj, s8.pin⟩, ⟨fun b o n e => ?_, gy.f, gy.old, fun b h => ?_⟩, fD4, upd_same, dpAll_append (dpAll_mono (gr2.f.trans gx.f) _ _ dacc) (.cons dv .nil), er, by rw [ez, List.append_assoc]; rfl⟩
                      · have : xs.length ≤ zs.length := by rw [ez]; simp
                        omega
                      · rw [upd_ne (fun z => by rw [z, hH0] at e; cases e)]
                        exact s8.grow.h _ _ e
                      · rw [upd_ne (fun z => by rw [z, fD4] at e; cases e)]
                        exact s8.grow.sub _ _ e
                      · obtain ⟨a2, ws, dds, f1, f2, f3, f4, f5, f6⟩ := s8.own j hj
                        refine ⟨a2, ws, dds, f1, f2, f3, f4, ?_, f6⟩
                        rw [upd_ne (fun z => hne j hj (by rw [← z]; exact f1))]
                        exact f5
                      · rw [upd_ne (fun z => by rw [z, hD] at e; cases e)]
                        exact gy.h b o n e
                      · by_cases z : b = Da
                        · subst z; rw [upd_same]; exact fun z => nomatch z
                        · rw [upd_ne z]; exact gy.dom b h
        · refine .inl ⟨stop (by omega), ?_⟩
          rw [List.drop_of_length_le (by omega)] at erest
          cases erest
          rw [List.append_nil] at ez
          subst ez
          exact q Da acc H' F' s2 (sf1.trans sf) (Classical.byContradiction fun z => sf1.dom Da z hD) hH0 hne fD hD' dacc
    · rw [if_neg hz] at q
      exact q.elim

theorem xn_lc {elt tg iter : Expr} {ifs : List Expr} {scope : Scope} {own : List (Str × Nat)} {p : Pat} {vs : List Nat} {it : EnvD → XR (List D)} {t : EnvD → ER Bool} {m : EnvD → XR D} (C : CB X W k) (hi : XI X r M tg iter it) (ok : blkC X.N X.env.scope scope own = true) (hv : vs = own.map (·.2)) (hp : ∀ j ∈ slotsP p, j ∈ vs) (hd : ∀ j ∈ M, j ∉ vs)
    (hb : ∀ (s : Shared) (H : Hp) (C' : Addr) (cl : List (Str × Addr)) (fp : List Addr), CB (X.blk s H scope (compEnvC scope cl C' X.env) fp) W0 k →
      DG (X.blk s H scope (compEnvC scope cl C' X.env) fp) M tg p ∧ DTs (X.blk s H scope (compEnvC scope cl C' X.env) fp) M ifs t ∧ XE (X.blk s H scope (compEnvC scope cl C' X.env) fp) r M elt m)
    (hs : ∀ x, foldedSetIterable iter X.env x = pure x := by intro _; rfl) : XN X r M (.ListComp elt [⟨tg, iter, ifs, 0⟩] scope pos) (xLc M p vs it t m) := by
  have cb : ∀ (s : Shared) (H : Hp) (C' : Addr) (cl : List (Str × Addr)) (fp : List Addr), CB (X.blk s H scope (compEnvC scope cl C' X.env) fp) W0 k := fun s H C' cl fp => ⟨C.calm, C.nd, takes0, PassesOwn.never, C.room, C.gd⟩
  subst hv
  exact pe_weak (pe_lc (own := own) (g := TGm X.K M p) (tt := TTm X.K X.mg W0 M t) (te := TXm X.K r M m) C.calm C.nd hi (blkOk_by ok) (fun s H C' cl fp => (hb s H C' cl fp (cb s H C' cl fp)).1) (fun s H C' cl fp => (hb s H C' cl fp (cb s H C' cl fp)).2.1) (fun s H C' cl fp => (hb s H C' cl fp (cb s H C' cl fp)).2.2) hs) fun σ H Q h => lcX_sem hp hd h
theorem xn_pure (C : CB X W k) {m : EnvD → ER (List D)} (h : DN X W M e m) : XN X r M e (xP m) :=
  pe_weak h fun σ H Q ⟨H0, F0, F, ρ, s, q⟩ => ⟨F, ρ, s.grow.sub, s.val, by
    unfold xP at q
    cases em : m ρ with
    | ok d =>
      rw [em] at q
      exact fun a vs H' F' g ha fa ha' dv => q a vs H' F' (s.expr g) (.of g) ha (s.grow.h.free ha) (fun j hj z => by
        obtain ⟨a2, _, _, e1, _, _, _, e5, _⟩ := s.own j hj
        rw [z] at e1
        cases e1
        rw [ha] at e5
        cases e5) fa ha' dv
    | ex _ => rw [em] at q; exact q.elim
    | no => rw [em] at q; exact q.elim⟩
theorem xn_list {x : Str} {e : Expr} {p : Pos} (hm : X.mg x = none) (hv : bootBuiltins x = some (.type "list")) (hg : Gl X x) (ha : XE X r M e me) (hn : x ≠ "__name__" := by decide) (hdb : (x == ("__debug__" : Str)) = false := by decide)
    (he : starEach [e] X.env = (false, eval e X.env) :: starEach [] X.env := by rfl) (hpl : (backTo pos (starEach [] X.env)).any (·.1) = false := by rfl) : XN X r M (.Call (.Name x p) [e] [] pos) (xnL me) :=
  pe_weak (pe_callTy call_list_of hg hm hv (pa_cons ha pa_nil he) hn hdb he hpl) fun σ H Q ⟨H0, F0, F, ρ, s, q⟩ => ⟨H0, F0, F, ρ, s, by
    unfold xnL at q
    cases em : me ρ with
    | none => rw [em] at q; exact q.elim
    | some z =>
      obtain ⟨d, ρ1⟩ := z
      rw [em] at q
      dsimp only [Option.bind_some] at q
      have fin : ∀ (ds : List D) (l : Addr) (H1 F1 : Hp) (xs : List V), itemsL [d] = some ds → S5 X.K r M H0 F0 H1 F1 σ ρ1 → GrowX M σ H F H1 F1 → H1 l = none → DpAll X.K F1 xs ds → Q (.ref l) (upd H1 l (.lst xs)) := fun ds l H1 F1 xs ei s1 sf hl ra => by
        rw [ei] at q
        refine q l xs _ F1 (s1.expr (Grow.newH s1.grow.sub hl)) (sf.trans (.of (Grow.newH s1.grow.sub hl))) (Classical.byContradiction fun z => sf.dom l z hl) (s1.grow.h.free hl) (fun j hj z => ?_) (s1.grow.sub.free hl) upd_same ra
        obtain ⟨a2, _, _, e1, _, _, _, e5, _⟩ := s1.own j hj
        rw [z] at e1
        cases e1
        rw [hl] at e5
        cases e5
      intro v H1 F1 s1 sf dv
      cases d with
      | list es => cases dv with
        | lst ha ra => exact ⟨_, _, rfl, .inl (s1.grow.sub.seq ha), fun l hl => fin es l H1 F1 _ rfl s1 sf hl ra⟩
      | tuple es => cases dv with
        | tup ha ra => exact ⟨_, _, rfl, .inr (sqT_mono s1.grow.sub ha), fun l hl => fin es l H1 F1 _ rfl s1 sf hl ra⟩
      | _ => exact q.elim⟩
theorem S5.fix {K : PySem.W.Frag} {H0 H F : Hp} {F0 : FB} {σ : L2.St} {ρ : EnvD} {a : Addr} {vs : List V} (s : S5 K r M H0 F0 H F σ ρ) (h0 : H0 a = none) (hne : ∀ j ∈ M, σ[j]? ≠ some (some (.ref a))) (hf : F a = none) (ha : H a = some (.lst vs)) : S5 K r M H0 F0 H (upd F a (.lst vs)) σ ρ := by
  have sF : Same F (upd F a (.lst vs)) := same_new hf
  refine ⟨⟨s.grow.h, s.grow.f.trans sF, fun b o q => ?_, fun b q1 q2 => ?_⟩, s.len, s.val.mono sF, fun j hj => ?_, s.inj, s.pin⟩
  · by_cases z : b = a
    · subst z
      rw [upd_same] at q
      cases q
      exact ha
    · rw [upd_ne z] at q
      exact s.grow.sub _ _ q
  · rw [upd_ne (fun z => q1 (by rw [z]; exact h0))]
    exact s.grow.old b q1 q2
  · obtain ⟨a2, ws, ds, f1, f2, f3, f4, f5, f6⟩ := s.own j hj
    refine ⟨a2, ws, ds, f1, f2, ?_, f4, f5, dpAll_mono sF _ _ f6⟩
    rw [upd_ne (fun z => hne j hj (by rw [← z]; exact f1))]
    exact f3
theorem xe_new {m : EnvD → XR (List D)} (h : XN X r M e m) : XE X r M e (xN' m) :=
  pe_weak h fun σ H Q ⟨H0, F0, F, ρ, s, q⟩ => ⟨H0, F0, F, ρ, s, by
    unfold xN' at q
    cases em : m ρ with
    | none => rw [em] at q; exact q
    | some z =>
      obtain ⟨ds, ρ1⟩ := z
      rw [em] at q
      intro a vs H' F' s1 sf ha h0 hne fa ha' dv
      refine q _ _ _ (s1.fix h0 hne fa ha') ⟨sf.h, sf.f.trans (same_new fa), fun b q1 q2 => ?_, sf.dom⟩ (.lst (.inl (.inl upd_same)) (dpAll_mono (same_new fa) _ _ dv))
      rw [upd_ne (fun z => q1 (by rw [z]; exact ha))]
      exact sf.old b q1 q2⟩
/-! ### statements -/
def SR.ofX {α : Type} (x : XR α) (k : α → EnvD → SR) : SR := match x with
  | some (a, ρ) => k a ρ
  | none => .no
def sSetX (i : Nat) (m : EnvD → XR D) : EnvD → SR := fun ρ => SR.ofX (m ρ) fun d ρ' => .nx (ρ'.set i (some d))
def sPatX (p : Pat) (m : EnvD → XR D) : EnvD → SR := fun ρ => SR.ofX (m ρ) fun d ρ' => match bindP p d ρ' with
  | some ρ'' => .nx ρ''
  | none => .no
def sIfX (c : EnvD → XR Bool) (a b : EnvD → SR) : EnvD → SR := fun ρ => SR.ofX (c ρ) fun q ρ' => if q = true then a ρ' else b ρ'
def sForX (p : Pat) (it : EnvD → XR (List D)) (b : EnvD → SR) : EnvD → SR := fun ρ => SR.ofX (it ρ) fun ds ρ' => forM' p b ds ρ'
def sAppX (i : Nat) (m : EnvD → XR D) : EnvD → SR := fun ρ => SR.ofX (m ρ) fun d ρ' => match ownL i ρ' with
  | some ds => if ds.length < sizeLine then .nx (ρ'.set i (some (.list (ds ++ [d])))) else .no
  | none => .no
def sNewX (i : Nat) (m : EnvD → XR (List D)) : EnvD → SR := fun ρ => SR.ofX (m ρ) fun ds ρ' => .nx (ρ'.set i (some (.list ds)))
def sRetX (m : EnvD → XR D) : EnvD → SR := fun ρ => SR.ofX (m ρ) fun d _ => .ret d
def sRetO (m : EnvD → XR D) : EnvD → SR := fun ρ => SR.ofX (m ρ) fun d ρ' => match ownL 0 ρ' with
  | some es => .ret (.tuple [d, .list es])
  | none => .no
def sRetF (i : Nat) : EnvD → SR := fun ρ => match ownL i ρ with
  | some es => .ret (.list es)
  | none => .no
theorem evX {α β : Type} {K : PySem.W.Frag} {mg : Str → Option Value} {H0 H F : Hp} {F0 : FB} {σ : L2.St} {ρ : EnvD} {D : Ends} {R : Hp → β → α → Prop} {Q : β → Hp → Prop} {x : XR α} {f : α → EnvD → SR} (s : S5 K r M H0 F0 H F σ ρ) (q : okS K mg W J Mn H0 F0 D (SR.ofX x f))
    (w : ∀ v H1 F1 d ρ1, S5 K r M H0 F0 H1 F1 σ ρ1 → GrowX M σ H F H1 F1 → R F1 v d → okS K mg W J Mn H0 F0 D (f d ρ1) → Q v H1) : okX K r M H0 F0 σ H F R Q x := by
  cases x with
  | none => exact q
  | some z =>
    obtain ⟨d, ρ1⟩ := z
    exact fun v H1 F1 s1 sf rv => w v H1 F1 d ρ1 s1 sf rv q
theorem d1_setX {pos' : Pos} (hN : X.N.Nodup) (hi : X.N[i]? = some x) (hx : Loc X.env.scope x) (he : XE X J.r M e me) (hM : M' = M.filter (· != i)) (hs : swapsWith e (some (.Name x pos')) pos.line X.env = pure false := by rfl) (hf : X.fn x = true ∨ X.env.scope.names.lookup x = some .local := by first | exact .inl rfl | exact .inr rfl | assumption) :
    D1 X W J M M' (.Assign [.Name x pos'] e pos) (sSetX i me) :=
  ps_weak (ps_set hN hi hx he hs hf) fun D σ H ⟨H0, F0, F, ρ, s, q⟩ => ⟨H0, F0, F, ρ, s, evX s q fun v H1 F1 d ρ1 s1 sf dv q1 => by
    subst hM
    exact q1 _ _ _ (s1.set dv)⟩
theorem d1_patX {tg : Expr} {p : Pat} (he : XE X J.r M e me) (hg : DG X M tg p) (hs : swapsWithSole [tg] e pos.line X.env = pure false := by rfl) (hw : swappedStores [tg] e X.env = pure none := by rfl)
    (h1 : (assignEach [tg] X.env).map (·.2) = [assign tg X.env] := by rfl) : D1 X W J M M (.Assign [tg] e pos) (sPatX p me) :=
  ps_weak (ps_asg he hg hs hw h1) fun D σ H ⟨H0, F0, F, ρ, s, q⟩ => ⟨H0, F0, F, ρ, s, evX s q fun v H1 F1 d ρ1 s1 sf dv q1 => by
    cases eb : bindP p d ρ1 with
    | none => rw [eb] at q1; exact q1.elim
    | some ρ' =>
      rw [eb] at q1
      exact ⟨F1, d, ρ1, ρ', s1.grow.sub, dv, s1.val, s1.len, eb, fun σ' k => q1 _ _ _ (s1.kept k)⟩⟩
theorem d1_ifX {c : Expr} {a b : List Stmt} {mc : EnvD → XR Bool} {m1 m2 : EnvD → SR} (hc : XT X J.r M c mc) (ha : DS X W J M Mn a m1) (hb : DS X W J M Mn b m2) : D1 X W J M Mn (.If c a b pos) (sIfX mc m1 m2) :=
  ps_weak (ps_if hc ha hb) fun D σ H ⟨H0, F0, F, ρ, s, q⟩ => ⟨H0, F0, F, ρ, s, evX (R := fun _ b c => b = c) s q fun v H1 F1 d ρ1 s1 sf ev q1 => by
    subst ev
    cases v with
    | true => rw [if_pos rfl] at q1 ⊢; exact ⟨H0, F0, F1, ρ1, s1, q1⟩
    | false => rw [if_neg Bool.false_ne_true] at q1 ⊢; exact ⟨H0, F0, F1, ρ1, s1, q1⟩⟩
theorem d1_forX {tg iter : Expr} {body : List Stmt} {p : Pat} {mi : EnvD → XR (List D)} {mb : EnvD → SR} {k : Nat} (C : CB X W k) (hi : XI X J.r M tg iter mi) (hg : DG X M tg p) (hb : DS X W ⟨M, M, J.r⟩ M M body mb)
    (hs : ∀ x, foldedSetIterable iter X.env x = pure x := by intro _; rfl) : D1 X W J M M (.For tg iter body [] pos) (sForX p mi mb) :=
  ps_weak (ps_for C.po C.calm hi hg hb hs) fun D σ H ⟨H0, F0, F, ρ, s, q⟩ => ⟨H0, F0, F, ρ, s, evX s q fun It' H1 F1 ds ρ1 s1 sf wk q1 => by
    have q1' := okS.rebase s1.grow q1
    refine ⟨fun i m σ H => m = ds.length - i ∧ ∃ F ρ, S5 X.K J.r M H0 (F1, F0.2) H F σ ρ ∧ okS X.K X.mg W J M H0 (F1, F0.2) D (forM' p mb (ds.drop i) ρ), ⟨ds.length, by simp, F1, ρ1, s1.rebase, by simpa using q1'⟩, ?_⟩
    rintro i m σ H ⟨rfl, F, ρ, s5, q⟩
    obtain ⟨stop, go⟩ := wk i H F s5.grow.f s5.grow.sub
    by_cases hlt : i < ds.length
    · obtain ⟨g1, g2⟩ := go _ (List.getElem?_eq_getElem hlt)
      refine .inr ⟨g1, fun σ' H' => ∃ F ρ, S5 X.K J.r M H0 (F1, F0.2) H' F σ' ρ ∧ okS X.K X.mg W J M H0 (F1, F0.2) D (forM' p mb (ds.drop (i + 1)) ρ), fun σ' H' h => ⟨ds.length - (i + 1), by omega, rfl, h⟩, fun x H' y => ?_⟩
      obtain ⟨F2, gr, dx⟩ := g2 x H' y
      rw [List.drop_eq_getElem_cons hlt] at q
      unfold forM' at q
      cases eb : bindP p ds[i] ρ with
      | none => rw [eb] at q; exact q.elim
      | some ρ1 =>
        rw [eb] at q
        refine ⟨F2, ds[i], ρ, ρ1, gr.sub, dx, s5.val.mono gr.f, s5.len, eb, fun σ' k => ?_⟩
        refine ⟨H0, (F1, F0.2), F2, ρ1, (s5.expr gr).kept k, ?_⟩
        dsimp only at q
        cases eo : mb ρ1 with
        | nx ρ2 => rw [eo] at q; exact fun σ3 H3 F3 s3 => ⟨F3, ρ2, s3, q⟩
        | cont ρ2 => rw [eo] at q; exact fun σ3 H3 F3 s3 => ⟨F3, ρ2, s3, q⟩
        | brk ρ2 => rw [eo] at q; exact q
        | ret x => rw [eo] at q; exact q
        | ex x ρ2 => rw [eo] at q; exact q
        | no => rw [eo] at q; exact q
    · exact .inl ⟨stop (by omega), by
        rw [List.drop_of_length_le (by omega)] at q
        exact q σ H F s5⟩⟩
theorem d1_appX (hi : i ∈ M) (hN : X.N[i]? = some x) (hv : Vis X.env.scope x) (he : XE X J.r M e me) (hd : (x == ("__debug__" : Str)) = false := by decide) (hcd : (x == ("__classdict__" : Str)) = false := by decide)
    (hbase : attributeBase (.Name x p1) "append" X.env (eval (.Name x p1) X.env) = eval (.Name x p1) X.env := by rfl)
    (hfew : ((backTo p3 (starEach [e] X.env)).all (fun x => !x.1) && (backToKw p3 (keywordEach [] X.env)).all (fun x => x.1.isSome)
      && decide ([e].length + ([] : List Keyword).length + (if ([] : List Keyword).isEmpty then 0 else 1) < 30)) = true := by rfl)
    (hline : (p2.endLine == p3.line) = true := by rfl) (hs : starEach [e] X.env = (false, eval e X.env) :: starEach [] X.env := by rfl) (hplain : (backTo p3 (starEach [] X.env)).any (·.1) = false := by rfl)
    (hsw : swapsWith (.Call (.Attribute (.Name x p1) "append" p2) [e] [] p3) none pos.line X.env = pure false := by rfl) :
    D1 X W J M M (.Expr (.Call (.Attribute (.Name x p1) "append" p2) [e] [] p3) pos) (sAppX i me) :=
  ps_weak (ps_expr (pe_bm PySem.F.plainAttrs_list PySem.F.slot_list_append PySem.F.type_list_append mt_append (pe_var hN hv hd hcd) (pa_cons he pa_nil hs) hbase hfew hline hs hplain) hsw) fun D σ H ⟨H0, F0, F, ρ, s, q⟩ => by
    obtain ⟨a, vs, ds, e1, e2, e3, e4, e5, e6⟩ := s.own i hi
    refine ⟨_, e1, .inl ⟨rfl, _, .inl (.inl e5)⟩, H0, F0, F, ρ, s, evX s q fun v H1 F1 d ρ1 s1 sf dv q1 => ?_⟩
    obtain ⟨a', vs', ds', f1, f2, f3, f4, f5, f6⟩ := s1.own i hi
    rw [e1] at f1
    cases f1
    have eo : ownL i ρ1 = some ds' := by unfold ownL; rw [f2]
    rw [eo] at q1
    dsimp only at q1
    by_cases hz : ds'.length < sizeLine
    · rw [if_pos hz] at q1
      exact ⟨_, _, _, rfl, rfl, f5, by rw [dpAll_len f6]; exact hz, q1 _ _ _ (s1.mut hi e1 (dpAll_append f6 (.cons dv .nil)))⟩
    · rw [if_neg hz] at q1
      exact q1.elim
theorem d1_newX {m : EnvD → XR (List D)} {pos' : Pos} (hN : X.N.Nodup) (hi : X.N[i]? = some x) (hx : Loc X.env.scope x) (he : XN X J.r M e m) (hM : M' = i :: M.filter (· != i)) (hr : J.r = .own → i ≠ 0 := by intro h; first | decide | cases h) (hs : swapsWith e (some (.Name x pos')) pos.line X.env = pure false := by rfl) (hf : X.fn x = true ∨ X.env.scope.names.lookup x = some .local := by first | exact .inl rfl | exact .inr rfl | assumption) :
    D1 X W J M M' (.Assign [.Name x pos'] e pos) (sNewX i m) := by
  refine ⟨fun pins s σ H D I h => ?_⟩
  refine (ps_set hN hi hx he hs hf).run pins s σ H D I ?_
  obtain ⟨H0, F0, F, ρ, s5, q⟩ := h
  refine ⟨H0, F0, F, ρ, s5, ?_⟩
  unfold sNewX at q
  cases em : m ρ with
  | none => rw [em] at q; exact q
  | some z =>
    obtain ⟨ds, ρ1⟩ := z
    rw [em] at q
    intro a vs H' F' s1 sf ha h0 hne fa ha' dv
    subst hM
    have hl : i < ρ1.length := by
      rw [s1.len, I.len]
      exact (List.getElem?_eq_some_iff.mp hi).1
    exact q _ _ _ (s1.setNew hr hl h0 fa ha' dv hne)
theorem d1_newLcX {y : Str} {py spos : Pos} {elt tg iter : Expr} {ifs : List Expr} {scope : Scope} {own : List (Str × Nat)} {p : Pat} {vs : List Nat} {it : EnvD → XR (List D)} {t : EnvD → ER Bool} {m : EnvD → XR D} (C : CB X W k) (hy : X.N[i]? = some y) (hyl : X.env.scope.names.lookup y = some .local)
    (hsw : swapsWith (.ListComp elt [⟨tg, iter, ifs, 0⟩] scope pos) (some (.Name y py)) spos.line X.env = pure true) (hM : M' = i :: M.filter (· != i)) (hi : XI X J.r M tg iter it) (ok : blkC X.N X.env.scope scope own = true) (hv : vs = own.map (·.2)) (hp : ∀ j ∈ slotsP p, j ∈ vs) (hd : ∀ j ∈ M, j ∉ vs)
    (hb : ∀ (s : Shared) (H : Hp) (C' : Addr) (cl : List (Str × Addr)) (fp : List Addr), CB (X.blk s H scope (compEnvC scope cl C' X.env) fp) W0 k →
      DG (X.blk s H scope (compEnvC scope cl C' X.env) fp) M tg p ∧ DTs (X.blk s H scope (compEnvC scope cl C' X.env) fp) M ifs t ∧ XE (X.blk s H scope (compEnvC scope cl C' X.env) fp) J.r M elt m)
    (hs : ∀ x, foldedSetIterable iter X.env x = pure x := by intro _; rfl) (hr : J.r = .own → i ≠ 0 := by intro h; first | decide | cases h) : D1 X W J M M' (.Assign [.Name y py] (.ListComp elt [⟨tg, iter, ifs, 0⟩] scope pos) spos) (sNewX i (xLc M p vs it t m)) := by
  have cb : ∀ (s : Shared) (H : Hp) (C' : Addr) (cl : List (Str × Addr)) (fp : List Addr), CB (X.blk s H scope (compEnvC scope cl C' X.env) fp) W0 k := fun s H C' cl fp => ⟨C.calm, C.nd, takes0, PassesOwn.never, C.room, C.gd⟩
  subst hv
  refine ⟨fun pins s σ H D I h => ?_⟩
  refine (ps_setLc (own := own) (g := TGm X.K M p) (tt := TTm X.K X.mg W0 M t) (te := TXm X.K J.r M m) C.calm C.nd hy hyl hsw hi (blkOk_by ok) (fun s H C' cl fp => (hb s H C' cl fp (cb s H C' cl fp)).1) (fun s H C' cl fp => (hb s H C' cl fp (cb s H C' cl fp)).2.1) (fun s H C' cl fp => (hb s H C' cl fp (cb s H C' cl fp)).2.2) hs).run pins s σ H D I ?_
  obtain ⟨H0, F0, F, ρ, s5, q⟩ := h
  refine lcX_sem (X := X) (Q := fun x H1 => gName i x σ H1 D.nx) hp hd ⟨H0, F0, F, ρ, s5, ?_⟩
  unfold sNewX at q
  generalize xLc M p (own.map (·.2)) it t m ρ = z at q ⊢
  cases z with
  | none => exact q
  | some z =>
    obtain ⟨ds, ρ1⟩ := z
    intro a vs H' F' s1 sf ha h0 hne fa ha' dv
    subst hM
    have hl : i < ρ1.length := by
      rw [s1.len, I.len]
      exact (List.getElem?_eq_some_iff.mp hy).1
    exact q _ _ _ (s1.setNew hr hl h0 fa ha' dv hne)
theorem d1_retX (he : XE X J.r M e me) (hr : J.r = .val := by rfl) : D1 X W J M Mn (.Return (some e) pos) (sRetX me) :=
  ps_weak (ps_ret he) fun D σ H ⟨H0, F0, F, ρ, s, q⟩ => ⟨H0, F0, F, ρ, s, evX s q fun v H1 F1 d ρ1 s1 sf dv q1 => retS_val hr q1 v H1 F1 s1.grow dv⟩
theorem d1_retO (he : XE X J.r M e me) (h0 : 0 ∈ M) (hr : J.r = .own := by rfl) : D1 X W J M Mn (.Return (some e) pos) (sRetO me) :=
  ps_weak (ps_ret he) fun D σ H ⟨H0, F0, F, ρ, s, q⟩ => ⟨H0, F0, F, ρ, s, evX s q fun v H1 F1 d ρ1 s1 sf dv q1 => by
    obtain ⟨a, vs, ds, e1, e2, e3, e4, e5, e6⟩ := s1.own 0 h0
    have pn := s1.pin hr h0
    rw [e1] at pn
    cases pn
    have eo : ownL 0 ρ1 = some ds := by unfold ownL; rw [e2]
    rw [eo] at q1
    have q2 : retS X.K J.r H0 F0 D (.tuple [d, .list ds]) := q1
    rw [hr] at q2
    exact q2 v H1 F1 vs s1.grow dv e3 e5 e6⟩
theorem d1_retF {py : Pos} (hi : i ∈ M) (hN : X.N[i]? = some x) (hv : Vis X.env.scope x) (hr : J.r = .fresh := by rfl) (hd : (x == ("__debug__" : Str)) = false := by decide) (hcd : (x == ("__classdict__" : Str)) = false := by decide) : D1 X W J M Mn (.Return (some (.Name x py)) pos) (sRetF i) :=
  ps_weak (ps_ret (pe_var hN hv hd hcd)) fun D σ H ⟨H0, F0, F, ρ, s, q⟩ => by
    obtain ⟨a, vs, ds, e1, e2, e3, e4, e5, e6⟩ := s.own i hi
    have eo : ownL i ρ = some ds := by unfold ownL; rw [e2]
    unfold sRetF at q
    rw [eo] at q
    have q2 : retS X.K J.r H0 F0 D (.list ds) := q
    rw [hr] at q2
    exact ⟨_, e1, q2 a H F vs s.grow e4 e3 e5 e6⟩
end
end Z

namespace Z
open PySem PySem.Spec PyProof.Rows L2
/-! ### defs whose first parameter is an own list -/
def callMO (N n : Nat) (m : EnvD → SR) : List D → ER D := fun ds => if ds.length = n + 1 then (match m (ds.map some ++ List.replicate (N - (n + 1)) none) with
  | .ret d => .ok d
  | _ => .no) else .no
theorem pairD_some {r : ER D} {x : D} {es : List D} (h : pairD r = some (x, es)) : r = .ok (.tuple [x, .list es]) := by
  unfold pairD at h
  split at h
  · cases h; rfl
  · cases h
def noAt (H : Hp) (a : Addr) : Hp := fun b => if b = a then none else H b
theorem noAt_at (H : Hp) (a : Addr) : noAt H a a = none := if_pos rfl
theorem noAt_ne {H : Hp} {a b : Addr} (h : b ≠ a) : noAt H a b = H b := if_neg h
theorem def_okO {P : Program} {w : World} {K : PySem.W.Frag} {mg : Str → Option Value} {base : Heap} {x qual : Str} {st : Stmt} {f : Addr} {fd : FuncData} {N ps : List Str} {n k : Nat} {m : EnvD → SR} {Mn : List Nat} (F : Fun K x qual st f fd) (S : FnScope N ps (defScope st)) (hn : ps.length = n + 1)
    (hb : ∀ (cdv : Value) (A : Around) (outer : List Env) (s : Shared) (H : Hp) (E : XK), CB (cxD P w K mg base N qual (defScope st) f cdv A outer s H E) (fun c d _ H => E c d H) k →
      DS (cxD P w K mg base N qual (defScope st) f cdv A outer s H E) (fun c d _ H => E c d H) ⟨[], [], .own⟩ [0] Mn (defBody st) m) : FnG P w K mg base (L2.CX P w) (k + 1) f fd ps (spO K n (callMO N.length n m)) := by
  refine fnG_of F S (fun vs H Q E h => by rw [hn]; exact h.1) (fun cdv A outer s H vs Q E hr hgd h => ?_)
  refine ⟨_, hb cdv A outer s H E ⟨rfl, S.nd, takes_of rfl rfl rfl rfl, passes_of rfl, hr, hgd⟩, ?_⟩
  obtain ⟨hl, F', a, xs, es, us, ds, ev, sF, fa, ha, de, dd, y, es', ep, q⟩ := h
  have ep' := pairD_some ep
  subst ev
  have el : ds.length = n := by
    have := dpAll_len dd
    rw [List.length_cons] at hl
    omega
  have ul : us.length = n := by rw [dpAll_len dd, el]
  have e0 : (PyData.list es :: ds).length = n + 1 := by rw [List.length_cons, el]
  unfold callMO at ep'
  rw [if_pos e0] at ep'
  have hst : ∀ j, j ≠ 0 → ∀ d, ((PyData.list es :: ds).map some ++ List.replicate (N.length - (n + 1)) none)[j]? = some (some d) → ∃ v, (L2.start N (.ref a :: us))[j]? = some (some v) ∧ Dp K F' v d := fun j hj d e => by
    match j, hj with
    | j + 1, _ =>
      rw [List.map_cons, List.cons_append, List.getElem?_cons_succ] at e
      have r := rep_start (K := K) (F := F') (n := N.length - (n + 1)) dd
      obtain ⟨v, h1, h2⟩ := r.get j d List.not_mem_nil e
      refine ⟨v, ?_, h2⟩
      unfold L2.start
      rw [List.map_cons, List.cons_append, List.getElem?_cons_succ, hl]
      exact h1
  refine ⟨noAt H a, (F', a), F', (PyData.list es :: ds).map some ++ List.replicate (N.length - (n + 1)) none, ⟨⟨fun b o e => ?_, Same.refl _, sF, fun _ _ e => e⟩, ?_, ⟨fun j d hj e => hst j (fun z => hj (by simp [z])) d e, ?_⟩, fun j hj => ?_, fun i j b hi hj _ _ => ?_, fun _ _ => ?_⟩, ?_⟩
  · by_cases z : b = a
    · subst z; rw [noAt_at] at e; cases e
    · rw [noAt_ne z] at e; exact e
  · unfold L2.start
    simp [el, ul]
  · unfold L2.start
    simp [el, ul]
  · have hj : j = 0 := by simpa using hj
    subst hj
    exact ⟨a, xs, es, rfl, rfl, fa, noAt_at H a, ha, de⟩
  · have h1 : i = 0 := by simpa using hi
    have h2 : j = 0 := by simpa using hj
    rw [h1, h2]
  · rfl
  · cases em : m ((PyData.list es :: ds).map some ++ List.replicate (N.length - (n + 1)) none) with
    | ret d =>
      rw [em] at ep'
      cases ep'
      intro v H' F2 vs' g dv f2 h2 dl
      refine q v H' F2 vs' ⟨fun b o hb e => g.h b o (by rw [noAt_ne hb]; exact e), g.f, g.sub, fun b h1 h3 => ?_⟩ h2 dl dv
      by_cases z : b = a
      · subst z; exact f2
      · exact g.old b (by rw [noAt_ne z]; exact h1) h3
    | nx ρ => rw [em] at ep'; cases ep'
    | ex x ρ => rw [em] at ep'; cases ep'
    | brk ρ => rw [em] at ep'; cases ep'
    | cont ρ => rw [em] at ep'; cases ep'
    | no => rw [em] at ep'; cases ep'
theorem calleeO_mk {P : Program} {w : World} {K : PySem.W.Frag} {mg : Str → Option Value} {base : Heap} {x qual : Str} {st : Stmt} {f : Addr} {fd : FuncData} {N ps : List Str} {n k : Nat} {m : EnvD → SR} {g : List D → ER D} {Mn : List Nat} (F : Fun K x qual st f fd) (hm : mg x = some (.ref f)) (S : FnScope N ps (defScope st)) (hn : ps.length = n + 1)
    (hbd : ∀ (kV doc pm : Value) (an : Option Addr) (cdv ct : Value) (us : List Value), us.length = ps.length → bindArgs (PySem.W.fnOf x qual (defArgs st) (defBody st) (defScope st) .none kV doc pm an cdv ct) ⟨us, []⟩ = pure (ps.zip us)) (hg : g = callMO N.length n m)
    (hb : ∀ (cdv : Value) (A : Around) (outer : List Env) (s : Shared) (H : Hp) (E : XK), CB (cxD P w K mg base N qual (defScope st) f cdv A outer s H E) (fun c d _ H => E c d H) k →
      DS (cxD P w K mg base N qual (defScope st) f cdv A outer s H E) (fun c d _ H => E c d H) ⟨[], [], .own⟩ [0] Mn (defBody st) m) : CalleeO P w K mg base x (k + 1) n g :=
  ⟨f, fd, ps, by rw [hg]; exact def_okO F S hn hb, hm, F.kp, F.binds hbd⟩
/-! ### defs that give back a new list -/
def spF (K : PySem.W.Frag) (n : Nat) (g : List D → ER D) : Sp := fun vs H Q E => vs.length = n ∧ ∃ F ds, Same F H ∧ DpAll K F vs ds ∧ ∃ es, g ds = .ok (.list es) ∧ ∀ a H' F' ws, Grow H F H' F' → H a = none → F' a = none → H' a = some (.lst ws) → DpAll K F' ws es → Q (.ref a) H'
structure CalleeF (P : Program) (w : World) (K : PySem.W.Frag) (mg : Str → Option Value) (base : Heap) (x : Str) (k n : Nat) (g : List D → ER D) : Prop where
  ex : ∃ f fd ps, FnG P w K mg base (L2.CX P w) k f fd ps (spF K n g) ∧ mg x = some (.ref f) ∧ PySem.W.keepIn K (.ref f) = true ∧ Binds K fd ps []
theorem def_okF {P : Program} {w : World} {K : PySem.W.Frag} {mg : Str → Option Value} {base : Heap} {x qual : Str} {st : Stmt} {f : Addr} {fd : FuncData} {N ps : List Str} {n k : Nat} {m : EnvD → SR} {Mn : List Nat} (F : Fun K x qual st f fd) (S : FnScope N ps (defScope st)) (hn : ps.length = n)
    (hb : ∀ (cdv : Value) (A : Around) (outer : List Env) (s : Shared) (H : Hp) (E : XK), CB (cxD P w K mg base N qual (defScope st) f cdv A outer s H E) (fun c d _ H => E c d H) k →
      DS (cxD P w K mg base N qual (defScope st) f cdv A outer s H E) (fun c d _ H => E c d H) ⟨[], [], .fresh⟩ [] Mn (defBody st) m) : FnG P w K mg base (L2.CX P w) (k + 1) f fd ps (spF K n (callM N.length n m)) := by
  refine fnG_of F S (fun vs H Q E h => by rw [hn]; exact h.1) (fun cdv A outer s H vs Q E hr hgd h => ?_)
  refine ⟨_, hb cdv A outer s H E ⟨rfl, S.nd, takes_of rfl rfl rfl rfl, passes_of rfl, hr, hgd⟩, ?_⟩
  obtain ⟨hl, F', ds, sF, dv, es, eg, q⟩ := h
  have el : ds.length = n := by rw [← dpAll_len dv]; exact hl
  unfold callM at eg
  rw [if_pos el] at eg
  refine ⟨H, (F', 0), F', ds.map some ++ List.replicate (N.length - n) none, ⟨Grow.refl sF, ?_, ?_, (fun j hj => absurd hj (List.not_mem_nil)), (fun i j a hi => absurd hi (List.not_mem_nil)), (fun h => nomatch h)⟩, ?_⟩
  · unfold L2.start
    simp [el, hl]
  · unfold L2.start
    rw [hl]
    exact rep_start dv
  · cases em : m (ds.map some ++ List.replicate (N.length - n) none) with
    | ret d =>
      rw [em] at eg
      cases eg
      exact fun a H' F2 ws g h1 h2 h3 h4 => q a H' F2 ws g h1 h2 h3 h4
    | nx ρ => rw [em] at eg; cases eg
    | ex x ρ => rw [em] at eg; cases eg
    | brk ρ => rw [em] at eg; cases eg
    | cont ρ => rw [em] at eg; cases eg
    | no => rw [em] at eg; cases eg
theorem calleeF_mk {P : Program} {w : World} {K : PySem.W.Frag} {mg : Str → Option Value} {base : Heap} {x qual : Str} {st : Stmt} {f : Addr} {fd : FuncData} {N ps : List Str} {n k : Nat} {m : EnvD → SR} {g : List D → ER D} {Mn : List Nat} (F : Fun K x qual st f fd) (hm : mg x = some (.ref f)) (S : FnScope N ps (defScope st)) (hn : ps.length = n)
    (hbd : ∀ (kV doc pm : Value) (an : Option Addr) (cdv ct : Value) (us : List Value), us.length = ps.length → bindArgs (PySem.W.fnOf x qual (defArgs st) (defBody st) (defScope st) .none kV doc pm an cdv ct) ⟨us, []⟩ = pure (ps.zip us)) (hg : g = callM N.length n m)
    (hb : ∀ (cdv : Value) (A : Around) (outer : List Env) (s : Shared) (H : Hp) (E : XK), CB (cxD P w K mg base N qual (defScope st) f cdv A outer s H E) (fun c d _ H => E c d H) k →
      DS (cxD P w K mg base N qual (defScope st) f cdv A outer s H E) (fun c d _ H => E c d H) ⟨[], [], .fresh⟩ [] Mn (defBody st) m) : CalleeF P w K mg base x (k + 1) n g :=
  ⟨f, fd, ps, by rw [hg]; exact def_okF F S hn hb, hm, F.kp, F.binds hbd⟩
section
variable {X : Cx} {W : WX} {J : Js} {r : RK} {M Mn M1 M' : List Nat} {pos p p1 p2 p3 : Pos} {e a b : Expr} {es : List Expr} {me ma mb : EnvD → ER D} {ms : List (EnvD → ER D)} {k : Nat} {x : Str} {i : Nat}
def listE : ER D → ER (List D)
  | .ok (.list es) => .ok es
  | _ => .no
def nF (g : List D → ER D) (ms : List (EnvD → ER D)) : EnvD → ER (List D) := fun ρ => (aL ms ρ).bind fun ds => listE (g ds)
theorem dn_callF {g : List D → ER D} {k' n : Nat} (C : CB X W k) (c : CalleeF X.prog X.w X.K X.mg X.base x k' n g) (hk : k' ≤ k) (ha : DA X W M (e :: es) (aL ms)) (hn : ms.length = n) (hg : Gl X x := by rfl) (hdb : (x == ("__debug__" : Str)) = false := by decide)
    (he : starEach (e :: es) X.env = (false, eval e X.env) :: starEach es X.env := by rfl) (hpl : (backTo pos (starEach es X.env)).any (·.1) = false := by rfl) : DN X W M (.Call (.Name x p1) (e :: es) [] pos) (nF g ms) := by
  obtain ⟨f, fd, ps, F, hm, hkp, hb⟩ := c.ex
  refine pe_weak (pe_callG F (C.room.mono hk) C.gd hg hm hkp hb (fun σ => passAt C.tk σ) ha hdb he hpl) fun σ H Q h => ?_
  obtain ⟨F', ρ, sF, r, q⟩ := h
  refine ⟨F', ρ, sF, r, ?_⟩
  unfold nF at q
  cases em : aL ms ρ with
  | no => rw [em] at q; exact q
  | ex x => rw [em] at q; exact q
  | ok ds =>
    rw [em] at q
    intro vs H1 F1 g1 dv
    have q : match listE (g ds) with
      | .ok ds => ∀ a vs H' F'', Grow H F' H' F'' → H a = none → F'' a = none → H' a = some (.lst vs) → DpAll X.K F'' vs ds → Q (.ref a) H'
      | .ex x => ∀ c dc H' F'', Grow H F' H' F'' → IsX X.K X.mg H' F'' c dc x → W c dc σ H'
      | .no => False := q
    cases eg : g ds with
    | no => rw [eg] at q; exact q.elim
    | ex x => rw [eg] at q; exact q.elim
    | ok d =>
      rw [eg] at q
      cases d with
      | list zs => exact ⟨by rw [dpAll_len dv, aL_len em]; exact hn, F1, ds, g1.sub, dv, zs, eg, fun a H' F2 ws g2 h1 h2 h3 h4 => q a ws H' F2 (g1.trans g2) (g1.h.free h1) h2 h3 h4⟩
      | _ => exact q.elim
/-! ### reckoning -/
theorem ofX_some {α : Type} {a : α} {ρ : EnvD} {f : α → EnvD → SR} : SR.ofX (some (a, ρ)) f = f a ρ := rfl
theorem xP_ok {α : Type} {m : EnvD → ER α} {ρ : EnvD} : xP m ρ = match m ρ with
  | .ok d => some (d, ρ)
  | _ => none := rfl
variable {f : D → Option D} {f2 : D → D → Option D} {ga gb : EnvD → XR D} {ta tb : EnvD → XR Bool} {xs : List (EnvD → XR D)} {ρ : EnvD} {g : List D → ER D} {fl : List D → Option D} {fb : D → Option Bool}
theorem x1_ap : x1 f ga ρ = (ga ρ).bind fun p => (f p.1).map fun z => (z, p.2) := rfl
theorem x2_ap : x2 f2 ga gb ρ = (ga ρ).bind fun p => (gb p.2).bind fun q => (f2 p.1 q.1).map fun z => (z, q.2) := rfl
theorem xL_nil : xL [] ρ = some ([], ρ) := rfl
theorem xL_cons {m : EnvD → XR D} : xL (m :: xs) ρ = (m ρ).bind fun p => (xL xs p.2).bind fun q => some (p.1 :: q.1, q.2) := rfl
theorem xTu_ap : xTu xs ρ = (xL xs ρ).bind fun p => some (.tuple p.1, p.2) := rfl
theorem xLi_ap : xLi xs ρ = (xL xs ρ).bind fun p => some (.list p.1, p.2) := rfl
theorem xB_ap : xB fl xs ρ = (xL xs ρ).bind fun p => (fl p.1).map fun z => (z, p.2) := rfl
theorem xF_ap : xF g xs ρ = (xL xs ρ).bind fun p => match g p.1 with
  | .ok z => some (z, p.2)
  | _ => none := rfl
theorem pairD_ok {x : D} {es : List D} : pairD (.ok (.tuple [x, .list es])) = some (x, es) := rfl
theorem xO_ap : xO g i xs ρ = (xL xs ρ).bind fun p => (ownL i p.2).bind fun es => (pairD (g (.list es :: p.1))).map fun z => (z.1, p.2.set i (some (.list z.2))) := rfl
theorem xPop_ap : xPop i ρ = (ownL i ρ).bind fun es => match es with
  | x :: es => some (x, ρ.set i (some (.list es)))
  | [] => none := rfl
theorem xV_ap : xV fb ga ρ = (ga ρ).bind fun p => (fb p.1).map fun z => (z, p.2) := rfl
theorem xAnd_ap : xAnd ta tb ρ = (ta ρ).bind fun p => if p.1 = true then tb p.2 else some (false, p.2) := rfl
theorem xOr_ap : xOr ta tb ρ = (ta ρ).bind fun p => if p.1 = true then some (true, p.2) else tb p.2 := rfl
theorem xNot_ap : xNot ta ρ = (ta ρ).bind fun p => some (!p.1, p.2) := rfl
theorem xiD_ap : xiD ga ρ = (ga ρ).bind fun p => (itemsD p.1).map fun z => (z, p.2) := rfl
theorem xiR1_ap : xiR1 ga ρ = (ga ρ).bind fun p => (rng1D p.1).map fun z => (z, p.2) := rfl
theorem xN'_ap {m : EnvD → XR (List D)} : xN' m ρ = (m ρ).bind fun p => some (.list p.1, p.2) := rfl
theorem xnL_ap : xnL ga ρ = (ga ρ).bind fun p => (itemsL [p.1]).map fun z => (z, p.2) := rfl
theorem xLc_ap {p : Pat} {vs : List Nat} {it : EnvD → XR (List D)} {t : EnvD → ER Bool} {m : EnvD → XR D} : xLc M p vs it t m ρ = (it ρ).bind fun z => if z.1.length ≤ 1000000 then lcX M p vs t m z.1 z.2 else none := rfl
theorem sSetX_ap {m : EnvD → XR D} : sSetX i m ρ = SR.ofX (m ρ) fun d ρ' => .nx (ρ'.set i (some d)) := rfl
theorem sPatX_ap {p : Pat} {m : EnvD → XR D} : sPatX p m ρ = SR.ofX (m ρ) fun d ρ' => match bindP p d ρ' with
  | some ρ'' => .nx ρ''
  | none => .no := rfl
theorem sIfX_ap {c : EnvD → XR Bool} {a b : EnvD → SR} : sIfX c a b ρ = SR.ofX (c ρ) fun q ρ' => if q = true then a ρ' else b ρ' := rfl
theorem sForX_ap {p : Pat} {it : EnvD → XR (List D)} {b : EnvD → SR} : sForX p it b ρ = SR.ofX (it ρ) fun ds ρ' => forM' p b ds ρ' := rfl
theorem sAppX_ap {m : EnvD → XR D} : sAppX i m ρ = SR.ofX (m ρ) fun d ρ' => match ownL i ρ' with
  | some ds => if ds.length < sizeLine then .nx (ρ'.set i (some (.list (ds ++ [d])))) else .no
  | none => .no := rfl
theorem sNewX_ap {m : EnvD → XR (List D)} : sNewX i m ρ = SR.ofX (m ρ) fun ds ρ' => .nx (ρ'.set i (some (.list ds))) := rfl
theorem sRetX_ap {m : EnvD → XR D} : sRetX m ρ = SR.ofX (m ρ) fun d _ => .ret d := rfl
theorem sRetO_ap {m : EnvD → XR D} : sRetO m ρ = SR.ofX (m ρ) fun d ρ' => match ownL 0 ρ' with
  | some es => .ret (.tuple [d, .list es])
  | none => .no := rfl
theorem sRetF_ap : sRetF i ρ = match ownL i ρ with
  | some es => .ret (.list es)
  | none => .no := rfl
theorem nF_ap : nF g ms ρ = (aL ms ρ).bind fun ds => listE (g ds) := rfl
theorem listE_ok {es : List D} : listE (.ok (.list es)) = .ok es := rfl
theorem mrg_nil {ρ' : EnvD} : mrg [] ρ ρ' = ρ := rfl
theorem mrg_cons {ρ' : EnvD} : mrg (i :: M) ρ ρ' = match ρ'[i]? with
  | some o => (mrg M ρ ρ').set i o
  | none => mrg M ρ ρ' := rfl
end
end Z

namespace Z
open PySem PySem.Spec PyProof.Rows L2
/-! ### min(rows), rows a list of alike tuples -/
def tupD : D → Bool
  | .tuple _ => true
  | _ => false
def alikeB (xs : List D) : Bool := xs.all fun a => tupD a && xs.all fun b => W.alike a b
def leastT : List D → Option D
  | [.list (x :: xs)] => if alikeB (x :: xs) = true ∧ PyData.depthAll (x :: xs) ≤ 60 then some (W.minD x xs) else none
  | _ => none
theorem foldl_min_mem : ∀ (xs : List D) (x : D), W.minD x xs ∈ x :: xs
  | [], x => List.mem_cons_self ..
  | y :: ys, x => by
    show List.foldl _ (if W.dataLt y x then y else x) ys ∈ _
    have := foldl_min_mem ys (if W.dataLt y x then y else x)
    have h : W.minD (if W.dataLt y x then y else x) ys ∈ x :: y :: ys := by
      rcases List.mem_cons.mp this with h | h
      · rw [h]
        by_cases z : W.dataLt y x = true
        · rw [if_pos z]; exact List.mem_cons_of_mem _ (List.mem_cons_self ..)
        · rw [if_neg z]; exact List.mem_cons_self ..
      · exact List.mem_cons_of_mem _ (List.mem_cons_of_mem _ h)
    exact h
theorem alikeB_ok {xs : List D} (h : alikeB xs = true) : W.AlikeAll xs := by
  have h := List.all_eq_true.mp h
  refine ⟨fun x hx y hy => ?_, fun x hx e => ?_⟩
  · have := h x hx
    rw [Bool.and_eq_true] at this
    exact List.all_eq_true.mp this.2 y hy
  · have := h x hx
    rw [e] at this
    cases this
section
variable {X : Cx}
theorem callD_leastT (hc : X.calm = true) (hu : X.A.units + 65 < cLine) : CallR X (.builtin "min") (rDn X.K leastT) := by
  intro pins s σ H xs us Q I r h
  obtain ⟨F, ds, sF, hd, q⟩ := h
  match ds, hd, q with
  | [.list (e :: es)], .cons (.lst (xs := ys) ha ra) .nil, q =>
    have q' : okO X.K H F Q (if alikeB (e :: es) = true ∧ PyData.depthAll (e :: es) ≤ 60 then some (W.minD e es) else none) := q
    obtain ⟨⟨z1, z2⟩, q'⟩ := okO_if q'
    have al := alikeB_ok z1
    obtain ⟨its, rv, hl, hz⟩ := I.list (sF.seq ha)
    rw [Vals.ref1 r]
    obtain ⟨as, rd⟩ := Dp.readsAll I (e :: es) _ _ (dpAll_mono sF _ _ ra) rv
    refine W.min_list_data (I.ok.hd hc) hl.isList (by simpa using rd) al (by omega) fun i v h' tk bs hv hr hk => ?_
    have hv : its[i]? = some v := by simpa using hv
    have hlen := rv.length
    have hi : i < its.length := (List.getElem?_eq_some_iff.mp hv).1
    obtain ⟨y, hy⟩ : ∃ y, ys[i]? = some y := ⟨_, List.getElem?_eq_getElem (by omega)⟩
    obtain ⟨u, hu2, rl⟩ := Vals.get rv hy
    rw [hv] at hu2
    cases hu2
    obtain ⟨d, hd, dp⟩ := dpAll_getV ra hy
    obtain ⟨bs2, r2⟩ := Dp.reads I d y v (dp_mono sF _ _ dp) rl
    have e2 : d = W.minD e es := W.alike_unique d (W.minD e es) v _ _ (al.1 d (List.mem_of_getElem? hd) _ (foldl_min_mem es e)) (W.reads_keeps hk r2) hr
    rw [e2] at dp
    exact ⟨y, H, I.kept hk, rl, q' _ _ _ (Grow.refl sF) dp⟩
  | [.list []], _, q => exact q.elim
  | [.int _], _, q => exact q.elim
  | [.str _], _, q => exact q.elim
  | [.none], _, q => exact q.elim
  | [.bool _], _, q => exact q.elim
  | [.tuple _], _, q => exact q.elim
  | [.dict _], _, q => exact q.elim
  | [], _, q => exact q.elim
  | .list xs :: _ :: _, _, q => cases xs <;> exact q.elim
  | .int _ :: _ :: _, _, q => exact q.elim
  | .str _ :: _ :: _, _, q => exact q.elim
  | .none :: _ :: _, _, q => exact q.elim
  | .bool _ :: _ :: _, _, q => exact q.elim
  | .tuple _ :: _ :: _, _, q => exact q.elim
  | .dict _ :: _ :: _, _, q => exact q.elim
end
/-! a statement of which nothing is said: its mirror has no outcome -/
def sAny : EnvD → SR := fun _ => .no
theorem d1_any {X : Cx} {W : WX} {J : Js} {M Mn : List Nat} {st : Stmt} : D1 X W J M Mn st sAny := ⟨fun pins s σ H D I ⟨_, _, _, _, _, q⟩ => q.elim⟩
end Z

namespace Z
open PySem PySem.Spec PyProof.Rows L2
/-! ### own lists that are lent to an expression which changes others, and own again behind it -/
def lfS (M : List Nat) (ρ : EnvD) : Bool := M.all fun j => match ρ[j]? with
  | some (some (.list ds)) => lfAll ds
  | _ => true
def xLd (M : List Nat) (m : EnvD → XR D) : EnvD → XR D := fun ρ => (m ρ).bind fun p => if (lf p.1 && lfS M p.2) = true then some (p.1, mrg M ρ p.2) else none
def xnLd (M : List Nat) (m : EnvD → XR (List D)) : EnvD → XR (List D) := fun ρ => (m ρ).bind fun p => if (lfAll p.1 && lfS M p.2) = true then some (p.1, mrg M ρ p.2) else none
theorem xLd_ap {M : List Nat} {m : EnvD → XR D} {ρ : EnvD} : xLd M m ρ = (m ρ).bind fun p => if (lf p.1 && lfS M p.2) = true then some (p.1, mrg M ρ p.2) else none := rfl
theorem xnLd_ap {M : List Nat} {m : EnvD → XR (List D)} {ρ : EnvD} : xnLd M m ρ = (m ρ).bind fun p => if (lfAll p.1 && lfS M p.2) = true then some (p.1, mrg M ρ p.2) else none := rfl
section
variable {K : PySem.W.Frag} {r : RK} {M M' : List Nat} {H0 H F H1 F1 Ff : Hp} {F0 : FB} {σ : L2.St} {ρ ρ1 : EnvD}
def lent (M M' : List Nat) : List Nat := M.filter fun j => decide (j ∉ M')
theorem mem_lent {j : Nat} : j ∈ lent M M' ↔ j ∈ M ∧ j ∉ M' := by simp only [lent, List.mem_filter, decide_eq_true_eq]
theorem S5.regain (s : S5 K r M H0 F0 H F σ ρ) (hs : ∀ j ∈ M', j ∈ M) (sFf : Same F Ff) (s' : S5 K r M' H0 F0 H Ff σ ρ) (hd : ∀ a, Ff a ≠ F a → isOwn M σ a = true) (s1 : S5 K r M' H0 F0 H1 F1 σ ρ1) (g : GrowX M' σ H Ff H1 F1) (hl : lfS M' ρ1 = true) :
    S5 K r M H0 F0 H1 (lendF (lent M M') σ F1) σ (mrg M' ρ ρ1) ∧ GrowX M σ H F H1 (lendF (lent M M') σ F1) ∧ (∀ a xs, SqT K F1 a xs → SqT K (lendF (lent M M') σ F1) a xs) := by
  have ownL' : ∀ a, isOwn (lent M M') σ a = true → ∃ j vs ds, j ∈ M ∧ j ∉ M' ∧ σ[j]? = some (some (.ref a)) ∧ ρ[j]? = some (some (.list ds)) ∧ F a = none ∧ H0 a = none ∧ H a = some (.lst vs) ∧ DpAll K F vs ds := fun a h => by
    obtain ⟨j, h1, h2⟩ := isOwn_iff.mp h
    obtain ⟨m1, m2⟩ := mem_lent.mp h1
    obtain ⟨a', vs, ds, e1, e2, e3, e4, e5, e6⟩ := s.own j m1
    rw [h2] at e1
    cases e1
    exact ⟨j, vs, ds, m1, m2, h2, e2, e3, e4, e5, e6⟩
  have n1 : ∀ a, isOwn (lent M M') σ a = true → isOwn M' σ a = false := fun a h => by
    obtain ⟨j, _, _, m1, m2, h2, _⟩ := ownL' a h
    cases q : isOwn M' σ a with
    | false => rfl
    | true =>
      obtain ⟨i, i1, i2⟩ := isOwn_iff.mp q
      exact absurd (s.inj i j a (hs i i1) m1 i2 h2 ▸ i1) m2
  have hd' : ∀ a, Ff a ≠ F a → isOwn (lent M M') σ a = true := fun a h => by
    obtain ⟨j, h1, h2⟩ := isOwn_iff.mp (hd a h)
    by_cases hj : j ∈ M'
    · obtain ⟨a', _, _, e1, _, e3, _⟩ := s.own j (hs j hj)
      rw [h2] at e1
      cases e1
      obtain ⟨a', _, _, f1, _, f3, _⟩ := s'.own j hj
      rw [h2] at f1
      cases f1
      rw [e3, f3] at h
      exact absurd rfl h
    · exact isOwn_iff.mpr ⟨j, mem_lent.mpr ⟨h1, hj⟩, h2⟩
  have sFF2 : Same F (lendF (lent M M') σ F1) := fun b x e => by
    unfold lendF
    have q : ¬ isOwn (lent M M') σ b = true := fun q => by
      obtain ⟨_, _, _, _, _, _, _, e3, _⟩ := ownL' b q
      rw [e3] at e
      cases e
    rw [if_neg q]
    exact g.f _ _ (sFf _ _ e)
  have hH : ∀ a vs, isOwn (lent M M') σ a = true → H a = some (.lst vs) → H1 a = some (.lst vs) := fun a vs h e => g.h a _ (n1 a h) e
  have hT : ∀ a xs, SqT K F1 a xs → SqT K (lendF (lent M M') σ F1) a xs := fun a xs h => by
    have q : ∀ o, F1 a = some o → (∀ vs, o ≠ .lst vs) → lendF (lent M M') σ F1 a = some o := fun o e n => by
      unfold lendF
      have q : ¬ isOwn (lent M M') σ a = true := fun q => by
        obtain ⟨_, vs, _, _, _, _, _, _, _, e5, _⟩ := ownL' a q
        have z1 := s1.grow.sub _ _ e
        have z2 := hH a vs q e5
        rw [z1] at z2
        exact n vs (Option.some.inj z2)
      rw [if_neg q]
      exact e
    rcases h with (h | ⟨o, h⟩) | h
    · exact .inl (.inl (q _ h fun _ z => nomatch z))
    · exact .inl (.inr ⟨o, q _ h fun _ z => nomatch z⟩)
    · exact .inr h
  refine ⟨⟨⟨s1.grow.h, s.grow.f.trans sFF2, fun b x e => ?_, fun a ha fa => ?_⟩, by rw [mrg_len]; exact s.len, ⟨fun j d hj e => ?_, by rw [mrg_len]; exact s.len⟩, fun j hj => ?_, s.inj, s.pin⟩, ⟨fun b o h e => ?_, sFF2, fun b h e => ?_, g.dom⟩, hT⟩
  · unfold lendF at e
    by_cases q : isOwn (lent M M') σ b = true
    · rw [if_pos q] at e; cases e
    · rw [if_neg q] at e; exact s1.grow.sub _ _ e
  · unfold lendF
    split
    · rfl
    · exact s1.grow.old a ha fa
  · have hj' : j ∉ M' := fun z => hj (hs j z)
    rw [mrg_out hj'] at e
    obtain ⟨v, h1, h2⟩ := s.val.get j d hj e
    exact ⟨v, h1, dp_mono sFF2 _ _ h2⟩
  · by_cases hj' : j ∈ M'
    · obtain ⟨a, vs, ds, e1, e2, e3, e4, e5, e6⟩ := s1.own j hj'
      obtain ⟨_, _, _, _, f2, _⟩ := s.own j hj
      have hds : lfAll ds = true := by
        unfold lfS at hl
        have := List.all_eq_true.mp hl j hj'
        rw [e2] at this
        exact this
      refine ⟨a, vs, ds, e1, mrg_in hj' e2 (List.getElem?_eq_some_iff.mp f2).1, ?_, e4, e5, dpAll_lf hT ds vs hds e6⟩
      unfold lendF
      split
      · rfl
      · exact e3
    · obtain ⟨a, vs, ds, e1, e2, e3, e4, e5, e6⟩ := s.own j hj
      have ho : isOwn (lent M M') σ a = true := isOwn_iff.mpr ⟨j, mem_lent.mpr ⟨hj, hj'⟩, e1⟩
      refine ⟨a, vs, ds, e1, by rw [mrg_out hj']; exact e2, ?_, e4, hH a vs ho e5, dpAll_mono sFF2 _ _ e6⟩
      unfold lendF
      rw [if_pos ho]
  · refine g.h b o ?_ e
    cases q : isOwn M' σ b with
    | false => rfl
    | true =>
      obtain ⟨i, i1, i2⟩ := isOwn_iff.mp q
      rw [isOwn_iff.mpr ⟨i, hs i i1, i2⟩] at h
      cases h
  · unfold lendF
    by_cases q : isOwn (lent M M') σ b = true
    · rw [if_pos q]
    · rw [if_neg q]
      have e2 : Ff b = F b := Classical.byContradiction fun z => q (hd' b z)
      exact g.old b h (by rw [e2]; exact e)
theorem txm_lend {m : EnvD → XR D} {Q : VK} (hs : ∀ j ∈ M', j ∈ M) (h : TXm K r M (xLd M' m) σ H Q) : TXm K r M' m σ H Q := by
  obtain ⟨H0, F0, F, ρ, s, q⟩ := h
  obtain ⟨Ff, sFf, s', hd⟩ := s.freeze hs
  refine ⟨H0, F0, Ff, ρ, s', ?_⟩
  unfold xLd at q
  cases em : m ρ with
  | none => rw [em] at q; exact q.elim
  | some p =>
    obtain ⟨d, ρ1⟩ := p
    rw [em] at q
    intro v H1 F1 s1 g dv
    dsimp only [Option.bind_some] at q
    by_cases hg : (lf d && lfS M' ρ1) = true
    · rw [if_pos hg] at q
      rw [Bool.and_eq_true] at hg
      obtain ⟨s2, g2, hT⟩ := s.regain hs sFf s' hd s1 g hg.2
      exact q v H1 _ s2 g2 (dp_lf hT d v hg.1 dv)
    · rw [if_neg hg] at q
      exact q.elim
theorem txn_lend {m : EnvD → XR (List D)} {Q : VK} (hs : ∀ j ∈ M', j ∈ M) (h : TXn K r M (xnLd M' m) σ H Q) : TXn K r M' m σ H Q := by
  obtain ⟨H0, F0, F, ρ, s, q⟩ := h
  obtain ⟨Ff, sFf, s', hd⟩ := s.freeze hs
  refine ⟨H0, F0, Ff, ρ, s', ?_⟩
  unfold xnLd at q
  cases em : m ρ with
  | none => rw [em] at q; exact q.elim
  | some p =>
    obtain ⟨ds, ρ1⟩ := p
    rw [em] at q
    intro a vs H1 F1 s1 g ha h0 hne fa ha' dv
    dsimp only [Option.bind_some] at q
    by_cases hg : (lfAll ds && lfS M' ρ1) = true
    · rw [if_pos hg] at q
      rw [Bool.and_eq_true] at hg
      obtain ⟨s2, g2, hT⟩ := s.regain hs sFf s' hd s1 g hg.2
      refine q a vs H1 _ s2 g2 ha h0 (fun j hj z => ?_) ?_ ha' (dpAll_lf hT ds vs hg.1 dv)
      · obtain ⟨a', _, _, e1, _, _, _, e5, _⟩ := s.own j hj
        rw [z] at e1
        cases e1
        rw [ha] at e5
        cases e5
      · unfold lendF
        split
        · rfl
        · exact fa
    · rw [if_neg hg] at q
      exact q.elim
end
section
variable {X : Cx} {W : WX} {J : Js} {r : RK} {M M' Mn : List Nat} {pos p1 p2 : Pos} {e : Expr} {k i : Nat} {x : Str}
theorem xe_lend {m : EnvD → XR D} (hs : ∀ j ∈ M', j ∈ M) (h : XE X r M' e m) : XE X r M e (xLd M' m) := pe_weak h fun _ _ _ q => txm_lend hs q
theorem xn_lend {m : EnvD → XR (List D)} (hs : ∀ j ∈ M', j ∈ M) (h : XN X r M' e m) : XN X r M e (xnLd M' m) := pe_weak h fun _ _ _ q => txn_lend hs q
theorem d1_newLcXL {Mo : List Nat} {y : Str} {py spos : Pos} {elt tg iter : Expr} {ifs : List Expr} {scope : Scope} {own : List (Str × Nat)} {p : Pat} {vs : List Nat} {it : EnvD → XR (List D)} {t : EnvD → ER Bool} {m : EnvD → XR D} (C : CB X W k) (hy : X.N[i]? = some y) (hyl : X.env.scope.names.lookup y = some .local)
    (hsw : swapsWith (.ListComp elt [⟨tg, iter, ifs, 0⟩] scope pos) (some (.Name y py)) spos.line X.env = pure true) (hM : Mn = i :: M.filter (· != i)) (hl : ∀ j ∈ Mo, j ∈ M) (hi : XI X J.r Mo tg iter it) (ok : blkC X.N X.env.scope scope own = true) (hv : vs = own.map (·.2)) (hp : ∀ j ∈ slotsP p, j ∈ vs) (hd : ∀ j ∈ Mo, j ∉ vs)
    (hb : ∀ (s : Shared) (H : Hp) (C' : Addr) (cl : List (Str × Addr)) (fp : List Addr), CB (X.blk s H scope (compEnvC scope cl C' X.env) fp) W0 k →
      DG (X.blk s H scope (compEnvC scope cl C' X.env) fp) Mo tg p ∧ DTs (X.blk s H scope (compEnvC scope cl C' X.env) fp) Mo ifs t ∧ XE (X.blk s H scope (compEnvC scope cl C' X.env) fp) J.r Mo elt m)
    (hs : ∀ x, foldedSetIterable iter X.env x = pure x := by intro _; rfl) (hr : J.r = .own → i ≠ 0 := by intro h; first | decide | cases h) : D1 X W J M Mn (.Assign [.Name y py] (.ListComp elt [⟨tg, iter, ifs, 0⟩] scope pos) spos) (sNewX i (xnLd Mo (xLc Mo p vs it t m))) := by
  have cb : ∀ (s : Shared) (H : Hp) (C' : Addr) (cl : List (Str × Addr)) (fp : List Addr), CB (X.blk s H scope (compEnvC scope cl C' X.env) fp) W0 k := fun s H C' cl fp => ⟨C.calm, C.nd, takes0, PassesOwn.never, C.room, C.gd⟩
  subst hv
  refine ⟨fun pins s σ H D I h => ?_⟩
  refine (ps_setLc (own := own) (g := TGm X.K Mo p) (tt := TTm X.K X.mg W0 Mo t) (te := TXm X.K J.r Mo m) C.calm C.nd hy hyl hsw hi (blkOk_by ok) (fun s H C' cl fp => (hb s H C' cl fp (cb s H C' cl fp)).1) (fun s H C' cl fp => (hb s H C' cl fp (cb s H C' cl fp)).2.1) (fun s H C' cl fp => (hb s H C' cl fp (cb s H C' cl fp)).2.2) hs).run pins s σ H D I ?_
  obtain ⟨H0, F0, F, ρ, s5, q⟩ := h
  refine lcX_sem (X := X) (Q := fun x H1 => gName i x σ H1 D.nx) hp hd (txn_lend hl ⟨H0, F0, F, ρ, s5, ?_⟩)
  unfold sNewX at q
  generalize xnLd Mo (xLc Mo p (own.map (·.2)) it t m) ρ = z at q ⊢
  cases z with
  | none => exact q
  | some z =>
    obtain ⟨ds, ρ1⟩ := z
    intro a vs H' F' s1 sf ha h0 hne fa ha' dv
    subst hM
    have hl : i < ρ1.length := by
      rw [s1.len, I.len]
      exact (List.getElem?_eq_some_iff.mp hy).1
    exact q _ _ _ (s1.setNew hr hl h0 fa ha' dv hne)
/-- xs[k] = e, e changes own lists -/
def sSetIxX (i : Nat) (mi : EnvD → ER D) (me : EnvD → XR D) : EnvD → SR := fun ρ => SR.ofX (me ρ) fun d ρ' => SR.ofE (mi ρ') ρ' (fun y => match y with
  | .int k => (match ownL i ρ' with
    | some ds => (match ixN ds.length k with
      | some j => .nx (ρ'.set i (some (.list (ds.set j d))))
      | none => .no)
    | none => .no)
  | _ => .no)
theorem sSetIxX_ap {mi : EnvD → ER D} {me : EnvD → XR D} {ρ : EnvD} : sSetIxX i mi me ρ = SR.ofX (me ρ) fun d ρ' => SR.ofE (mi ρ') ρ' (fun y => match y with
  | .int k => (match ownL i ρ' with
    | some ds => (match ixN ds.length k with
      | some j => .nx (ρ'.set i (some (.list (ds.set j d))))
      | none => .no)
    | none => .no)
  | _ => .no) := rfl
theorem d1_setixX {ie : Expr} {mi : EnvD → ER D} {me : EnvD → XR D} (hi : i ∈ M) (hN : X.N[i]? = some x) (hv : Vis X.env.scope x) (he : XE X J.r M e me) (hx : DE X W M ie mi) (hd : (x == ("__debug__" : Str)) = false := by decide) (hcd : (x == ("__classdict__" : Str)) = false := by decide)
    (ha : ∀ v, assign (.Subscript (.Name x p1) ie p2) X.env v = (do
      let ov ← holding [v] (eval (.Name x p1) X.env)
      let iv ← holding [v, ov] (eval ie X.env)
      standAt p2
      holding [v, ov, iv] (setItem ov iv v)
      release [v, ov, iv] []) := by intro _; rfl)
    (hs : swapsWithSole [(.Subscript (.Name x p1) ie p2)] e pos.line X.env = pure false := by rfl) (hw : swappedStores [(.Subscript (.Name x p1) ie p2)] e X.env = pure none := by rfl)
    (h1 : (assignEach [(.Subscript (.Name x p1) ie p2)] X.env).map (·.2) = [assign (.Subscript (.Name x p1) ie p2) X.env] := by rfl) :
    D1 X W J M M (.Assign [.Subscript (.Name x p1) ie p2] e pos) (sSetIxX i mi me) :=
  ps_weak (ps_asg he (pg_sub (pe_var hN hv hd hcd) hx set_list ha) hs hw h1) fun D σ H ⟨H0, F0, F, ρ, s, q⟩ => ⟨H0, F0, F, ρ, s, evX (Q := fun y H1 => gSub (tVar i) (TEm X.K X.mg W M mi) rSetL y σ H1 D.nx) s q fun v H1 F1 d ρ1 s1 sf dv q1 => by
    obtain ⟨a, vs, ds, e1, e2, e3, e4, e5, e6⟩ := s1.own i hi
    refine ⟨_, e1, F1, ρ1, s1.grow.sub, s1.val, s1.evG q1 fun y H2 F3 dy g s3 dvy q2 => ?_⟩
    obtain ⟨a', vs', ds', f1, f2, f3, f4, f5, f6⟩ := s3.own i hi
    rw [e1] at f1
    cases f1
    have eo : ownL i ρ1 = some ds' := by unfold ownL; rw [f2]
    cases dy with
    | int k =>
      dsimp only at q2
      rw [eo] at q2
      dsimp only at q2
      cases ej : ixN ds'.length k with
      | none => rw [ej] at q2; exact q2.elim
      | some j =>
        rw [ej] at q2
        cases dvy
        exact ⟨_, _, _, j, rfl, rfl, f5, by rw [dpAll_len f6]; exact ej, q2 _ _ _ (s3.mut hi e1 (dpAll_set j f6 (dp_mono g.f _ _ dv)))⟩
    | _ => exact q2.elim⟩
end
end Z

namespace Z
open PySem PySem.Spec PyProof.Rows L2
/-! ### reckoning with mirrors -/
section
variable {α β : Type}
theorem bind_ok (a : α) (f : α → ER β) : (ER.ok a).bind f = f a := rfl
theorem bind_ex (e : EX) (f : α → ER β) : (ER.ex e : ER α).bind f = .ex e := rfl
theorem ofE_ok (a : α) (ρ : EnvD) (k : α → SR) : SR.ofE (.ok a) ρ k = k a := rfl
theorem ofE_ex (e : EX) (ρ : EnvD) (k : α → SR) : SR.ofE (.ex e) ρ k = .ex e ρ := rfl
theorem optE_some (a : α) : optE (some a) = .ok a := rfl
def SR.thn (r : SR) (k : EnvD → SR) : SR := match r with
  | .nx ρ' => k ρ'
  | .ret d => .ret d
  | .brk ρ' => .brk ρ'
  | .cont ρ' => .cont ρ'
  | .ex x ρ' => .ex x ρ'
  | .no => .no
variable (ρ : EnvD) (i j : Nat) (a b c m : EnvD → ER D) (ms : List (EnvD → ER D)) (ta tb tc : EnvD → ER Bool) (sa sb : EnvD → SR)
theorem sSeq_ap : sSeq sa sb ρ = (sa ρ).thn sb := by unfold sSeq SR.thn; rfl
theorem thn_nx (k : EnvD → SR) : (SR.nx ρ).thn k = k ρ := rfl
theorem thn_ret (d : D) (k : EnvD → SR) : (SR.ret d).thn k = .ret d := rfl
theorem thn_ex (x : EX) (k : EnvD → SR) : (SR.ex x ρ).thn k = .ex x ρ := rfl
theorem thn_brk (k : EnvD → SR) : (SR.brk ρ).thn k = .brk ρ := rfl
theorem thn_cont (k : EnvD → SR) : (SR.cont ρ).thn k = .cont ρ := rfl
theorem sNx_ap : sNx ρ = .nx ρ := rfl
theorem sBrk_ap : sBrk ρ = .brk ρ := rfl
theorem sCont_ap : sCont ρ = .cont ρ := rfl
theorem sSet_ap : sSet i m ρ = SR.ofE (m ρ) ρ fun d => .nx (ρ.set i (some d)) := rfl
theorem sSetB_ap : sSetB i m ρ = SR.ofE (m ρ) ρ fun d => if lf d = true then .nx (ρ.set i (some d)) else .no := rfl
theorem sRet_ap : sRet m ρ = SR.ofE (m ρ) ρ fun d => .ret d := rfl
theorem sRetN_ap : sRetN ρ = .ret .none := rfl
theorem sDrop_ap : sDrop m ρ = SR.ofE (m ρ) ρ fun _ => .nx ρ := rfl
theorem sIf_ap : sIf tc sa sb ρ = SR.ofE (tc ρ) ρ fun q => if q = true then sa ρ else sb ρ := rfl
theorem sNew_ap (n : EnvD → ER (List D)) : sNew i n ρ = SR.ofE (n ρ) ρ fun ds => .nx (ρ.set i (some (.list ds))) := rfl
theorem sPat_ap (p : Pat) : sPat p m ρ = SR.ofE (m ρ) ρ fun d => match bindP p d ρ with
  | some ρ' => .nx ρ'
  | none => .no := rfl
theorem sPar_ap : sPar i j ms ρ = SR.ofE (aL ms ρ) ρ fun ds => match ds with
  | [x, y] => .nx ((ρ.set i (some x)).set j (some y))
  | _ => .no := rfl
theorem sRaise_ap (x : Str) : sRaise x ρ = .ex ⟨x, []⟩ ρ := rfl
theorem sFor_ap (p : Pat) (it : EnvD → ER (List D)) : sFor p it sa ρ = SR.ofE (it ρ) ρ fun ds => forM' p sa ds ρ := rfl
theorem sWhile_ap (N : EnvD → Nat) : sWhile N tc sa ρ = whileM tc sa (N ρ) ρ := rfl
theorem sAug_ap (f : Int → Int → Int) : sAug f i m ρ = SR.ofE ((eN i ρ).bind fun x => (optE (isInt x)).bind fun n => (m ρ).bind fun y => (optE (isInt y)).bind fun q => .ok (PyData.int (f n q))) ρ fun d => .nx (ρ.set i (some d)) := rfl
theorem sApp_ap : sApp i m ρ = SR.ofE (m ρ) ρ fun d => match ownL i ρ with
  | some ds => if ds.length < sizeLine then .nx (ρ.set i (some (.list (ds ++ [d])))) else .no
  | none => .no := rfl
theorem ownL_ap : ownL i ρ = match ρ[i]? with
  | some (some (.list ds)) => some ds
  | _ => none := rfl
theorem eN_ap : eN i ρ = match ρ[i]? with
  | some (some d) => .ok d
  | _ => .no := rfl
theorem eC_ap (d : D) : eC d ρ = .ok d := rfl
theorem e1_ap (f : D → Option D) : e1 f a ρ = (a ρ).bind fun x => optE (f x) := rfl
theorem e2_ap (f : D → D → Option D) : e2 f a b ρ = (a ρ).bind fun x => (b ρ).bind fun y => optE (f x y) := rfl
theorem aL_nil : aL [] ρ = .ok [] := rfl
theorem aL_cons : aL (m :: ms) ρ = (m ρ).bind fun x => (aL ms ρ).bind fun xs => .ok (x :: xs) := rfl
theorem eT_ap : eT ms ρ = (aL ms ρ).bind fun ds => .ok (.tuple ds) := rfl
theorem eL_ap : eL ms ρ = (aL ms ρ).bind fun ds => .ok (.list ds) := rfl
theorem eB_ap (f : List D → Option D) : eB f ms ρ = (aL ms ρ).bind fun ds => optE (f ds) := rfl
theorem eF_ap (g : List D → ER D) : eF g ms ρ = (aL ms ρ).bind g := rfl
theorem eIf_ap : eIf tc a b ρ = (tc ρ).bind fun q => if q = true then a ρ else b ρ := rfl
theorem eAnd_ap : eAnd a b ρ = (a ρ).bind fun x => (optE (isBool x)).bind fun q => if q = true then b ρ else .ok (.bool false) := rfl
theorem eOr_ap : eOr a b ρ = (a ρ).bind fun x => (optE (isBool x)).bind fun q => if q = true then .ok (.bool true) else b ρ := rfl
theorem eNot_ap : eNot a ρ = (a ρ).bind fun x => (optE (isBool x)).bind fun q => .ok (.bool (!q)) := rfl
theorem eCh_ap (f g : D → D → Option D) : eCh f g a b c ρ = (a ρ).bind fun x => (b ρ).bind fun y => (optE ((f x y).bind isBool)).bind fun q => if q = true then (c ρ).bind fun z => optE (g y z) else .ok (.bool false) := rfl
theorem tV_ap (f : D → Option Bool) : tV f a ρ = (a ρ).bind fun x => optE (f x) := rfl
theorem tAnd_ap : Z.tAnd ta tb ρ = (ta ρ).bind fun q => if q = true then tb ρ else .ok false := rfl
theorem tOr_ap : Z.tOr ta tb ρ = (ta ρ).bind fun q => if q = true then .ok true else tb ρ := rfl
theorem tNot_ap : Z.tNot ta ρ = (ta ρ).bind fun q => .ok (!q) := rfl
theorem pN_ap : pN ρ = .ok none := rfl
theorem pS_ap : pS m ρ = (m ρ).bind fun x => (optE (isInt x)).bind fun i => .ok (some i) := rfl
theorem eSl_ap (lo hi : EnvD → ER (Option Int)) : eSl m lo hi ρ = (m ρ).bind fun x => (lo ρ).bind fun l => (hi ρ).bind fun u => optE (sliceD l u x) := rfl
theorem iD_ap : iD m ρ = (m ρ).bind fun d => optE (itemsD d) := rfl
theorem iR1_ap : iR1 a ρ = (a ρ).bind fun x => optE (rng1D x) := rfl
theorem iR2_ap : iR2 a b ρ = (a ρ).bind fun x => (b ρ).bind fun y => optE (rng2D x y) := rfl
theorem iZ_ap : iZ a b ρ = (a ρ).bind fun x => (b ρ).bind fun y => optE (zip2D x y) := rfl
theorem iZq_ap : iZq a b ρ = (a ρ).bind fun x => (b ρ).bind fun y => optE (zip2Q x y) := rfl
theorem iZ3_ap {c : EnvD → ER D} : iZ3 a b c ρ = (a ρ).bind fun x => (b ρ).bind fun y => (c ρ).bind fun z => optE (zip3Q x y z) := rfl
theorem iR3_ap {c : EnvD → ER D} : iR3 a b c ρ = (a ρ).bind fun x => (b ρ).bind fun y => (c ρ).bind fun z => optE (rng3D x y z) := rfl
theorem iE_ap : iE a ρ = (a ρ).bind fun x => optE ((listOf x).map (enumFrom' 0)) := rfl
theorem eNew_ap (n : EnvD → ER (List D)) : eN' n ρ = (n ρ).bind fun ds => .ok (.list ds) := rfl
theorem eLc_ap (p : Pat) (vs : List Nat) (it : EnvD → ER (List D)) : eLc p vs it tc m ρ = (it ρ).bind fun ds => if ds.length ≤ 1000000 then lcM p tc m (wipeR ρ vs) ds else .no := rfl
theorem tTrue_ap : tTrue ρ = .ok true := rfl
theorem bindP_n (d : D) : bindP (.n i) d ρ = some (ρ.set i (some d)) := by unfold bindP; rfl
theorem bindP_tt (ps : List Pat) (ds : List D) : bindP (.t ps) (.tuple ds) ρ = bindPs ps ds ρ := by unfold bindP; rfl
theorem bindP_tl (ps : List Pat) (ds : List D) : bindP (.t ps) (.list ds) ρ = bindPs ps ds ρ := by unfold bindP; rfl
theorem bindPs_nil : bindPs [] [] ρ = some ρ := by unfold bindPs; rfl
theorem bindPs_cons (p : Pat) (ps : List Pat) (d : D) (ds : List D) : bindPs (p :: ps) (d :: ds) ρ = (bindP p d ρ).bind fun ρ' => bindPs ps ds ρ' := by rw [bindPs]
end
/-! ### data -/
theorem truD_bool (b : Bool) : truD (.bool b) = some b := rfl
theorem isBool_bool (b : Bool) : isBool (.bool b) = some b := rfl
theorem isInt_int (i : Int) : isInt (.int i) = some i := rfl
theorem addD_int (i j : Int) : addD (.int i) (.int j) = some (.int (i + j)) := rfl
theorem subD_int (i j : Int) : subD (.int i) (.int j) = some (.int (i - j)) := rfl
theorem negD_int (i : Int) : negD (.int i) = some (.int (-i)) := rfl
theorem ltD_int (i j : Int) : ltD (.int i) (.int j) = some (.bool (decide (i < j))) := rfl
theorem leD_int (i j : Int) : leD (.int i) (.int j) = some (.bool (decide (i ≤ j))) := rfl
theorem gtD_int (i j : Int) : gtD (.int i) (.int j) = some (.bool (decide (j < i))) := rfl
theorem geD_int (i j : Int) : geD (.int i) (.int j) = some (.bool (decide (j ≤ i))) := rfl
theorem intD_int (i : Int) : intD [.int i] = some (.int i) := rfl
theorem absD_int (i : Int) : absD [.int i] = some (.int (if i < 0 then -i else i)) := rfl
theorem lenD_tuple (ds : List D) : lenD [.tuple ds] = some (.int ds.length) := rfl
theorem lenD_list (ds : List D) : lenD [.list ds] = some (.int ds.length) := rfl
theorem tupleD_list (ds : List D) : tupleD [.list ds] = some (.tuple ds) := rfl
theorem tupleD_tuple (ds : List D) : tupleD [.tuple ds] = some (.tuple ds) := rfl
theorem itemsD_list (ds : List D) : itemsD (.list ds) = some ds := rfl
theorem itemsD_tuple (ds : List D) : itemsD (.tuple ds) = some ds := rfl
theorem eqD_int (i j : Int) : eqD (.int i) (.int j) = some (.bool (decide (i = j))) := by
  unfold eqD
  rw [if_pos (show shallow (.int i) (.int j) = true from rfl)]
  have : PyData.eqv (.int i) (.int j) = decide (i = j) := by
    unfold PyData.eqv
    by_cases h : i = j
    · simp [h]
    · simp [h]
  rw [this]
theorem neD_int (i j : Int) : neD (.int i) (.int j) = some (.bool (!decide (i = j))) := by
  unfold neD
  rw [if_pos (show shallow (.int i) (.int j) = true from rfl)]
  have : PyData.eqv (.int i) (.int j) = decide (i = j) := by
    unfold PyData.eqv
    by_cases h : i = j
    · simp [h]
    · simp [h]
  rw [this]
theorem modD_int (i j : Int) (h : j ≠ 0) : modD (.int i) (.int j) = some (.int (i.fmod j)) := by
  show (if j ≠ 0 then some (PyData.int (i.fmod j)) else none) = _
  rw [if_pos h]
theorem atD_tuple (ds : List D) (i : Int) : atD (.tuple ds) (.int i) = atI ds i := rfl
theorem atD_list (ds : List D) (i : Int) : atD (.list ds) (.int i) = atI ds i := rfl
/-- small whole numbers -/
def Sm (n : Nat) (i : Int) : Prop := i.natAbs < 2 ^ n
theorem log2_le {i : Int} {n : Nat} (h : Sm n i) : i.natAbs.log2 ≤ n := by
  by_cases z : i.natAbs = 0
  · rw [z]
    exact Nat.le_trans (by decide) (Nat.zero_le n)
  · have := (Nat.log2_lt z).mpr h
    omega
theorem mulD_sm {i j : Int} {a b : Nat} (ha : Sm a i) (hb : Sm b j) (h : a + b < 1000000 := by decide) : mulD (.int i) (.int j) = some (.int (i * j)) := by
  show (if i.natAbs.log2 + j.natAbs.log2 < 1000000 then some (PyData.int (i * j)) else none) = _
  have h1 := log2_le ha
  have h2 := log2_le hb
  rw [if_pos (by omega)]
theorem fdivD_sm {i j : Int} {b : Nat} (hj : j ≠ 0) (hb : Sm b j) (h : b < 9000 := by decide) : fdivD (.int i) (.int j) = some (.int (i.fdiv j)) := by
  show (if j ≠ 0 ∧ j.natAbs.log2 < 9000 then some (PyData.int (i.fdiv j)) else none) = _
  have h1 := log2_le hb
  rw [if_pos ⟨hj, by omega⟩]
theorem Sm.mul {i j : Int} {a b : Nat} (ha : Sm a i) (hb : Sm b j) : Sm (a + b) (i * j) := by
  unfold Sm at *
  rw [Int.natAbs_mul, Nat.pow_add]
  exact Nat.mul_lt_mul'' ha hb
theorem Sm.add {i j : Int} {a : Nat} (ha : Sm a i) (hb : Sm a j) : Sm (a + 1) (i + j) := by
  unfold Sm at *
  rw [Nat.pow_succ]
  omega
theorem Sm.sub {i j : Int} {a : Nat} (ha : Sm a i) (hb : Sm a j) : Sm (a + 1) (i - j) := by
  unfold Sm at *
  rw [Nat.pow_succ]
  omega
theorem Sm.neg {i : Int} {a : Nat} (ha : Sm a i) : Sm a (-i) := by
  unfold Sm at *
  omega
theorem Sm.mono {i : Int} {a b : Nat} (ha : Sm a i) (h : a ≤ b := by decide) : Sm b i := Nat.lt_of_lt_of_le ha (Nat.pow_le_pow_right (by decide) h)
theorem Sm.le {i j : Int} {a : Nat} (ha : Sm a j) (h : i.natAbs ≤ j.natAbs) : Sm a i := Nat.lt_of_le_of_lt h ha
/-! ### loops -/
theorem forM_nil {p : Pat} {b : EnvD → SR} {ρ : EnvD} : forM' p b [] ρ = .nx ρ := rfl
theorem forM_inv {p : Pat} {b : EnvD → SR} (I : Nat → EnvD → Prop) : ∀ (ds : List D) (k : Nat) (ρ : EnvD), I k ρ →
    (∀ (i : Nat) (d : D) (ρ : EnvD), ds[i]? = some d → I (k + i) ρ → ∃ ρ1 ρ2, bindP p d ρ = some ρ1 ∧ (b ρ1 = .nx ρ2 ∨ b ρ1 = .cont ρ2) ∧ I (k + i + 1) ρ2) → ∃ ρ', forM' p b ds ρ = .nx ρ' ∧ I (k + ds.length) ρ'
  | [], k, ρ, h, _ => ⟨ρ, rfl, h⟩
  | d :: ds, k, ρ, h, st => by
    obtain ⟨ρ1, ρ2, e1, e2, h2⟩ := st 0 d ρ rfl h
    obtain ⟨ρ', e3, h3⟩ := forM_inv I ds (k + 1) ρ2 h2 fun i d' ρ3 hi h4 => by
      have := st (i + 1) d' ρ3 hi (by rw [show k + (i + 1) = k + 1 + i by omega]; exact h4)
      rw [show k + (i + 1) + 1 = k + 1 + i + 1 by omega] at this
      exact this
    refine ⟨ρ', ?_, by rw [show k + (d :: ds).length = k + 1 + ds.length by simp only [List.length_cons]; omega]; exact h3⟩
    unfold forM'
    rw [e1]
    dsimp only
    rcases e2 with e2 | e2 <;> rw [e2] <;> exact e3
theorem intsD_len {lo : Int} {n : Nat} : (intsD lo n).length = n := by simp [intsD]
theorem intsD_at {lo : Int} {n i : Nat} {d : D} (h : (intsD lo n)[i]? = some d) : i < n ∧ d = .int (lo + (i : Int)) := intsD_get h
theorem rng1D_ok {j : Int} (h0 : 0 ≤ j) (h : j < 2 ^ 62 := by decide) : rng1D (.int j) = some (intsD 0 j.toNat) := by
  show (if j.natAbs < 4611686018427387904 then some (intsD 0 j.toNat) else none) = _
  rw [if_pos (by omega)]
theorem rng1D_nat {n : Nat} (h : n < 2 ^ 62 := by decide) : rng1D (.int (n : Int)) = some (intsD 0 n) := by
  rw [rng1D_ok (by omega) (by omega)]
  rw [Int.toNat_natCast]
/-! ### equality -/
theorem eqv_int (i j : Int) : PyData.eqv (.int i) (.int j) = decide (i = j) := by
  unfold PyData.eqv
  by_cases h : i = j
  · simp [h]
  · simp [h]
theorem eqv_str (x y : Str) : PyData.eqv (.str x) (.str y) = decide (x = y) := by
  unfold PyData.eqv
  by_cases h : x = y
  · simp [h]
  · simp [h]
theorem eqv_tup (xs ys : List D) : PyData.eqv (.tuple xs) (.tuple ys) = PyData.eqvAll xs ys := by unfold PyData.eqv; rfl
theorem eqvAll_cons (x y : D) (xs ys : List D) : PyData.eqvAll (x :: xs) (y :: ys) = (PyData.eqv x y && PyData.eqvAll xs ys) := by rw [PyData.eqvAll]
theorem eqvAll_nil : PyData.eqvAll [] [] = true := by rw [PyData.eqvAll]
theorem eqD_of {d e : D} (h : shallow d e = true) : eqD d e = some (.bool (PyData.eqv d e)) := if_pos h
theorem neD_of {d e : D} (h : shallow d e = true) : neD d e = some (.bool (!PyData.eqv d e)) := if_pos h
theorem eqD_refl {d : D} (h : shallow d d = true) (hp : d.plain = true) : eqD d d = some (.bool true) := by rw [eqD_of h, SeqAt.eqv_refl_plain d hp]
theorem inD_list {d : D} {xs : List D} (h : d.depth ≤ 60) : inD d (.list xs) = some (.bool (inL d xs)) := if_pos h
theorem inD_tuple {d : D} {xs : List D} (h : d.depth ≤ 60) : inD d (.tuple xs) = some (.bool (inL d xs)) := if_pos h
theorem notInD_list {d : D} {xs : List D} (h : d.depth ≤ 60) : notInD d (.list xs) = some (.bool (!inL d xs)) := if_pos h
theorem notInD_tuple {d : D} {xs : List D} (h : d.depth ≤ 60) : notInD d (.tuple xs) = some (.bool (!inL d xs)) := if_pos h
theorem intBits_le {i : Int} {n : Nat} (h : Sm n i) : Builtin.Int.intBits i ≤ n := by
  unfold Builtin.Int.intBits
  by_cases z : i = 0
  · subst z
    simp
  · have hz : i.natAbs ≠ 0 := by omega
    have e : (i == 0) = false := by simpa using z
    rw [e]
    have := (Nat.log2_lt hz).mpr h
    simp only [Bool.false_eq_true, if_false]
    omega
theorem powD_sm {i j : Int} {a : Nat} (ha : Sm a i) (h0 : 0 ≤ j) (h : a * j.toNat ≤ 134217728) : powD (.int i) (.int j) = some (.int (i ^ j.toNat)) := by
  show (if 0 ≤ j ∧ Builtin.Int.intBits i * j.toNat ≤ 134217728 then some (PyData.int (i ^ j.toNat)) else none) = _
  have h2 : Builtin.Int.intBits i * j.toNat ≤ a * j.toNat := Nat.mul_le_mul_right _ (intBits_le ha)
  rw [if_pos ⟨h0, Nat.le_trans h2 h⟩]
end Z

namespace Z
open PySem PySem.Spec PyProof.Rows L2
/-! ### ratios -/
theorem half_mod {a b : Nat} (h : 0 < a % b) (hb : 0 < b) : 2 * (b % (a % b)) < b := by
  have h1 : a % b < b := Nat.mod_lt a hb
  have h2 : b % (a % b) < a % b := Nat.mod_lt b h
  have h3 := Nat.div_add_mod b (a % b)
  have h4 : 1 ≤ b / (a % b) := Nat.div_pos (Nat.le_of_lt h1) h
  have h5 : (a % b) * 1 ≤ (a % b) * (b / (a % b)) := Nat.mul_le_mul_left _ h4
  omega
theorem fmod_nat (a b : Nat) : Int.fmod (a : Int) (b : Int) = ((a % b : Nat) : Int) := by
  rw [Int.fmod_eq_emod_of_nonneg _ (by omega)]
  try rfl
theorem abs_if (i : Int) : (if i < 0 then -i else i) = (i.natAbs : Int) := by
  by_cases h : i < 0
  · rw [if_pos h]; omega
  · rw [if_neg h]; omega
def gs (n d : Int) : Int := if d < 0 then -(Int.gcd n d : Int) else (Int.gcd n d : Int)
theorem gcd_pos {n d : Int} (h : d ≠ 0) : 0 < Int.gcd n d := by
  rw [Int.gcd_pos_iff]
  exact .inr h
theorem gs_ne {n d : Int} (h : d ≠ 0) : gs n d ≠ 0 := by
  have := gcd_pos (n := n) h
  unfold gs
  by_cases z : d < 0
  · rw [if_pos z]; omega
  · rw [if_neg z]; omega
theorem gcd_le {n d : Int} (h : d ≠ 0) : Int.gcd n d ≤ d.natAbs := Nat.le_of_dvd (by omega) (Nat.gcd_dvd_right _ _)
theorem gs_abs {n d : Int} : (gs n d).natAbs = Int.gcd n d := by
  unfold gs
  by_cases z : d < 0
  · rw [if_pos z]; omega
  · rw [if_neg z]; omega
theorem gs_sm {n d : Int} {k : Nat} (h : d ≠ 0) (hd : Sm k d) : Sm k (gs n d) := hd.le (by rw [gs_abs]; exact gcd_le h)
theorem gs_sign {n d : Int} (h : d ≠ 0) : gs n d = d.sign * (Int.gcd n d : Int) := by
  unfold gs
  by_cases z : d < 0
  · rw [if_pos z, Int.sign_eq_neg_one_of_neg z]; omega
  · rw [if_neg z, Int.sign_eq_one_of_pos (by omega)]; omega
/-- the ratio of two whole numbers -/
def dv (n d : Int) : Rat := Rat.divInt n d
theorem gs_num {n d : Int} (h : d ≠ 0) : gs n d * (dv n d).num = n := by
  have g := gcd_pos (n := n) h
  unfold dv
  rw [Rat.num_divInt, gs_sign h, Int.gcd_comm d n]
  have : ((Int.gcd n d : Nat) : Int) ∣ d.sign * n := Int.dvd_mul_of_dvd_right (Int.gcd_dvd_left ..)
  rw [Int.mul_assoc, Int.mul_ediv_cancel' this, ← Int.mul_assoc]
  have : d.sign * d.sign = 1 := by
    rcases Int.lt_trichotomy d 0 with z | z | z
    · rw [Int.sign_eq_neg_one_of_neg z]; rfl
    · exact absurd z h
    · rw [Int.sign_eq_one_of_pos z]; rfl
  rw [this, Int.one_mul]
theorem gs_den {n d : Int} (h : d ≠ 0) : gs n d * ((dv n d).den : Int) = d := by
  have g := gcd_pos (n := n) h
  unfold dv
  rw [Rat.den_divInt, if_neg h, gs_sign h, Int.gcd_comm d n, Int.mul_assoc]
  have h1 : Int.gcd n d ∣ d.natAbs := Int.natAbs_dvd_natAbs.mpr (Int.gcd_dvd_right ..)
  have h2 : ((Int.gcd n d : Nat) : Int) * ((d.natAbs / Int.gcd n d : Nat) : Int) = (d.natAbs : Int) := by
    rw [← Int.natCast_mul, Nat.mul_div_cancel' h1]
  rw [h2, Int.sign_mul_natAbs]
theorem dv_num {n d : Int} (h : d ≠ 0) : n.fdiv (gs n d) = (dv n d).num := by
  have e := gs_num (n := n) h
  conv => lhs; rw [← e]
  have g := gs_ne (n := n) h
  have e2 : gs (gs n d * (dv n d).num) d = gs n d := by rw [e]
  rw [e2]
  exact Int.mul_fdiv_cancel_left _ g
theorem dv_den {n d : Int} (h : d ≠ 0) : d.fdiv (gs n d) = ((dv n d).den : Int) := by
  have e := gs_den (n := n) h
  have g := gs_ne (n := n) h
  generalize ((dv n d).den : Int) = x at e
  generalize gs n d = y at e g
  subst e
  exact Int.mul_fdiv_cancel_left _ g
theorem abs_le_mul {g x y : Int} (hg : g ≠ 0) (h : g * x = y) : x.natAbs ≤ y.natAbs := by
  rw [← h, Int.natAbs_mul]
  exact Nat.le_mul_of_pos_left _ (by omega)
/-- a ratio as data -/
def Rq (q : Rat) : D := .tuple [.int q.num, .int q.den]
/-- a small ratio -/
structure Sq (k : Nat) (q : Rat) : Prop where
  sn : Sm k q.num
  sd : Sm k q.den
theorem den_ne (q : Rat) : (q.den : Int) ≠ 0 := by have := q.den_nz; omega
theorem den_pos (q : Rat) : (0 : Int) < q.den := by have := q.den_nz; omega
theorem Sq.dv {n d : Int} {k : Nat} (h : d ≠ 0) (hn : Sm k n) (hd : Sm k d) : Sq k (dv n d) :=
  ⟨hn.le (abs_le_mul (gs_ne (n := n) h) (gs_num h)), hd.le (abs_le_mul (gs_ne (n := n) h) (gs_den h))⟩
theorem Sq.mono {k l : Nat} {q : Rat} (h : Sq k q) (e : k ≤ l := by decide) : Sq l q := ⟨h.sn.mono e, h.sd.mono e⟩
theorem add_dv (p q : Rat) : p + q = dv (p.num * q.den + q.num * p.den) (p.den * q.den) := by
  rw [Rat.add_def']
  unfold Z.dv
  rw [← Int.natCast_mul]
  exact (Rat.divInt_ofNat _ _).symm
theorem sub_dv (p q : Rat) : p - q = dv (p.num * q.den - q.num * p.den) (p.den * q.den) := by
  rw [Rat.sub_def']
  unfold Z.dv
  rw [← Int.natCast_mul]
  exact (Rat.divInt_ofNat _ _).symm
theorem mul_dv (p q : Rat) : p * q = dv (p.num * q.num) (p.den * q.den) := by
  rw [Rat.mul_def']
  unfold Z.dv
  rw [← Int.natCast_mul]
  exact (Rat.divInt_ofNat _ _).symm
theorem self_dv (p : Rat) : p = (p.num : Rat) / ((p.den : Int) : Rat) := by
  have := (Rat.num_divInt_den p).symm
  rw [Rat.divInt_eq_div] at this
  exact this
theorem dv_eq (n d : Int) : dv n d = (n : Rat) / (d : Rat) := Rat.divInt_eq_div n d
theorem div_dv (p q : Rat) (h : q.num ≠ 0) : p / q = dv (p.num * q.den) (p.den * q.num) := by
  rw [dv_eq]
  conv => lhs; rw [self_dv p, self_dv q]
  have h1 : (q.num : Rat) ≠ 0 := by exact_mod_cast h
  have h2 : ((q.den : Int) : Rat) ≠ 0 := by exact_mod_cast den_ne q
  have h3 : ((p.den : Int) : Rat) ≠ 0 := by exact_mod_cast den_ne p
  rw [Rat.intCast_mul, Rat.intCast_mul]
  grind
theorem Sq.add {a b : Nat} {p q : Rat} (hp : Sq a p) (hq : Sq b q) : Sq (a + b + 1) (p + q) := by
  rw [add_dv]
  exact Sq.dv (Int.mul_ne_zero (den_ne p) (den_ne q)) ((hp.sn.mul hq.sd).add (((hq.sn.mul hp.sd)).mono (by omega))) ((hp.sd.mul hq.sd).mono (by omega))
theorem Sq.sub {a b : Nat} {p q : Rat} (hp : Sq a p) (hq : Sq b q) : Sq (a + b + 1) (p - q) := by
  rw [sub_dv]
  exact Sq.dv (Int.mul_ne_zero (den_ne p) (den_ne q)) ((hp.sn.mul hq.sd).sub (((hq.sn.mul hp.sd)).mono (by omega))) ((hp.sd.mul hq.sd).mono (by omega))
theorem Sq.mul {a b : Nat} {p q : Rat} (hp : Sq a p) (hq : Sq b q) : Sq (a + b) (p * q) := by
  rw [mul_dv]
  exact Sq.dv (Int.mul_ne_zero (den_ne p) (den_ne q)) (hp.sn.mul hq.sn) ((hp.sd.mul hq.sd))
theorem lt_q (p q : Rat) : (p.num * q.den < q.num * p.den) = (p < q) := propext (Rat.lt_iff p q).symm
theorem le_q (p q : Rat) : (p.num * q.den ≤ q.num * p.den) = (p ≤ q) := propext (Rat.le_iff p q).symm
theorem Rd_inj {p q : Rat} : (Rq p = Rq q) ↔ p = q := by
  constructor
  · intro h
    unfold Rq at h
    injection h with h
    injection h with h1 h2
    injection h1 with h1
    injection h2 with h2 _
    injection h2 with h2
    exact Rat.ext h1 (by omega)
  · rintro rfl; rfl
theorem eqv_Rd (p q : Rat) : PyData.eqv (Rq p) (Rq q) = decide (p = q) := by
  unfold Rq
  rw [eqv_tup, eqvAll_cons, eqvAll_cons, eqvAll_nil, eqv_int, eqv_int, Bool.and_true]
  by_cases h : p = q
  · subst h; simp
  · rw [decide_eq_false h]
    by_cases h1 : p.num = q.num
    · have h2 : ¬ (p.den : Int) = q.den := fun e => h (Rat.ext h1 (by omega))
      simp [h2]
    · simp [h1]
/-! ### kinds -/
theorem isi_tuple_none : isiD "tuple" .none = some (.bool false) := by
  unfold isiD kindD
  rw [show kitB "NoneType" "tuple" = some false by decide +kernel]
  rfl
theorem isi_tuple_bool (b : Bool) : isiD "tuple" (.bool b) = some (.bool false) := by
  unfold isiD kindD
  rw [show kitB "bool" "tuple" = some false by decide +kernel]
  rfl
theorem isi_tuple_int (i : Int) : isiD "tuple" (.int i) = some (.bool false) := by
  unfold isiD kindD
  rw [show kitB "int" "tuple" = some false by decide +kernel]
  rfl
theorem isi_tuple_str (z : Str) : isiD "tuple" (.str z) = some (.bool false) := by
  unfold isiD kindD
  rw [show kitB "str" "tuple" = some false by decide +kernel]
  rfl
theorem isi_tuple_list (ds : List D) : isiD "tuple" (.list ds) = some (.bool false) := by
  unfold isiD kindD
  rw [show kitB "list" "tuple" = some false by decide +kernel]
  rfl
theorem isi_tuple_tuple (ds : List D) : isiD "tuple" (.tuple ds) = some (.bool true) := by
  unfold isiD kindD
  rw [show kitB "tuple" "tuple" = some true by decide +kernel]
  rfl
theorem isi_tuple_dict (es : List (D × D)) : isiD "tuple" (.dict es) = some (.bool false) := by
  unfold isiD kindD
  rw [show kitB "dict" "tuple" = some false by decide +kernel]
  rfl
theorem isi_int_none : isiD "int" .none = some (.bool false) := by
  unfold isiD kindD
  rw [show kitB "NoneType" "int" = some false by decide +kernel]
  rfl
theorem isi_int_bool (b : Bool) : isiD "int" (.bool b) = some (.bool true) := by
  unfold isiD kindD
  rw [show kitB "bool" "int" = some true by decide +kernel]
  rfl
theorem isi_int_int (i : Int) : isiD "int" (.int i) = some (.bool true) := by
  unfold isiD kindD
  rw [show kitB "int" "int" = some true by decide +kernel]
  rfl
theorem isi_int_str (z : Str) : isiD "int" (.str z) = some (.bool false) := by
  unfold isiD kindD
  rw [show kitB "str" "int" = some false by decide +kernel]
  rfl
theorem isi_int_list (ds : List D) : isiD "int" (.list ds) = some (.bool false) := by
  unfold isiD kindD
  rw [show kitB "list" "int" = some false by decide +kernel]
  rfl
theorem isi_int_tuple (ds : List D) : isiD "int" (.tuple ds) = some (.bool false) := by
  unfold isiD kindD
  rw [show kitB "tuple" "int" = some false by decide +kernel]
  rfl
theorem isi_int_dict (es : List (D × D)) : isiD "int" (.dict es) = some (.bool false) := by
  unfold isiD kindD
  rw [show kitB "dict" "int" = some false by decide +kernel]
  rfl
theorem isi_bool_none : isiD "bool" .none = some (.bool false) := by
  unfold isiD kindD
  rw [show kitB "NoneType" "bool" = some false by decide +kernel]
  rfl
theorem isi_bool_bool (b : Bool) : isiD "bool" (.bool b) = some (.bool true) := by
  unfold isiD kindD
  rw [show kitB "bool" "bool" = some true by decide +kernel]
  rfl
theorem isi_bool_int (i : Int) : isiD "bool" (.int i) = some (.bool false) := by
  unfold isiD kindD
  rw [show kitB "int" "bool" = some false by decide +kernel]
  rfl
theorem isi_bool_str (z : Str) : isiD "bool" (.str z) = some (.bool false) := by
  unfold isiD kindD
  rw [show kitB "str" "bool" = some false by decide +kernel]
  rfl
theorem isi_bool_list (ds : List D) : isiD "bool" (.list ds) = some (.bool false) := by
  unfold isiD kindD
  rw [show kitB "list" "bool" = some false by decide +kernel]
  rfl
theorem isi_bool_tuple (ds : List D) : isiD "bool" (.tuple ds) = some (.bool false) := by
  unfold isiD kindD
  rw [show kitB "tuple" "bool" = some false by decide +kernel]
  rfl
theorem isi_bool_dict (es : List (D × D)) : isiD "bool" (.dict es) = some (.bool false) := by
  unfold isiD kindD
  rw [show kitB "dict" "bool" = some false by decide +kernel]
  rfl
theorem isi_str_none : isiD "str" .none = some (.bool false) := by
  unfold isiD kindD
  rw [show kitB "NoneType" "str" = some false by decide +kernel]
  rfl
theorem isi_str_bool (b : Bool) : isiD "str" (.bool b) = some (.bool false) := by
  unfold isiD kindD
  rw [show kitB "bool" "str" = some false by decide +kernel]
  rfl
theorem isi_str_int (i : Int) : isiD "str" (.int i) = some (.bool false) := by
  unfold isiD kindD
  rw [show kitB "int" "str" = some false by decide +kernel]
  rfl
theorem isi_str_str (z : Str) : isiD "str" (.str z) = some (.bool true) := by
  unfold isiD kindD
  rw [show kitB "str" "str" = some true by decide +kernel]
  rfl
theorem isi_str_list (ds : List D) : isiD "str" (.list ds) = some (.bool false) := by
  unfold isiD kindD
  rw [show kitB "list" "str" = some false by decide +kernel]
  rfl
theorem isi_str_tuple (ds : List D) : isiD "str" (.tuple ds) = some (.bool false) := by
  unfold isiD kindD
  rw [show kitB "tuple" "str" = some false by decide +kernel]
  rfl
theorem isi_str_dict (es : List (D × D)) : isiD "str" (.dict es) = some (.bool false) := by
  unfold isiD kindD
  rw [show kitB "dict" "str" = some false by decide +kernel]
  rfl
theorem isi_list_none : isiD "list" .none = some (.bool false) := by
  unfold isiD kindD
  rw [show kitB "NoneType" "list" = some false by decide +kernel]
  rfl
theorem isi_list_bool (b : Bool) : isiD "list" (.bool b) = some (.bool false) := by
  unfold isiD kindD
  rw [show kitB "bool" "list" = some false by decide +kernel]
  rfl
theorem isi_list_int (i : Int) : isiD "list" (.int i) = some (.bool false) := by
  unfold isiD kindD
  rw [show kitB "int" "list" = some false by decide +kernel]
  rfl
theorem isi_list_str (z : Str) : isiD "list" (.str z) = some (.bool false) := by
  unfold isiD kindD
  rw [show kitB "str" "list" = some false by decide +kernel]
  rfl
theorem isi_list_list (ds : List D) : isiD "list" (.list ds) = some (.bool true) := by
  unfold isiD kindD
  rw [show kitB "list" "list" = some true by decide +kernel]
  rfl
theorem isi_list_tuple (ds : List D) : isiD "list" (.tuple ds) = some (.bool false) := by
  unfold isiD kindD
  rw [show kitB "tuple" "list" = some false by decide +kernel]
  rfl
theorem isi_list_dict (es : List (D × D)) : isiD "list" (.dict es) = some (.bool false) := by
  unfold isiD kindD
  rw [show kitB "dict" "list" = some false by decide +kernel]
  rfl
theorem isi_dict_none : isiD "dict" .none = some (.bool false) := by
  unfold isiD kindD
  rw [show kitB "NoneType" "dict" = some false by decide +kernel]
  rfl
theorem isi_dict_bool (b : Bool) : isiD "dict" (.bool b) = some (.bool false) := by
  unfold isiD kindD
  rw [show kitB "bool" "dict" = some false by decide +kernel]
  rfl
theorem isi_dict_int (i : Int) : isiD "dict" (.int i) = some (.bool false) := by
  unfold isiD kindD
  rw [show kitB "int" "dict" = some false by decide +kernel]
  rfl
theorem isi_dict_str (z : Str) : isiD "dict" (.str z) = some (.bool false) := by
  unfold isiD kindD
  rw [show kitB "str" "dict" = some false by decide +kernel]
  rfl
theorem isi_dict_list (ds : List D) : isiD "dict" (.list ds) = some (.bool false) := by
  unfold isiD kindD
  rw [show kitB "list" "dict" = some false by decide +kernel]
  rfl
theorem isi_dict_tuple (ds : List D) : isiD "dict" (.tuple ds) = some (.bool false) := by
  unfold isiD kindD
  rw [show kitB "tuple" "dict" = some false by decide +kernel]
  rfl
theorem isi_dict_dict (es : List (D × D)) : isiD "dict" (.dict es) = some (.bool true) := by
  unfold isiD kindD
  rw [show kitB "dict" "dict" = some true by decide +kernel]
  rfl
theorem atI0 {x : D} {r : List D} : atI (x :: r) 0 = some x := atI_nat (j := 0) rfl
theorem atI1 {x y : D} {r : List D} : atI (x :: y :: r) 1 = some y := atI_nat (j := 1) rfl
theorem atI2 {x y z : D} {r : List D} : atI (x :: y :: z :: r) 2 = some z := atI_nat (j := 2) rfl
theorem atI3 {x y z u : D} {r : List D} : atI (x :: y :: z :: u :: r) 3 = some u := atI_nat (j := 3) rfl
theorem atI4 {x y z u v : D} {r : List D} : atI (x :: y :: z :: u :: v :: r) 4 = some v := atI_nat (j := 4) rfl
theorem atI5 {x y z u v w : D} {r : List D} : atI (x :: y :: z :: u :: v :: w :: r) 5 = some w := atI_nat (j := 5) rfl
theorem at_get {xs : List D} {i : Nat} {x : D} (h : xs[i]? = some x) : atI xs (i : Int) = some x := atI_nat h
theorem pow1018 : powD (.int 10) (.int 18) = some (.int 1000000000000000000) := by
  rw [powD_sm (a := 4) (by unfold Sm; decide) (by decide) (by decide)]
  rfl
/-- what a law's own comparison takes -/
def lp : Nat → D → Prop
  | 0, _ => False
  | _ + 1, .int _ => True
  | _ + 1, .bool _ => True
  | _ + 1, .none => True
  | _ + 1, .str _ => True
  | n + 1, .tuple ds => ds.length < 2 ^ 62 ∧ ∀ x ∈ ds, lp n x
  | _ + 1, _ => False
theorem shallow_int (i j : Int) : shallow (.int i) (.int j) = true := rfl
theorem eqD_str (x y : Str) : eqD (.str x) (.str y) = some (.bool (decide (x = y))) := by
  rw [eqD_of (show shallow (.str x) (.str y) = true from rfl), eqv_str]
theorem neD_str (x y : Str) : neD (.str x) (.str y) = some (.bool (!decide (x = y))) := by
  rw [neD_of (show shallow (.str x) (.str y) = true from rfl), eqv_str]
theorem eqD_bool (x y : Bool) : eqD (.bool x) (.bool y) = some (.bool (decide (x = y))) := by
  rw [eqD_of (show shallow (.bool x) (.bool y) = true from rfl)]
  cases x <;> cases y <;> rfl
theorem isD_none (d : D) : isD d .none = some (.bool (isNoneD d)) := by cases d <;> rfl
theorem isnD_none (d : D) : isnD d .none = some (.bool (!isNoneD d)) := by cases d <;> rfl
theorem isNone_none : isNoneD .none = true := rfl
theorem isNone_tuple (ds : List D) : isNoneD (.tuple ds) = false := rfl
theorem isNone_int (i : Int) : isNoneD (.int i) = false := rfl
theorem isD_bool (a b : Bool) : isD (.bool a) (.bool b) = some (.bool (decide (a = b))) := rfl
theorem isnD_bool (a b : Bool) : isnD (.bool a) (.bool b) = some (.bool (!decide (a = b))) := rfl
theorem forM_nx {p : Pat} {b : EnvD → SR} : ∀ (ds : List D) (ρ : EnvD) (f : D → EnvD → EnvD), (∀ d ∈ ds, ∀ ρ, (∃ ρ1, bindP p d ρ = some ρ1 ∧ (b ρ1 = .nx (f d ρ) ∨ b ρ1 = .cont (f d ρ)))) → forM' p b ds ρ = .nx (ds.foldl (fun r d => f d r) ρ)
  | [], ρ, f, _ => rfl
  | d :: ds, ρ, f, h => by
    obtain ⟨ρ1, e1, e2⟩ := h d (List.mem_cons_self ..) ρ
    unfold forM'
    rw [e1]
    dsimp only
    have ih := forM_nx ds (f d ρ) f fun x hx => h x (List.mem_cons_of_mem _ hx)
    rcases e2 with e2 | e2 <;> rw [e2] <;> exact ih
theorem lenD_str (z : Str) (h : z.length ≤ sizeLine) : lenD [.str z] = some (.int z.length) := if_pos h
theorem Sm.nat {a k : Nat} (h : a < 2 ^ k) : Sm k (a : Int) := by unfold Sm; omega
theorem fmod_lt {i j : Int} (h : 0 < j) : i.fmod j < j := Int.fmod_lt_of_pos i h
theorem fmod_nn {i j : Int} (h : 0 < j) : 0 ≤ i.fmod j := Int.fmod_nonneg_of_pos i h
theorem fdiv_nn {i j : Int} (h : 0 ≤ i) (hj : 0 ≤ j) : 0 ≤ i.fdiv j := Int.fdiv_nonneg h hj
theorem fmod_sm {i j : Int} {k : Nat} (h : 0 < j) (hk : Sm k j) : Sm k (i.fmod j) := hk.le (by have := fmod_lt (i := i) h; have := fmod_nn (i := i) h; omega)
theorem listOf_list (ds : List D) : Z.listOf (.list ds) = some ds := rfl
theorem listOf_tuple (ds : List D) : Z.listOf (.tuple ds) = some ds := rfl
theorem enumF_nil {n : Nat} : enumFrom' n [] = [] := rfl
theorem enumF_cons {n : Nat} {d : D} {ds : List D} : enumFrom' n (d :: ds) = .tuple [.int (n : Int), d] :: enumFrom' (n + 1) ds := rfl
theorem dep_str (z : Str) : (PyData.str z).depth ≤ 60 := Nat.zero_le _
def cmpR (p q : Rat) : Int := if p < q then -1 else if q < p then 1 else 0
theorem cmp_lt0 (p q : Rat) : (cmpR p q < 0) = (p < q) := by
  unfold cmpR
  by_cases h : p < q
  · simp [h]
  · by_cases h2 : q < p
    · simp [h, h2]
    · simp [h, h2]
theorem cmp_gt0 (p q : Rat) : (0 < cmpR p q) = (q < p) := by
  unfold cmpR
  by_cases h : p < q
  · have : ¬ q < p := by grind
    simp [h, this]
  · by_cases h2 : q < p
    · simp [h, h2]
    · simp [h, h2]
theorem cmp_le0 (p q : Rat) : (cmpR p q ≤ 0) = (p ≤ q) := by
  have e : (cmpR p q ≤ 0) = ¬ (0 < cmpR p q) := propext ⟨fun h => by omega, fun h => by omega⟩
  rw [e, cmp_gt0]
  exact propext ⟨fun h => by grind, fun h => by grind⟩
theorem cmp_ge0 (p q : Rat) : (0 ≤ cmpR p q) = (q ≤ p) := by
  have e : (0 ≤ cmpR p q) = ¬ (cmpR p q < 0) := propext ⟨fun h => by omega, fun h => by omega⟩
  rw [e, cmp_lt0]
  exact propext ⟨fun h => by grind, fun h => by grind⟩
theorem cmp_eq0 (p q : Rat) : (cmpR p q = 0) = (p = q) := by
  have e : (cmpR p q = 0) = (cmpR p q ≤ 0 ∧ 0 ≤ cmpR p q) := propext ⟨fun h => by omega, fun h => by omega⟩
  rw [e, cmp_le0, cmp_ge0]
  exact propext ⟨fun h => by grind, fun h => by grind⟩
theorem mid_dv (s t : Rat) : dv (s.num*t.den + t.num*s.den) (2*s.den*t.den) = (s+t)/2 := by
  rw [dv_eq]
  have h1 : ((s.den : Int) : Rat) ≠ 0 := by exact_mod_cast den_ne s
  have h2 : ((t.den : Int) : Rat) ≠ 0 := by exact_mod_cast den_ne t
  conv => rhs; rw [self_dv s, self_dv t]
  simp only [Rat.intCast_mul, Rat.intCast_add]
  have h3 : ((2 : Int) : Rat) = 2 := rfl
  rw [h3]
  grind
theorem addi_dv (s : Rat) (w : Int) : dv (s.num + w * s.den) s.den = s + w := by
  rw [dv_eq]
  have h1 : ((s.den : Int) : Rat) ≠ 0 := by exact_mod_cast den_ne s
  conv => rhs; rw [self_dv s]
  simp only [Rat.intCast_mul, Rat.intCast_add]
  grind
theorem dv_nn {a b : Int} (h : 0 ≤ a) (hb : 0 < b) : 0 ≤ dv a b := Rat.divInt_nonneg h (by omega)
theorem sz_lt {n : Nat} (h : n < 16777216) : n < sizeLine := h
theorem sz0 : (0 < sizeLine) = True := eq_true (sz_lt (by decide))
theorem sz1 : (1 < sizeLine) = True := eq_true (sz_lt (by decide))
theorem sz2 : (2 < sizeLine) = True := eq_true (sz_lt (by decide))
theorem sz3 : (3 < sizeLine) = True := eq_true (sz_lt (by decide))
theorem sz4 : (4 < sizeLine) = True := eq_true (sz_lt (by decide))
theorem sz5 : (5 < sizeLine) = True := eq_true (sz_lt (by decide))
theorem sz6 : (6 < sizeLine) = True := eq_true (sz_lt (by decide))
theorem sz7 : (7 < sizeLine) = True := eq_true (sz_lt (by decide))
theorem sz8 : (8 < sizeLine) = True := eq_true (sz_lt (by decide))
theorem sz9 : (9 < sizeLine) = True := eq_true (sz_lt (by decide))
theorem addD_tup {xs ys : List D} (h : xs.length + ys.length < 16777216) : addD (.tuple xs) (.tuple ys) = some (.tuple (xs ++ ys)) := if_pos (Nat.le_of_lt h)
theorem sl_take {ds : List D} {k : Nat} (hk : k ≤ ds.length) : sliceD none (some (k : Int)) (.tuple ds) = some (.tuple (ds.take k)) := by
  show some (PyData.tuple (cutD ds none (some (k : Int)))) = _
  unfold cutD HT.sIx
  simp only
  rw [if_neg (by omega), Int.toNat_natCast, Nat.min_eq_left hk, List.drop_zero, Nat.sub_zero]
theorem sl_drop {ds : List D} {k : Nat} (hk : k ≤ ds.length) : sliceD (some (k : Int)) none (.tuple ds) = some (.tuple (ds.drop k)) := by
  show some (PyData.tuple (cutD ds (some (k : Int)) none)) = _
  unfold cutD HT.sIx
  simp only
  rw [if_neg (by omega), Int.toNat_natCast, Nat.min_eq_left hk, List.take_of_length_le (by simp)]
theorem maxD_int (i j : Int) : maxD [.int i, .int j] = some (.int (if i < j then j else i)) := rfl
theorem minD_int (i j : Int) : minD [.int i, .int j] = some (.int (if j < i then j else i)) := rfl
theorem inL_cons (d x : D) (xs : List D) : inL d (x :: xs) = (PyData.eqv x d || inL d xs) := rfl
theorem inL_nil (d : D) : inL d [] = false := rfl
theorem inL_app (d : D) (xs ys : List D) : inL d (xs ++ ys) = (inL d xs || inL d ys) := by
  unfold inL
  rw [List.any_append]
/-! ### comprehensions by the place -/
def lcO (keep : Nat → Bool) (out : Nat → D) : Nat → Nat → List D
  | _, 0 => []
  | k, n + 1 => if keep k = true then out k :: lcO keep out (k + 1) n else lcO keep out (k + 1) n
theorem lcM_idx {p : Pat} {tc : EnvD → ER Bool} {m : EnvD → ER D} {ρ0 : EnvD} {keep : Nat → Bool} {out : Nat → D} : ∀ (ds : List D) (k : Nat),
    (∀ (i : Nat) (d : D), ds[i]? = some d → ∃ ρ1, bindP p d ρ0 = some ρ1 ∧ tc ρ1 = .ok (keep (k + i)) ∧ m ρ1 = .ok (out (k + i))) → lcM p tc m ρ0 ds = .ok (lcO keep out k ds.length)
  | [], k, _ => rfl
  | d :: ds, k, h => by
    obtain ⟨ρ1, e1, e2, e3⟩ := h 0 d rfl
    rw [Nat.add_zero] at e2 e3
    have ih := lcM_idx (p := p) (tc := tc) (m := m) (ρ0 := ρ0) (keep := keep) (out := out) ds (k + 1) fun i d' hd => by
      have := h (i + 1) d' hd
      rw [show k + (i + 1) = k + 1 + i by omega] at this
      exact this
    unfold lcM
    rw [e1]
    dsimp only
    rw [e2]
    show _ = ER.ok (lcO keep out k (ds.length + 1))
    unfold lcO
    cases hk : keep k with
    | true =>
      dsimp only
      rw [e3]
      dsimp only
      rw [ih, if_pos rfl]
      rfl
    | false =>
      dsimp only
      rw [ih, if_neg (by decide)]
theorem lcO_all {keep : Nat → Bool} {out : Nat → D} : ∀ {n k : Nat}, (∀ i, i < n → keep (k + i) = true) → lcO keep out k n = (List.range n).map fun i => out (k + i)
  | 0, k, _ => rfl
  | n + 1, k, h => by
    unfold lcO
    have h0 := h 0 (by omega)
    rw [Nat.add_zero] at h0
    rw [if_pos h0, lcO_all (n := n) (k := k + 1) fun i hi => by
      have := h (i + 1) (by omega)
      rw [show k + (i + 1) = k + 1 + i by omega] at this
      exact this]
    rw [List.range_succ_eq_map, List.map_cons, List.map_map]
    congr 1
    apply List.map_congr_left
    intro i _
    show out (k + 1 + i) = out (k + (i + 1))
    rw [show k + 1 + i = k + (i + 1) by omega]
theorem lcO_none {keep : Nat → Bool} {out : Nat → D} : ∀ {n k : Nat}, (lcO keep out k n).length = 0 ↔ ∀ i, i < n → keep (k + i) = false
  | 0, k => ⟨fun _ i hi => by omega, fun _ => rfl⟩
  | n + 1, k => by
    unfold lcO
    have ih := lcO_none (keep := keep) (out := out) (n := n) (k := k + 1)
    cases hk : keep k with
    | true =>
      rw [if_pos rfl]
      exact ⟨fun h => by simp at h, fun h => by have := h 0 (by omega); rw [Nat.add_zero, hk] at this; cases this⟩
    | false =>
      rw [if_neg (by decide), ih]
      exact ⟨fun h i hi => by
        match i with
        | 0 => exact hk
        | i + 1 => have := h i (by omega); rw [show k + 1 + i = k + (i + 1) by omega] at this; exact this, fun h i hi => by
        have := h (i + 1) (by omega)
        rw [show k + (i + 1) = k + 1 + i by omega] at this
        exact this⟩
/-- the least place of the least value -/
def am (f : Nat → Rat) : Nat → Nat
  | 0 => 0
  | k + 1 => if f k < f (am f k) then k else am f k
theorem am_lt (f : Nat → Rat) : ∀ {n : Nat}, 0 < n → am f n < n
  | 0, h => by omega
  | 1, _ => by
    unfold am am
    by_cases h : f 0 < f 0
    · rw [if_pos h]; decide
    · rw [if_neg h]; decide
  | n + 2, _ => by
    have := am_lt f (n := n + 1) (by omega)
    unfold am
    by_cases h : f (n + 1) < f (am f (n + 1))
    · rw [if_pos h]; omega
    · rw [if_neg h]; omega
theorem am_le (f : Nat → Rat) : ∀ {n k : Nat}, k < n → f (am f n) ≤ f k
  | 0, _, h => by omega
  | n + 1, k, h => by
    unfold am
    by_cases z : f n < f (am f n)
    · rw [if_pos z]
      by_cases e : k = n
      · subst e; exact Rat.le_refl
      · have := am_le f (n := n) (k := k) (by omega)
        grind
    · rw [if_neg z]
      by_cases e : k = n
      · subst e; grind
      · exact am_le f (n := n) (k := k) (by omega)
/-! ### cuts -/
theorem cut_map {α : Type} (f : α → D) (l : List α) (lo hi : Option Int) : cutD (l.map f) lo hi = ((l.drop (HT.sIx l.length 0 lo)).take (HT.sIx l.length l.length hi - HT.sIx l.length 0 lo)).map f := by
  unfold cutD
  rw [List.length_map, List.map_take, List.map_drop]
theorem slice_map {α : Type} (f : α → D) (l : List α) (lo hi : Option Int) : sliceD lo hi (.tuple (l.map f)) = some (.tuple (((l.drop (HT.sIx l.length 0 lo)).take (HT.sIx l.length l.length hi - HT.sIx l.length 0 lo)).map f)) := by
  show some (PyData.tuple (cutD (l.map f) lo hi)) = _
  rw [cut_map]
/-! ### loops that only look -/
theorem forM_all {p : Pat} {b : EnvD → SR} (I : EnvD → Prop) : ∀ (ds : List D) (ρ : EnvD), I ρ → (∀ d ∈ ds, ∀ ρ, I ρ → ∃ ρ1 ρ2, bindP p d ρ = some ρ1 ∧ (b ρ1 = .nx ρ2 ∨ b ρ1 = .cont ρ2) ∧ I ρ2) → ∃ ρ', forM' p b ds ρ = .nx ρ' ∧ I ρ'
  | [], ρ, h, _ => ⟨ρ, rfl, h⟩
  | d :: ds, ρ, h, st => by
    obtain ⟨ρ1, ρ2, e1, e2, h2⟩ := st d (List.mem_cons_self ..) ρ h
    obtain ⟨ρ', e3, h3⟩ := forM_all I ds ρ2 h2 fun x hx => st x (List.mem_cons_of_mem _ hx)
    refine ⟨ρ', ?_, h3⟩
    unfold forM'
    rw [e1]
    dsimp only
    rcases e2 with e2 | e2 <;> rw [e2] <;> exact e3
def SR.lps (r : SR) (k : EnvD → SR) : SR := match r with
  | .nx ρ' => k ρ'
  | .cont ρ' => k ρ'
  | .brk ρ' => .nx ρ'
  | .ret d => .ret d
  | .ex x ρ' => .ex x ρ'
  | .no => .no
theorem forM_cons {i : Nat} {b : EnvD → SR} {d : D} {ds : List D} {ρ : EnvD} : forM' (.n i) b (d :: ds) ρ = (b (ρ.set i (some d))).lps (forM' (.n i) b ds) := by
  conv => lhs; unfold forM'
  rw [bindP_n]
  rfl
theorem lps_nx (ρ : EnvD) (k : EnvD → SR) : (SR.nx ρ).lps k = k ρ := rfl
theorem lps_cont (ρ : EnvD) (k : EnvD → SR) : (SR.cont ρ).lps k = k ρ := rfl
theorem lps_brk (ρ : EnvD) (k : EnvD → SR) : (SR.brk ρ).lps k = .nx ρ := rfl
theorem lps_ret (d : D) (k : EnvD → SR) : (SR.ret d).lps k = .ret d := rfl
theorem sl_takeN {ds : List D} {k : Nat} : sliceD none (some (k : Int)) (.tuple ds) = some (.tuple (ds.take k)) := by
  show some (PyData.tuple (cutD ds none (some (k : Int)))) = _
  unfold cutD HT.sIx
  simp only
  rw [if_neg (by omega), Int.toNat_natCast, List.drop_zero, Nat.sub_zero]
  by_cases h : k ≤ ds.length
  · rw [Nat.min_eq_left h]
  · rw [Nat.min_eq_right (by omega), List.take_of_length_le (Nat.le_refl _), List.take_of_length_le (by omega)]
theorem sl_dropN {ds : List D} {k : Nat} : sliceD (some (k : Int)) none (.tuple ds) = some (.tuple (ds.drop k)) := by
  by_cases h : k ≤ ds.length
  · exact sl_drop h
  · show some (PyData.tuple (cutD ds (some (k : Int)) none)) = _
    unfold cutD HT.sIx
    simp only
    rw [if_neg (by omega), Int.toNat_natCast, Nat.min_eq_right (by omega), List.drop_length, List.drop_of_length_le (by omega), List.take_nil]
theorem rgT1_nat {n : Nat} (h : n ≤ 16777216) : rgT1 (.int (n : Int)) = some (.tuple (intsD 0 n)) := by
  show (if ((n : Int)).natAbs ≤ 16777216 then some (PyData.tuple (intsD 0 ((n : Int) - 0).toNat)) else none) = _
  rw [if_pos (by omega), Int.sub_zero, Int.toNat_natCast]
theorem addD_lst {xs ys : List D} (h : xs.length + ys.length < 16777216) : addD (.list xs) (.list ys) = some (.list (xs ++ ys)) := if_pos (Nat.le_of_lt h)
theorem intsD_succ (k m : Nat) : intsD (k : Int) (m + 1) = .int (k : Int) :: intsD ((k + 1 : Nat) : Int) m := by
  unfold intsD
  rw [List.range_succ_eq_map, List.map_cons, List.map_map]
  congr 1
  · apply List.map_congr_left
    intro i _
    show PyData.int ((k : Int) + ((i + 1 : Nat) : Int)) = .int (((k + 1 : Nat) : Int) + (i : Int))
    congr 1
    omega
theorem inL_strs (z : Str) : ∀ ns : List Str, inL (.str z) (ns.map PyData.str) = decide (z ∈ ns)
  | [] => rfl
  | n :: ns => by
    rw [List.map_cons, inL_cons, eqv_str, inL_strs z ns]
    by_cases h : n = z
    · subst h
      simp
    · by_cases h2 : z ∈ ns
      · simp [h2]
      · have : ¬ z = n := fun e => h e.symm
        simp [h, h2, this]
theorem lcM_map {p : Pat} {m : EnvD → ER D} {ρ0 : EnvD} {α : Type} {f g : α → D} : ∀ (l : List α), (∀ a ∈ l, ∃ ρ1, bindP p (f a) ρ0 = some ρ1 ∧ m ρ1 = .ok (g a)) → lcM p tTrue m ρ0 (l.map f) = .ok (l.map g)
  | [], _ => rfl
  | a :: l, h => by
    obtain ⟨ρ1, e1, e2⟩ := h a (List.mem_cons_self ..)
    rw [List.map_cons]
    unfold lcM
    rw [e1]
    dsimp only
    rw [show tTrue ρ1 = .ok true from rfl]
    dsimp only
    rw [e2]
    dsimp only
    rw [lcM_map l fun b hb => h b (List.mem_cons_of_mem _ hb)]
    rfl
/-- a comprehension whose items are of one kind -/
theorem lcM_kind {p : Pat} {tc : EnvD → ER Bool} {m : EnvD → ER D} {ρ0 : EnvD} {α : Type} (f : α → D) : ∀ (ds : List D), (∀ d ∈ ds, ∃ ρ1 b, bindP p d ρ0 = some ρ1 ∧ tc ρ1 = .ok b ∧ (b = true → ∃ a, m ρ1 = .ok (f a))) → ∃ as : List α, as.length ≤ ds.length ∧ lcM p tc m ρ0 ds = .ok (as.map f)
  | [], _ => ⟨[], Nat.le_refl _, rfl⟩
  | d :: ds, h => by
    obtain ⟨ρ1, b, e1, e2, e3⟩ := h d (List.mem_cons_self ..)
    obtain ⟨as, hl, e⟩ := lcM_kind f ds fun x hx => h x (List.mem_cons_of_mem _ hx)
    cases b with
    | true =>
      obtain ⟨a, e3⟩ := e3 rfl
      refine ⟨a :: as, by simp; omega, ?_⟩
      unfold lcM
      rw [e1]
      dsimp only
      rw [e2]
      dsimp only
      rw [e3]
      dsimp only
      rw [e]
      rfl
    | false =>
      refine ⟨as, by simp; omega, ?_⟩
      unfold lcM
      rw [e1]
      dsimp only
      rw [e2]
      exact e
def isT : ER D → Bool
  | .ok (.bool b) => b
  | _ => false
theorem isT_eq {r : ER D} (h : isT r = true) : r = .ok (.bool true) := by
  match r, h with
  | .ok (.bool true), _ => rfl
end Z

namespace Z
open PySem PySem.Spec PyProof.Rows L2
/-! ### what the top leaves, by looks that the kernel reckons -/
mutual
def relD (K : PySem.W.Frag) : D → Value → Bool
  | .none, .none => true
  | .bool b, .bool c => b == c
  | .int i, .int j _ => decide (i = j)
  | .str x, .str y _ => decide (x = y)
  | .tuple ds, .ref a => (match K.lookup a with
    | some ⟨.type c, _, .seq its _, _⟩ => decide (c = "tuple") && (decide (its.size ≤ sizeLine) && relDs K ds its.toList)
    | _ => false)
  | .list ds, .ref a => (match K.lookup a with
    | some ⟨.type c, none, .seq its _, _⟩ => decide (c = "list") && (decide (its.size ≤ sizeLine) && relDs K ds its.toList)
    | _ => false)
  | _, _ => false
def relDs (K : PySem.W.Frag) : List D → List Value → Bool
  | [], [] => true
  | d :: ds, u :: us => relD K d u && relDs K ds us
  | _, _ => false
end
mutual
theorem relD_ok {K : PySem.W.Frag} : ∀ (d : D) (u : Value), relD K d u = true → ∃ v, RelV v u ∧ ∀ F, Dp K F v d
  | .none, u, h => by
    cases u with
    | none => exact ⟨.non, rfl, fun _ => .non⟩
    | _ => simp [relD] at h
  | .bool b, u, h => by
    cases u with
    | bool c =>
      have e : b = c := by simpa [relD] using h
      subst e
      exact ⟨.bl b, rfl, fun _ => .bl b⟩
    | _ => simp [relD] at h
  | .int i, u, h => by
    cases u with
    | int c t =>
      have e : i = c := by simpa [relD] using h
      subst e
      exact ⟨.int i, ⟨t, rfl⟩, fun _ => .int i⟩
    | _ => simp [relD] at h
  | .str i, u, h => by
    cases u with
    | str c t =>
      have e : i = c := by simpa [relD] using h
      subst e
      exact ⟨.str i, ⟨t, rfl⟩, fun _ => .str i⟩
    | _ => simp [relD] at h
  | .tuple ds, u, h => by
    cases u with
    | ref a =>
      unfold relD at h
      split at h
      · rename_i c od its n sl e
        simp only [Bool.and_eq_true, decide_eq_true_eq] at h
        obtain ⟨h1, h2, h3⟩ := h
        obtain ⟨vs, h4, h5⟩ := relDs_ok ds its.toList h3
        exact ⟨.ref a, rfl, fun F => .tup (.inr ⟨_, its, n, e, by rw [h1], rfl, h2, h4⟩) (h5 F)⟩
      · cases h
    | _ => simp [relD] at h
  | .list ds, u, h => by
    cases u with
    | ref a =>
      unfold relD at h
      split at h
      · rename_i c its n sl e
        simp only [Bool.and_eq_true, decide_eq_true_eq] at h
        obtain ⟨h1, h2, h3⟩ := h
        obtain ⟨vs, h4, h5⟩ := relDs_ok ds its.toList h3
        exact ⟨.ref a, rfl, fun F => .lst (.inr ⟨_, its, n, e, by rw [h1], rfl, rfl, h2, h4⟩) (h5 F)⟩
      · cases h
    | _ => simp [relD] at h
  | .dict _, u, h => by simp [relD] at h
theorem relDs_ok {K : PySem.W.Frag} : ∀ (ds : List D) (us : List Value), relDs K ds us = true → ∃ vs, Vals vs us ∧ ∀ F, DpAll K F vs ds
  | [], us, h => by
    cases us with
    | nil => exact ⟨[], .nil, fun _ => .nil⟩
    | cons => simp [relDs] at h
  | d :: ds, us, h => by
    cases us with
    | nil => simp [relDs] at h
    | cons u us =>
      simp only [relDs, Bool.and_eq_true] at h
      obtain ⟨v, h1, h2⟩ := relD_ok d u h.1
      obtain ⟨vs, h3, h4⟩ := relDs_ok ds us h.2
      exact ⟨v :: vs, .cons h1 h3, fun F => .cons (h2 F) (h4 F)⟩
end
/-- one look -/
inductive Look' where
  | fn (x : Str)
  | free (x : Str)
  | con (x : Str) (d : D)
  | exc (x : Str)
  | catch (h x : Str) (b : Bool)
  | isi (t x : Str) (own : Bool) (ty : String) (b : Bool)
def clsV (K : PySem.W.Frag) (t : Str) (own : Bool) (ty : String) : Value := if own = true then .ref (He.ga K t) else .type ty
def excB (K : PySem.W.Frag) (C : Addr) : Bool :=
  He.eqO (PySem.W.findIn K (.ref C) "__getattribute__") (some (some (.builtin "BaseException.__getattribute__"))) && (He.eqO (PySem.W.findIn K (.ref C) "__getattr__") (some none) && (decide (PySem.W.subIn K (.ref C) (.type "BaseException") = some true) && (PySem.W.hasDictIn K C &&
    (He.eqO (PySem.W.findIn K (.ref C) "__class__") (some (some (.builtin "object.__class__"))) && (He.eqO (PySem.W.specialIn K (.builtin "object.__class__") "__get__") (some (some (.builtin "getset_descriptor.__get__"))) && (decide (PySem.W.takesIn K (.builtin "object.__class__") = some true) && decide (PySem.W.mroIn K C (.type "object") = some true)))))))
def Look'.ok (K : PySem.W.Frag) : Look' → Bool
  | .fn x => (He.Fa.glo x).ok K && PySem.W.keepIn K (.ref (He.ga K x))
  | .free x => (He.Fa.free x).ok K
  | .con x d => (match PySem.W.nsIn K mainGlobals x with
    | some (some u) => relD K d u
    | _ => false)
  | .exc x => (He.Fa.glo x).ok K && (He.Fa.exc x).ok K
  | .catch h x b => (He.Fa.glo h).ok K && ((He.Fa.glo x).ok K && (He.Fa.exm x h b).ok K)
  | .isi t x own ty b => (He.Fa.glo x).ok K && ((if own = true then (He.Fa.glo t).ok K else (He.Fa.free t).ok K && decide (bootBuiltins t = some (.type ty))) && (decide (PySem.W.kitOne K (.ref (He.ga K x)) (clsV K t own ty) = some b) && excB K (He.ga K x)))
abbrev AlZ : Type := Bool × List He.FnV
def obsZ (ls : List Look') (fn : List He.FnD) (K : PySem.W.Frag) : AlZ := ((ls.all fun l => l.ok K) && fn.all fun d => (He.Fa.code d.at_ d.qual).ok K, fn.map fun d => He.fnObs K d.at_)
def valZ (fn : List He.FnD) : AlZ := (true, fn.map He.FnD.val)
def SaysZ (ls : List Look') (fn : List He.FnD) (K : PySem.W.Frag) : Prop := obsZ ls fn K = valZ fn
def obsZG (n : Nat) (ls : List Look') (fn : List He.FnD) (g : Addr → Option Obj) : AlZ := obsZ ls fn (He.frG g (He.asG g n))
def hookZ (n : Nat) (ls : List Look') (fn : List He.FnD) : PySem.W.Hook where
  α := AlZ
  obs := fun s => obsZG n ls fn s.heap.get?
  val := fun _ => valZ fn
  says := fun _ h => ∃ K, PySem.W.Frag.In K h ∧ SaysZ ls fn K
  of := fun _ _ e => ⟨_, He.frG_in, e⟩
  keeps := fun _ _ _ h k => h.elim fun K hc => ⟨K, PySem.W.Frag.In.keeps hc.1 k, hc.2⟩
theorem obsZ_eq {n : Nat} {ls : List Look'} {fn : List He.FnD} {g : Addr → Option Obj} {s : Shared} (h : ∀ a, g a = s.heap.get? a) : obsZG n ls fn g = (hookZ n ls fn).obs s := by
  obtain rfl : g = s.heap.get? := funext h
  rfl
section
variable {ls : List Look'} {fn : List He.FnD} {K : PySem.W.Frag} {h : Heap} {mg : Str → Option Value}
theorem SaysZ.look (c : SaysZ ls fn K) {l : Look'} (hl : l ∈ ls) : l.ok K = true := by
  have c1 : ((ls.all fun l => l.ok K) && fn.all fun d => (He.Fa.code d.at_ d.qual).ok K) = true := congrArg (·.1) c
  exact List.all_eq_true.mp (Bool.and_eq_true_iff.mp c1).1 l hl
theorem SaysZ.fn_ (c : SaysZ ls fn K) {d : He.FnD} {i : Nat} (hi : fn[i]? = some d) :
    ∃ oc od osl kV doc pm an cdv ct, K.lookup (He.fAd K d.at_) = some ⟨oc, od, .func (PySem.W.fnOf d.name d.qual d.params d.body d.scope .none kV doc pm an cdv ct), osl⟩ ∧ PySem.W.codeIn K cdv d.qual = true := by
  have c1 : ((ls.all fun l => l.ok K) && fn.all fun d => (He.Fa.code d.at_ d.qual).ok K) = true := congrArg (·.1) c
  have c2 := List.all_eq_true.mp (Bool.and_eq_true_iff.mp c1).2 d (List.mem_of_getElem? hi)
  have c3 : (fn.map fun d => He.fnObs K d.at_)[i]? = (fn.map He.FnD.val)[i]? := by
    have z : fn.map (fun d => He.fnObs K d.at_) = fn.map He.FnD.val := congrArg (·.2) c
    rw [z]
  rw [List.getElem?_map, List.getElem?_map, hi] at c3
  exact He.fn_ok (Option.some.inj c3) c2
def fnD (x : Str) (st : Stmt) : He.FnD := ⟨(x, none), x, x, defArgs st, defBody st, defScope st⟩
theorem SaysZ.fun_ (X : K.In h) (G : h.Ns mainGlobals mg) (c : SaysZ ls fn K) {x : Str} {st : Stmt} (i j : Nat) (hi : fn[i]? = some (fnD x st)) (hj : ls[j]? = some (.fn x)) : ∃ f fd, Fun K x x st f fd ∧ mg x = some (.ref f) := by
  obtain ⟨oc, od, osl, kV, doc, pm, an, cdv, ct, h1, h2⟩ := c.fn_ hi
  have h3 : ((He.Fa.glo x).ok K && PySem.W.keepIn K (.ref (He.ga K x))) = true := c.look (List.mem_of_getElem? hj)
  obtain ⟨h4, h5⟩ := Bool.and_eq_true_iff.mp h3
  exact ⟨_, _, fun_mk h1 h2 h5, He.glo_ok X G h4⟩
theorem SaysZ.free_ (X : K.In h) (G : h.Ns mainGlobals mg) (c : SaysZ ls fn K) {x : Str} (j : Nat) (hj : ls[j]? = some (.free x)) : mg x = none := He.free_ok X G (c.look (List.mem_of_getElem? hj))
theorem SaysZ.con_ (X : K.In h) (G : h.Ns mainGlobals mg) (c : SaysZ ls fn K) {x : Str} {d : D} (j : Nat) (hj : ls[j]? = some (.con x d)) : ConstK K mg x d := by
  have h3 : (match PySem.W.nsIn K mainGlobals x with
    | some (some u) => relD K d u
    | _ => false) = true := c.look (List.mem_of_getElem? hj)
  split at h3
  · rename_i u e
    obtain ⟨v, h4, h5⟩ := relD_ok d u h3
    exact ⟨u, v, PySem.W.mg_of X G e, h4, h5⟩
  · cases h3
theorem SaysZ.exc_ (X : K.In h) (G : h.Ns mainGlobals mg) (c : SaysZ ls fn K) {x : Str} (j : Nat) (hj : ls[j]? = some (.exc x)) : ExcOk K mg x := by
  have h3 : ((He.Fa.glo x).ok K && (He.Fa.exc x).ok K) = true := c.look (List.mem_of_getElem? hj)
  obtain ⟨h4, h5⟩ := Bool.and_eq_true_iff.mp h3
  obtain ⟨e1, e2, e3, e4⟩ := He.exc_ok h5
  exact ⟨_, He.glo_ok X G h4, e1, e2, e3, e4⟩
theorem look_some {α : Type} {l : List (Str × α)} {x : Str} {b : α} (h : l.lookup x = some b) : (x, b) ∈ l := by
  induction l with
  | nil => cases h
  | cons p r ih =>
    obtain ⟨y, c⟩ := p
    rw [List.lookup_cons] at h
    split at h
    · rename_i e
      cases h
      rw [eq_of_beq e]
      exact List.mem_cons_self
    · exact List.mem_cons_of_mem _ (ih h)
theorem seg_mem {α β : Type} {ls : List α} {t : List β} {f : β → α} {j : Nat} (h : (ls.drop j).take t.length = t.map f) {p : β} (hp : p ∈ t) : f p ∈ ls := by
  have h1 : f p ∈ (ls.drop j).take t.length := by
    rw [h]
    exact List.mem_map_of_mem hp
  exact List.mem_of_mem_drop (List.mem_of_mem_take h1)
theorem SaysZ.catch_ (X : K.In h) (G : h.Ns mainGlobals mg) (c : SaysZ ls fn K) {hn : Str} {t : List (Str × Bool)} (hg : mg hn = some (.ref (He.ga K hn))) (j : Nat) (ht : (ls.drop j).take t.length = t.map fun p => Look'.catch hn p.1 p.2) : Catch K mg hn (fun x => t.lookup x) := by
  refine ⟨He.ga K hn, hg, fun x b hb C hC => ?_⟩
  have h3 : ((He.Fa.glo hn).ok K && ((He.Fa.glo x).ok K && (He.Fa.exm x hn b).ok K)) = true := c.look (seg_mem ht (look_some hb))
  obtain ⟨h4, h5⟩ := Bool.and_eq_true_iff.mp h3
  obtain ⟨h6, h7⟩ := Bool.and_eq_true_iff.mp h5
  have e := (He.glo_ok X G h6).symm.trans hC
  cases e
  exact He.exm_ok h7
theorem excB_ok {C : Addr} (h : excB K C = true) : ExcC K C := by
  unfold excB at h
  simp only [Bool.and_eq_true, decide_eq_true_eq] at h
  obtain ⟨h1, h2, h3, h4, h5, h6, h7, h8⟩ := h
  exact ⟨He.eqO_ok h1, He.eqO_ok h2, h3, h4, He.eqO_ok h5, He.eqO_ok h6, h7, h8⟩
theorem SaysZ.isiOwn (X : K.In h) (G : h.Ns mainGlobals mg) (c : SaysZ ls fn K) {T : Str} {t : List (Str × Bool)} (hg : mg T = some (.ref (He.ga K T))) (j : Nat) (ht : (ls.drop j).take t.length = t.map fun p => Look'.isi T p.1 true "" p.2) : IsiT K mg T (fun x => t.lookup x) := by
  refine ⟨.ref (He.ga K T), .ref (He.ga K T), .inl hg, rfl, fun u r => r, fun x b hb C hC => ?_⟩
  have h3 : ((He.Fa.glo x).ok K && ((if true = true then (He.Fa.glo T).ok K else (He.Fa.free T).ok K && decide (bootBuiltins T = some (.type ""))) && (decide (PySem.W.kitOne K (.ref (He.ga K x)) (clsV K T true "") = some b) && excB K (He.ga K x)))) = true := c.look (seg_mem ht (look_some hb))
  simp only [Bool.and_eq_true, decide_eq_true_eq] at h3
  obtain ⟨h4, _, h6, h7⟩ := h3
  have e := (He.glo_ok X G h4).symm.trans hC
  cases e
  exact ⟨h6, excB_ok h7⟩
theorem SaysZ.isiTy (X : K.In h) (G : h.Ns mainGlobals mg) (c : SaysZ ls fn K) {T : Str} {ty : String} {t : List (Str × Bool)} (hg : mg T = none) (hb : bootBuiltins T = some (.type ty)) (hn : T ≠ "__name__") (j : Nat) (ht : (ls.drop j).take t.length = t.map fun p => Look'.isi T p.1 false ty p.2) : IsiT K mg T (fun x => t.lookup x) := by
  refine ⟨.ty ty, .type ty, .inr ⟨hg, hb, hn⟩, rfl, fun u r => r, fun x b hb' C hC => ?_⟩
  have h3 : ((He.Fa.glo x).ok K && ((if false = true then (He.Fa.glo T).ok K else (He.Fa.free T).ok K && decide (bootBuiltins T = some (.type ty))) && (decide (PySem.W.kitOne K (.ref (He.ga K x)) (clsV K T false ty) = some b) && excB K (He.ga K x)))) = true := c.look (seg_mem ht (look_some hb'))
  simp only [Bool.and_eq_true, decide_eq_true_eq] at h3
  obtain ⟨h4, _, h6, h7⟩ := h3
  have e := (He.glo_ok X G h4).symm.trans hC
  cases e
  exact ⟨h6, excB_ok h7⟩
theorem SaysZ.glo_ (X : K.In h) (G : h.Ns mainGlobals mg) (c : SaysZ ls fn K) {x : Str} (j : Nat) (hj : ls[j]? = some (.exc x)) : mg x = some (.ref (He.ga K x)) := by
  have h3 : ((He.Fa.glo x).ok K && (He.Fa.exc x).ok K) = true := c.look (List.mem_of_getElem? hj)
  exact He.glo_ok X G (Bool.and_eq_true_iff.mp h3).1
end
/-! ### the end of a law -/
theorem cx_false {P : Program} {w : World} {H : Hp} {s : Shared} {e : Value} {s' : Shared} (h : L2.CX P w [] H s (fun _ _ _ => False) e s') : False := by
  obtain ⟨_, _, _, _, _, _, _, _, _, _, _, _, z⟩ := h
  exact z
/-- the law's call, where no text is being written (turned from the kit's rule for FnOk) -/
theorem law_callG {P : Program} {w : World} {K : PySem.W.Frag} {mg mb : Str → Option Value} {CX : CXT} {k : Nat} {fa a : Addr} {fd : FuncData} {x : Str} {sp : Sp} {s₁ : Shared} {vs : List Value} {ns : List Int}
    (KX : K.In s₁.heap) (hns : s₁.heap.Ns mainGlobals mg) (hb : s₁.heap.Ns builtinsNs mb) (hbb : ∀ x : Str, x ≠ "__name__" → mb x = bootBuiltins x) (hlim : s₁.heap.NoLimit) (hg : s₁.gens = #[])
    (ha : s₁.heap.get? a = some { cls := .type "list", data := .seq vs.toArray }) (hi : IntsAre vs ns) (hl : ns.length ≤ sizeLine) (hr : Room k callerA)
    (F : ∀ base : Heap, K.In base → base.Ns mainGlobals mg → FnG P w K mg base CX k fa fd [x] sp) (hbind : ∀ (s : Shared) (u : Value), BindsTo s fd ⟨[u], []⟩ [(x, u)])
    (hsp : ∀ H : Hp, Only H → SqL K H a (ns.map V.int) → sp [.ref a] H (fun v _ => v = .bl true) fun _ _ _ => False)
    (hCX : ∀ H e s', CX [] H s₁ (fun _ _ _ => False) e s' → False) :
    codeAny (model P w) callerA (.call (.ref fa) ⟨[.ref a], []⟩) (fun r s' => r = .ok (.ret (.bool true)) ∧ OldK s₁.heap s'.heap ∧ s'.os = s₁.os ∧ AllBare s'.gens) s₁ := by
  have rv := vals_ints hi
  have lenV := hi.length
  -- from an abstract heap in which nothing but the script may be tracked
  have core : ∀ H : Hp, Only H → SqL K H a (ns.map V.int) → HOk P w H s₁.heap → (∀ b, H b ≠ none → b = a) → (H a ≠ none → K.lookup a = none) →
      codeAny (model P w) callerA (.call (.ref fa) ⟨[.ref a], []⟩) (fun r s' => r = .ok (.ret (.bool true)) ∧ OldK s₁.heap s'.heap ∧ s'.os = s₁.os ∧ AllBare s'.gens) s₁ := by
    intro H hO hS hok hA hK
    have base_of : ∀ {b : Addr} {o : Obj}, s₁.heap.get? b = some o → H b = none → (hidT s₁.heap H).get? b = some o := fun e n => hidT_get e n
    have noA : ∀ {b : Addr} {o : Obj} {es : Array DictEntry} {ep : Nat}, s₁.heap.get? b = some o → o.data = .dict es ep → H b = none := fun {b o es ep} e d => by
      cases q : H b with
      | none => rfl
      | some u =>
        have e' : b = a := hA b (by rw [q]; simp)
        subst e'
        rw [ha] at e; cases e
        have d' : Data.seq vs.toArray _ = Data.dict es ep := d
        cases d'
    have nsK : ∀ {b : Addr} {m : Str → Option Value}, s₁.heap.Ns b m → (hidT s₁.heap H).Ns b m := fun {b m} ⟨o, es, ep, e, d, r⟩ => ⟨o, es, ep, base_of e (noA e d), d, r⟩
    have hKb : K.In (hidT s₁.heap H) := fun b o e => base_of (KX b o e) (by
      cases q : H b with
      | none => rfl
      | some u =>
        have e' : b = a := hA b (by rw [q]; simp)
        subst e'
        rw [hK (by rw [q]; simp)] at e; cases e)
    have hM : Mod K mg (hidT s₁.heap H) := ⟨hKb, nsK hns, ⟨mb, nsK hb, hbb⟩, let ⟨mc, h1, h2⟩ := hlim; ⟨mc, nsK h1, h2⟩⟩
    have e0 : Env0 P w K mg (hidT s₁.heap H) callerA [] s₁ H := ⟨rfl, hM, fun b o e => of_hidT e, Nat.le_of_eq (hidT_size _ _), trivial, fun b hb => absurd (show b ∈ ([] : List Addr) from hb) (by simp), hok, .of_eq hg⟩
    refine codeAny_mono ((F _ hKb (nsK hns)).run callerA [] s₁ H ⟨[.ref a], []⟩ [.ref a] [.ref a] _ _ hr rfl e0 (hbind s₁ (.ref a)) (.cons rfl .nil) (hsp H hO hS)) fun r s' h => ?_
    cases r with
    | error e => exact (hCX H e s' h).elim
    | ok fl =>
      cases fl with
      | next => exact False.elim h
      | brk => exact False.elim h
      | cont => exact False.elim h
      | ret u =>
        obtain ⟨v, H', os, bare, un, hok', r', q⟩ := h
        have q' : v = .bl true := q
        subst q'
        obtain rfl : u = Value.bool true := r'
        refine ⟨rfl, OldK.of_keep fun b o e => ?_, os, bare⟩
        cases q : H b with
        | none => exact un.keep b o e q (by intro z; exact absurd (show b ∈ ([] : List Addr) from z) (by simp)) (by simp)
        | some u =>
          rcases hO b with z | ⟨ob, xs, z⟩
          · rw [q] at z; cases z
          · have z2 := un.frzs b ob _ z
            obtain ⟨e1, _⟩ := hok b _ z
            obtain ⟨e2, _⟩ := hok' b _ z2
            rw [e] at e1; cases e1
            exact e2
  cases hk : K.lookup a with
  | some o =>
    -- the script is one of the module's own objects
    have e := KX a o hk
    rw [ha] at e
    cases e
    refine core (fun _ => none) (fun _ => .inl rfl) (.inr ⟨_, vs.toArray, _, hk, rfl, rfl, rfl, by rw [List.size_toArray, lenV]; exact hl, by simpa using rv⟩) (fun b u z => by have z' : (none : Option HO) = some u := z; cases z') (fun b z => absurd rfl z) fun z => absurd rfl z
  | none =>
    refine core (fun b => if b = a then some (.frz { cls := .type "list", data := .seq vs.toArray } (.lst (ns.map V.int))) else none) (fun b => ?_) (.inl (.inr ⟨{ cls := .type "list", data := .seq vs.toArray }, if_pos rfl⟩)) (fun b u z => ?_) (fun b z => ?_) fun _ => hk
    · by_cases hb : b = a
      · exact .inr ⟨_, _, if_pos hb⟩
      · exact .inl (if_neg hb)
    · by_cases hb : b = a
      · have z' := (if_pos hb).symm.trans z
        cases z'
        subst hb
        exact ⟨ha, by rw [List.length_map]; exact hl, vs, _, rv, ha⟩
      · have z' := (if_neg hb).symm.trans z
        cases z'
    · by_cases hb : b = a
      · exact hb
      · exact absurd (if_neg hb) z
/-- the law's def -/
structure LawFn (K : PySem.W.Frag) (mg : Str → Option Value) (x : Str) (k : Nat) (g : List D → ER D) : Prop where
  ex : ∃ f fd y, mg x = some (.ref f) ∧ (∀ (s : Shared) (u : Value), BindsTo s fd ⟨[u], []⟩ [(y, u)]) ∧ ∀ (P : Program) (w : World) (base : Heap), FnG P w K mg base (L2.CX P w) k f fd [y] (spD K mg 1 g)
theorem lawFn_mk {K : PySem.W.Frag} {mg : Str → Option Value} {x qual y : Str} {st : Stmt} {f : Addr} {fd : FuncData} {N : List Str} {k : Nat} {m : EnvD → SR} {g : List D → ER D} (F : Fun K x qual st f fd) (hm : mg x = some (.ref f)) (S : FnScope N [y] (defScope st))
    (hbd : ∀ (kV doc pm : Value) (an : Option Addr) (cdv ct : Value) (us : List Value), us.length = [y].length → bindArgs (PySem.W.fnOf x qual (defArgs st) (defBody st) (defScope st) .none kV doc pm an cdv ct) ⟨us, []⟩ = pure ([y].zip us)) (hg : g = callM N.length 1 m)
    (hb : ∀ (P : Program) (w : World) (base : Heap) (cdv : Value) (A : Around) (outer : List Env) (s : Shared) (H : Hp) (E : XK), CB (cxD P w K mg base N qual (defScope st) f cdv A outer s H E) (fun c d _ H => E c d H) k →
      DS (cxD P w K mg base N qual (defScope st) f cdv A outer s H E) (fun c d _ H => E c d H) ⟨[], [], .val⟩ [] [] (defBody st) m) : LawFn K mg x (k + 1) g :=
  ⟨f, fd, y, hm, fun s u => by
    obtain ⟨oc, od, kV, doc, pm, an, cdv, ct, osl, rfl, lk, hcd⟩ := F.ex
    exact BindsTo.of_eq (hbd kV doc pm an cdv ct [u] rfl), fun P w base => by rw [hg]; exact def_ok F S rfl (hb P w base)⟩
theorem walkZ {l : PySem.W.OpenLaw} {k : Nat} {q : Program} {loose : List Str} {XP : (Str → Option Value) → Heap → Prop} {YP : World → Heap → Prop} {d : DefRec} {m : List D → ER D} (hn : l.most = some 63) (hdf : d.params.defaults = []) (hr : Room k callerA)
    (F : ∀ (w : World) (mg : Str → Option Value) (h : Heap), YP w h → h.Ns mainGlobals mg → ∃ K : PySem.W.Frag, K.In h ∧ LawFn K mg d.name k m)
    (hm : ∀ ns : List Int, ns.length ≤ 63 → (∀ z ∈ ns, Builtin.Int.intBits z ≤ 1048576) → m [.list (ns.map PyData.int)] = .ok (.bool true)) :
    PySem.W.WalkO q loose XP YP l.row.toRowW d [] (fun f vs => PySem.call f vs) := by
  refine Att.attach_callB hn hdf ?_
  intro w s₀ s₁ mg mb fa o pm cd doc a vs ns G Y ho hd hcd hmg hobj hints hlen hbits hg
  obtain ⟨K, KX, c⟩ := F w mg _ Y G.T.g
  obtain ⟨f, fd, y, e1, hbind, hF⟩ := c.ex
  cases e1.symm.trans hmg
  have hl : ns.length ≤ sizeLine := Nat.le_trans hlen (by decide)
  refine law_callG (x := y) (fd := fd) (CX := L2.CX l.prog w) (sp := spD K mg 1 m) KX G.T.g G.T.b G.T.builtins G.T.nolimit hg hobj hints hl hr (fun base _ _ => hF _ _ _) hbind (fun H _ hS => ?_) (fun H e s' z => cx_false z)
  refine ⟨rfl, H, [.list (ns.map PyData.int)], Same.refl _, .cons (.lst hS (dpAll_ints ns)) .nil, ?_⟩
  rw [hm ns hlen hbits]
  exact fun v H' F' g dv => isBool_dp dv rfl
end Z

namespace K25
open PySem PySem.Spec PyProof.Rows L2 Z

def tp (i : Nat) : Stmt := PySem.Challenge.pw_sailloft_k25_margins.main.body.getD i (.Pass ⟨0, 0, 0, 0⟩)
def d_ZERO : D := .tuple [.int 0, .int 1]
def d_HALF : D := .tuple [.int 1, .int 2]
def d_FULL_SHARES : D := .int 12
def tc_OutOfRange : List (Str × Bool) := [("LoftError", false), ("OutOfRange", true)]
def catch_OutOfRange : Str → Option Bool := fun x => tc_OutOfRange.lookup x
def lks : List Look' := [.fn "common_divisor",
  .fn "make_ratio",
  .fn "whole_ratio",
  .fn "add_ratios",
  .fn "take_ratios",
  .fn "times_ratios",
  .fn "compare_ratios",
  .fn "grain_shares",
  .fn "cloth_strength",
  .fn "cross_product",
  .fn "double_area",
  .fn "piece_area",
  .fn "full_lefts",
  .fn "no_wear",
  .fn "worn_strength",
  .fn "part_holds",
  .fn "part_pulled",
  .fn "gust_margins",
  .fn "weakest_part",
  .fn "worst_gust",
  .fn "_law_numbers",
  .fn "_law_take",
  .fn "_law_common",
  .fn "_law_low",
  .fn "_law_below",
  .fn "_law_same",
  .fn "_law_name",
  .fn "_law_cloth",
  .fn "_law_vector",
  .fn "_law_grain",
  .fn "_law_strength",
  .fn "_law_shape",
  .fn "_law_gust",
  .fn "_law_margin",
  .fn "_law_margins",
  .fn "_law_weakest",
  .fn "_law_lefts",
  .fn "_law_one_gust",
  .fn "_law_no_gust",
  .fn "law",
  .con "ZERO" d_ZERO,
  .con "HALF" d_HALF,
  .con "FULL_SHARES" d_FULL_SHARES,
  .free "abs",
  .free "bool",
  .free "enumerate",
  .free "int",
  .free "isinstance",
  .free "len",
  .free "list",
  .free "min",
  .free "range",
  .free "str",
  .free "tuple",
  .free "zip",
  .exc "LoftError",
  .exc "OutOfRange",
  .catch "OutOfRange" "LoftError" false,
  .catch "OutOfRange" "OutOfRange" true]
def fns : List He.FnD := [fnD "common_divisor" (tp 5),
  fnD "make_ratio" (tp 6),
  fnD "whole_ratio" (tp 7),
  fnD "add_ratios" (tp 8),
  fnD "take_ratios" (tp 9),
  fnD "times_ratios" (tp 10),
  fnD "compare_ratios" (tp 11),
  fnD "grain_shares" (tp 13),
  fnD "cloth_strength" (tp 14),
  fnD "cross_product" (tp 16),
  fnD "double_area" (tp 19),
  fnD "piece_area" (tp 20),
  fnD "full_lefts" (tp 23),
  fnD "no_wear" (tp 24),
  fnD "worn_strength" (tp 25),
  fnD "part_holds" (tp 26),
  fnD "part_pulled" (tp 27),
  fnD "gust_margins" (tp 28),
  fnD "weakest_part" (tp 29),
  fnD "worst_gust" (tp 30),
  fnD "_law_numbers" (tp 32),
  fnD "_law_take" (tp 33),
  fnD "_law_common" (tp 34),
  fnD "_law_low" (tp 35),
  fnD "_law_below" (tp 36),
  fnD "_law_same" (tp 37),
  fnD "_law_name" (tp 38),
  fnD "_law_cloth" (tp 39),
  fnD "_law_vector" (tp 40),
  fnD "_law_grain" (tp 41),
  fnD "_law_strength" (tp 42),
  fnD "_law_shape" (tp 43),
  fnD "_law_gust" (tp 44),
  fnD "_law_margin" (tp 45),
  fnD "_law_margins" (tp 46),
  fnD "_law_weakest" (tp 47),
  fnD "_law_lefts" (tp 48),
  fnD "_law_one_gust" (tp 49),
  fnD "_law_no_gust" (tp 50),
  fnD "law" (tp 51)]
def nms0 : List PySem.Str := ["ZERO", "HALF", "FULL_SHARES", "common_divisor", "make_ratio", "whole_ratio", "add_ratios", "take_ratios", "times_ratios", "compare_ratios", "grain_shares", "cloth_strength", "cross_product", "double_area", "piece_area", "full_lefts", "no_wear", "worn_strength", "part_holds", "part_pulled", "gust_margins", "weakest_part", "worst_gust", "_law_numbers", "_law_take", "_law_common", "_law_low", "_law_below", "_law_same", "_law_name"]
def nms1 : List PySem.Str := ["_law_cloth", "_law_vector", "_law_grain", "_law_strength", "_law_shape", "_law_gust", "_law_margin", "_law_margins", "_law_weakest", "_law_lefts", "_law_one_gust", "_law_no_gust", "LoftError", "OutOfRange"]
abbrev R : PySem.W.OpenRow := PySem.W.OpenLaw.row PySem.Challenge.rw_sailloft_k25_margins
abbrev hk : PySem.W.Hook := hookZ 2 lks fns
def ob (s : PySem.W.SharedT) : AlZ := obsZG 2 lks fns (HandSHeadRun.getT s)
theorem ob_eq (s : PySem.W.SharedT) : ob s = hk.obs s.abs := obsZ_eq (HandSHeadRun.getT_eq s)
def names : List PySem.Str := nms0 ++ nms1
theorem run (w : World) : HandSHeadRun.RunEq R (PySem.W.view R.prog [51]) hk ob 2480 names w := by
  intro os
  kernel_rfl
/-- what the top leaves -/
structure Top (K : PySem.W.Frag) (mg : Str → Option Value) : Prop where
  f_common_divisor : ∃ f fd, Fun K "common_divisor" "common_divisor" (tp 5) f fd ∧ mg "common_divisor" = some (.ref f)
  f_make_ratio : ∃ f fd, Fun K "make_ratio" "make_ratio" (tp 6) f fd ∧ mg "make_ratio" = some (.ref f)
  f_whole_ratio : ∃ f fd, Fun K "whole_ratio" "whole_ratio" (tp 7) f fd ∧ mg "whole_ratio" = some (.ref f)
  f_add_ratios : ∃ f fd, Fun K "add_ratios" "add_ratios" (tp 8) f fd ∧ mg "add_ratios" = some (.ref f)
  f_take_ratios : ∃ f fd, Fun K "take_ratios" "take_ratios" (tp 9) f fd ∧ mg "take_ratios" = some (.ref f)
  f_times_ratios : ∃ f fd, Fun K "times_ratios" "times_ratios" (tp 10) f fd ∧ mg "times_ratios" = some (.ref f)
  f_compare_ratios : ∃ f fd, Fun K "compare_ratios" "compare_ratios" (tp 11) f fd ∧ mg "compare_ratios" = some (.ref f)
  f_grain_shares : ∃ f fd, Fun K "grain_shares" "grain_shares" (tp 13) f fd ∧ mg "grain_shares" = some (.ref f)
  f_cloth_strength : ∃ f fd, Fun K "cloth_strength" "cloth_strength" (tp 14) f fd ∧ mg "cloth_strength" = some (.ref f)
  f_cross_product : ∃ f fd, Fun K "cross_product" "cross_product" (tp 16) f fd ∧ mg "cross_product" = some (.ref f)
  f_double_area : ∃ f fd, Fun K "double_area" "double_area" (tp 19) f fd ∧ mg "double_area" = some (.ref f)
  f_piece_area : ∃ f fd, Fun K "piece_area" "piece_area" (tp 20) f fd ∧ mg "piece_area" = some (.ref f)
  f_full_lefts : ∃ f fd, Fun K "full_lefts" "full_lefts" (tp 23) f fd ∧ mg "full_lefts" = some (.ref f)
  f_no_wear : ∃ f fd, Fun K "no_wear" "no_wear" (tp 24) f fd ∧ mg "no_wear" = some (.ref f)
  f_worn_strength : ∃ f fd, Fun K "worn_strength" "worn_strength" (tp 25) f fd ∧ mg "worn_strength" = some (.ref f)
  f_part_holds : ∃ f fd, Fun K "part_holds" "part_holds" (tp 26) f fd ∧ mg "part_holds" = some (.ref f)
  f_part_pulled : ∃ f fd, Fun K "part_pulled" "part_pulled" (tp 27) f fd ∧ mg "part_pulled" = some (.ref f)
  f_gust_margins : ∃ f fd, Fun K "gust_margins" "gust_margins" (tp 28) f fd ∧ mg "gust_margins" = some (.ref f)
  f_weakest_part : ∃ f fd, Fun K "weakest_part" "weakest_part" (tp 29) f fd ∧ mg "weakest_part" = some (.ref f)
  f_worst_gust : ∃ f fd, Fun K "worst_gust" "worst_gust" (tp 30) f fd ∧ mg "worst_gust" = some (.ref f)
  f_law_numbers : ∃ f fd, Fun K "_law_numbers" "_law_numbers" (tp 32) f fd ∧ mg "_law_numbers" = some (.ref f)
  f_law_take : ∃ f fd, Fun K "_law_take" "_law_take" (tp 33) f fd ∧ mg "_law_take" = some (.ref f)
  f_law_common : ∃ f fd, Fun K "_law_common" "_law_common" (tp 34) f fd ∧ mg "_law_common" = some (.ref f)
  f_law_low : ∃ f fd, Fun K "_law_low" "_law_low" (tp 35) f fd ∧ mg "_law_low" = some (.ref f)
  f_law_below : ∃ f fd, Fun K "_law_below" "_law_below" (tp 36) f fd ∧ mg "_law_below" = some (.ref f)
  f_law_same : ∃ f fd, Fun K "_law_same" "_law_same" (tp 37) f fd ∧ mg "_law_same" = some (.ref f)
  f_law_name : ∃ f fd, Fun K "_law_name" "_law_name" (tp 38) f fd ∧ mg "_law_name" = some (.ref f)
  f_law_cloth : ∃ f fd, Fun K "_law_cloth" "_law_cloth" (tp 39) f fd ∧ mg "_law_cloth" = some (.ref f)
  f_law_vector : ∃ f fd, Fun K "_law_vector" "_law_vector" (tp 40) f fd ∧ mg "_law_vector" = some (.ref f)
  f_law_grain : ∃ f fd, Fun K "_law_grain" "_law_grain" (tp 41) f fd ∧ mg "_law_grain" = some (.ref f)
  f_law_strength : ∃ f fd, Fun K "_law_strength" "_law_strength" (tp 42) f fd ∧ mg "_law_strength" = some (.ref f)
  f_law_shape : ∃ f fd, Fun K "_law_shape" "_law_shape" (tp 43) f fd ∧ mg "_law_shape" = some (.ref f)
  f_law_gust : ∃ f fd, Fun K "_law_gust" "_law_gust" (tp 44) f fd ∧ mg "_law_gust" = some (.ref f)
  f_law_margin : ∃ f fd, Fun K "_law_margin" "_law_margin" (tp 45) f fd ∧ mg "_law_margin" = some (.ref f)
  f_law_margins : ∃ f fd, Fun K "_law_margins" "_law_margins" (tp 46) f fd ∧ mg "_law_margins" = some (.ref f)
  f_law_weakest : ∃ f fd, Fun K "_law_weakest" "_law_weakest" (tp 47) f fd ∧ mg "_law_weakest" = some (.ref f)
  f_law_lefts : ∃ f fd, Fun K "_law_lefts" "_law_lefts" (tp 48) f fd ∧ mg "_law_lefts" = some (.ref f)
  f_law_one_gust : ∃ f fd, Fun K "_law_one_gust" "_law_one_gust" (tp 49) f fd ∧ mg "_law_one_gust" = some (.ref f)
  f_law_no_gust : ∃ f fd, Fun K "_law_no_gust" "_law_no_gust" (tp 50) f fd ∧ mg "_law_no_gust" = some (.ref f)
  f_law : ∃ f fd, Fun K "law" "law" (tp 51) f fd ∧ mg "law" = some (.ref f)
  k_ZERO : ConstK K mg "ZERO" d_ZERO
  k_HALF : ConstK K mg "HALF" d_HALF
  k_FULL_SHARES : ConstK K mg "FULL_SHARES" d_FULL_SHARES
  b_abs : mg "abs" = none
  b_bool : mg "bool" = none
  b_enumerate : mg "enumerate" = none
  b_int : mg "int" = none
  b_isinstance : mg "isinstance" = none
  b_len : mg "len" = none
  b_list : mg "list" = none
  b_min : mg "min" = none
  b_range : mg "range" = none
  b_str : mg "str" = none
  b_tuple : mg "tuple" = none
  b_zip : mg "zip" = none
  x_LoftError : ExcOk K mg "LoftError"
  x_OutOfRange : ExcOk K mg "OutOfRange"
  h_OutOfRange : Catch K mg "OutOfRange" catch_OutOfRange
section
variable {P : Program} {w : World} {K : PySem.W.Frag} {mg : Str → Option Value} {base : Heap}
abbrev s_common_divisor : Stmt := tp 5
theorem sc_common_divisor : FnScope ["a", "b"] ["a", "b"] (defScope s_common_divisor) := ⟨rfl, rfl, rfl, by decide +kernel, rfl, by decide +kernel, by decide +kernel⟩
def b_common_divisor_l1 : EnvD → SR :=
  (sPar 0 1 [(eN 1), (e2 modD (eB intD [(eN 0)]) (eN 1))])
def b_common_divisor : EnvD → SR :=
  (sSeq (sSet 0 (eB absD [(eN 0)]))
  (sSeq (sSet 1 (eB absD [(eN 1)]))
  (sSeq (sWhile (fun _ => 1000000) (tV isBool (e2 neD (eN 1) (eC (.int 0))))
 b_common_divisor_l1)
  (sRet (eN 0)))))
def m_common_divisor : List D → ER D := callM 2 2 b_common_divisor
theorem c_common_divisor (T : Top K mg) : Callee P w K mg base "common_divisor" 1 2 m_common_divisor := by
  obtain ⟨f, fd, F, hm⟩ := T.f_common_divisor
  exact callee_mk F hm sc_common_divisor rfl (fun _ _ _ _ _ _ us hl => match us, hl with | [_, _], _ => rfl) rfl (fun cdv A outer s H E C => 
  (ds_cons (d1_set (i := 0) (M' := []) C.nd rfl (.inl rfl) (de_callB callD_abs T.b_abs bt_abs rfl (da_cons (de_name (i := 0) List.not_mem_nil rfl (.inl rfl)) da_nil)) rfl)
  (ds_cons (d1_set (i := 1) (M' := []) C.nd rfl (.inl rfl) (de_callB callD_abs T.b_abs bt_abs rfl (da_cons (de_name (i := 1) List.not_mem_nil rfl (.inl rfl)) da_nil)) rfl)
  (ds_cons (d1_while C (dt_cmp (opD_ne C.hu) (de_name (i := 1) List.not_mem_nil rfl (.inl rfl)) de_int (nomark _))
 (ds_one (d1_par (i := 0) (j := 1) C.calm C.nd rfl rfl (by decide) List.not_mem_nil List.not_mem_nil rfl rfl (da_cons (de_name (i := 1) List.not_mem_nil rfl (.inl rfl)) (da_cons (de_op opD_mod (de_callT callD_int T.b_int bt_int rfl (da_cons (de_name (i := 0) List.not_mem_nil rfl (.inl rfl)) da_nil)) (de_name (i := 1) List.not_mem_nil rfl (.inl rfl))) da_nil)) rfl)))
  (ds_one (d1_ret (de_name (i := 0) List.not_mem_nil rfl (.inl rfl))))))))
abbrev s_make_ratio : Stmt := tp 6
theorem sc_make_ratio : FnScope ["n", "d", "shared"] ["n", "d"] (defScope s_make_ratio) := ⟨rfl, rfl, rfl, by decide +kernel, rfl, by decide +kernel, by decide +kernel⟩
def b_make_ratio : EnvD → SR :=
  (sSeq (sIf (tV isBool (e2 eqD (eN 1) (eC (.int 0))))
 (sRaise "OutOfRange")
 sNx)
  (sSeq (sSet 2 (eF m_common_divisor [(eN 0), (eN 1)]))
  (sSeq (sIf (tV isBool (e2 ltD (eN 1) (eC (.int 0))))
 (sSet 2 (e1 negD (eN 2)))
 sNx)
  (sRet (eT [(e2 fdivD (eN 0) (eN 2)), (e2 fdivD (eN 1) (eN 2))])))))
def m_make_ratio : List D → ER D := callM 3 2 b_make_ratio
theorem c_make_ratio (T : Top K mg) : Callee P w K mg base "make_ratio" 2 2 m_make_ratio := by
  obtain ⟨f, fd, F, hm⟩ := T.f_make_ratio
  exact callee_mk F hm sc_make_ratio rfl (fun _ _ _ _ _ _ us hl => match us, hl with | [_, _], _ => rfl) rfl (fun cdv A outer s H E C => 
  (ds_cons (d1_if (dt_cmp (opD_eq C.hu) (de_name (i := 1) List.not_mem_nil rfl (.inl rfl)) de_int (nomark _))
 (ds_one (d1_raise C T.x_OutOfRange))
 ds_nil)
  (ds_cons (d1_set (i := 2) (M' := []) C.nd rfl (.inl rfl) (de_call C (c_common_divisor T) (by decide) (da_cons (de_name (i := 0) List.not_mem_nil rfl (.inl rfl)) (da_cons (de_name (i := 1) List.not_mem_nil rfl (.inl rfl)) da_nil)) rfl) rfl)
  (ds_cons (d1_if (dt_cmp (opD_lt C.hu) (de_name (i := 1) List.not_mem_nil rfl (.inl rfl)) de_int (nomark _))
 (ds_one (d1_set (i := 2) (M' := []) C.nd rfl (.inl rfl) (de_un unD_neg (de_name (i := 2) List.not_mem_nil rfl (.inl rfl))) rfl))
 ds_nil)
  (ds_one (d1_ret (de_tup (da_cons (de_op opD_fdiv (de_name (i := 0) List.not_mem_nil rfl (.inl rfl)) (de_name (i := 2) List.not_mem_nil rfl (.inl rfl))) (da_cons (de_op opD_fdiv (de_name (i := 1) List.not_mem_nil rfl (.inl rfl)) (de_name (i := 2) List.not_mem_nil rfl (.inl rfl))) da_nil)) (by decide))))))))
abbrev s_whole_ratio : Stmt := tp 7
theorem sc_whole_ratio : FnScope ["n"] ["n"] (defScope s_whole_ratio) := ⟨rfl, rfl, rfl, by decide +kernel, rfl, by decide +kernel, by decide +kernel⟩
def b_whole_ratio : EnvD → SR :=
  (sRet (eT [(eN 0), (eC (.int 1))]))
def m_whole_ratio : List D → ER D := callM 1 1 b_whole_ratio
theorem c_whole_ratio (T : Top K mg) : Callee P w K mg base "whole_ratio" 1 1 m_whole_ratio := by
  obtain ⟨f, fd, F, hm⟩ := T.f_whole_ratio
  exact callee_mk F hm sc_whole_ratio rfl (fun _ _ _ _ _ _ us hl => match us, hl with | [_], _ => rfl) rfl (fun cdv A outer s H E C => 
  (ds_one (d1_ret (de_tup (da_cons (de_name (i := 0) List.not_mem_nil rfl (.inl rfl)) (da_cons de_int da_nil)) (by decide)))))
abbrev s_add_ratios : Stmt := tp 8
theorem sc_add_ratios : FnScope ["a", "b"] ["a", "b"] (defScope s_add_ratios) := ⟨rfl, rfl, rfl, by decide +kernel, rfl, by decide +kernel, by decide +kernel⟩
def b_add_ratios : EnvD → SR :=
  (sRet (eF m_make_ratio [(e2 addD (e2 mulD (e2 atD (eN 0) (eC (.int 0))) (e2 atD (eN 1) (eC (.int 1)))) (e2 mulD (e2 atD (eN 1) (eC (.int 0))) (e2 atD (eN 0) (eC (.int 1))))), (e2 mulD (e2 atD (eN 0) (eC (.int 1))) (e2 atD (eN 1) (eC (.int 1))))]))
def m_add_ratios : List D → ER D := callM 2 2 b_add_ratios
theorem c_add_ratios (T : Top K mg) : Callee P w K mg base "add_ratios" 3 2 m_add_ratios := by
  obtain ⟨f, fd, F, hm⟩ := T.f_add_ratios
  exact callee_mk F hm sc_add_ratios rfl (fun _ _ _ _ _ _ us hl => match us, hl with | [_, _], _ => rfl) rfl (fun cdv A outer s H E C => 
  (ds_one (d1_ret (de_call C (c_make_ratio T) (by decide) (da_cons (de_op opD_add (de_op opD_mul (de_ix (de_name (i := 0) List.not_mem_nil rfl (.inl rfl)) de_int (fun _ _ => rfl)) (de_ix (de_name (i := 1) List.not_mem_nil rfl (.inl rfl)) de_int (fun _ _ => rfl))) (de_op opD_mul (de_ix (de_name (i := 1) List.not_mem_nil rfl (.inl rfl)) de_int (fun _ _ => rfl)) (de_ix (de_name (i := 0) List.not_mem_nil rfl (.inl rfl)) de_int (fun _ _ => rfl)))) (da_cons (de_op opD_mul (de_ix (de_name (i := 0) List.not_mem_nil rfl (.inl rfl)) de_int (fun _ _ => rfl)) (de_ix (de_name (i := 1) List.not_mem_nil rfl (.inl rfl)) de_int (fun _ _ => rfl))) da_nil)) rfl))))
abbrev s_take_ratios : Stmt := tp 9
theorem sc_take_ratios : FnScope ["a", "b"] ["a", "b"] (defScope s_take_ratios) := ⟨rfl, rfl, rfl, by decide +kernel, rfl, by decide +kernel, by decide +kernel⟩
def b_take_ratios : EnvD → SR :=
  (sRet (eF m_make_ratio [(e2 subD (e2 mulD (e2 atD (eN 0) (eC (.int 0))) (e2 atD (eN 1) (eC (.int 1)))) (e2 mulD (e2 atD (eN 1) (eC (.int 0))) (e2 atD (eN 0) (eC (.int 1))))), (e2 mulD (e2 atD (eN 0) (eC (.int 1))) (e2 atD (eN 1) (eC (.int 1))))]))
def m_take_ratios : List D → ER D := callM 2 2 b_take_ratios
theorem c_take_ratios (T : Top K mg) : Callee P w K mg base "take_ratios" 3 2 m_take_ratios := by
  obtain ⟨f, fd, F, hm⟩ := T.f_take_ratios
  exact callee_mk F hm sc_take_ratios rfl (fun _ _ _ _ _ _ us hl => match us, hl with | [_, _], _ => rfl) rfl (fun cdv A outer s H E C => 
  (ds_one (d1_ret (de_call C (c_make_ratio T) (by decide) (da_cons (de_op opD_sub (de_op opD_mul (de_ix (de_name (i := 0) List.not_mem_nil rfl (.inl rfl)) de_int (fun _ _ => rfl)) (de_ix (de_name (i := 1) List.not_mem_nil rfl (.inl rfl)) de_int (fun _ _ => rfl))) (de_op opD_mul (de_ix (de_name (i := 1) List.not_mem_nil rfl (.inl rfl)) de_int (fun _ _ => rfl)) (de_ix (de_name (i := 0) List.not_mem_nil rfl (.inl rfl)) de_int (fun _ _ => rfl)))) (da_cons (de_op opD_mul (de_ix (de_name (i := 0) List.not_mem_nil rfl (.inl rfl)) de_int (fun _ _ => rfl)) (de_ix (de_name (i := 1) List.not_mem_nil rfl (.inl rfl)) de_int (fun _ _ => rfl))) da_nil)) rfl))))
abbrev s_times_ratios : Stmt := tp 10
theorem sc_times_ratios : FnScope ["a", "b"] ["a", "b"] (defScope s_times_ratios) := ⟨rfl, rfl, rfl, by decide +kernel, rfl, by decide +kernel, by decide +kernel⟩
def b_times_ratios : EnvD → SR :=
  (sRet (eF m_make_ratio [(e2 mulD (e2 atD (eN 0) (eC (.int 0))) (e2 atD (eN 1) (eC (.int 0)))), (e2 mulD (e2 atD (eN 0) (eC (.int 1))) (e2 atD (eN 1) (eC (.int 1))))]))
def m_times_ratios : List D → ER D := callM 2 2 b_times_ratios
theorem c_times_ratios (T : Top K mg) : Callee P w K mg base "times_ratios" 3 2 m_times_ratios := by
  obtain ⟨f, fd, F, hm⟩ := T.f_times_ratios
  exact callee_mk F hm sc_times_ratios rfl (fun _ _ _ _ _ _ us hl => match us, hl with | [_, _], _ => rfl) rfl (fun cdv A outer s H E C => 
  (ds_one (d1_ret (de_call C (c_make_ratio T) (by decide) (da_cons (de_op opD_mul (de_ix (de_name (i := 0) List.not_mem_nil rfl (.inl rfl)) de_int (fun _ _ => rfl)) (de_ix (de_name (i := 1) List.not_mem_nil rfl (.inl rfl)) de_int (fun _ _ => rfl))) (da_cons (de_op opD_mul (de_ix (de_name (i := 0) List.not_mem_nil rfl (.inl rfl)) de_int (fun _ _ => rfl)) (de_ix (de_name (i := 1) List.not_mem_nil rfl (.inl rfl)) de_int (fun _ _ => rfl))) da_nil)) rfl))))
abbrev s_compare_ratios : Stmt := tp 11
theorem sc_compare_ratios : FnScope ["a", "b", "left", "right"] ["a", "b"] (defScope s_compare_ratios) := ⟨rfl, rfl, rfl, by decide +kernel, rfl, by decide +kernel, by decide +kernel⟩
def b_compare_ratios : EnvD → SR :=
  (sSeq (sSet 2 (e2 mulD (e2 atD (eN 0) (eC (.int 0))) (e2 atD (eN 1) (eC (.int 1)))))
  (sSeq (sSet 3 (e2 mulD (e2 atD (eN 1) (eC (.int 0))) (e2 atD (eN 0) (eC (.int 1)))))
  (sSeq (sIf (tV isBool (e2 ltD (eN 2) (eN 3)))
 (sRet (e1 negD (eC (.int 1))))
 sNx)
  (sSeq (sIf (tV isBool (e2 gtD (eN 2) (eN 3)))
 (sRet (eC (.int 1)))
 sNx)
  (sRet (eC (.int 0)))))))
def m_compare_ratios : List D → ER D := callM 4 2 b_compare_ratios
theorem c_compare_ratios (T : Top K mg) : Callee P w K mg base "compare_ratios" 1 2 m_compare_ratios := by
  obtain ⟨f, fd, F, hm⟩ := T.f_compare_ratios
  exact callee_mk F hm sc_compare_ratios rfl (fun _ _ _ _ _ _ us hl => match us, hl with | [_, _], _ => rfl) rfl (fun cdv A outer s H E C => 
  (ds_cons (d1_set (i := 2) (M' := []) C.nd rfl (.inl rfl) (de_op opD_mul (de_ix (de_name (i := 0) List.not_mem_nil rfl (.inl rfl)) de_int (fun _ _ => rfl)) (de_ix (de_name (i := 1) List.not_mem_nil rfl (.inl rfl)) de_int (fun _ _ => rfl))) rfl)
  (ds_cons (d1_set (i := 3) (M' := []) C.nd rfl (.inl rfl) (de_op opD_mul (de_ix (de_name (i := 1) List.not_mem_nil rfl (.inl rfl)) de_int (fun _ _ => rfl)) (de_ix (de_name (i := 0) List.not_mem_nil rfl (.inl rfl)) de_int (fun _ _ => rfl))) rfl)
  (ds_cons (d1_if (dt_cmp (opD_lt C.hu) (de_name (i := 2) List.not_mem_nil rfl (.inl rfl)) (de_name (i := 3) List.not_mem_nil rfl (.inl rfl)) (nomark _))
 (ds_one (d1_ret (de_un unD_neg de_int)))
 ds_nil)
  (ds_cons (d1_if (dt_cmp opD_gt (de_name (i := 2) List.not_mem_nil rfl (.inl rfl)) (de_name (i := 3) List.not_mem_nil rfl (.inl rfl)) (nomark _))
 (ds_one (d1_ret de_int))
 ds_nil)
  (ds_one (d1_ret de_int)))))))
abbrev s_grain_shares : Stmt := tp 13
theorem sc_grain_shares : FnScope ["grain", "pull", "dot", "cross", "total"] ["grain", "pull"] (defScope s_grain_shares) := ⟨rfl, rfl, rfl, by decide +kernel, rfl, by decide +kernel, by decide +kernel⟩
def b_grain_shares : EnvD → SR :=
  (sSeq (sSet 2 (e2 addD (e2 mulD (e2 atD (eN 0) (eC (.int 0))) (e2 atD (eN 1) (eC (.int 0)))) (e2 mulD (e2 atD (eN 0) (eC (.int 1))) (e2 atD (eN 1) (eC (.int 1))))))
  (sSeq (sSet 3 (e2 subD (e2 mulD (e2 atD (eN 0) (eC (.int 0))) (e2 atD (eN 1) (eC (.int 1)))) (e2 mulD (e2 atD (eN 0) (eC (.int 1))) (e2 atD (eN 1) (eC (.int 0))))))
  (sSeq (sSet 4 (e2 mulD (e2 addD (e2 mulD (e2 atD (eN 0) (eC (.int 0))) (e2 atD (eN 0) (eC (.int 0)))) (e2 mulD (e2 atD (eN 0) (eC (.int 1))) (e2 atD (eN 0) (eC (.int 1))))) (e2 addD (e2 mulD (e2 atD (eN 1) (eC (.int 0))) (e2 atD (eN 1) (eC (.int 0)))) (e2 mulD (e2 atD (eN 1) (eC (.int 1))) (e2 atD (eN 1) (eC (.int 1)))))))
  (sRet (eT [(eF m_make_ratio [(e2 mulD (eN 2) (eN 2)), (eN 4)]), (eF m_make_ratio [(e2 mulD (eN 3) (eN 3)), (eN 4)])])))))
def m_grain_shares : List D → ER D := callM 5 2 b_grain_shares
theorem c_grain_shares (T : Top K mg) : Callee P w K mg base "grain_shares" 3 2 m_grain_shares := by
  obtain ⟨f, fd, F, hm⟩ := T.f_grain_shares
  exact callee_mk F hm sc_grain_shares rfl (fun _ _ _ _ _ _ us hl => match us, hl with | [_, _], _ => rfl) rfl (fun cdv A outer s H E C => 
  (ds_cons (d1_set (i := 2) (M' := []) C.nd rfl (.inl rfl) (de_op opD_add (de_op opD_mul (de_ix (de_name (i := 0) List.not_mem_nil rfl (.inl rfl)) de_int (fun _ _ => rfl)) (de_ix (de_name (i := 1) List.not_mem_nil rfl (.inl rfl)) de_int (fun _ _ => rfl))) (de_op opD_mul (de_ix (de_name (i := 0) List.not_mem_nil rfl (.inl rfl)) de_int (fun _ _ => rfl)) (de_ix (de_name (i := 1) List.not_mem_nil rfl (.inl rfl)) de_int (fun _ _ => rfl)))) rfl)
  (ds_cons (d1_set (i := 3) (M' := []) C.nd rfl (.inl rfl) (de_op opD_sub (de_op opD_mul (de_ix (de_name (i := 0) List.not_mem_nil rfl (.inl rfl)) de_int (fun _ _ => rfl)) (de_ix (de_name (i := 1) List.not_mem_nil rfl (.inl rfl)) de_int (fun _ _ => rfl))) (de_op opD_mul (de_ix (de_name (i := 0) List.not_mem_nil rfl (.inl rfl)) de_int (fun _ _ => rfl)) (de_ix (de_name (i := 1) List.not_mem_nil rfl (.inl rfl)) de_int (fun _ _ => rfl)))) rfl)
  (ds_cons (d1_set (i := 4) (M' := []) C.nd rfl (.inl rfl) (de_op opD_mul (de_op opD_add (de_op opD_mul (de_ix (de_name (i := 0) List.not_mem_nil rfl (.inl rfl)) de_int (fun _ _ => rfl)) (de_ix (de_name (i := 0) List.not_mem_nil rfl (.inl rfl)) de_int (fun _ _ => rfl))) (de_op opD_mul (de_ix (de_name (i := 0) List.not_mem_nil rfl (.inl rfl)) de_int (fun _ _ => rfl)) (de_ix (de_name (i := 0) List.not_mem_nil rfl (.inl rfl)) de_int (fun _ _ => rfl)))) (de_op opD_add (de_op opD_mul (de_ix (de_name (i := 1) List.not_mem_nil rfl (.inl rfl)) de_int (fun _ _ => rfl)) (de_ix (de_name (i := 1) List.not_mem_nil rfl (.inl rfl)) de_int (fun _ _ => rfl))) (de_op opD_mul (de_ix (de_name (i := 1) List.not_mem_nil rfl (.inl rfl)) de_int (fun _ _ => rfl)) (de_ix (de_name (i := 1) List.not_mem_nil rfl (.inl rfl)) de_int (fun _ _ => rfl))))) rfl)
  (ds_one (d1_ret (de_tup (da_cons (de_call C (c_make_ratio T) (by decide) (da_cons (de_op opD_mul (de_name (i := 2) List.not_mem_nil rfl (.inl rfl)) (de_name (i := 2) List.not_mem_nil rfl (.inl rfl))) (da_cons (de_name (i := 4) List.not_mem_nil rfl (.inl rfl)) da_nil)) rfl) (da_cons (de_call C (c_make_ratio T) (by decide) (da_cons (de_op opD_mul (de_name (i := 3) List.not_mem_nil rfl (.inl rfl)) (de_name (i := 3) List.not_mem_nil rfl (.inl rfl))) (da_cons (de_name (i := 4) List.not_mem_nil rfl (.inl rfl)) da_nil)) rfl) da_nil)) (by decide))))))))
abbrev s_cloth_strength : Stmt := tp 14
theorem sc_cloth_strength : FnScope ["cloth", "grain", "pull", "p", "q", "along", "across", "slant"] ["cloth", "grain", "pull"] (defScope s_cloth_strength) := ⟨rfl, rfl, rfl, by decide +kernel, rfl, by decide +kernel, by decide +kernel⟩
def b_cloth_strength : EnvD → SR :=
  (sSeq (sPat (.t [(.n 3), (.n 4)]) (eF m_grain_shares [(eN 1), (eN 2)]))
  (sSeq (sSet 5 (eF m_times_ratios [(eF m_whole_ratio [(e2 atD (eN 0) (eC (.int 1)))]), (eN 3)]))
  (sSeq (sSet 6 (eF m_times_ratios [(eF m_whole_ratio [(e2 atD (eN 0) (eC (.int 2)))]), (eN 4)]))
  (sSeq (sSet 7 (eF m_times_ratios [(eF m_whole_ratio [(e2 mulD (eC (.int 4)) (e2 atD (eN 0) (eC (.int 3))))]), (eF m_times_ratios [(eN 3), (eN 4)])]))
  (sRet (eF m_take_ratios [(eF m_add_ratios [(eN 5), (eN 6)]), (eN 7)]))))))
def m_cloth_strength : List D → ER D := callM 8 3 b_cloth_strength
theorem c_cloth_strength (T : Top K mg) : Callee P w K mg base "cloth_strength" 4 3 m_cloth_strength := by
  obtain ⟨f, fd, F, hm⟩ := T.f_cloth_strength
  exact callee_mk F hm sc_cloth_strength rfl (fun _ _ _ _ _ _ us hl => match us, hl with | [_, _, _], _ => rfl) rfl (fun cdv A outer s H E C => 
  (ds_cons (d1_pat (de_call C (c_grain_shares T) (by decide) (da_cons (de_name (i := 1) List.not_mem_nil rfl (.inl rfl)) (da_cons (de_name (i := 2) List.not_mem_nil rfl (.inl rfl)) da_nil)) rfl) (dg_tup C.calm (dgs_cons (dg_name (i := 3) List.not_mem_nil C.nd rfl (.inl rfl)) (dgs_cons (dg_name (i := 4) List.not_mem_nil C.nd rfl (.inl rfl)) dgs_nil)) rfl rfl))
  (ds_cons (d1_set (i := 5) (M' := []) C.nd rfl (.inl rfl) (de_call C (c_times_ratios T) (by decide) (da_cons (de_call C (c_whole_ratio T) (by decide) (da_cons (de_ix (de_name (i := 0) List.not_mem_nil rfl (.inl rfl)) de_int (fun _ _ => rfl)) da_nil) rfl) (da_cons (de_name (i := 3) List.not_mem_nil rfl (.inl rfl)) da_nil)) rfl) rfl)
  (ds_cons (d1_set (i := 6) (M' := []) C.nd rfl (.inl rfl) (de_call C (c_times_ratios T) (by decide) (da_cons (de_call C (c_whole_ratio T) (by decide) (da_cons (de_ix (de_name (i := 0) List.not_mem_nil rfl (.inl rfl)) de_int (fun _ _ => rfl)) da_nil) rfl) (da_cons (de_name (i := 4) List.not_mem_nil rfl (.inl rfl)) da_nil)) rfl) rfl)
  (ds_cons (d1_set (i := 7) (M' := []) C.nd rfl (.inl rfl) (de_call C (c_times_ratios T) (by decide) (da_cons (de_call C (c_whole_ratio T) (by decide) (da_cons (de_op opD_mul de_int (de_ix (de_name (i := 0) List.not_mem_nil rfl (.inl rfl)) de_int (fun _ _ => rfl))) da_nil) rfl) (da_cons (de_call C (c_times_ratios T) (by decide) (da_cons (de_name (i := 3) List.not_mem_nil rfl (.inl rfl)) (da_cons (de_name (i := 4) List.not_mem_nil rfl (.inl rfl)) da_nil)) rfl) da_nil)) rfl) rfl)
  (ds_one (d1_ret (de_call C (c_take_ratios T) (by decide) (da_cons (de_call C (c_add_ratios T) (by decide) (da_cons (de_name (i := 5) List.not_mem_nil rfl (.inl rfl)) (da_cons (de_name (i := 6) List.not_mem_nil rfl (.inl rfl)) da_nil)) rfl) (da_cons (de_name (i := 7) List.not_mem_nil rfl (.inl rfl)) da_nil)) rfl))))))))
abbrev s_cross_product : Stmt := tp 16
theorem sc_cross_product : FnScope ["u", "v"] ["u", "v"] (defScope s_cross_product) := ⟨rfl, rfl, rfl, by decide +kernel, rfl, by decide +kernel, by decide +kernel⟩
def b_cross_product : EnvD → SR :=
  (sRet (eF m_take_ratios [(eF m_times_ratios [(e2 atD (eN 0) (eC (.int 0))), (e2 atD (eN 1) (eC (.int 1)))]), (eF m_times_ratios [(e2 atD (eN 0) (eC (.int 1))), (e2 atD (eN 1) (eC (.int 0)))])]))
def m_cross_product : List D → ER D := callM 2 2 b_cross_product
theorem c_cross_product (T : Top K mg) : Callee P w K mg base "cross_product" 4 2 m_cross_product := by
  obtain ⟨f, fd, F, hm⟩ := T.f_cross_product
  exact callee_mk F hm sc_cross_product rfl (fun _ _ _ _ _ _ us hl => match us, hl with | [_, _], _ => rfl) rfl (fun cdv A outer s H E C => 
  (ds_one (d1_ret (de_call C (c_take_ratios T) (by decide) (da_cons (de_call C (c_times_ratios T) (by decide) (da_cons (de_ix (de_name (i := 0) List.not_mem_nil rfl (.inl rfl)) de_int (fun _ _ => rfl)) (da_cons (de_ix (de_name (i := 1) List.not_mem_nil rfl (.inl rfl)) de_int (fun _ _ => rfl)) da_nil)) rfl) (da_cons (de_call C (c_times_ratios T) (by decide) (da_cons (de_ix (de_name (i := 0) List.not_mem_nil rfl (.inl rfl)) de_int (fun _ _ => rfl)) (da_cons (de_ix (de_name (i := 1) List.not_mem_nil rfl (.inl rfl)) de_int (fun _ _ => rfl)) da_nil)) rfl) da_nil)) rfl))))
abbrev s_double_area : Stmt := tp 19
theorem sc_double_area : FnScope ["row", "total", "k"] ["row"] (defScope s_double_area) := ⟨rfl, rfl, rfl, by decide +kernel, rfl, by decide +kernel, by decide +kernel⟩
def b_double_area_l1 : EnvD → SR :=
  (sSet 1 (eF m_add_ratios [(eN 1), (eF m_cross_product [(e2 atD (eN 0) (e2 subD (eN 2) (eC (.int 1)))), (e2 atD (eN 0) (eN 2))])]))
def b_double_area : EnvD → SR :=
  (sSeq (sSet 1 (eC d_ZERO))
  (sSeq (sFor (.n 2) (iR1 (eB lenD [(eN 0)]))
 b_double_area_l1)
  (sRet (eN 1))))
def m_double_area : List D → ER D := callM 3 1 b_double_area
theorem c_double_area (T : Top K mg) : Callee P w K mg base "double_area" 5 1 m_double_area := by
  obtain ⟨f, fd, F, hm⟩ := T.f_double_area
  exact callee_mk F hm sc_double_area rfl (fun _ _ _ _ _ _ us hl => match us, hl with | [_], _ => rfl) rfl (fun cdv A outer s H E C => 
  (ds_cons (d1_set (i := 1) (M' := []) C.nd rfl (.inl rfl) (de_glob T.k_ZERO rfl) rfl)
  (ds_cons (d1_for C (di_rng1 T.b_range (de_callB callD_len T.b_len bt_len rfl (da_cons (de_name (i := 0) List.not_mem_nil rfl (.inl rfl)) da_nil))) (dg_name (i := 2) List.not_mem_nil C.nd rfl (.inl rfl))
 (ds_one (d1_set (i := 1) (M' := []) C.nd rfl (.inl rfl) (de_call C (c_add_ratios T) (by decide) (da_cons (de_name (i := 1) List.not_mem_nil rfl (.inl rfl)) (da_cons (de_call C (c_cross_product T) (by decide) (da_cons (de_ix (de_name (i := 0) List.not_mem_nil rfl (.inl rfl)) (de_op opD_sub (de_name (i := 2) List.not_mem_nil rfl (.inl rfl)) de_int) (fun _ _ => rfl)) (da_cons (de_ix (de_name (i := 0) List.not_mem_nil rfl (.inl rfl)) (de_name (i := 2) List.not_mem_nil rfl (.inl rfl)) (fun _ _ => rfl)) da_nil)) rfl) da_nil)) rfl) rfl)))
  (ds_one (d1_ret (de_name (i := 1) List.not_mem_nil rfl (.inl rfl)))))))
abbrev s_piece_area : Stmt := tp 20
theorem sc_piece_area : FnScope ["piece"] ["piece"] (defScope s_piece_area) := ⟨rfl, rfl, rfl, by decide +kernel, rfl, by decide +kernel, by decide +kernel⟩
def b_piece_area : EnvD → SR :=
  (sRet (eF m_times_ratios [(eF m_double_area [(eN 0)]), (eC d_HALF)]))
def m_piece_area : List D → ER D := callM 1 1 b_piece_area
theorem c_piece_area (T : Top K mg) : Callee P w K mg base "piece_area" 6 1 m_piece_area := by
  obtain ⟨f, fd, F, hm⟩ := T.f_piece_area
  exact callee_mk F hm sc_piece_area rfl (fun _ _ _ _ _ _ us hl => match us, hl with | [_], _ => rfl) rfl (fun cdv A outer s H E C => 
  (ds_one (d1_ret (de_call C (c_times_ratios T) (by decide) (da_cons (de_call C (c_double_area T) (by decide) (da_cons (de_name (i := 0) List.not_mem_nil rfl (.inl rfl)) da_nil) rfl) (da_cons (de_glob T.k_HALF rfl) da_nil)) rfl))))
abbrev s_full_lefts : Stmt := tp 23
theorem sc_full_lefts : FnScope ["parts", "part"] ["parts"] (defScope s_full_lefts) := ⟨rfl, rfl, rfl, by decide +kernel, rfl, by decide +kernel, by decide +kernel⟩
def b_full_lefts : EnvD → SR :=
  (sRet (eB tupleD [(eN' (eLc (.n 1) [1] (iD (eN 0)) tTrue (eF m_piece_area [(e2 atD (eN 1) (eC (.int 1)))])))]))
def m_full_lefts : List D → ER D := callM 2 1 b_full_lefts
theorem c_full_lefts (T : Top K mg) : Callee P w K mg base "full_lefts" 7 1 m_full_lefts := by
  obtain ⟨f, fd, F, hm⟩ := T.f_full_lefts
  exact callee_mk F hm sc_full_lefts rfl (fun _ _ _ _ _ _ us hl => match us, hl with | [_], _ => rfl) rfl (fun cdv A outer s H E C => 
  (ds_one (d1_ret (de_callT callD_tuple T.b_tuple bt_tuple rfl (da_cons (de_new (dn_lc (own := [("part", 1)]) C (di_val (de_name (i := 0) List.not_mem_nil rfl (.inl rfl))) (by rfl) rfl (by decide) (fun _ _ _ _ _ C => ⟨(dg_name (i := 1) List.not_mem_nil C.nd rfl (.inl rfl) (.inr rfl)), dts_nil, (de_call C (c_piece_area T) (by decide) (da_cons (de_ix (de_name (i := 1) List.not_mem_nil rfl (.inl rfl)) de_int (fun _ _ => rfl)) da_nil) rfl)⟩))) da_nil)))))
abbrev s_no_wear : Stmt := tp 24
theorem sc_no_wear : FnScope ["parts", "part"] ["parts"] (defScope s_no_wear) := ⟨rfl, rfl, rfl, by decide +kernel, rfl, by decide +kernel, by decide +kernel⟩
def b_no_wear : EnvD → SR :=
  (sRet (eB tupleD [(eN' (eLc (.n 1) [1] (iD (eN 0)) tTrue (eC (.int 0))))]))
def m_no_wear : List D → ER D := callM 2 1 b_no_wear
theorem c_no_wear (T : Top K mg) : Callee P w K mg base "no_wear" 1 1 m_no_wear := by
  obtain ⟨f, fd, F, hm⟩ := T.f_no_wear
  exact callee_mk F hm sc_no_wear rfl (fun _ _ _ _ _ _ us hl => match us, hl with | [_], _ => rfl) rfl (fun cdv A outer s H E C => 
  (ds_one (d1_ret (de_callT callD_tuple T.b_tuple bt_tuple rfl (da_cons (de_new (dn_lc (own := [("part", 1)]) C (di_val (de_name (i := 0) List.not_mem_nil rfl (.inl rfl))) (by rfl) rfl (by decide) (fun _ _ _ _ _ C => ⟨(dg_name (i := 1) List.not_mem_nil C.nd rfl (.inl rfl) (.inr rfl)), dts_nil, de_int⟩))) da_nil)))))
abbrev s_worn_strength : Stmt := tp 25
theorem sc_worn_strength : FnScope ["strength", "worn"] ["strength", "worn"] (defScope s_worn_strength) := ⟨rfl, rfl, rfl, by decide +kernel, rfl, by decide +kernel, by decide +kernel⟩
def b_worn_strength : EnvD → SR :=
  (sRet (eF m_times_ratios [(eN 0), (eF m_make_ratio [(e2 subD (eC d_FULL_SHARES) (eN 1)), (eC d_FULL_SHARES)])]))
def m_worn_strength : List D → ER D := callM 2 2 b_worn_strength
theorem c_worn_strength (T : Top K mg) : Callee P w K mg base "worn_strength" 4 2 m_worn_strength := by
  obtain ⟨f, fd, F, hm⟩ := T.f_worn_strength
  exact callee_mk F hm sc_worn_strength rfl (fun _ _ _ _ _ _ us hl => match us, hl with | [_, _], _ => rfl) rfl (fun cdv A outer s H E C => 
  (ds_one (d1_ret (de_call C (c_times_ratios T) (by decide) (da_cons (de_name (i := 0) List.not_mem_nil rfl (.inl rfl)) (da_cons (de_call C (c_make_ratio T) (by decide) (da_cons (de_op opD_sub (de_glob T.k_FULL_SHARES rfl) (de_name (i := 1) List.not_mem_nil rfl (.inl rfl))) (da_cons (de_glob T.k_FULL_SHARES rfl) da_nil)) rfl) da_nil)) rfl))))
abbrev s_part_holds : Stmt := tp 26
theorem sc_part_holds : FnScope ["part", "gust", "worn"] ["part", "gust", "worn"] (defScope s_part_holds) := ⟨rfl, rfl, rfl, by decide +kernel, rfl, by decide +kernel, by decide +kernel⟩
def b_part_holds : EnvD → SR :=
  (sRet (eF m_worn_strength [(eF m_cloth_strength [(e2 atD (eN 0) (eC (.int 0))), (e2 atD (eN 0) (eC (.int 2))), (e2 atD (e2 atD (eN 1) (eC (.int 0))) (eC (.int 1)))]), (eN 2)]))
def m_part_holds : List D → ER D := callM 3 3 b_part_holds
theorem c_part_holds (T : Top K mg) : Callee P w K mg base "part_holds" 5 3 m_part_holds := by
  obtain ⟨f, fd, F, hm⟩ := T.f_part_holds
  exact callee_mk F hm sc_part_holds rfl (fun _ _ _ _ _ _ us hl => match us, hl with | [_, _, _], _ => rfl) rfl (fun cdv A outer s H E C => 
  (ds_one (d1_ret (de_call C (c_worn_strength T) (by decide) (da_cons (de_call C (c_cloth_strength T) (by decide) (da_cons (de_ix (de_name (i := 0) List.not_mem_nil rfl (.inl rfl)) de_int (fun _ _ => rfl)) (da_cons (de_ix (de_name (i := 0) List.not_mem_nil rfl (.inl rfl)) de_int (fun _ _ => rfl)) (da_cons (de_ix (de_ix (de_name (i := 1) List.not_mem_nil rfl (.inl rfl)) de_int (fun _ _ => rfl)) de_int (fun _ _ => rfl)) da_nil))) rfl) (da_cons (de_name (i := 2) List.not_mem_nil rfl (.inl rfl)) da_nil)) rfl))))
abbrev s_part_pulled : Stmt := tp 27
theorem sc_part_pulled : FnScope ["gust", "left"] ["gust", "left"] (defScope s_part_pulled) := ⟨rfl, rfl, rfl, by decide +kernel, rfl, by decide +kernel, by decide +kernel⟩
def b_part_pulled : EnvD → SR :=
  (sRet (eF m_times_ratios [(eF m_times_ratios [(eF m_whole_ratio [(e2 atD (e2 atD (eN 0) (eC (.int 0))) (eC (.int 2)))]), (e2 atD (eN 0) (eC (.int 1)))]), (eN 1)]))
def m_part_pulled : List D → ER D := callM 2 2 b_part_pulled
theorem c_part_pulled (T : Top K mg) : Callee P w K mg base "part_pulled" 4 2 m_part_pulled := by
  obtain ⟨f, fd, F, hm⟩ := T.f_part_pulled
  exact callee_mk F hm sc_part_pulled rfl (fun _ _ _ _ _ _ us hl => match us, hl with | [_, _], _ => rfl) rfl (fun cdv A outer s H E C => 
  (ds_one (d1_ret (de_call C (c_times_ratios T) (by decide) (da_cons (de_call C (c_times_ratios T) (by decide) (da_cons (de_call C (c_whole_ratio T) (by decide) (da_cons (de_ix (de_ix (de_name (i := 0) List.not_mem_nil rfl (.inl rfl)) de_int (fun _ _ => rfl)) de_int (fun _ _ => rfl)) da_nil) rfl) (da_cons (de_ix (de_name (i := 0) List.not_mem_nil rfl (.inl rfl)) de_int (fun _ _ => rfl)) da_nil)) rfl) (da_cons (de_name (i := 1) List.not_mem_nil rfl (.inl rfl)) da_nil)) rfl))))
abbrev s_gust_margins : Stmt := tp 28
theorem sc_gust_margins : FnScope ["parts", "gust", "lefts", "wear", "margins", "part", "left", "worn"] ["parts", "gust", "lefts", "wear"] (defScope s_gust_margins) := ⟨rfl, rfl, rfl, by decide +kernel, rfl, by decide +kernel, by decide +kernel⟩
def b_gust_margins_l1 : EnvD → SR :=
  (sApp 4 (eF m_take_ratios [(eF m_part_holds [(eN 5), (eN 1), (eN 7)]), (eF m_part_pulled [(eN 1), (eN 6)])]))
def b_gust_margins : EnvD → SR :=
  (sSeq (sNew 4 (aL []))
  (sSeq (sFor (.t [(.n 5), (.n 6), (.n 7)]) (iZ3 (eN 0) (eN 2) (eN 3))
 b_gust_margins_l1)
  (sRet (eB tupleD [(eN 4)]))))
def m_gust_margins : List D → ER D := callM 8 4 b_gust_margins
theorem c_gust_margins (T : Top K mg) : Callee P w K mg base "gust_margins" 6 4 m_gust_margins := by
  obtain ⟨f, fd, F, hm⟩ := T.f_gust_margins
  exact callee_mk F hm sc_gust_margins rfl (fun _ _ _ _ _ _ us hl => match us, hl with | [_, _, _, _], _ => rfl) rfl (fun cdv A outer s H E C => 
  (ds_cons (d1_new (i := 4) (M' := [4]) C.nd rfl (.inl rfl) (dn_lst da_nil (by decide)) rfl)
  (ds_cons (d1_for C (di_zip3 T.b_zip (de_name (i := 0) (by decide) rfl (.inl rfl)) (de_name (i := 2) (by decide) rfl (.inl rfl)) (de_name (i := 3) (by decide) rfl (.inl rfl))) (dg_tup C.calm (dgs_cons (dg_name (i := 5) (by decide) C.nd rfl (.inl rfl)) (dgs_cons (dg_name (i := 6) (by decide) C.nd rfl (.inl rfl)) (dgs_cons (dg_name (i := 7) (by decide) C.nd rfl (.inl rfl)) dgs_nil))) rfl rfl)
 (ds_one (d1_app (i := 4) (by decide) rfl (.inl rfl) (de_call C (c_take_ratios T) (by decide) (da_cons (de_call C (c_part_holds T) (by decide) (da_cons (de_name (i := 5) (by decide) rfl (.inl rfl)) (da_cons (de_name (i := 1) (by decide) rfl (.inl rfl)) (da_cons (de_name (i := 7) (by decide) rfl (.inl rfl)) da_nil))) rfl) (da_cons (de_call C (c_part_pulled T) (by decide) (da_cons (de_name (i := 1) (by decide) rfl (.inl rfl)) (da_cons (de_name (i := 6) (by decide) rfl (.inl rfl)) da_nil)) rfl) da_nil)) rfl))))
  (ds_one (d1_ret (de_callT callD_tuple T.b_tuple bt_tuple rfl (da_cons (de_name (i := 4) List.not_mem_nil rfl (.inl rfl)) da_nil)))))))
abbrev s_weakest_part : Stmt := tp 29
theorem sc_weakest_part : FnScope ["parts", "gust", "lefts", "wear", "margins", "found", "index", "margin"] ["parts", "gust", "lefts", "wear"] (defScope s_weakest_part) := ⟨rfl, rfl, rfl, by decide +kernel, rfl, by decide +kernel, by decide +kernel⟩
def b_weakest_part_l1 : EnvD → SR :=
  (sIf (tV isBool (e2 ltD (eF m_compare_ratios [(eN 7), (e2 atD (eN 4) (eN 5))]) (eC (.int 0))))
 (sSet 5 (eN 6))
 sNx)
def b_weakest_part : EnvD → SR :=
  (sSeq (sSet 4 (eF m_gust_margins [(eN 0), (eN 1), (eN 2), (eN 3)]))
  (sSeq (sSet 5 (eC (.int 0)))
  (sSeq (sFor (.t [(.n 6), (.n 7)]) (iE (eN 4))
 b_weakest_part_l1)
  (sRet (eT [(eN 5), (e2 atD (eN 4) (eN 5))])))))
def m_weakest_part : List D → ER D := callM 8 4 b_weakest_part
theorem c_weakest_part (T : Top K mg) : Callee P w K mg base "weakest_part" 7 4 m_weakest_part := by
  obtain ⟨f, fd, F, hm⟩ := T.f_weakest_part
  exact callee_mk F hm sc_weakest_part rfl (fun _ _ _ _ _ _ us hl => match us, hl with | [_, _, _, _], _ => rfl) rfl (fun cdv A outer s H E C => 
  (ds_cons (d1_set (i := 4) (M' := []) C.nd rfl (.inl rfl) (de_call C (c_gust_margins T) (by decide) (da_cons (de_name (i := 0) List.not_mem_nil rfl (.inl rfl)) (da_cons (de_name (i := 1) List.not_mem_nil rfl (.inl rfl)) (da_cons (de_name (i := 2) List.not_mem_nil rfl (.inl rfl)) (da_cons (de_name (i := 3) List.not_mem_nil rfl (.inl rfl)) da_nil)))) rfl) rfl)
  (ds_cons (d1_set (i := 5) (M' := []) C.nd rfl (.inl rfl) de_int rfl)
  (ds_cons (d1_for C (di_enum T.b_enumerate (de_name (i := 4) List.not_mem_nil rfl (.inl rfl))) (dg_tup C.calm (dgs_cons (dg_name (i := 6) List.not_mem_nil C.nd rfl (.inl rfl)) (dgs_cons (dg_name (i := 7) List.not_mem_nil C.nd rfl (.inl rfl)) dgs_nil)) rfl rfl)
 (ds_one (d1_if (dt_cmp (opD_lt C.hu) (de_call C (c_compare_ratios T) (by decide) (da_cons (de_name (i := 7) List.not_mem_nil rfl (.inl rfl)) (da_cons (de_ix (de_name (i := 4) List.not_mem_nil rfl (.inl rfl)) (de_name (i := 5) List.not_mem_nil rfl (.inl rfl)) (fun _ _ => rfl)) da_nil)) rfl) de_int (nomark _))
 (ds_one (d1_set (i := 5) (M' := []) C.nd rfl (.inl rfl) (de_name (i := 6) List.not_mem_nil rfl (.inl rfl)) rfl))
 ds_nil)))
  (ds_one (d1_ret (de_tup (da_cons (de_name (i := 5) List.not_mem_nil rfl (.inl rfl)) (da_cons (de_ix (de_name (i := 4) List.not_mem_nil rfl (.inl rfl)) (de_name (i := 5) List.not_mem_nil rfl (.inl rfl)) (fun _ _ => rfl)) da_nil)) (by decide))))))))
abbrev s_worst_gust : Stmt := tp 30
theorem sc_worst_gust : FnScope ["parts", "gusts", "lefts", "wear", "rows", "found", "index", "row", "gust"] ["parts", "gusts", "lefts", "wear"] (defScope s_worst_gust) := ⟨rfl, rfl, rfl, by decide +kernel, rfl, by decide +kernel, by decide +kernel⟩
def b_worst_gust_l1 : EnvD → SR :=
  (sIf (tV isBool (e2 ltD (eF m_compare_ratios [(e2 atD (eN 7) (eC (.int 1))), (e2 atD (e2 atD (eN 4) (eN 5)) (eC (.int 1)))]) (eC (.int 0))))
 (sSet 5 (eN 6))
 sNx)
def b_worst_gust : EnvD → SR :=
  (sSeq (sIf (tV isBool (e2 eqD (eB lenD [(eN 1)]) (eC (.int 0))))
 (sRaise "OutOfRange")
 sNx)
  (sSeq (sNew 4 (eLc (.n 8) [8] (iD (eN 1)) tTrue (eF m_weakest_part [(eN 0), (eN 8), (eN 2), (eN 3)])))
  (sSeq (sSet 5 (eC (.int 0)))
  (sSeq (sFor (.t [(.n 6), (.n 7)]) (iE (eN 4))
 b_worst_gust_l1)
  (sRet (eT [(eN 5), (e2 atD (e2 atD (eN 4) (eN 5)) (eC (.int 0))), (e2 atD (e2 atD (eN 4) (eN 5)) (eC (.int 1)))]))))))
def m_worst_gust : List D → ER D := callM 9 4 b_worst_gust
theorem c_worst_gust (T : Top K mg) : Callee P w K mg base "worst_gust" 8 4 m_worst_gust := by
  obtain ⟨f, fd, F, hm⟩ := T.f_worst_gust
  exact callee_mk F hm sc_worst_gust rfl (fun _ _ _ _ _ _ us hl => match us, hl with | [_, _, _, _], _ => rfl) rfl (fun cdv A outer s H E C => 
  (ds_cons (d1_if (dt_cmp (opD_eq C.hu) (de_callB callD_len T.b_len bt_len rfl (da_cons (de_name (i := 1) List.not_mem_nil rfl (.inl rfl)) da_nil)) de_int (nomark _))
 (ds_one (d1_raise C T.x_OutOfRange))
 ds_nil)
  (ds_cons (d1_post (M' := []) (by decide) (d1_newLc (i := 4) (own := [("gust", 8)]) (M' := [4]) C rfl rfl (sw_true rfl rfl rfl (by decide +kernel)) rfl (di_val (de_name (i := 1) List.not_mem_nil rfl (.inl rfl))) (by rfl) rfl (by decide) (fun _ _ _ _ _ C => ⟨(dg_name (i := 8) List.not_mem_nil C.nd rfl (.inl rfl) (.inr rfl)), dts_nil, (de_call C (c_weakest_part T) (by decide) (da_cons (de_name (i := 0) List.not_mem_nil rfl (.inr (.inl rfl))) (da_cons (de_name (i := 8) List.not_mem_nil rfl (.inl rfl)) (da_cons (de_name (i := 2) List.not_mem_nil rfl (.inr (.inl rfl))) (da_cons (de_name (i := 3) List.not_mem_nil rfl (.inr (.inl rfl))) da_nil)))) rfl)⟩)))
  (ds_cons (d1_set (i := 5) (M' := []) C.nd rfl (.inl rfl) de_int rfl)
  (ds_cons (d1_for C (di_enum T.b_enumerate (de_name (i := 4) List.not_mem_nil rfl (.inl rfl))) (dg_tup C.calm (dgs_cons (dg_name (i := 6) List.not_mem_nil C.nd rfl (.inl rfl)) (dgs_cons (dg_name (i := 7) List.not_mem_nil C.nd rfl (.inl rfl)) dgs_nil)) rfl rfl)
 (ds_one (d1_if (dt_cmp (opD_lt C.hu) (de_call C (c_compare_ratios T) (by decide) (da_cons (de_ix (de_name (i := 7) List.not_mem_nil rfl (.inl rfl)) de_int (fun _ _ => rfl)) (da_cons (de_ix (de_ix (de_name (i := 4) List.not_mem_nil rfl (.inl rfl)) (de_name (i := 5) List.not_mem_nil rfl (.inl rfl)) (fun _ _ => rfl)) de_int (fun _ _ => rfl)) da_nil)) rfl) de_int (nomark _))
 (ds_one (d1_set (i := 5) (M' := []) C.nd rfl (.inl rfl) (de_name (i := 6) List.not_mem_nil rfl (.inl rfl)) rfl))
 ds_nil)))
  (ds_one (d1_ret (de_tup (da_cons (de_name (i := 5) List.not_mem_nil rfl (.inl rfl)) (da_cons (de_ix (de_ix (de_name (i := 4) List.not_mem_nil rfl (.inl rfl)) (de_name (i := 5) List.not_mem_nil rfl (.inl rfl)) (fun _ _ => rfl)) de_int (fun _ _ => rfl)) (da_cons (de_ix (de_ix (de_name (i := 4) List.not_mem_nil rfl (.inl rfl)) (de_name (i := 5) List.not_mem_nil rfl (.inl rfl)) (fun _ _ => rfl)) de_int (fun _ _ => rfl)) da_nil))) (by decide)))))))))
abbrev s_law_numbers : Stmt := tp 32
theorem sc_law_numbers : FnScope ["script", "count", "cells", "numbers", "k", "at", "cell", "mixed"] ["script", "count"] (defScope s_law_numbers) := ⟨rfl, rfl, rfl, by decide +kernel, rfl, by decide +kernel, by decide +kernel⟩
def b_law_numbers_l1 : EnvD → SR :=
  (sSeq (sSetB 5 (e2 modD (eB intD [(eN 4)]) (eB lenD [(eN 2)])))
  (sSeq (sSetB 6 (e2 atD (eN 2) (eN 5)))
  (sIf (tV isBool (e2 gtD (eN 6) (e2 powD (eC (.int 10)) (eC (.int 18)))))
 (sSeq (sApp 3 (e2 modD (eB intD [(eN 6)]) (eC (.int 10007))))
  (sSetIx 2 (eN 5) (e2 fdivD (eN 6) (eC (.int 10007)))))
 (sSeq (sSet 7 (e2 modD (eB intD [(e2 addD (e2 addD (e2 addD (e2 mulD (e2 modD (eB intD [(eN 6)]) (eC (.int 65521))) (eC (.int 48271))) (e2 modD (eB intD [(e2 fdivD (eN 6) (eC (.int 65521)))]) (eC (.int 65521)))) (e2 mulD (eN 4) (eC (.int 3571)))) (eC (.int 17)))]) (eC (.int 65537))))
  (sSeq (sSet 7 (e2 modD (eB intD [(e2 addD (e2 mulD (eN 7) (eN 7)) (eN 4))]) (eC (.int 65521))))
  (sApp 3 (e2 modD (eB intD [(e2 addD (e2 mulD (eN 7) (eC (.int 31))) (e2 fdivD (eN 7) (eC (.int 97))))]) (eC (.int 10007)))))))))
def b_law_numbers : EnvD → SR :=
  (sSeq (sNew 2 (eLc (.n 6) [6] (iD (eSl (eN 0) pN (pS (eC (.int 63))))) tTrue (eB intD [(eN 6)])))
  (sSeq (sIf (tV isBool (e2 eqD (eB lenD [(eN 2)]) (eC (.int 0))))
 (sNew 2 (aL [(eC (.int 0))]))
 sNx)
  (sSeq (sNew 3 (aL []))
  (sSeq (sFor (.n 4) (iR1 (eN 1))
 b_law_numbers_l1)
  (sRetF 3)))))
def m_law_numbers : List D → ER D := callM 8 2 b_law_numbers
theorem c_law_numbers (T : Top K mg) : CalleeF P w K mg base "_law_numbers" 1 2 m_law_numbers := by
  obtain ⟨f, fd, F, hm⟩ := T.f_law_numbers
  exact calleeF_mk (Mn := []) F hm sc_law_numbers rfl (fun _ _ _ _ _ _ us hl => match us, hl with | [_, _], _ => rfl) rfl (fun cdv A outer s H E C => 
  (ds_cons (d1_newLc (i := 2) (own := [("cell", 6)]) (M' := [2]) C rfl rfl (sw_true rfl rfl rfl (by decide +kernel)) rfl (di_val (de_slice (de_name (i := 0) List.not_mem_nil rfl (.inl rfl)) do_none (do_some de_int))) (by rfl) rfl (by decide) (fun _ _ _ _ _ C => ⟨(dg_name (i := 6) List.not_mem_nil C.nd rfl (.inl rfl) (.inr rfl)), dts_nil, (de_callT callD_int T.b_int bt_int rfl (da_cons (de_name (i := 6) List.not_mem_nil rfl (.inl rfl)) da_nil))⟩))
  (ds_cons (d1_if (dt_cmp (opD_eq C.hu) (de_callB callD_len T.b_len bt_len rfl (da_cons (de_name (i := 2) List.not_mem_nil rfl (.inl rfl)) da_nil)) de_int (nomark _))
 (ds_one (d1_new (i := 2) (M' := [2]) C.nd rfl (.inl rfl) (dn_lst (da_cons de_int da_nil) (by decide)) rfl))
 ds_nil)
  (ds_cons (d1_new (i := 3) (M' := [3, 2]) C.nd rfl (.inl rfl) (dn_lst da_nil (by decide)) rfl)
  (ds_cons (d1_for C (di_rng1 T.b_range (de_name (i := 1) (by decide) rfl (.inl rfl))) (dg_name (i := 4) (by decide) C.nd rfl (.inl rfl))
 (ds_cons (d1_setB (i := 5) (M' := [3, 2]) C.nd rfl (.inl rfl) (de_op opD_mod (de_callT callD_int T.b_int bt_int rfl (da_cons (de_name (i := 4) List.not_mem_nil rfl (.inl rfl)) da_nil)) (de_callB callD_len T.b_len bt_len rfl (da_cons (de_name (i := 2) List.not_mem_nil rfl (.inl rfl)) da_nil))) rfl)
  (ds_cons (d1_setB (i := 6) (M' := [3, 2]) C.nd rfl (.inl rfl) (de_ix (de_name (i := 2) List.not_mem_nil rfl (.inl rfl)) (de_name (i := 5) List.not_mem_nil rfl (.inl rfl)) (fun _ _ => rfl)) rfl)
  (ds_one (d1_if (dt_cmp opD_gt (de_name (i := 6) List.not_mem_nil rfl (.inl rfl)) (de_op opD_pow de_int de_int) (nomark _))
 (ds_cons (d1_app (i := 3) (by decide) rfl (.inl rfl) (de_op opD_mod (de_callT callD_int T.b_int bt_int rfl (da_cons (de_name (i := 6) (by decide) rfl (.inl rfl)) da_nil)) de_int))
  (ds_one (d1_setix (i := 2) (by decide) rfl (.inl rfl) (de_op opD_fdiv (de_name (i := 6) List.not_mem_nil rfl (.inl rfl)) de_int) (de_name (i := 5) (by decide) rfl (.inl rfl)))))
 (ds_cons (d1_set (i := 7) (M' := [3, 2]) C.nd rfl (.inl rfl) (de_op opD_mod (de_callT callD_int T.b_int bt_int rfl (da_cons (de_op opD_add (de_op opD_add (de_op opD_add (de_op opD_mul (de_op opD_mod (de_callT callD_int T.b_int bt_int rfl (da_cons (de_name (i := 6) (by decide) rfl (.inl rfl)) da_nil)) de_int) de_int) (de_op opD_mod (de_callT callD_int T.b_int bt_int rfl (da_cons (de_op opD_fdiv (de_name (i := 6) (by decide) rfl (.inl rfl)) de_int) da_nil)) de_int)) (de_op opD_mul (de_name (i := 4) (by decide) rfl (.inl rfl)) de_int)) de_int) da_nil)) de_int) rfl)
  (ds_cons (d1_set (i := 7) (M' := [3, 2]) C.nd rfl (.inl rfl) (de_op opD_mod (de_callT callD_int T.b_int bt_int rfl (da_cons (de_op opD_add (de_op opD_mul (de_name (i := 7) (by decide) rfl (.inl rfl)) (de_name (i := 7) (by decide) rfl (.inl rfl))) (de_name (i := 4) (by decide) rfl (.inl rfl))) da_nil)) de_int) rfl)
  (ds_one (d1_app (i := 3) (by decide) rfl (.inl rfl) (de_op opD_mod (de_callT callD_int T.b_int bt_int rfl (da_cons (de_op opD_add (de_op opD_mul (de_name (i := 7) (by decide) rfl (.inl rfl)) de_int) (de_op opD_fdiv (de_name (i := 7) (by decide) rfl (.inl rfl)) de_int)) da_nil)) de_int))))))))))
  (ds_one (d1_retF (i := 3) (by decide) rfl (.inl rfl))))))))
abbrev s_law_take : Stmt := tp 33
theorem sc_law_take : FnScope ["numbers", "many"] ["numbers", "many"] (defScope s_law_take) := ⟨rfl, rfl, rfl, by decide +kernel, rfl, by decide +kernel, by decide +kernel⟩
def b_law_take : EnvD → SR :=
  (sSeq (sIf (tV isBool (e2 eqD (eB lenD [(eN 0)]) (eC (.int 0))))
 (sRetO (xP (eC (.int 0))))
 sNx)
  (sRetO (x2 modD (xB intD [(xPop 0)]) (xP (eN 1)))))
def m_law_take : List D → ER D := callMO 2 1 b_law_take
theorem c_law_take (T : Top K mg) : CalleeO P w K mg base "_law_take" 1 1 m_law_take := by
  obtain ⟨f, fd, F, hm⟩ := T.f_law_take
  exact calleeO_mk (Mn := []) F hm sc_law_take rfl (fun _ _ _ _ _ _ us hl => match us, hl with | [_, _], _ => rfl) rfl (fun cdv A outer s H E C => 
  (ds_cons (d1_if (dt_cmp (opD_eq C.hu) (de_callB callD_len T.b_len bt_len rfl (da_cons (de_name (i := 0) List.not_mem_nil rfl (.inl rfl)) da_nil)) de_int (nomark _))
 (ds_one (d1_retO (xe_pure C de_int) (by decide)))
 ds_nil)
  (ds_one (d1_retO (xe_op opD_mod (xe_callT callD_int T.b_int bt_int rfl (xa_cons (xe_pop (i := 0) (by decide) rfl (.inl rfl)) xa_nil)) (xe_pure C (de_name (i := 1) (by decide) rfl (.inl rfl)))) (by decide)))))
abbrev s_law_common : Stmt := tp 34
theorem sc_law_common : FnScope ["a", "b", "k"] ["a", "b"] (defScope s_law_common) := ⟨rfl, rfl, rfl, by decide +kernel, rfl, by decide +kernel, by decide +kernel⟩
def b_law_common_l1 : EnvD → SR :=
  (sSeq (sIf (tV isBool (e2 eqD (eN 1) (eC (.int 0))))
 sBrk
 sNx)
  (sPar 0 1 [(eN 1), (e2 modD (eB intD [(eN 0)]) (eN 1))]))
def b_law_common : EnvD → SR :=
  (sSeq (sSet 0 (eB absD [(eN 0)]))
  (sSeq (sSet 1 (eB absD [(eN 1)]))
  (sSeq (sFor (.n 2) (iR1 (eC (.int 600)))
 b_law_common_l1)
  (sRet (eN 0)))))
def m_law_common : List D → ER D := callM 3 2 b_law_common
theorem c_law_common (T : Top K mg) : Callee P w K mg base "_law_common" 1 2 m_law_common := by
  obtain ⟨f, fd, F, hm⟩ := T.f_law_common
  exact callee_mk F hm sc_law_common rfl (fun _ _ _ _ _ _ us hl => match us, hl with | [_, _], _ => rfl) rfl (fun cdv A outer s H E C => 
  (ds_cons (d1_set (i := 0) (M' := []) C.nd rfl (.inl rfl) (de_callB callD_abs T.b_abs bt_abs rfl (da_cons (de_name (i := 0) List.not_mem_nil rfl (.inl rfl)) da_nil)) rfl)
  (ds_cons (d1_set (i := 1) (M' := []) C.nd rfl (.inl rfl) (de_callB callD_abs T.b_abs bt_abs rfl (da_cons (de_name (i := 1) List.not_mem_nil rfl (.inl rfl)) da_nil)) rfl)
  (ds_cons (d1_for C (di_rng1 T.b_range de_int) (dg_name (i := 2) List.not_mem_nil C.nd rfl (.inl rfl))
 (ds_cons (d1_if (dt_cmp (opD_eq C.hu) (de_name (i := 1) List.not_mem_nil rfl (.inl rfl)) de_int (nomark _))
 (ds_one d1_break)
 ds_nil)
  (ds_one (d1_par (i := 0) (j := 1) C.calm C.nd rfl rfl (by decide) List.not_mem_nil List.not_mem_nil rfl rfl (da_cons (de_name (i := 1) List.not_mem_nil rfl (.inl rfl)) (da_cons (de_op opD_mod (de_callT callD_int T.b_int bt_int rfl (da_cons (de_name (i := 0) List.not_mem_nil rfl (.inl rfl)) da_nil)) (de_name (i := 1) List.not_mem_nil rfl (.inl rfl))) da_nil)) rfl))))
  (ds_one (d1_ret (de_name (i := 0) List.not_mem_nil rfl (.inl rfl))))))))
abbrev s_law_low : Stmt := tp 35
theorem sc_law_low : FnScope ["n", "d", "shared"] ["n", "d"] (defScope s_law_low) := ⟨rfl, rfl, rfl, by decide +kernel, rfl, by decide +kernel, by decide +kernel⟩
def b_law_low : EnvD → SR :=
  (sSeq (sSet 2 (eF m_law_common [(eN 0), (eN 1)]))
  (sSeq (sIf (tV isBool (e2 ltD (eN 1) (eC (.int 0))))
 (sSet 2 (e1 negD (eN 2)))
 sNx)
  (sRet (eT [(e2 fdivD (eN 0) (eN 2)), (e2 fdivD (eN 1) (eN 2))]))))
def m_law_low : List D → ER D := callM 3 2 b_law_low
theorem c_law_low (T : Top K mg) : Callee P w K mg base "_law_low" 2 2 m_law_low := by
  obtain ⟨f, fd, F, hm⟩ := T.f_law_low
  exact callee_mk F hm sc_law_low rfl (fun _ _ _ _ _ _ us hl => match us, hl with | [_, _], _ => rfl) rfl (fun cdv A outer s H E C => 
  (ds_cons (d1_set (i := 2) (M' := []) C.nd rfl (.inl rfl) (de_call C (c_law_common T) (by decide) (da_cons (de_name (i := 0) List.not_mem_nil rfl (.inl rfl)) (da_cons (de_name (i := 1) List.not_mem_nil rfl (.inl rfl)) da_nil)) rfl) rfl)
  (ds_cons (d1_if (dt_cmp (opD_lt C.hu) (de_name (i := 1) List.not_mem_nil rfl (.inl rfl)) de_int (nomark _))
 (ds_one (d1_set (i := 2) (M' := []) C.nd rfl (.inl rfl) (de_un unD_neg (de_name (i := 2) List.not_mem_nil rfl (.inl rfl))) rfl))
 ds_nil)
  (ds_one (d1_ret (de_tup (da_cons (de_op opD_fdiv (de_name (i := 0) List.not_mem_nil rfl (.inl rfl)) (de_name (i := 2) List.not_mem_nil rfl (.inl rfl))) (da_cons (de_op opD_fdiv (de_name (i := 1) List.not_mem_nil rfl (.inl rfl)) (de_name (i := 2) List.not_mem_nil rfl (.inl rfl))) da_nil)) (by decide)))))))
abbrev s_law_below : Stmt := tp 36
theorem sc_law_below : FnScope ["a", "b"] ["a", "b"] (defScope s_law_below) := ⟨rfl, rfl, rfl, by decide +kernel, rfl, by decide +kernel, by decide +kernel⟩
def b_law_below : EnvD → SR :=
  (sRet (e2 ltD (e2 mulD (e2 atD (eN 0) (eC (.int 0))) (e2 atD (eN 1) (eC (.int 1)))) (e2 mulD (e2 atD (eN 1) (eC (.int 0))) (e2 atD (eN 0) (eC (.int 1))))))
def m_law_below : List D → ER D := callM 2 2 b_law_below
theorem c_law_below (T : Top K mg) : Callee P w K mg base "_law_below" 1 2 m_law_below := by
  obtain ⟨f, fd, F, hm⟩ := T.f_law_below
  exact callee_mk F hm sc_law_below rfl (fun _ _ _ _ _ _ us hl => match us, hl with | [_, _], _ => rfl) rfl (fun cdv A outer s H E C => 
  (ds_one (d1_ret (de_cmp (opD_lt C.hu) (de_op opD_mul (de_ix (de_name (i := 0) List.not_mem_nil rfl (.inl rfl)) de_int (fun _ _ => rfl)) (de_ix (de_name (i := 1) List.not_mem_nil rfl (.inl rfl)) de_int (fun _ _ => rfl))) (de_op opD_mul (de_ix (de_name (i := 1) List.not_mem_nil rfl (.inl rfl)) de_int (fun _ _ => rfl)) (de_ix (de_name (i := 0) List.not_mem_nil rfl (.inl rfl)) de_int (fun _ _ => rfl))) (nomark _)))))
abbrev s_law_same : Stmt := tp 37
theorem sc_law_same : FnScope ["actual", "due", "k"] ["actual", "due"] (defScope s_law_same) := ⟨rfl, rfl, rfl, by decide +kernel, rfl, by decide +kernel, by decide +kernel⟩
def b_law_same_l1 (g : List D → ER D) : EnvD → SR :=
  (sIf (Z.tNot (tV truD (eF g [(e2 atD (eN 0) (eN 2)), (e2 atD (eN 1) (eN 2))])))
 (sRet (eC (.bool false)))
 sNx)
def b_law_same (g : List D → ER D) : EnvD → SR :=
  (sSeq (sIf (tV isBool (e2 isD (eN 1) (eC .none)))
 (sRet (e2 isD (eN 0) (eC .none)))
 sNx)
  (sSeq (sIf (tV truD (e1 (isiD "bool") (eN 1)))
 (sRet (eAnd (e1 (isiD "bool") (eN 0)) (e2 eqD (eN 0) (eN 1))))
 sNx)
  (sSeq (sIf (tV truD (e1 (isiD "int") (eN 1)))
 (sRet (eAnd (e1 (isiD "int") (eN 0)) (eAnd (eNot (e1 (isiD "bool") (eN 0))) (e2 eqD (eN 0) (eN 1)))))
 sNx)
  (sSeq (sIf (tV truD (e1 (isiD "str") (eN 1)))
 (sRet (eAnd (e1 (isiD "str") (eN 0)) (e2 eqD (eN 0) (eN 1))))
 sNx)
  (sSeq (sIf (Z.tOr (Z.tNot (tV truD (e1 (isiD "tuple") (eN 0)))) (tV isBool (e2 neD (eB lenD [(eN 0)]) (eB lenD [(eN 1)]))))
 (sRet (eC (.bool false)))
 sNx)
  (sSeq (sFor (.n 2) (iR1 (eB lenD [(eN 1)]))
 (b_law_same_l1 g))
  (sRet (eC (.bool true)))))))))
def m_law_same : Nat → List D → ER D
  | 0 => fun _ => .no
  | n + 1 => callM 3 2 (b_law_same (m_law_same n))
theorem c_law_same (T : Top K mg) : ∀ n, Callee P w K mg base "_law_same" (n + 1) 2 (m_law_same n)
  | 0 => by
    obtain ⟨f, fd, F, hm⟩ := T.f_law_same
    exact callee_no (ps := ["actual", "due"]) F hm (fun _ _ _ _ _ _ us hl => match us, hl with | [_, _], _ => rfl)
  | n + 1 => by
    obtain ⟨f, fd, F, hm⟩ := T.f_law_same
    have G := c_law_same T n
    exact (callee_mk (k := n + 1) F hm sc_law_same rfl (fun _ _ _ _ _ _ us hl => match us, hl with | [_, _], _ => rfl) rfl (fun cdv A outer s H E C => 
  (ds_cons (d1_if (dt_cmp opD_is (de_name (i := 1) List.not_mem_nil rfl (.inl rfl)) de_non (nomark _))
 (ds_one (d1_ret (de_cmp opD_is (de_name (i := 0) List.not_mem_nil rfl (.inl rfl)) de_non (nomark _))))
 ds_nil)
  (ds_cons (d1_if (dt_val (de_isi T.b_isinstance bt_isinstance rfl T.b_bool bt_bool rfl (de_name (i := 1) List.not_mem_nil rfl (.inl rfl))))
 (ds_one (d1_ret (de_and (de_isi T.b_isinstance bt_isinstance rfl T.b_bool bt_bool rfl (de_name (i := 0) List.not_mem_nil rfl (.inl rfl))) (de_one (de_cmp (opD_eq C.hu) (de_name (i := 0) List.not_mem_nil rfl (.inl rfl)) (de_name (i := 1) List.not_mem_nil rfl (.inl rfl)) (nomark _))))))
 ds_nil)
  (ds_cons (d1_if (dt_val (de_isi T.b_isinstance bt_isinstance rfl T.b_int bt_int rfl (de_name (i := 1) List.not_mem_nil rfl (.inl rfl))))
 (ds_one (d1_ret (de_and (de_isi T.b_isinstance bt_isinstance rfl T.b_int bt_int rfl (de_name (i := 0) List.not_mem_nil rfl (.inl rfl))) (de_and (de_not (de_isi T.b_isinstance bt_isinstance rfl T.b_bool bt_bool rfl (de_name (i := 0) List.not_mem_nil rfl (.inl rfl)))) (de_one (de_cmp (opD_eq C.hu) (de_name (i := 0) List.not_mem_nil rfl (.inl rfl)) (de_name (i := 1) List.not_mem_nil rfl (.inl rfl)) (nomark _)))))))
 ds_nil)
  (ds_cons (d1_if (dt_val (de_isi T.b_isinstance bt_isinstance rfl T.b_str bt_str rfl (de_name (i := 1) List.not_mem_nil rfl (.inl rfl))))
 (ds_one (d1_ret (de_and (de_isi T.b_isinstance bt_isinstance rfl T.b_str bt_str rfl (de_name (i := 0) List.not_mem_nil rfl (.inl rfl))) (de_one (de_cmp (opD_eq C.hu) (de_name (i := 0) List.not_mem_nil rfl (.inl rfl)) (de_name (i := 1) List.not_mem_nil rfl (.inl rfl)) (nomark _))))))
 ds_nil)
  (ds_cons (d1_if (dt_bool (dw_or (dt_not (dt_val (de_isi T.b_isinstance bt_isinstance rfl T.b_tuple bt_tuple rfl (de_name (i := 0) List.not_mem_nil rfl (.inl rfl))))) (dw_or1 (dt_cmp (opD_ne C.hu) (de_callB callD_len T.b_len bt_len rfl (da_cons (de_name (i := 0) List.not_mem_nil rfl (.inl rfl)) da_nil)) (de_callB callD_len T.b_len bt_len rfl (da_cons (de_name (i := 1) List.not_mem_nil rfl (.inl rfl)) da_nil)) (nomark _)))))
 (ds_one (d1_ret de_bl))
 ds_nil)
  (ds_cons (d1_for C (di_rng1 T.b_range (de_callB callD_len T.b_len bt_len rfl (da_cons (de_name (i := 1) List.not_mem_nil rfl (.inl rfl)) da_nil))) (dg_name (i := 2) List.not_mem_nil C.nd rfl (.inl rfl))
 (ds_one (d1_if (dt_not (dt_val (de_call C G (by omega) (da_cons (de_ix (de_name (i := 0) List.not_mem_nil rfl (.inl rfl)) (de_name (i := 2) List.not_mem_nil rfl (.inl rfl)) (fun _ _ => rfl)) (da_cons (de_ix (de_name (i := 1) List.not_mem_nil rfl (.inl rfl)) (de_name (i := 2) List.not_mem_nil rfl (.inl rfl)) (fun _ _ => rfl)) da_nil)) rfl)))
 (ds_one (d1_ret de_bl))
 ds_nil)))
  (ds_one (d1_ret de_bl)))))))))).lv (by omega)
abbrev s_law_name : Stmt := tp 38
theorem sc_law_name : FnScope ["numbers", "signs", "name", "k"] ["numbers"] (defScope s_law_name) := ⟨rfl, rfl, rfl, by decide +kernel, rfl, by decide +kernel, by decide +kernel⟩
def b_law_name_l1 : EnvD → SR :=
  (sSetX 2 (x2 addD (xP (eN 2)) (x2 atD (xP (eN 1)) (xO m_law_take 0 [(xP (eC (.int 36)))]))))
def b_law_name : EnvD → SR :=
  (sSeq (sSet 1 (eC (.str "abcdefghijklmnopqrstuvwxyz0123456789")))
  (sSeq (sSetX 2 (x2 atD (xP (eN 1)) (xO m_law_take 0 [(xP (eC (.int 26)))])))
  (sSeq (sForX (.n 3) (xiR1 (xO m_law_take 0 [(xP (eC (.int 12)))]))
 b_law_name_l1)
  (sRetO (xP (eN 2))))))
def m_law_name : List D → ER D := callMO 4 0 b_law_name
theorem c_law_name (T : Top K mg) : CalleeO P w K mg base "_law_name" 2 0 m_law_name := by
  obtain ⟨f, fd, F, hm⟩ := T.f_law_name
  exact calleeO_mk (Mn := []) F hm sc_law_name rfl (fun _ _ _ _ _ _ us hl => match us, hl with | [_], _ => rfl) rfl (fun cdv A outer s H E C => 
  (ds_cons (d1_set (i := 1) (M' := [0]) C.nd rfl (.inl rfl) de_str rfl)
  (ds_cons (d1_setX (i := 2) (M' := [0]) C.nd rfl (.inl rfl) (xe_ix (xe_pure C (de_name (i := 1) (by decide) rfl (.inl rfl))) (xe_callO (i := 0) C (c_law_take T) (by decide) (by decide) rfl (.inl rfl) (xa_cons (xe_pure C de_int) xa_nil) rfl) (fun _ _ => rfl)) rfl)
  (ds_cons (d1_forX C (xi_rng1 T.b_range (xe_callO (i := 0) C (c_law_take T) (by decide) (by decide) rfl (.inl rfl) (xa_cons (xe_pure C de_int) xa_nil) rfl)) (dg_name (i := 3) (by decide) C.nd rfl (.inl rfl))
 (ds_one (d1_setX (i := 2) (M' := [0]) C.nd rfl (.inl rfl) (xe_op opD_add (xe_pure C (de_name (i := 2) (by decide) rfl (.inl rfl))) (xe_ix (xe_pure C (de_name (i := 1) (by decide) rfl (.inl rfl))) (xe_callO (i := 0) C (c_law_take T) (by decide) (by decide) rfl (.inl rfl) (xa_cons (xe_pure C de_int) xa_nil) rfl) (fun _ _ => rfl))) rfl)))
  (ds_one (d1_retO (xe_pure C (de_name (i := 2) (by decide) rfl (.inl rfl))) (by decide)))))))
abbrev s_law_cloth : Stmt := tp 39
theorem sc_law_cloth : FnScope ["numbers", "name", "most", "along", "across", "slant"] ["numbers", "name", "most"] (defScope s_law_cloth) := ⟨rfl, rfl, rfl, by decide +kernel, rfl, by decide +kernel, by decide +kernel⟩
def b_law_cloth : EnvD → SR :=
  (sSeq (sSetX 3 (x2 addD (xP (eC (.int 1))) (xO m_law_take 0 [(xP (eN 2))])))
  (sSeq (sSetX 4 (x2 addD (xP (eC (.int 1))) (xO m_law_take 0 [(xP (eN 2))])))
  (sSeq (sSetX 5 (xO m_law_take 0 [(xP (e2 addD (eB minD [(eN 3), (eN 4)]) (eC (.int 1))))]))
  (sSeq (sIfX (xV isBool (x2 eqD (xO m_law_take 0 [(xP (eC (.int 4)))]) (xP (eC (.int 0)))))
 (sSet 5 (eB minD [(eN 3), (eN 4)]))
 sNx)
  (sRetO (xTu [(xP (eN 1)), (xP (eN 3)), (xP (eN 4)), (xP (eN 5)), (x2 addD (xP (eC (.int 1))) (xO m_law_take 0 [(xP (eC (.int 100)))])), (xO m_law_take 0 [(xP (eC (.int 1001)))])]))))))
def m_law_cloth : List D → ER D := callMO 6 2 b_law_cloth
theorem c_law_cloth (T : Top K mg) : CalleeO P w K mg base "_law_cloth" 2 2 m_law_cloth := by
  obtain ⟨f, fd, F, hm⟩ := T.f_law_cloth
  exact calleeO_mk (Mn := []) F hm sc_law_cloth rfl (fun _ _ _ _ _ _ us hl => match us, hl with | [_, _, _], _ => rfl) rfl (fun cdv A outer s H E C => 
  (ds_cons (d1_setX (i := 3) (M' := [0]) C.nd rfl (.inl rfl) (xe_op opD_add (xe_pure C de_int) (xe_callO (i := 0) C (c_law_take T) (by decide) (by decide) rfl (.inl rfl) (xa_cons (xe_pure C (de_name (i := 2) (by decide) rfl (.inl rfl))) xa_nil) rfl)) rfl)
  (ds_cons (d1_setX (i := 4) (M' := [0]) C.nd rfl (.inl rfl) (xe_op opD_add (xe_pure C de_int) (xe_callO (i := 0) C (c_law_take T) (by decide) (by decide) rfl (.inl rfl) (xa_cons (xe_pure C (de_name (i := 2) (by decide) rfl (.inl rfl))) xa_nil) rfl)) rfl)
  (ds_cons (d1_setX (i := 5) (M' := [0]) C.nd rfl (.inl rfl) (xe_callO (i := 0) C (c_law_take T) (by decide) (by decide) rfl (.inl rfl) (xa_cons (xe_pure C (de_op opD_add (de_callB (callD_min C.calm) T.b_min bt_min rfl (da_cons (de_name (i := 3) (by decide) rfl (.inl rfl)) (da_cons (de_name (i := 4) (by decide) rfl (.inl rfl)) da_nil))) de_int)) xa_nil) rfl) rfl)
  (ds_cons (d1_ifX (xt_cmp (opD_eq C.hu) (xe_callO (i := 0) C (c_law_take T) (by decide) (by decide) rfl (.inl rfl) (xa_cons (xe_pure C de_int) xa_nil) rfl) (xe_pure C de_int) (nomark _))
 (ds_one (d1_set (i := 5) (M' := [0]) C.nd rfl (.inl rfl) (de_callB (callD_min C.calm) T.b_min bt_min rfl (da_cons (de_name (i := 3) (by decide) rfl (.inl rfl)) (da_cons (de_name (i := 4) (by decide) rfl (.inl rfl)) da_nil))) rfl))
 ds_nil)
  (ds_one (d1_retO (xe_tup (xa_cons (xe_pure C (de_name (i := 1) (by decide) rfl (.inl rfl))) (xa_cons (xe_pure C (de_name (i := 3) (by decide) rfl (.inl rfl))) (xa_cons (xe_pure C (de_name (i := 4) (by decide) rfl (.inl rfl))) (xa_cons (xe_pure C (de_name (i := 5) (by decide) rfl (.inl rfl))) (xa_cons (xe_op opD_add (xe_pure C de_int) (xe_callO (i := 0) C (c_law_take T) (by decide) (by decide) rfl (.inl rfl) (xa_cons (xe_pure C de_int) xa_nil) rfl)) (xa_cons (xe_callO (i := 0) C (c_law_take T) (by decide) (by decide) rfl (.inl rfl) (xa_cons (xe_pure C de_int) xa_nil) rfl) xa_nil)))))) (by decide)) (by decide))))))))
abbrev s_law_vector : Stmt := tp 40
theorem sc_law_vector : FnScope ["numbers", "x", "y"] ["numbers"] (defScope s_law_vector) := ⟨rfl, rfl, rfl, by decide +kernel, rfl, by decide +kernel, by decide +kernel⟩
def b_law_vector : EnvD → SR :=
  (sSeq (sIfX (xV isBool (x2 eqD (xO m_law_take 0 [(xP (eC (.int 2)))]) (xP (eC (.int 0)))))
 (sSeq (sSetX 1 (x2 subD (xO m_law_take 0 [(xP (eC (.int 3)))]) (xP (eC (.int 1)))))
  (sSetX 2 (x2 subD (xO m_law_take 0 [(xP (eC (.int 3)))]) (xP (eC (.int 1))))))
 (sSeq (sSetX 1 (x2 subD (xO m_law_take 0 [(xP (eC (.int 201)))]) (xP (eC (.int 100)))))
  (sSetX 2 (x2 subD (xO m_law_take 0 [(xP (eC (.int 201)))]) (xP (eC (.int 100)))))))
  (sSeq (sIf (Z.tAnd (tV isBool (e2 eqD (eN 1) (eC (.int 0)))) (tV isBool (e2 eqD (eN 2) (eC (.int 0)))))
 (sRetO (xP (eT [(eC (.int 0)), (eC (.int 1))])))
 sNx)
  (sRetO (xP (eT [(eN 1), (eN 2)])))))
def m_law_vector : List D → ER D := callMO 3 0 b_law_vector
theorem c_law_vector (T : Top K mg) : CalleeO P w K mg base "_law_vector" 2 0 m_law_vector := by
  obtain ⟨f, fd, F, hm⟩ := T.f_law_vector
  exact calleeO_mk (Mn := []) F hm sc_law_vector rfl (fun _ _ _ _ _ _ us hl => match us, hl with | [_], _ => rfl) rfl (fun cdv A outer s H E C => 
  (ds_cons (d1_ifX (xt_cmp (opD_eq C.hu) (xe_callO (i := 0) C (c_law_take T) (by decide) (by decide) rfl (.inl rfl) (xa_cons (xe_pure C de_int) xa_nil) rfl) (xe_pure C de_int) (nomark _))
 (ds_cons (d1_setX (i := 1) (M' := [0]) C.nd rfl (.inl rfl) (xe_op opD_sub (xe_callO (i := 0) C (c_law_take T) (by decide) (by decide) rfl (.inl rfl) (xa_cons (xe_pure C de_int) xa_nil) rfl) (xe_pure C de_int)) rfl)
  (ds_one (d1_setX (i := 2) (M' := [0]) C.nd rfl (.inl rfl) (xe_op opD_sub (xe_callO (i := 0) C (c_law_take T) (by decide) (by decide) rfl (.inl rfl) (xa_cons (xe_pure C de_int) xa_nil) rfl) (xe_pure C de_int)) rfl)))
 (ds_cons (d1_setX (i := 1) (M' := [0]) C.nd rfl (.inl rfl) (xe_op opD_sub (xe_callO (i := 0) C (c_law_take T) (by decide) (by decide) rfl (.inl rfl) (xa_cons (xe_pure C de_int) xa_nil) rfl) (xe_pure C de_int)) rfl)
  (ds_one (d1_setX (i := 2) (M' := [0]) C.nd rfl (.inl rfl) (xe_op opD_sub (xe_callO (i := 0) C (c_law_take T) (by decide) (by decide) rfl (.inl rfl) (xa_cons (xe_pure C de_int) xa_nil) rfl) (xe_pure C de_int)) rfl))))
  (ds_cons (d1_if (dt_bool (dw_and (dt_cmp (opD_eq C.hu) (de_name (i := 1) List.not_mem_nil rfl (.inl rfl)) de_int (nomark _)) (dw_and1 (dt_cmp (opD_eq C.hu) (de_name (i := 2) List.not_mem_nil rfl (.inl rfl)) de_int (nomark _)))))
 (ds_one (d1_retO (xe_pure C (de_tup (da_cons de_int (da_cons de_int da_nil)) (by decide))) (by decide)))
 ds_nil)
  (ds_one (d1_retO (xe_pure C (de_tup (da_cons (de_name (i := 1) (by decide) rfl (.inl rfl)) (da_cons (de_name (i := 2) (by decide) rfl (.inl rfl)) da_nil)) (by decide))) (by decide))))))
abbrev s_law_grain : Stmt := tp 41
theorem sc_law_grain : FnScope ["v", "shared"] ["v"] (defScope s_law_grain) := ⟨rfl, rfl, rfl, by decide +kernel, rfl, by decide +kernel, by decide +kernel⟩
def b_law_grain : EnvD → SR :=
  (sSeq (sSet 1 (eF m_law_common [(e2 atD (eN 0) (eC (.int 0))), (e2 atD (eN 0) (eC (.int 1)))]))
  (sSeq (sIf (Z.tOr (tV isBool (e2 ltD (e2 atD (eN 0) (eC (.int 0))) (eC (.int 0)))) (Z.tAnd (tV isBool (e2 eqD (e2 atD (eN 0) (eC (.int 0))) (eC (.int 0)))) (tV isBool (e2 ltD (e2 atD (eN 0) (eC (.int 1))) (eC (.int 0))))))
 (sSet 1 (e1 negD (eN 1)))
 sNx)
  (sRet (eT [(e2 fdivD (e2 atD (eN 0) (eC (.int 0))) (eN 1)), (e2 fdivD (e2 atD (eN 0) (eC (.int 1))) (eN 1))]))))
def m_law_grain : List D → ER D := callM 2 1 b_law_grain
theorem c_law_grain (T : Top K mg) : Callee P w K mg base "_law_grain" 2 1 m_law_grain := by
  obtain ⟨f, fd, F, hm⟩ := T.f_law_grain
  exact callee_mk F hm sc_law_grain rfl (fun _ _ _ _ _ _ us hl => match us, hl with | [_], _ => rfl) rfl (fun cdv A outer s H E C => 
  (ds_cons (d1_set (i := 1) (M' := []) C.nd rfl (.inl rfl) (de_call C (c_law_common T) (by decide) (da_cons (de_ix (de_name (i := 0) List.not_mem_nil rfl (.inl rfl)) de_int (fun _ _ => rfl)) (da_cons (de_ix (de_name (i := 0) List.not_mem_nil rfl (.inl rfl)) de_int (fun _ _ => rfl)) da_nil)) rfl) rfl)
  (ds_cons (d1_if (dt_bool (dw_or (dt_cmp (opD_lt C.hu) (de_ix (de_name (i := 0) List.not_mem_nil rfl (.inl rfl)) de_int (fun _ _ => rfl)) de_int (nomark _)) (dw_or1 (dt_bool (dw_and (dt_cmp (opD_eq C.hu) (de_ix (de_name (i := 0) List.not_mem_nil rfl (.inl rfl)) de_int (fun _ _ => rfl)) de_int (nomark _)) (dw_and1 (dt_cmp (opD_lt C.hu) (de_ix (de_name (i := 0) List.not_mem_nil rfl (.inl rfl)) de_int (fun _ _ => rfl)) de_int (nomark _))))))))
 (ds_one (d1_set (i := 1) (M' := []) C.nd rfl (.inl rfl) (de_un unD_neg (de_name (i := 1) List.not_mem_nil rfl (.inl rfl))) rfl))
 ds_nil)
  (ds_one (d1_ret (de_tup (da_cons (de_op opD_fdiv (de_ix (de_name (i := 0) List.not_mem_nil rfl (.inl rfl)) de_int (fun _ _ => rfl)) (de_name (i := 1) List.not_mem_nil rfl (.inl rfl))) (da_cons (de_op opD_fdiv (de_ix (de_name (i := 0) List.not_mem_nil rfl (.inl rfl)) de_int (fun _ _ => rfl)) (de_name (i := 1) List.not_mem_nil rfl (.inl rfl))) da_nil)) (by decide)))))))
abbrev s_law_strength : Stmt := tp 42
theorem sc_law_strength : FnScope ["cloth", "grain", "pull", "dot", "cross", "total", "n"] ["cloth", "grain", "pull"] (defScope s_law_strength) := ⟨rfl, rfl, rfl, by decide +kernel, rfl, by decide +kernel, by decide +kernel⟩
def b_law_strength : EnvD → SR :=
  (sSeq (sSet 3 (e2 addD (e2 mulD (e2 atD (eN 1) (eC (.int 0))) (e2 atD (eN 2) (eC (.int 0)))) (e2 mulD (e2 atD (eN 1) (eC (.int 1))) (e2 atD (eN 2) (eC (.int 1))))))
  (sSeq (sSet 4 (e2 subD (e2 mulD (e2 atD (eN 1) (eC (.int 0))) (e2 atD (eN 2) (eC (.int 1)))) (e2 mulD (e2 atD (eN 1) (eC (.int 1))) (e2 atD (eN 2) (eC (.int 0))))))
  (sSeq (sSet 5 (e2 addD (e2 mulD (eN 3) (eN 3)) (e2 mulD (eN 4) (eN 4))))
  (sSeq (sSet 6 (e2 subD (e2 mulD (e2 addD (e2 mulD (e2 mulD (e2 atD (eN 0) (eC (.int 1))) (eN 3)) (eN 3)) (e2 mulD (e2 mulD (e2 atD (eN 0) (eC (.int 2))) (eN 4)) (eN 4))) (eN 5)) (e2 mulD (e2 mulD (e2 mulD (e2 mulD (e2 mulD (eC (.int 4)) (e2 atD (eN 0) (eC (.int 3)))) (eN 3)) (eN 3)) (eN 4)) (eN 4))))
  (sRet (eF m_law_low [(eN 6), (e2 mulD (eN 5) (eN 5))]))))))
def m_law_strength : List D → ER D := callM 7 3 b_law_strength
theorem c_law_strength (T : Top K mg) : Callee P w K mg base "_law_strength" 3 3 m_law_strength := by
  obtain ⟨f, fd, F, hm⟩ := T.f_law_strength
  exact callee_mk F hm sc_law_strength rfl (fun _ _ _ _ _ _ us hl => match us, hl with | [_, _, _], _ => rfl) rfl (fun cdv A outer s H E C => 
  (ds_cons (d1_set (i := 3) (M' := []) C.nd rfl (.inl rfl) (de_op opD_add (de_op opD_mul (de_ix (de_name (i := 1) List.not_mem_nil rfl (.inl rfl)) de_int (fun _ _ => rfl)) (de_ix (de_name (i := 2) List.not_mem_nil rfl (.inl rfl)) de_int (fun _ _ => rfl))) (de_op opD_mul (de_ix (de_name (i := 1) List.not_mem_nil rfl (.inl rfl)) de_int (fun _ _ => rfl)) (de_ix (de_name (i := 2) List.not_mem_nil rfl (.inl rfl)) de_int (fun _ _ => rfl)))) rfl)
  (ds_cons (d1_set (i := 4) (M' := []) C.nd rfl (.inl rfl) (de_op opD_sub (de_op opD_mul (de_ix (de_name (i := 1) List.not_mem_nil rfl (.inl rfl)) de_int (fun _ _ => rfl)) (de_ix (de_name (i := 2) List.not_mem_nil rfl (.inl rfl)) de_int (fun _ _ => rfl))) (de_op opD_mul (de_ix (de_name (i := 1) List.not_mem_nil rfl (.inl rfl)) de_int (fun _ _ => rfl)) (de_ix (de_name (i := 2) List.not_mem_nil rfl (.inl rfl)) de_int (fun _ _ => rfl)))) rfl)
  (ds_cons (d1_set (i := 5) (M' := []) C.nd rfl (.inl rfl) (de_op opD_add (de_op opD_mul (de_name (i := 3) List.not_mem_nil rfl (.inl rfl)) (de_name (i := 3) List.not_mem_nil rfl (.inl rfl))) (de_op opD_mul (de_name (i := 4) List.not_mem_nil rfl (.inl rfl)) (de_name (i := 4) List.not_mem_nil rfl (.inl rfl)))) rfl)
  (ds_cons (d1_set (i := 6) (M' := []) C.nd rfl (.inl rfl) (de_op opD_sub (de_op opD_mul (de_op opD_add (de_op opD_mul (de_op opD_mul (de_ix (de_name (i := 0) List.not_mem_nil rfl (.inl rfl)) de_int (fun _ _ => rfl)) (de_name (i := 3) List.not_mem_nil rfl (.inl rfl))) (de_name (i := 3) List.not_mem_nil rfl (.inl rfl))) (de_op opD_mul (de_op opD_mul (de_ix (de_name (i := 0) List.not_mem_nil rfl (.inl rfl)) de_int (fun _ _ => rfl)) (de_name (i := 4) List.not_mem_nil rfl (.inl rfl))) (de_name (i := 4) List.not_mem_nil rfl (.inl rfl)))) (de_name (i := 5) List.not_mem_nil rfl (.inl rfl))) (de_op opD_mul (de_op opD_mul (de_op opD_mul (de_op opD_mul (de_op opD_mul de_int (de_ix (de_name (i := 0) List.not_mem_nil rfl (.inl rfl)) de_int (fun _ _ => rfl))) (de_name (i := 3) List.not_mem_nil rfl (.inl rfl))) (de_name (i := 3) List.not_mem_nil rfl (.inl rfl))) (de_name (i := 4) List.not_mem_nil rfl (.inl rfl))) (de_name (i := 4) List.not_mem_nil rfl (.inl rfl)))) rfl)
  (ds_one (d1_ret (de_call C (c_law_low T) (by decide) (da_cons (de_name (i := 6) List.not_mem_nil rfl (.inl rfl)) (da_cons (de_op opD_mul (de_name (i := 5) List.not_mem_nil rfl (.inl rfl)) (de_name (i := 5) List.not_mem_nil rfl (.inl rfl))) da_nil)) rfl))))))))
abbrev s_law_shape : Stmt := tp 43
theorem sc_law_shape : FnScope ["numbers", "corners", "kind", "x", "y", "w", "h", "d", "piece", "i", "j"] ["numbers"] (defScope s_law_shape) := ⟨rfl, rfl, rfl, by decide +kernel, rfl, by decide +kernel, by decide +kernel⟩
def b_law_shape : EnvD → SR :=
  (sSeq (sSet 1 (eL [(eL [(eT [(eC (.int 0)), (eC (.int 0))]), (eT [(eC (.int 1)), (eC (.int 0))]), (eT [(eC (.int 1)), (eC (.int 1))]), (eT [(eC (.int 0)), (eC (.int 1))])]), (eL [(eT [(eC (.int 0)), (eC (.int 0))]), (eT [(eC (.int 1)), (eC (.int 0))]), (eT [(eC (.int 0)), (eC (.int 1))])]), (eL [(eT [(eC (.int 0)), (eC (.int 0))]), (eT [(eC (.int 2)), (eC (.int 0))]), (eT [(eC (.int 2)), (eC (.int 1))]), (eT [(eC (.int 1)), (eC (.int 1))]), (eT [(eC (.int 1)), (eC (.int 2))]), (eT [(eC (.int 0)), (eC (.int 2))])]), (eL [(eT [(eC (.int 0)), (eC (.int 1))]), (eT [(eC (.int 1)), (eC (.int 0))]), (eT [(eC (.int 2)), (eC (.int 0))]), (eT [(eC (.int 3)), (eC (.int 1))]), (eT [(eC (.int 3)), (eC (.int 2))]), (eT [(eC (.int 2)), (eC (.int 3))]), (eT [(eC (.int 1)), (eC (.int 3))]), (eT [(eC (.int 0)), (eC (.int 2))])]), (eL [(eT [(eC (.int 0)), (eC (.int 0))]), (eT [(eC (.int 1)), (eC (.int 0))]), (eT [(eC (.int 2)), (eC (.int 1))]), (eT [(eC (.int 1)), (eC (.int 1))])])]))
  (sSeq (sSetX 2 (xO m_law_take 0 [(xP (eC (.int 5)))]))
  (sSeq (sSetX 3 (x2 subD (xO m_law_take 0 [(xP (eC (.int 21)))]) (xP (eC (.int 10)))))
  (sSeq (sSetX 4 (x2 subD (xO m_law_take 0 [(xP (eC (.int 21)))]) (xP (eC (.int 10)))))
  (sSeq (sSetX 5 (x2 addD (xP (eC (.int 1))) (xO m_law_take 0 [(xP (eC (.int 6)))])))
  (sSeq (sSetX 6 (x2 addD (xP (eC (.int 1))) (xO m_law_take 0 [(xP (eC (.int 6)))])))
  (sSeq (sSetX 7 (x2 addD (xP (eC (.int 1))) (xO m_law_take 0 [(xP (eC (.int 3)))])))
  (sSeq (sSet 8 (eB tupleD [(eN' (eLc (.t [(.n 9), (.n 10)]) [9, 10] (iD (e2 atD (eN 1) (eN 2))) tTrue (eT [(eF m_law_low [(e2 addD (eN 3) (e2 mulD (eN 5) (eN 9))), (eN 7)]), (eF m_law_low [(e2 addD (eN 4) (e2 mulD (eN 6) (eN 10))), (eN 7)])])))]))
  (sRetO (xP (eT [(eN 8), (eF m_law_low [(e2 mulD (e2 mulD (e2 atD (eL [(eC (.int 2)), (eC (.int 1)), (eC (.int 6)), (eC (.int 14)), (eC (.int 2))]) (eN 2)) (eN 5)) (eN 6)), (e2 mulD (e2 mulD (eC (.int 2)) (eN 7)) (eN 7))])])))))))))))
def m_law_shape : List D → ER D := callMO 11 0 b_law_shape
theorem c_law_shape (T : Top K mg) : CalleeO P w K mg base "_law_shape" 3 0 m_law_shape := by
  obtain ⟨f, fd, F, hm⟩ := T.f_law_shape
  exact calleeO_mk (Mn := []) F hm sc_law_shape rfl (fun _ _ _ _ _ _ us hl => match us, hl with | [_], _ => rfl) rfl (fun cdv A outer s H E C => 
  (ds_cons (d1_set (i := 1) (M' := [0]) C.nd rfl (.inl rfl) (de_lst (da_cons (de_lst (da_cons (de_tup (da_cons de_int (da_cons de_int da_nil)) (by decide)) (da_cons (de_tup (da_cons de_int (da_cons de_int da_nil)) (by decide)) (da_cons (de_tup (da_cons de_int (da_cons de_int da_nil)) (by decide)) (da_cons (de_tup (da_cons de_int (da_cons de_int da_nil)) (by decide)) da_nil)))) (by decide)) (da_cons (de_lst (da_cons (de_tup (da_cons de_int (da_cons de_int da_nil)) (by decide)) (da_cons (de_tup (da_cons de_int (da_cons de_int da_nil)) (by decide)) (da_cons (de_tup (da_cons de_int (da_cons de_int da_nil)) (by decide)) da_nil))) (by decide)) (da_cons (de_lst (da_cons (de_tup (da_cons de_int (da_cons de_int da_nil)) (by decide)) (da_cons (de_tup (da_cons de_int (da_cons de_int da_nil)) (by decide)) (da_cons (de_tup (da_cons de_int (da_cons de_int da_nil)) (by decide)) (da_cons (de_tup (da_cons de_int (da_cons de_int da_nil)) (by decide)) (da_cons (de_tup (da_cons de_int (da_cons de_int da_nil)) (by decide)) (da_cons (de_tup (da_cons de_int (da_cons de_int da_nil)) (by decide)) da_nil)))))) (by decide)) (da_cons (de_lst (da_cons (de_tup (da_cons de_int (da_cons de_int da_nil)) (by decide)) (da_cons (de_tup (da_cons de_int (da_cons de_int da_nil)) (by decide)) (da_cons (de_tup (da_cons de_int (da_cons de_int da_nil)) (by decide)) (da_cons (de_tup (da_cons de_int (da_cons de_int da_nil)) (by decide)) (da_cons (de_tup (da_cons de_int (da_cons de_int da_nil)) (by decide)) (da_cons (de_tup (da_cons de_int (da_cons de_int da_nil)) (by decide)) (da_cons (de_tup (da_cons de_int (da_cons de_int da_nil)) (by decide)) (da_cons (de_tup (da_cons de_int (da_cons de_int da_nil)) (by decide)) da_nil)))))))) (by decide)) (da_cons (de_lst (da_cons (de_tup (da_cons de_int (da_cons de_int da_nil)) (by decide)) (da_cons (de_tup (da_cons de_int (da_cons de_int da_nil)) (by decide)) (da_cons (de_tup (da_cons de_int (da_cons de_int da_nil)) (by decide)) (da_cons (de_tup (da_cons de_int (da_cons de_int da_nil)) (by decide)) da_nil)))) (by decide)) da_nil))))) (by decide)) rfl)
  (ds_cons (d1_setX (i := 2) (M' := [0]) C.nd rfl (.inl rfl) (xe_callO (i := 0) C (c_law_take T) (by decide) (by decide) rfl (.inl rfl) (xa_cons (xe_pure C de_int) xa_nil) rfl) rfl)
  (ds_cons (d1_setX (i := 3) (M' := [0]) C.nd rfl (.inr rfl) (xe_op opD_sub (xe_callO (i := 0) C (c_law_take T) (by decide) (by decide) rfl (.inl rfl) (xa_cons (xe_pure C de_int) xa_nil) rfl) (xe_pure C de_int)) rfl)
  (ds_cons (d1_setX (i := 4) (M' := [0]) C.nd rfl (.inr rfl) (xe_op opD_sub (xe_callO (i := 0) C (c_law_take T) (by decide) (by decide) rfl (.inl rfl) (xa_cons (xe_pure C de_int) xa_nil) rfl) (xe_pure C de_int)) rfl)
  (ds_cons (d1_setX (i := 5) (M' := [0]) C.nd rfl (.inr rfl) (xe_op opD_add (xe_pure C de_int) (xe_callO (i := 0) C (c_law_take T) (by decide) (by decide) rfl (.inl rfl) (xa_cons (xe_pure C de_int) xa_nil) rfl)) rfl)
  (ds_cons (d1_setX (i := 6) (M' := [0]) C.nd rfl (.inr rfl) (xe_op opD_add (xe_pure C de_int) (xe_callO (i := 0) C (c_law_take T) (by decide) (by decide) rfl (.inl rfl) (xa_cons (xe_pure C de_int) xa_nil) rfl)) rfl)
  (ds_cons (d1_setX (i := 7) (M' := [0]) C.nd rfl (.inr rfl) (xe_op opD_add (xe_pure C de_int) (xe_callO (i := 0) C (c_law_take T) (by decide) (by decide) rfl (.inl rfl) (xa_cons (xe_pure C de_int) xa_nil) rfl)) rfl)
  (ds_cons (d1_set (i := 8) (M' := [0]) C.nd rfl (.inl rfl) (de_callT callD_tuple T.b_tuple bt_tuple rfl (da_cons (de_new (dn_lc (own := [("i", 9), ("j", 10)]) C (di_val (de_ix (de_name (i := 1) (by decide) rfl (.inl rfl)) (de_name (i := 2) (by decide) rfl (.inl rfl)) (fun _ _ => rfl))) (by rfl) rfl (by decide) (fun _ _ _ _ _ C => ⟨(dg_tup C.calm (dgs_cons (dg_name (i := 9) (by decide) C.nd rfl (.inl rfl) (.inr rfl)) (dgs_cons (dg_name (i := 10) (by decide) C.nd rfl (.inl rfl) (.inr rfl)) dgs_nil)) rfl rfl), dts_nil, (de_tup (da_cons (de_call C (c_law_low T) (by decide) (da_cons (de_op opD_add (de_name (i := 3) (by decide) rfl (.inr (.inl rfl))) (de_op opD_mul (de_name (i := 5) (by decide) rfl (.inr (.inl rfl))) (de_name (i := 9) (by decide) rfl (.inl rfl)))) (da_cons (de_name (i := 7) (by decide) rfl (.inr (.inl rfl))) da_nil)) rfl) (da_cons (de_call C (c_law_low T) (by decide) (da_cons (de_op opD_add (de_name (i := 4) (by decide) rfl (.inr (.inl rfl))) (de_op opD_mul (de_name (i := 6) (by decide) rfl (.inr (.inl rfl))) (de_name (i := 10) (by decide) rfl (.inl rfl)))) (da_cons (de_name (i := 7) (by decide) rfl (.inr (.inl rfl))) da_nil)) rfl) da_nil)) (by decide))⟩))) da_nil)) rfl)
  (ds_one (d1_retO (xe_pure C (de_tup (da_cons (de_name (i := 8) (by decide) rfl (.inl rfl)) (da_cons (de_call C (c_law_low T) (by decide) (da_cons (de_op opD_mul (de_op opD_mul (de_ix (de_lst (da_cons de_int (da_cons de_int (da_cons de_int (da_cons de_int (da_cons de_int da_nil))))) (by decide)) (de_name (i := 2) (by decide) rfl (.inl rfl)) (fun _ _ => rfl)) (de_name (i := 5) (by decide) rfl (.inr (.inl rfl)))) (de_name (i := 6) (by decide) rfl (.inr (.inl rfl)))) (da_cons (de_op opD_mul (de_op opD_mul de_int (de_name (i := 7) (by decide) rfl (.inr (.inl rfl)))) (de_name (i := 7) (by decide) rfl (.inr (.inl rfl)))) da_nil)) rfl) da_nil)) (by decide))) (by decide))))))))))))
abbrev s_law_gust : Stmt := tp 44
theorem sc_law_gust : FnScope ["numbers", "name", "pull", "pressure"] ["numbers"] (defScope s_law_gust) := ⟨rfl, rfl, rfl, by decide +kernel, rfl, by decide +kernel, by decide +kernel⟩
def b_law_gust : EnvD → SR :=
  (sSeq (sSetX 1 (xO m_law_name 0 []))
  (sSeq (sSetX 2 (xO m_law_vector 0 []))
  (sSeq (sSetX 3 (xO m_law_take 0 [(xP (eC (.int 9)))]))
  (sRetO (xTu [(xP (eT [(eN 1), (eN 2), (eN 3)])), (xF m_law_low [(xO m_law_take 0 [(xP (eC (.int 5)))]), (xP (eC (.int 4)))])])))))
def m_law_gust : List D → ER D := callMO 4 0 b_law_gust
theorem c_law_gust (T : Top K mg) : CalleeO P w K mg base "_law_gust" 3 0 m_law_gust := by
  obtain ⟨f, fd, F, hm⟩ := T.f_law_gust
  exact calleeO_mk (Mn := []) F hm sc_law_gust rfl (fun _ _ _ _ _ _ us hl => match us, hl with | [_], _ => rfl) rfl (fun cdv A outer s H E C => 
  (ds_cons (d1_setX (i := 1) (M' := [0]) C.nd rfl (.inl rfl) (xe_callO1 (i := 0) C (c_law_name T) (by decide) (by decide) rfl (.inl rfl)) rfl)
  (ds_cons (d1_setX (i := 2) (M' := [0]) C.nd rfl (.inl rfl) (xe_callO1 (i := 0) C (c_law_vector T) (by decide) (by decide) rfl (.inl rfl)) rfl)
  (ds_cons (d1_setX (i := 3) (M' := [0]) C.nd rfl (.inl rfl) (xe_callO (i := 0) C (c_law_take T) (by decide) (by decide) rfl (.inl rfl) (xa_cons (xe_pure C de_int) xa_nil) rfl) rfl)
  (ds_one (d1_retO (xe_tup (xa_cons (xe_pure C (de_tup (da_cons (de_name (i := 1) (by decide) rfl (.inl rfl)) (da_cons (de_name (i := 2) (by decide) rfl (.inl rfl)) (da_cons (de_name (i := 3) (by decide) rfl (.inl rfl)) da_nil))) (by decide))) (xa_cons (xe_call C (c_law_low T) (by decide) (xa_cons (xe_callO (i := 0) C (c_law_take T) (by decide) (by decide) rfl (.inl rfl) (xa_cons (xe_pure C de_int) xa_nil) rfl) (xa_cons (xe_pure C de_int) xa_nil)) rfl) xa_nil)) (by decide)) (by decide)))))))
abbrev s_law_margin : Stmt := tp 45
theorem sc_law_margin : FnScope ["part", "gust", "left", "worn", "strength", "held", "pulled"] ["part", "gust", "left", "worn"] (defScope s_law_margin) := ⟨rfl, rfl, rfl, by decide +kernel, rfl, by decide +kernel, by decide +kernel⟩
def b_law_margin : EnvD → SR :=
  (sSeq (sSet 4 (eF m_law_strength [(e2 atD (eN 0) (eC (.int 0))), (e2 atD (eN 0) (eC (.int 2))), (e2 atD (e2 atD (eN 1) (eC (.int 0))) (eC (.int 1)))]))
  (sSeq (sSet 5 (e2 mulD (e2 mulD (e2 mulD (e2 atD (eN 4) (eC (.int 0))) (e2 subD (eC (.int 12)) (eN 3))) (e2 atD (e2 atD (eN 1) (eC (.int 1))) (eC (.int 1)))) (e2 atD (eN 2) (eC (.int 1)))))
  (sSeq (sSet 6 (e2 mulD (e2 mulD (e2 mulD (e2 mulD (eC (.int 12)) (e2 atD (eN 4) (eC (.int 1)))) (e2 atD (e2 atD (eN 1) (eC (.int 0))) (eC (.int 2)))) (e2 atD (e2 atD (eN 1) (eC (.int 1))) (eC (.int 0)))) (e2 atD (eN 2) (eC (.int 0)))))
  (sRet (eF m_law_low [(e2 subD (eN 5) (eN 6)), (e2 mulD (e2 mulD (e2 mulD (eC (.int 12)) (e2 atD (eN 4) (eC (.int 1)))) (e2 atD (e2 atD (eN 1) (eC (.int 1))) (eC (.int 1)))) (e2 atD (eN 2) (eC (.int 1))))])))))
def m_law_margin : List D → ER D := callM 7 4 b_law_margin
theorem c_law_margin (T : Top K mg) : Callee P w K mg base "_law_margin" 4 4 m_law_margin := by
  obtain ⟨f, fd, F, hm⟩ := T.f_law_margin
  exact callee_mk F hm sc_law_margin rfl (fun _ _ _ _ _ _ us hl => match us, hl with | [_, _, _, _], _ => rfl) rfl (fun cdv A outer s H E C => 
  (ds_cons (d1_set (i := 4) (M' := []) C.nd rfl (.inl rfl) (de_call C (c_law_strength T) (by decide) (da_cons (de_ix (de_name (i := 0) List.not_mem_nil rfl (.inl rfl)) de_int (fun _ _ => rfl)) (da_cons (de_ix (de_name (i := 0) List.not_mem_nil rfl (.inl rfl)) de_int (fun _ _ => rfl)) (da_cons (de_ix (de_ix (de_name (i := 1) List.not_mem_nil rfl (.inl rfl)) de_int (fun _ _ => rfl)) de_int (fun _ _ => rfl)) da_nil))) rfl) rfl)
  (ds_cons (d1_set (i := 5) (M' := []) C.nd rfl (.inl rfl) (de_op opD_mul (de_op opD_mul (de_op opD_mul (de_ix (de_name (i := 4) List.not_mem_nil rfl (.inl rfl)) de_int (fun _ _ => rfl)) (de_op opD_sub de_int (de_name (i := 3) List.not_mem_nil rfl (.inl rfl)))) (de_ix (de_ix (de_name (i := 1) List.not_mem_nil rfl (.inl rfl)) de_int (fun _ _ => rfl)) de_int (fun _ _ => rfl))) (de_ix (de_name (i := 2) List.not_mem_nil rfl (.inl rfl)) de_int (fun _ _ => rfl))) rfl)
  (ds_cons (d1_set (i := 6) (M' := []) C.nd rfl (.inl rfl) (de_op opD_mul (de_op opD_mul (de_op opD_mul (de_op opD_mul de_int (de_ix (de_name (i := 4) List.not_mem_nil rfl (.inl rfl)) de_int (fun _ _ => rfl))) (de_ix (de_ix (de_name (i := 1) List.not_mem_nil rfl (.inl rfl)) de_int (fun _ _ => rfl)) de_int (fun _ _ => rfl))) (de_ix (de_ix (de_name (i := 1) List.not_mem_nil rfl (.inl rfl)) de_int (fun _ _ => rfl)) de_int (fun _ _ => rfl))) (de_ix (de_name (i := 2) List.not_mem_nil rfl (.inl rfl)) de_int (fun _ _ => rfl))) rfl)
  (ds_one (d1_ret (de_call C (c_law_low T) (by decide) (da_cons (de_op opD_sub (de_name (i := 5) List.not_mem_nil rfl (.inl rfl)) (de_name (i := 6) List.not_mem_nil rfl (.inl rfl))) (da_cons (de_op opD_mul (de_op opD_mul (de_op opD_mul de_int (de_ix (de_name (i := 4) List.not_mem_nil rfl (.inl rfl)) de_int (fun _ _ => rfl))) (de_ix (de_ix (de_name (i := 1) List.not_mem_nil rfl (.inl rfl)) de_int (fun _ _ => rfl)) de_int (fun _ _ => rfl))) (de_ix (de_name (i := 2) List.not_mem_nil rfl (.inl rfl)) de_int (fun _ _ => rfl))) da_nil)) rfl)))))))
abbrev s_law_margins : Stmt := tp 46
theorem sc_law_margins : FnScope ["parts", "gust", "lefts", "wear", "k"] ["parts", "gust", "lefts", "wear"] (defScope s_law_margins) := ⟨rfl, rfl, rfl, by decide +kernel, rfl, by decide +kernel, by decide +kernel⟩
def b_law_margins : EnvD → SR :=
  (sRet (eN' (eLc (.n 4) [4] (iR1 (eB lenD [(eN 0)])) tTrue (eF m_law_margin [(e2 atD (eN 0) (eN 4)), (eN 1), (e2 atD (eN 2) (eN 4)), (e2 atD (eN 3) (eN 4))]))))
def m_law_margins : List D → ER D := callM 5 4 b_law_margins
theorem c_law_margins (T : Top K mg) : Callee P w K mg base "_law_margins" 5 4 m_law_margins := by
  obtain ⟨f, fd, F, hm⟩ := T.f_law_margins
  exact callee_mk F hm sc_law_margins rfl (fun _ _ _ _ _ _ us hl => match us, hl with | [_, _, _, _], _ => rfl) rfl (fun cdv A outer s H E C => 
  (ds_one (d1_ret (de_new (dn_lc (own := [("k", 4)]) C (di_rng1 T.b_range (de_callB callD_len T.b_len bt_len rfl (da_cons (de_name (i := 0) List.not_mem_nil rfl (.inr (.inl rfl))) da_nil))) (by rfl) rfl (by decide) (fun _ _ _ _ _ C => ⟨(dg_name (i := 4) List.not_mem_nil C.nd rfl (.inl rfl) (.inr rfl)), dts_nil, (de_call C (c_law_margin T) (by decide) (da_cons (de_ix (de_name (i := 0) List.not_mem_nil rfl (.inr (.inl rfl))) (de_name (i := 4) List.not_mem_nil rfl (.inl rfl)) (fun _ _ => rfl)) (da_cons (de_name (i := 1) List.not_mem_nil rfl (.inr (.inl rfl))) (da_cons (de_ix (de_name (i := 2) List.not_mem_nil rfl (.inr (.inl rfl))) (de_name (i := 4) List.not_mem_nil rfl (.inl rfl)) (fun _ _ => rfl)) (da_cons (de_ix (de_name (i := 3) List.not_mem_nil rfl (.inr (.inl rfl))) (de_name (i := 4) List.not_mem_nil rfl (.inl rfl)) (fun _ _ => rfl)) da_nil)))) rfl)⟩))))))
abbrev s_law_weakest : Stmt := tp 47
theorem sc_law_weakest : FnScope ["margins", "found", "k"] ["margins"] (defScope s_law_weakest) := ⟨rfl, rfl, rfl, by decide +kernel, rfl, by decide +kernel, by decide +kernel⟩
def b_law_weakest_l1 : EnvD → SR :=
  (sIf (tV truD (eF m_law_below [(e2 atD (eN 0) (eN 2)), (e2 atD (eN 0) (eN 1))]))
 (sSet 1 (eN 2))
 sNx)
def b_law_weakest : EnvD → SR :=
  (sSeq (sSet 1 (eC (.int 0)))
  (sSeq (sFor (.n 2) (iR1 (eB lenD [(eN 0)]))
 b_law_weakest_l1)
  (sRet (eT [(eN 1), (e2 atD (eN 0) (eN 1))]))))
def m_law_weakest : List D → ER D := callM 3 1 b_law_weakest
theorem c_law_weakest (T : Top K mg) : Callee P w K mg base "_law_weakest" 2 1 m_law_weakest := by
  obtain ⟨f, fd, F, hm⟩ := T.f_law_weakest
  exact callee_mk F hm sc_law_weakest rfl (fun _ _ _ _ _ _ us hl => match us, hl with | [_], _ => rfl) rfl (fun cdv A outer s H E C => 
  (ds_cons (d1_set (i := 1) (M' := []) C.nd rfl (.inl rfl) de_int rfl)
  (ds_cons (d1_for C (di_rng1 T.b_range (de_callB callD_len T.b_len bt_len rfl (da_cons (de_name (i := 0) List.not_mem_nil rfl (.inl rfl)) da_nil))) (dg_name (i := 2) List.not_mem_nil C.nd rfl (.inl rfl))
 (ds_one (d1_if (dt_val (de_call C (c_law_below T) (by decide) (da_cons (de_ix (de_name (i := 0) List.not_mem_nil rfl (.inl rfl)) (de_name (i := 2) List.not_mem_nil rfl (.inl rfl)) (fun _ _ => rfl)) (da_cons (de_ix (de_name (i := 0) List.not_mem_nil rfl (.inl rfl)) (de_name (i := 1) List.not_mem_nil rfl (.inl rfl)) (fun _ _ => rfl)) da_nil)) rfl))
 (ds_one (d1_set (i := 1) (M' := []) C.nd rfl (.inl rfl) (de_name (i := 2) List.not_mem_nil rfl (.inl rfl)) rfl))
 ds_nil)))
  (ds_one (d1_ret (de_tup (da_cons (de_name (i := 1) List.not_mem_nil rfl (.inl rfl)) (da_cons (de_ix (de_name (i := 0) List.not_mem_nil rfl (.inl rfl)) (de_name (i := 1) List.not_mem_nil rfl (.inl rfl)) (fun _ _ => rfl)) da_nil)) (by decide)))))))
abbrev s_law_lefts : Stmt := tp 48
theorem sc_law_lefts : FnScope ["numbers", "areas", "area"] ["numbers", "areas"] (defScope s_law_lefts) := ⟨rfl, rfl, rfl, by decide +kernel, rfl, by decide +kernel, by decide +kernel⟩
def b_law_lefts : EnvD → SR :=
  (sRetO (xB tupleD [(xN' (xLc [0] (.n 2) [2] (xP (iD (eN 1))) tTrue (xF m_law_low [(x2 mulD (xP (e2 atD (eN 2) (eC (.int 0)))) (xO m_law_take 0 [(xP (eC (.int 9)))])), (xP (e2 mulD (e2 atD (eN 2) (eC (.int 1))) (eC (.int 8))))])))]))
def m_law_lefts : List D → ER D := callMO 3 1 b_law_lefts
theorem c_law_lefts (T : Top K mg) : CalleeO P w K mg base "_law_lefts" 3 1 m_law_lefts := by
  obtain ⟨f, fd, F, hm⟩ := T.f_law_lefts
  exact calleeO_mk (Mn := []) F hm sc_law_lefts rfl (fun _ _ _ _ _ _ us hl => match us, hl with | [_, _], _ => rfl) rfl (fun cdv A outer s H E C => 
  (ds_one (d1_retO (xe_callT callD_tuple T.b_tuple bt_tuple rfl (xa_cons (xe_new (xn_lc (own := [("area", 2)]) C (xi_pure C (di_val (de_name (i := 1) (by decide) rfl (.inl rfl)))) (by rfl) rfl (by decide) (by decide) (fun _ _ _ _ _ C => ⟨(dg_name (i := 2) (by decide) C.nd rfl (.inl rfl) (.inr rfl)), dts_nil, (xe_call C (c_law_low T) (by decide) (xa_cons (xe_op opD_mul (xe_pure C (de_ix (de_name (i := 2) (by decide) rfl (.inl rfl)) de_int (fun _ _ => rfl))) (xe_callO (i := 0) C (c_law_take T) (by decide) (by decide) rfl (.inr (.inl rfl)) (xa_cons (xe_pure C de_int) xa_nil) rfl)) (xa_cons (xe_pure C (de_op opD_mul (de_ix (de_name (i := 2) (by decide) rfl (.inl rfl)) de_int (fun _ _ => rfl)) de_int)) xa_nil)) rfl)⟩))) xa_nil)) (by decide))))
abbrev s_law_one_gust : Stmt := tp 49
theorem sc_law_one_gust : FnScope ["parts", "gust", "lefts", "wear", "margins", "k", "strength", "held", "pulled"] ["parts", "gust", "lefts", "wear"] (defScope s_law_one_gust) := ⟨rfl, rfl, rfl, by decide +kernel, rfl, by decide +kernel, by decide +kernel⟩
def b_law_one_gust_l1 : EnvD → SR :=
  (sSeq (sSet 6 (eF m_law_strength [(e2 atD (e2 atD (eN 0) (eN 5)) (eC (.int 0))), (e2 atD (e2 atD (eN 0) (eN 5)) (eC (.int 2))), (e2 atD (e2 atD (eN 1) (eC (.int 0))) (eC (.int 1)))]))
  (sSeq (sSet 7 (eF m_law_low [(e2 mulD (e2 atD (eN 6) (eC (.int 0))) (e2 subD (eC (.int 12)) (e2 atD (eN 3) (eN 5)))), (e2 mulD (e2 atD (eN 6) (eC (.int 1))) (eC (.int 12)))]))
  (sSeq (sIf (Z.tNot (tV truD (eF (m_law_same 12) [(eF m_part_holds [(e2 atD (eN 0) (eN 5)), (eN 1), (e2 atD (eN 3) (eN 5))]), (eN 7)])))
 (sRet (eC (.bool false)))
 sNx)
  (sSeq (sSet 8 (eF m_law_low [(e2 mulD (e2 mulD (e2 atD (e2 atD (eN 1) (eC (.int 0))) (eC (.int 2))) (e2 atD (e2 atD (eN 1) (eC (.int 1))) (eC (.int 0)))) (e2 atD (e2 atD (eN 2) (eN 5)) (eC (.int 0)))), (e2 mulD (e2 atD (e2 atD (eN 1) (eC (.int 1))) (eC (.int 1))) (e2 atD (e2 atD (eN 2) (eN 5)) (eC (.int 1))))]))
  (sIf (Z.tNot (tV truD (eF (m_law_same 12) [(eF m_part_pulled [(eN 1), (e2 atD (eN 2) (eN 5))]), (eN 8)])))
 (sRet (eC (.bool false)))
 sNx)))))
def b_law_one_gust : EnvD → SR :=
  (sSeq (sSet 4 (eF m_law_margins [(eN 0), (eN 1), (eN 2), (eN 3)]))
  (sSeq (sFor (.n 5) (iR1 (eB lenD [(eN 0)]))
 b_law_one_gust_l1)
  (sSeq (sIf (Z.tNot (tV truD (eF (m_law_same 12) [(eF m_gust_margins [(eN 0), (eN 1), (eN 2), (eN 3)]), (eB tupleD [(eN 4)])])))
 (sRet (eC (.bool false)))
 sNx)
  (sRet (eF (m_law_same 12) [(eF m_weakest_part [(eN 0), (eN 1), (eN 2), (eN 3)]), (eF m_law_weakest [(eN 4)])])))))
def m_law_one_gust : List D → ER D := callM 9 4 b_law_one_gust
theorem c_law_one_gust (T : Top K mg) : Callee P w K mg base "_law_one_gust" 14 4 m_law_one_gust := by
  obtain ⟨f, fd, F, hm⟩ := T.f_law_one_gust
  exact callee_mk F hm sc_law_one_gust rfl (fun _ _ _ _ _ _ us hl => match us, hl with | [_, _, _, _], _ => rfl) rfl (fun cdv A outer s H E C => 
  (ds_cons (d1_set (i := 4) (M' := []) C.nd rfl (.inl rfl) (de_call C (c_law_margins T) (by decide) (da_cons (de_name (i := 0) List.not_mem_nil rfl (.inl rfl)) (da_cons (de_name (i := 1) List.not_mem_nil rfl (.inl rfl)) (da_cons (de_name (i := 2) List.not_mem_nil rfl (.inl rfl)) (da_cons (de_name (i := 3) List.not_mem_nil rfl (.inl rfl)) da_nil)))) rfl) rfl)
  (ds_cons (d1_for C (di_rng1 T.b_range (de_callB callD_len T.b_len bt_len rfl (da_cons (de_name (i := 0) List.not_mem_nil rfl (.inl rfl)) da_nil))) (dg_name (i := 5) List.not_mem_nil C.nd rfl (.inl rfl))
 (ds_cons (d1_set (i := 6) (M' := []) C.nd rfl (.inl rfl) (de_call C (c_law_strength T) (by decide) (da_cons (de_ix (de_ix (de_name (i := 0) List.not_mem_nil rfl (.inl rfl)) (de_name (i := 5) List.not_mem_nil rfl (.inl rfl)) (fun _ _ => rfl)) de_int (fun _ _ => rfl)) (da_cons (de_ix (de_ix (de_name (i := 0) List.not_mem_nil rfl (.inl rfl)) (de_name (i := 5) List.not_mem_nil rfl (.inl rfl)) (fun _ _ => rfl)) de_int (fun _ _ => rfl)) (da_cons (de_ix (de_ix (de_name (i := 1) List.not_mem_nil rfl (.inl rfl)) de_int (fun _ _ => rfl)) de_int (fun _ _ => rfl)) da_nil))) rfl) rfl)
  (ds_cons (d1_set (i := 7) (M' := []) C.nd rfl (.inl rfl) (de_call C (c_law_low T) (by decide) (da_cons (de_op opD_mul (de_ix (de_name (i := 6) List.not_mem_nil rfl (.inl rfl)) de_int (fun _ _ => rfl)) (de_op opD_sub de_int (de_ix (de_name (i := 3) List.not_mem_nil rfl (.inl rfl)) (de_name (i := 5) List.not_mem_nil rfl (.inl rfl)) (fun _ _ => rfl)))) (da_cons (de_op opD_mul (de_ix (de_name (i := 6) List.not_mem_nil rfl (.inl rfl)) de_int (fun _ _ => rfl)) de_int) da_nil)) rfl) rfl)
  (ds_cons (d1_if (dt_not (dt_val (de_call C (c_law_same T 12) (by decide) (da_cons (de_call C (c_part_holds T) (by decide) (da_cons (de_ix (de_name (i := 0) List.not_mem_nil rfl (.inl rfl)) (de_name (i := 5) List.not_mem_nil rfl (.inl rfl)) (fun _ _ => rfl)) (da_cons (de_name (i := 1) List.not_mem_nil rfl (.inl rfl)) (da_cons (de_ix (de_name (i := 3) List.not_mem_nil rfl (.inl rfl)) (de_name (i := 5) List.not_mem_nil rfl (.inl rfl)) (fun _ _ => rfl)) da_nil))) rfl) (da_cons (de_name (i := 7) List.not_mem_nil rfl (.inl rfl)) da_nil)) rfl)))
 (ds_one (d1_ret de_bl))
 ds_nil)
  (ds_cons (d1_set (i := 8) (M' := []) C.nd rfl (.inl rfl) (de_call C (c_law_low T) (by decide) (da_cons (de_op opD_mul (de_op opD_mul (de_ix (de_ix (de_name (i := 1) List.not_mem_nil rfl (.inl rfl)) de_int (fun _ _ => rfl)) de_int (fun _ _ => rfl)) (de_ix (de_ix (de_name (i := 1) List.not_mem_nil rfl (.inl rfl)) de_int (fun _ _ => rfl)) de_int (fun _ _ => rfl))) (de_ix (de_ix (de_name (i := 2) List.not_mem_nil rfl (.inl rfl)) (de_name (i := 5) List.not_mem_nil rfl (.inl rfl)) (fun _ _ => rfl)) de_int (fun _ _ => rfl))) (da_cons (de_op opD_mul (de_ix (de_ix (de_name (i := 1) List.not_mem_nil rfl (.inl rfl)) de_int (fun _ _ => rfl)) de_int (fun _ _ => rfl)) (de_ix (de_ix (de_name (i := 2) List.not_mem_nil rfl (.inl rfl)) (de_name (i := 5) List.not_mem_nil rfl (.inl rfl)) (fun _ _ => rfl)) de_int (fun _ _ => rfl))) da_nil)) rfl) rfl)
  (ds_one (d1_if (dt_not (dt_val (de_call C (c_law_same T 12) (by decide) (da_cons (de_call C (c_part_pulled T) (by decide) (da_cons (de_name (i := 1) List.not_mem_nil rfl (.inl rfl)) (da_cons (de_ix (de_name (i := 2) List.not_mem_nil rfl (.inl rfl)) (de_name (i := 5) List.not_mem_nil rfl (.inl rfl)) (fun _ _ => rfl)) da_nil)) rfl) (da_cons (de_name (i := 8) List.not_mem_nil rfl (.inl rfl)) da_nil)) rfl)))
 (ds_one (d1_ret de_bl))
 ds_nil)))))))
  (ds_cons (d1_if (dt_not (dt_val (de_call C (c_law_same T 12) (by decide) (da_cons (de_call C (c_gust_margins T) (by decide) (da_cons (de_name (i := 0) List.not_mem_nil rfl (.inl rfl)) (da_cons (de_name (i := 1) List.not_mem_nil rfl (.inl rfl)) (da_cons (de_name (i := 2) List.not_mem_nil rfl (.inl rfl)) (da_cons (de_name (i := 3) List.not_mem_nil rfl (.inl rfl)) da_nil)))) rfl) (da_cons (de_callT callD_tuple T.b_tuple bt_tuple rfl (da_cons (de_name (i := 4) List.not_mem_nil rfl (.inl rfl)) da_nil)) da_nil)) rfl)))
 (ds_one (d1_ret de_bl))
 ds_nil)
  (ds_one (d1_ret (de_call C (c_law_same T 12) (by decide) (da_cons (de_call C (c_weakest_part T) (by decide) (da_cons (de_name (i := 0) List.not_mem_nil rfl (.inl rfl)) (da_cons (de_name (i := 1) List.not_mem_nil rfl (.inl rfl)) (da_cons (de_name (i := 2) List.not_mem_nil rfl (.inl rfl)) (da_cons (de_name (i := 3) List.not_mem_nil rfl (.inl rfl)) da_nil)))) rfl) (da_cons (de_call C (c_law_weakest T) (by decide) (da_cons (de_name (i := 4) List.not_mem_nil rfl (.inl rfl)) da_nil) rfl) da_nil)) rfl)))))))
abbrev s_law_no_gust : Stmt := tp 50
theorem sc_law_no_gust : FnScope ["parts", "lefts", "wear"] ["parts", "lefts", "wear"] (defScope s_law_no_gust) := ⟨rfl, rfl, rfl, by decide +kernel, rfl, by decide +kernel, by decide +kernel⟩
def b_law_no_gust : EnvD → SR :=
  (sSeq (sTry (sDrop (eF m_worst_gust [(eN 0), (eT []), (eN 1), (eN 2)]))
 (catch_OutOfRange) (fun _ => (sRet (eC (.bool true)))))
  (sRet (eC (.bool false))))
def m_law_no_gust : List D → ER D := callM 3 3 b_law_no_gust
theorem c_law_no_gust (T : Top K mg) : Callee P w K mg base "_law_no_gust" 9 3 m_law_no_gust := by
  obtain ⟨f, fd, F, hm⟩ := T.f_law_no_gust
  exact callee_mk F hm sc_law_no_gust rfl (fun _ _ _ _ _ _ us hl => match us, hl with | [_, _, _], _ => rfl) rfl (fun cdv A outer s H E C => 
  (ds_cons (d1_try C rfl rfl T.h_OutOfRange rfl (fun W' pn xe C => (ds_one (d1_drop (de_call C (c_worst_gust T) (by decide) (da_cons (de_name (i := 0) List.not_mem_nil rfl (.inl rfl)) (da_cons (de_tup da_nil (by decide)) (da_cons (de_name (i := 1) List.not_mem_nil rfl (.inl rfl)) (da_cons (de_name (i := 2) List.not_mem_nil rfl (.inl rfl)) da_nil)))) rfl)))) (fun _ _ _ => (ds_one (d1_ret de_bl))))
  (ds_one (d1_ret de_bl))))
abbrev s_law : Stmt := tp 51
theorem sc_law : FnScope ["script", "numbers", "parts", "areas", "k", "cloth", "piece", "area", "wear", "lefts", "gusts", "name", "pull", "pressure", "found", "least", "due", "part", "gust"] ["script"] (defScope s_law) := ⟨rfl, rfl, rfl, by decide +kernel, rfl, by decide +kernel, by decide +kernel⟩
def b_law_l1 : EnvD → SR :=
  (sSeq (sSetX 5 (xO m_law_cloth 1 [(xO m_law_name 1 []), (xP (eC (.int 120)))]))
  (sSeq (sPatX (.t [(.n 6), (.n 7)]) (xO m_law_shape 1 []))
  (sSeq (sAppX 2 (xTu [(xP (eN 5)), (xP (eN 6)), (xF m_law_grain [(xO m_law_vector 1 [])])]))
  (sApp 3 (eN 7)))))
def b_law_l2 : EnvD → SR :=
  (sSeq (sIf (Z.tNot (tV truD (eF m_law_one_gust [(eN 2), (e2 atD (eN 10) (eN 4)), (eN 9), (eN 8)])))
 (sRet (eC (.bool false)))
 sNx)
  (sIf (tV truD (eF m_law_below [(e2 atD (e2 atD (eN 15) (eN 4)) (eC (.int 1))), (e2 atD (e2 atD (eN 15) (eN 14)) (eC (.int 1)))]))
 (sSet 14 (eN 4))
 sNx))
def b_law : EnvD → SR :=
  (sSeq (sNew 1 (nF m_law_numbers [(eN 0), (eC (.int 240))]))
  (sSeq (sNew 2 (aL []))
  (sSeq (sNew 3 (aL []))
  (sSeq (sForX (.n 4) (xiR1 (x2 addD (xP (eC (.int 1))) (xO m_law_take 1 [(xP (eC (.int 4)))])))
 b_law_l1)
  (sSeq (sNewX 8 (xnLd [1] (xLc [1] (.n 17) [17] (xP (iD (eN 2))) tTrue (xO m_law_take 1 [(xP (eC (.int 7)))]))))
  (sSeq (sNewX 9 (xnLd [1] (xnL (xO m_law_lefts 1 [(xP (eN 3))]))))
  (sSeq (sIfX (xV isBool (x2 eqD (xO m_law_take 1 [(xP (eC (.int 3)))]) (xP (eC (.int 0)))))
 (sSeq (sSetIx 2 (e1 negD (eC (.int 1))) (e2 atD (eN 2) (eC (.int 0))))
  (sSeq (sSetIx 3 (e1 negD (eC (.int 1))) (e2 atD (eN 3) (eC (.int 0))))
  (sSeq (sSetIx 8 (e1 negD (eC (.int 1))) (e2 atD (eN 8) (eC (.int 0))))
  (sSetIx 9 (e1 negD (eC (.int 1))) (e2 atD (eN 9) (eC (.int 0)))))))
 sNx)
  (sSeq (sNewX 10 (xLc [9, 8, 3, 2, 1] (.n 4) [4] (xiR1 (x2 addD (xP (eC (.int 1))) (xO m_law_take 1 [(xP (eC (.int 4)))]))) tTrue (xO m_law_gust 1 [])))
  (sSeq (sIfX (xV isBool (x2 eqD (xO m_law_take 1 [(xP (eC (.int 2)))]) (xP (eC (.int 0)))))
 (sSeq (sPatX (.t [(.n 11), (.n 12), (.n 13)]) (xLd [] (xP (e2 atD (e2 atD (eN 10) (eC (.int 0))) (eC (.int 0))))))
  (sSetIxX 10 (eC (.int 0)) (xLd [1] (xTu [(xTu [(xP (eN 11)), (xP (eN 12)), (xO m_law_take 1 [(xP (eC (.int 1001)))])]), (xP (e2 atD (e2 atD (eN 10) (eC (.int 0))) (eC (.int 1))))]))))
 sNx)
  (sSeq (sIfX (xV isBool (x2 eqD (xO m_law_take 1 [(xP (eC (.int 3)))]) (xP (eC (.int 0)))))
 (sSetIx 10 (e1 negD (eC (.int 1))) (e2 atD (eN 10) (eC (.int 0))))
 sNx)
  (sSeq (sSet 2 (eB tupleD [(eN 2)]))
  (sSeq (sSet 8 (eB tupleD [(eN 8)]))
  (sSeq (sSet 9 (eB tupleD [(eN 9)]))
  (sSeq (sIf (Z.tOr (Z.tNot (tV truD (eF (m_law_same 12) [(eF m_full_lefts [(eN 2)]), (eB tupleD [(eN 3)])]))) (Z.tNot (tV truD (eF (m_law_same 12) [(eF m_no_wear [(eN 2)]), (eB tupleD [(eN' (eLc (.n 17) [17] (iD (eN 2)) tTrue (eC (.int 0))))])]))))
 (sRet (eC (.bool false)))
 sNx)
  (sSeq (sSet 14 (eC (.int 0)))
  (sSeq (sNew 15 (eLc (.n 18) [18] (iD (eN 10)) tTrue (eF m_law_weakest [(eF m_law_margins [(eN 2), (eN 18), (eN 9), (eN 8)])])))
  (sSeq (sFor (.n 4) (iR1 (eB lenD [(eN 10)]))
 b_law_l2)
  (sSeq (sSet 16 (eT [(eN 14), (e2 atD (e2 atD (eN 15) (eN 14)) (eC (.int 0))), (e2 atD (e2 atD (eN 15) (eN 14)) (eC (.int 1)))]))
  (sSeq (sIf (Z.tNot (tV truD (eF (m_law_same 12) [(eF m_worst_gust [(eN 2), (eB tupleD [(eN 10)]), (eN 9), (eN 8)]), (eN 16)])))
 (sRet (eC (.bool false)))
 sNx)
  (sRet (eF m_law_no_gust [(eN 2), (eN 9), (eN 8)])))))))))))))))))))))
def m_law : List D → ER D := callM 19 1 b_law
theorem law_fn (T : Top K mg) : LawFn K mg "law" 15 m_law := by
  obtain ⟨f, fd, F, hm⟩ := T.f_law
  exact lawFn_mk F hm sc_law (fun _ _ _ _ _ _ us hl => match us, hl with | [_], _ => rfl) rfl (fun P w base cdv A outer s H E C => 
  (ds_cons (d1_new (i := 1) (M' := [1]) C.nd rfl (.inr rfl) (dn_callF C (c_law_numbers T) (by decide) (da_cons (de_name (i := 0) List.not_mem_nil rfl (.inl rfl)) (da_cons de_int da_nil)) rfl) rfl)
  (ds_cons (d1_new (i := 2) (M' := [2, 1]) C.nd rfl (.inr rfl) (dn_lst da_nil (by decide)) rfl)
  (ds_cons (d1_new (i := 3) (M' := [3, 2, 1]) C.nd rfl (.inl rfl) (dn_lst da_nil (by decide)) rfl)
  (ds_cons (d1_forX C (xi_rng1 T.b_range (xe_op opD_add (xe_pure C de_int) (xe_callO (i := 1) C (c_law_take T) (by decide) (by decide) rfl (.inr (.inl rfl)) (xa_cons (xe_pure C de_int) xa_nil) rfl))) (dg_name (i := 4) (by decide) C.nd rfl (.inl rfl))
 (ds_cons (d1_setX (i := 5) (M' := [3, 2, 1]) C.nd rfl (.inl rfl) (xe_callO (i := 1) C (c_law_cloth T) (by decide) (by decide) rfl (.inr (.inl rfl)) (xa_cons (xe_callO1 (i := 1) C (c_law_name T) (by decide) (by decide) rfl (.inr (.inl rfl))) (xa_cons (xe_pure C de_int) xa_nil)) rfl) rfl)
  (ds_cons (d1_patX (xe_callO1 (i := 1) C (c_law_shape T) (by decide) (by decide) rfl (.inr (.inl rfl))) (dg_tup C.calm (dgs_cons (dg_name (i := 6) (by decide) C.nd rfl (.inl rfl)) (dgs_cons (dg_name (i := 7) (by decide) C.nd rfl (.inl rfl)) dgs_nil)) rfl rfl))
  (ds_cons (d1_appX (i := 2) (by decide) rfl (.inr (.inl rfl)) (xe_tup (xa_cons (xe_pure C (de_name (i := 5) (by decide) rfl (.inl rfl))) (xa_cons (xe_pure C (de_name (i := 6) (by decide) rfl (.inl rfl))) (xa_cons (xe_call C (c_law_grain T) (by decide) (xa_cons (xe_callO1 (i := 1) C (c_law_vector T) (by decide) (by decide) rfl (.inr (.inl rfl))) xa_nil) rfl) xa_nil))) (by decide)))
  (ds_one (d1_app (i := 3) (by decide) rfl (.inl rfl) (de_name (i := 7) (by decide) rfl (.inl rfl))))))))
  (ds_cons (d1_newX (i := 8) (M' := [8, 3, 2, 1]) C.nd rfl (.inr rfl) (xn_lend (M' := [1]) (by decide) (xn_lc (own := [("part", 17)]) C (xi_pure C (di_val (de_name (i := 2) (by decide) rfl (.inr (.inl rfl))))) (by rfl) rfl (by decide) (by decide) (fun _ _ _ _ _ C => ⟨(dg_name (i := 17) (by decide) C.nd rfl (.inl rfl) (.inr rfl)), dts_nil, (xe_callO (i := 1) C (c_law_take T) (by decide) (by decide) rfl (.inr (.inl rfl)) (xa_cons (xe_pure C de_int) xa_nil) rfl)⟩))) rfl)
  (ds_cons (d1_newX (i := 9) (M' := [9, 8, 3, 2, 1]) C.nd rfl (.inr rfl) (xn_lend (M' := [1]) (by decide) (xn_list T.b_list bt_list rfl (xe_callO (i := 1) C (c_law_lefts T) (by decide) (by decide) rfl (.inr (.inl rfl)) (xa_cons (xe_pure C (de_name (i := 3) (by decide) rfl (.inl rfl))) xa_nil) rfl))) rfl)
  (ds_cons (d1_ifX (xt_cmp (opD_eq C.hu) (xe_callO (i := 1) C (c_law_take T) (by decide) (by decide) rfl (.inr (.inl rfl)) (xa_cons (xe_pure C de_int) xa_nil) rfl) (xe_pure C de_int) (nomark _))
 (ds_cons (d1_setix (i := 2) (by decide) rfl (.inr (.inl rfl)) (de_ix (de_name (i := 2) List.not_mem_nil rfl (.inr (.inl rfl))) de_int (fun _ _ => rfl)) (de_un unD_neg de_int))
  (ds_cons (d1_setix (i := 3) (by decide) rfl (.inl rfl) (de_ix (de_name (i := 3) List.not_mem_nil rfl (.inl rfl)) de_int (fun _ _ => rfl)) (de_un unD_neg de_int))
  (ds_cons (d1_setix (i := 8) (by decide) rfl (.inr (.inl rfl)) (de_ix (de_name (i := 8) List.not_mem_nil rfl (.inr (.inl rfl))) de_int (fun _ _ => rfl)) (de_un unD_neg de_int))
  (ds_one (d1_setix (i := 9) (by decide) rfl (.inr (.inl rfl)) (de_ix (de_name (i := 9) List.not_mem_nil rfl (.inr (.inl rfl))) de_int (fun _ _ => rfl)) (de_un unD_neg de_int))))))
 ds_nil)
  (ds_cons (d1_newLcX (i := 10) (own := [("k", 4)]) (M' := [10, 9, 8, 3, 2, 1]) C rfl rfl (sw_true rfl rfl rfl (by decide +kernel)) rfl (xi_rng1 T.b_range (xe_op opD_add (xe_pure C de_int) (xe_callO (i := 1) C (c_law_take T) (by decide) (by decide) rfl (.inr (.inl rfl)) (xa_cons (xe_pure C de_int) xa_nil) rfl))) (by rfl) rfl (by decide) (by decide) (fun _ _ _ _ _ C => ⟨(dg_name (i := 4) (by decide) C.nd rfl (.inl rfl) (.inr rfl)), dts_nil, (xe_callO1 (i := 1) C (c_law_gust T) (by decide) (by decide) rfl (.inr (.inl rfl)))⟩))
  (ds_cons (d1_ifX (xt_cmp (opD_eq C.hu) (xe_callO (i := 1) C (c_law_take T) (by decide) (by decide) rfl (.inr (.inl rfl)) (xa_cons (xe_pure C de_int) xa_nil) rfl) (xe_pure C de_int) (nomark _))
 (ds_cons (d1_patX (xe_lend (M' := []) (by decide) (xe_pure C (de_ix (de_ix (de_name (i := 10) List.not_mem_nil rfl (.inl rfl)) de_int (fun _ _ => rfl)) de_int (fun _ _ => rfl)))) (dg_tup C.calm (dgs_cons (dg_name (i := 11) (by decide) C.nd rfl (.inl rfl)) (dgs_cons (dg_name (i := 12) (by decide) C.nd rfl (.inl rfl)) (dgs_cons (dg_name (i := 13) (by decide) C.nd rfl (.inl rfl)) dgs_nil))) rfl rfl))
  (ds_one (d1_setixX (i := 10) (by decide) rfl (.inl rfl) (xe_lend (M' := [1]) (by decide) (xe_tup (xa_cons (xe_tup (xa_cons (xe_pure C (de_name (i := 11) (by decide) rfl (.inl rfl))) (xa_cons (xe_pure C (de_name (i := 12) (by decide) rfl (.inl rfl))) (xa_cons (xe_callO (i := 1) C (c_law_take T) (by decide) (by decide) rfl (.inr (.inl rfl)) (xa_cons (xe_pure C de_int) xa_nil) rfl) xa_nil))) (by decide)) (xa_cons (xe_pure C (de_ix (de_ix (de_name (i := 10) (by decide) rfl (.inl rfl)) de_int (fun _ _ => rfl)) de_int (fun _ _ => rfl))) xa_nil)) (by decide))) de_int)))
 ds_nil)
  (ds_cons (d1_ifX (xt_cmp (opD_eq C.hu) (xe_callO (i := 1) C (c_law_take T) (by decide) (by decide) rfl (.inr (.inl rfl)) (xa_cons (xe_pure C de_int) xa_nil) rfl) (xe_pure C de_int) (nomark _))
 (ds_one (d1_setix (i := 10) (by decide) rfl (.inl rfl) (de_ix (de_name (i := 10) List.not_mem_nil rfl (.inl rfl)) de_int (fun _ _ => rfl)) (de_un unD_neg de_int)))
 ds_nil)
  (ds_cons (d1_pre (M' := [10, 9, 8, 3, 1]) (by decide) (d1_set (i := 2) (M' := [10, 9, 8, 3, 1]) C.nd rfl (.inr rfl) (de_callT callD_tuple T.b_tuple bt_tuple rfl (da_cons (de_name (i := 2) (by decide) rfl (.inr (.inl rfl))) da_nil)) rfl))
  (ds_cons (d1_pre (M' := [10, 9, 3, 1]) (by decide) (d1_set (i := 8) (M' := [10, 9, 3, 1]) C.nd rfl (.inr rfl) (de_callT callD_tuple T.b_tuple bt_tuple rfl (da_cons (de_name (i := 8) (by decide) rfl (.inr (.inl rfl))) da_nil)) rfl))
  (ds_cons (d1_pre (M' := [10, 3, 1]) (by decide) (d1_set (i := 9) (M' := [10, 3, 1]) C.nd rfl (.inr rfl) (de_callT callD_tuple T.b_tuple bt_tuple rfl (da_cons (de_name (i := 9) (by decide) rfl (.inr (.inl rfl))) da_nil)) rfl))
  (ds_cons (d1_if (dt_bool (dw_or (dt_not (dt_val (de_call C (c_law_same T 12) (by decide) (da_cons (de_call C (c_full_lefts T) (by decide) (da_cons (de_name (i := 2) List.not_mem_nil rfl (.inr (.inl rfl))) da_nil) rfl) (da_cons (de_callT callD_tuple T.b_tuple bt_tuple rfl (da_cons (de_name (i := 3) List.not_mem_nil rfl (.inl rfl)) da_nil)) da_nil)) rfl))) (dw_or1 (dt_not (dt_val (de_call C (c_law_same T 12) (by decide) (da_cons (de_call C (c_no_wear T) (by decide) (da_cons (de_name (i := 2) List.not_mem_nil rfl (.inr (.inl rfl))) da_nil) rfl) (da_cons (de_callT callD_tuple T.b_tuple bt_tuple rfl (da_cons (de_new (dn_lc (own := [("part", 17)]) C (di_val (de_name (i := 2) List.not_mem_nil rfl (.inr (.inl rfl)))) (by rfl) rfl (by decide) (fun _ _ _ _ _ C => ⟨(dg_name (i := 17) List.not_mem_nil C.nd rfl (.inl rfl) (.inr rfl)), dts_nil, de_int⟩))) da_nil)) da_nil)) rfl))))))
 (ds_one (d1_ret de_bl))
 ds_nil)
  (ds_cons (d1_set (i := 14) (M' := [10, 3, 1]) C.nd rfl (.inl rfl) de_int rfl)
  (ds_cons (d1_pre (M' := [3, 1]) (by decide) (d1_post (M' := [3, 1]) (by decide) (d1_newLc (i := 15) (own := [("gust", 18)]) (M' := [15, 3, 1]) C rfl rfl (sw_true rfl rfl rfl (by decide +kernel)) rfl (di_val (de_name (i := 10) (by decide) rfl (.inl rfl))) (by rfl) rfl (by decide) (fun _ _ _ _ _ C => ⟨(dg_name (i := 18) (by decide) C.nd rfl (.inl rfl) (.inr rfl)), dts_nil, (de_call C (c_law_weakest T) (by decide) (da_cons (de_call C (c_law_margins T) (by decide) (da_cons (de_name (i := 2) (by decide) rfl (.inr (.inl rfl))) (da_cons (de_name (i := 18) (by decide) rfl (.inl rfl)) (da_cons (de_name (i := 9) (by decide) rfl (.inr (.inl rfl))) (da_cons (de_name (i := 8) (by decide) rfl (.inr (.inl rfl))) da_nil)))) rfl) da_nil) rfl)⟩))))
  (ds_cons (d1_pre (M' := []) (by decide) (d1_for C (di_rng1 T.b_range (de_callB callD_len T.b_len bt_len rfl (da_cons (de_name (i := 10) List.not_mem_nil rfl (.inl rfl)) da_nil))) (dg_name (i := 4) List.not_mem_nil C.nd rfl (.inl rfl))
 (ds_cons (d1_if (dt_not (dt_val (de_call C (c_law_one_gust T) (by decide) (da_cons (de_name (i := 2) List.not_mem_nil rfl (.inr (.inl rfl))) (da_cons (de_ix (de_name (i := 10) List.not_mem_nil rfl (.inl rfl)) (de_name (i := 4) List.not_mem_nil rfl (.inl rfl)) (fun _ _ => rfl)) (da_cons (de_name (i := 9) List.not_mem_nil rfl (.inr (.inl rfl))) (da_cons (de_name (i := 8) List.not_mem_nil rfl (.inr (.inl rfl))) da_nil)))) rfl)))
 (ds_one (d1_ret de_bl))
 ds_nil)
  (ds_one (d1_if (dt_val (de_call C (c_law_below T) (by decide) (da_cons (de_ix (de_ix (de_name (i := 15) List.not_mem_nil rfl (.inl rfl)) (de_name (i := 4) List.not_mem_nil rfl (.inl rfl)) (fun _ _ => rfl)) de_int (fun _ _ => rfl)) (da_cons (de_ix (de_ix (de_name (i := 15) List.not_mem_nil rfl (.inl rfl)) (de_name (i := 14) List.not_mem_nil rfl (.inl rfl)) (fun _ _ => rfl)) de_int (fun _ _ => rfl)) da_nil)) rfl))
 (ds_one (d1_set (i := 14) (M' := []) C.nd rfl (.inl rfl) (de_name (i := 4) List.not_mem_nil rfl (.inl rfl)) rfl))
 ds_nil)))))
  (ds_cons (d1_set (i := 16) (M' := []) C.nd rfl (.inl rfl) (de_tup (da_cons (de_name (i := 14) List.not_mem_nil rfl (.inl rfl)) (da_cons (de_ix (de_ix (de_name (i := 15) List.not_mem_nil rfl (.inl rfl)) (de_name (i := 14) List.not_mem_nil rfl (.inl rfl)) (fun _ _ => rfl)) de_int (fun _ _ => rfl)) (da_cons (de_ix (de_ix (de_name (i := 15) List.not_mem_nil rfl (.inl rfl)) (de_name (i := 14) List.not_mem_nil rfl (.inl rfl)) (fun _ _ => rfl)) de_int (fun _ _ => rfl)) da_nil))) (by decide)) rfl)
  (ds_cons (d1_if (dt_not (dt_val (de_call C (c_law_same T 12) (by decide) (da_cons (de_call C (c_worst_gust T) (by decide) (da_cons (de_name (i := 2) List.not_mem_nil rfl (.inr (.inl rfl))) (da_cons (de_callT callD_tuple T.b_tuple bt_tuple rfl (da_cons (de_name (i := 10) List.not_mem_nil rfl (.inl rfl)) da_nil)) (da_cons (de_name (i := 9) List.not_mem_nil rfl (.inr (.inl rfl))) (da_cons (de_name (i := 8) List.not_mem_nil rfl (.inr (.inl rfl))) da_nil)))) rfl) (da_cons (de_name (i := 16) List.not_mem_nil rfl (.inl rfl)) da_nil)) rfl)))
 (ds_one (d1_ret de_bl))
 ds_nil)
  (ds_one (d1_ret (de_call C (c_law_no_gust T) (by decide) (da_cons (de_name (i := 2) List.not_mem_nil rfl (.inr (.inl rfl))) (da_cons (de_name (i := 9) List.not_mem_nil rfl (.inr (.inl rfl))) (da_cons (de_name (i := 8) List.not_mem_nil rfl (.inr (.inl rfl))) da_nil))) rfl)))))))))))))))))))))))
end
theorem top_of {K : PySem.W.Frag} {mg : Str → Option Value} {h : Heap} (X : K.In h) (G : h.Ns mainGlobals mg) (c : SaysZ lks fns K) : Top K mg := {
  f_common_divisor := c.fun_ X G 0 0 rfl rfl,
  f_make_ratio := c.fun_ X G 1 1 rfl rfl,
  f_whole_ratio := c.fun_ X G 2 2 rfl rfl,
  f_add_ratios := c.fun_ X G 3 3 rfl rfl,
  f_take_ratios := c.fun_ X G 4 4 rfl rfl,
  f_times_ratios := c.fun_ X G 5 5 rfl rfl,
  f_compare_ratios := c.fun_ X G 6 6 rfl rfl,
  f_grain_shares := c.fun_ X G 7 7 rfl rfl,
  f_cloth_strength := c.fun_ X G 8 8 rfl rfl,
  f_cross_product := c.fun_ X G 9 9 rfl rfl,
  f_double_area := c.fun_ X G 10 10 rfl rfl,
  f_piece_area := c.fun_ X G 11 11 rfl rfl,
  f_full_lefts := c.fun_ X G 12 12 rfl rfl,
  f_no_wear := c.fun_ X G 13 13 rfl rfl,
  f_worn_strength := c.fun_ X G 14 14 rfl rfl,
  f_part_holds := c.fun_ X G 15 15 rfl rfl,
  f_part_pulled := c.fun_ X G 16 16 rfl rfl,
  f_gust_margins := c.fun_ X G 17 17 rfl rfl,
  f_weakest_part := c.fun_ X G 18 18 rfl rfl,
  f_worst_gust := c.fun_ X G 19 19 rfl rfl,
  f_law_numbers := c.fun_ X G 20 20 rfl rfl,
  f_law_take := c.fun_ X G 21 21 rfl rfl,
  f_law_common := c.fun_ X G 22 22 rfl rfl,
  f_law_low := c.fun_ X G 23 23 rfl rfl,
  f_law_below := c.fun_ X G 24 24 rfl rfl,
  f_law_same := c.fun_ X G 25 25 rfl rfl,
  f_law_name := c.fun_ X G 26 26 rfl rfl,
  f_law_cloth := c.fun_ X G 27 27 rfl rfl,
  f_law_vector := c.fun_ X G 28 28 rfl rfl,
  f_law_grain := c.fun_ X G 29 29 rfl rfl,
  f_law_strength := c.fun_ X G 30 30 rfl rfl,
  f_law_shape := c.fun_ X G 31 31 rfl rfl,
  f_law_gust := c.fun_ X G 32 32 rfl rfl,
  f_law_margin := c.fun_ X G 33 33 rfl rfl,
  f_law_margins := c.fun_ X G 34 34 rfl rfl,
  f_law_weakest := c.fun_ X G 35 35 rfl rfl,
  f_law_lefts := c.fun_ X G 36 36 rfl rfl,
  f_law_one_gust := c.fun_ X G 37 37 rfl rfl,
  f_law_no_gust := c.fun_ X G 38 38 rfl rfl,
  f_law := c.fun_ X G 39 39 rfl rfl,
  k_ZERO := c.con_ X G 40 rfl,
  k_HALF := c.con_ X G 41 rfl,
  k_FULL_SHARES := c.con_ X G 42 rfl,
  b_abs := c.free_ X G 43 rfl,
  b_bool := c.free_ X G 44 rfl,
  b_enumerate := c.free_ X G 45 rfl,
  b_int := c.free_ X G 46 rfl,
  b_isinstance := c.free_ X G 47 rfl,
  b_len := c.free_ X G 48 rfl,
  b_list := c.free_ X G 49 rfl,
  b_min := c.free_ X G 50 rfl,
  b_range := c.free_ X G 51 rfl,
  b_str := c.free_ X G 52 rfl,
  b_tuple := c.free_ X G 53 rfl,
  b_zip := c.free_ X G 54 rfl,
  x_LoftError := c.exc_ X G 55 rfl,
  x_OutOfRange := c.exc_ X G 56 rfl,
  h_OutOfRange := c.catch_ X G (c.glo_ X G 56 rfl) 57 rfl }
end K25

open PySem PySem.W PySem.Calls PyProof.Rows in
set_option maxHeartbeats 0 in
theorem K25.fin (hm : ∀ ns : List Int, ns.length ≤ 63 → (∀ z ∈ ns, Builtin.Int.intBits z ≤ 1048576) → K25.m_law [.list (ns.map PyData.int)] = .ok (.bool true)) : PySem.Challenge.rw_sailloft_k25_margins.Holds := by
  w_on; o_law
  refine HandSHeadRun.head_any (r := OpenLaw.row PySem.Challenge.rw_sailloft_k25_margins) (q := view (OpenLaw.row PySem.Challenge.rw_sailloft_k25_margins).prog [51]) (H := K25.hk) (ob := K25.ob) (M := 2480) (loose := K25.names) (d := HandSHeadRun.topDef (OpenLaw.row PySem.Challenge.rw_sailloft_k25_margins).prog 51) (kwd := []) K25.ob_eq
    (by kernel_rfl) (fun s => by kernel_rfl) K25.run (by kernel_rfl) (by kernel_rfl) (by kernel_rfl) (by rfl) (by first | assumption | decide +kernel) (by decide +kernel) ⟨rfl, rfl, rfl, rfl, rfl, by decide +kernel⟩ ?hw ?hc
  case hw => w_witness2
  case hc =>
    refine Z.walkZ (k := 15) rfl (by kernel_rfl) ⟨rfl, by decide, by decide⟩ ?F hm
    intro w mg h Y G
    obtain ⟨K, KX, c⟩ := Y
    exact ⟨K, KX, K25.law_fn (K25.top_of KX G c)⟩

namespace K25
open PySem PySem.Spec PyProof.Rows L2 Z
/-! ### drawn numbers, taken one by one (laws 22 to 40) -/
theorem lc_zero {a : Nat} {d : D} {ds : List D} {x : Option D} : forM' (.n 2) b_law_common_l1 (d :: ds) [some (.int (a : Int)), some (.int ((0 : Nat) : Int)), x] = .nx [some (.int (a : Int)), some (.int ((0 : Nat) : Int)), some d] := by
  rw [forM_cons]
  unfold b_law_common_l1
  simp -implicitDefEqProofs only [callM, sSeq_ap, thn_nx, thn_ret, thn_ex, thn_brk, thn_cont, sNx_ap, sBrk_ap, sCont_ap, sSet_ap, sSetB_ap, sRet_ap, sRetN_ap, sDrop_ap, sIf_ap, sNew_ap, sPat_ap, sPar_ap, sRaise_ap, sFor_ap, sWhile_ap, sAug_ap, sApp_ap, ownL_ap, eN_ap, eC_ap, e1_ap, e2_ap, aL_nil, aL_cons, eT_ap, eL_ap, eB_ap, eF_ap, eIf_ap, eAnd_ap, eOr_ap, eNot_ap, eCh_ap, tV_ap, tAnd_ap, tOr_ap, tNot_ap, pN_ap, pS_ap, eSl_ap, iD_ap, iR1_ap, iR2_ap, iZ_ap, iE_ap, eNew_ap, eLc_ap, tTrue_ap, bindP_n, bindP_tt, bindP_tl, bindPs_nil, bindPs_cons, bind_ok, bind_ex, ofE_ok, ofE_ex, optE_some, truD_bool, isBool_bool, isInt_int, addD_int, subD_int, negD_int, ltD_int, leD_int, gtD_int, geD_int, intD_int, absD_int, lenD_tuple, lenD_list, tupleD_list, tupleD_tuple, itemsD_list, itemsD_tuple, eqD_int, neD_int, atD_tuple, atD_list, List.getElem?_cons_zero, List.getElem?_cons_succ, List.set_cons_zero, List.set_cons_succ, List.length_cons, List.length_nil, List.map_cons, List.map_nil, List.replicate, List.cons_append, List.nil_append, Option.bind_some, Option.bind_none, Option.map_some, Nat.reduceAdd, Nat.reduceSub, if_true, if_false, decide_true, decide_false, Bool.not_true, Bool.not_false, Bool.false_eq_true, reduceIte, Nat.reduceEqDiff, Nat.zero_add, Int.cast_ofNat_Int, Int.reduceEq, Int.reduceLT, Int.reduceLE, Int.reduceAdd, Int.reduceSub, Int.reduceMul, Int.reduceNeg, Nat.reduceLT, Nat.reduceLeDiff, Int.reduceToNat, Int.zero_add, ne_eq, isi_tuple_none, isi_tuple_bool, isi_tuple_int, isi_tuple_str, isi_tuple_list, isi_tuple_tuple, isi_tuple_dict, isi_int_none, isi_int_bool, isi_int_int, isi_int_str, isi_int_list, isi_int_tuple, isi_int_dict, isi_bool_none, isi_bool_bool, isi_bool_int, isi_bool_str, isi_bool_list, isi_bool_tuple, isi_bool_dict, isi_str_none, isi_str_bool, isi_str_int, isi_str_str, isi_str_list, isi_str_tuple, isi_str_dict, isi_list_none, isi_list_bool, isi_list_int, isi_list_str, isi_list_list, isi_list_tuple, isi_list_dict, isi_dict_none, isi_dict_bool, isi_dict_int, isi_dict_str, isi_dict_list, isi_dict_tuple, isi_dict_dict, atI0, atI1, atI2, atI3, atI4, atI5, pow1018, eqD_str, neD_str, eqD_bool, isD_none, isnD_none, isNone_none, isNone_tuple, isNone_int, isD_bool, isnD_bool, sz0, sz1, sz2, sz3, sz4, sz5, sz6, sz7, sz8, sz9, maxD_int, minD_int, sNewB_ap, sCatO_ap, sAugIx_ap, listOf_list, listOf_tuple, enumF_nil, enumF_cons, iZq_ap, iZ3_ap, iR3_ap, lps_brk]
  try rfl
theorem lc_step {a b : Nat} (hb : 0 < b) {d : D} {ds : List D} {x : Option D} : forM' (.n 2) b_law_common_l1 (d :: ds) [some (.int (a : Int)), some (.int (b : Int)), x] = forM' (.n 2) b_law_common_l1 ds [some (.int (b : Int)), some (.int ((a % b : Nat) : Int)), some d] := by
  have h1 : ¬ (b : Int) = 0 := by omega
  rw [forM_cons]
  generalize forM' (.n 2) b_law_common_l1 ds = KK
  unfold b_law_common_l1
  simp -implicitDefEqProofs only [callM, sSeq_ap, thn_nx, thn_ret, thn_ex, thn_brk, thn_cont, sNx_ap, sBrk_ap, sCont_ap, sSet_ap, sSetB_ap, sRet_ap, sRetN_ap, sDrop_ap, sIf_ap, sNew_ap, sPat_ap, sPar_ap, sRaise_ap, sFor_ap, sWhile_ap, sAug_ap, sApp_ap, ownL_ap, eN_ap, eC_ap, e1_ap, e2_ap, aL_nil, aL_cons, eT_ap, eL_ap, eB_ap, eF_ap, eIf_ap, eAnd_ap, eOr_ap, eNot_ap, eCh_ap, tV_ap, tAnd_ap, tOr_ap, tNot_ap, pN_ap, pS_ap, eSl_ap, iD_ap, iR1_ap, iR2_ap, iZ_ap, iE_ap, eNew_ap, eLc_ap, tTrue_ap, bindP_n, bindP_tt, bindP_tl, bindPs_nil, bindPs_cons, bind_ok, bind_ex, ofE_ok, ofE_ex, optE_some, truD_bool, isBool_bool, isInt_int, addD_int, subD_int, negD_int, ltD_int, leD_int, gtD_int, geD_int, intD_int, absD_int, lenD_tuple, lenD_list, tupleD_list, tupleD_tuple, itemsD_list, itemsD_tuple, eqD_int, neD_int, atD_tuple, atD_list, List.getElem?_cons_zero, List.getElem?_cons_succ, List.set_cons_zero, List.set_cons_succ, List.length_cons, List.length_nil, List.map_cons, List.map_nil, List.replicate, List.cons_append, List.nil_append, Option.bind_some, Option.bind_none, Option.map_some, Nat.reduceAdd, Nat.reduceSub, if_true, if_false, decide_true, decide_false, Bool.not_true, Bool.not_false, Bool.false_eq_true, reduceIte, Nat.reduceEqDiff, Nat.zero_add, Int.cast_ofNat_Int, Int.reduceEq, Int.reduceLT, Int.reduceLE, Int.reduceAdd, Int.reduceSub, Int.reduceMul, Int.reduceNeg, Nat.reduceLT, Nat.reduceLeDiff, Int.reduceToNat, Int.zero_add, ne_eq, isi_tuple_none, isi_tuple_bool, isi_tuple_int, isi_tuple_str, isi_tuple_list, isi_tuple_tuple, isi_tuple_dict, isi_int_none, isi_int_bool, isi_int_int, isi_int_str, isi_int_list, isi_int_tuple, isi_int_dict, isi_bool_none, isi_bool_bool, isi_bool_int, isi_bool_str, isi_bool_list, isi_bool_tuple, isi_bool_dict, isi_str_none, isi_str_bool, isi_str_int, isi_str_str, isi_str_list, isi_str_tuple, isi_str_dict, isi_list_none, isi_list_bool, isi_list_int, isi_list_str, isi_list_list, isi_list_tuple, isi_list_dict, isi_dict_none, isi_dict_bool, isi_dict_int, isi_dict_str, isi_dict_list, isi_dict_tuple, isi_dict_dict, atI0, atI1, atI2, atI3, atI4, atI5, pow1018, eqD_str, neD_str, eqD_bool, isD_none, isnD_none, isNone_none, isNone_tuple, isNone_int, isD_bool, isnD_bool, sz0, sz1, sz2, sz3, sz4, sz5, sz6, sz7, sz8, sz9, maxD_int, minD_int, sNewB_ap, sCatO_ap, sAugIx_ap, listOf_list, listOf_tuple, enumF_nil, enumF_cons, iZq_ap, iZ3_ap, iR3_ap, modD_int _ _ h1, decide_eq_false h1, fmod_nat, lps_nx]
theorem lc_ok : ∀ (k : Nat) (ds : List D) (a b : Nat) (x : Option D), b < 2 ^ k → 2 * k + 1 ≤ ds.length → ∃ y z, forM' (.n 2) b_law_common_l1 ds [some (.int (a : Int)), some (.int (b : Int)), x] = .nx [some (.int (Nat.gcd a b : Nat)), y, z]
  | k, [], a, b, _, _, h => by simp at h
  | k, d :: ds, a, 0, x, _, _ => ⟨_, _, by rw [lc_zero, Nat.gcd_zero_right]⟩
  | 0, d :: ds, a, b + 1, x, h, _ => by simp at h
  | k + 1, d :: ds, a, b + 1, x, h, hn => by
    rw [lc_step (b := b + 1) (by omega)]
    match ds, hn with
    | d2 :: ds, hn =>
      by_cases z : a % (b + 1) = 0
      · rw [z, lc_zero]
        have : Nat.gcd a (b + 1) = b + 1 := by rw [Nat.gcd_comm, Nat.gcd_rec, z, Nat.gcd_zero_left]
        exact ⟨_, _, by rw [this]⟩
      · rw [lc_step (Nat.pos_of_ne_zero z)]
        obtain ⟨y, w, e⟩ := lc_ok k ds (a % (b + 1)) ((b + 1) % (a % (b + 1))) (some d2) (by have := half_mod (b := b + 1) (Nat.pos_of_ne_zero z) (by omega); rw [Nat.pow_succ] at h; omega) (by simp only [List.length_cons] at hn; omega)
        have e1 : Nat.gcd (a % (b + 1)) ((b + 1) % (a % (b + 1))) = Nat.gcd a (b + 1) := by
          rw [Nat.gcd_comm, ← Nat.gcd_rec, ← Nat.gcd_rec, Nat.gcd_comm]
        exact ⟨y, w, by rw [e, e1]⟩
theorem m_lcommon {a b : Int} (hb : Sm 299 b) : m_law_common [.int a, .int b] = .ok (.int (Int.gcd a b)) := by
  obtain ⟨y, z, e⟩ := lc_ok 299 (intsD 0 600) a.natAbs b.natAbs none hb (by rw [intsD_len]; decide)
  have rg : rng1D (.int 600) = some (intsD 0 600) := rng1D_nat (n := 600) (by decide)
  have e' : forM' (.n 2) b_law_common_l1 (intsD 0 600) [some (.int (a.natAbs : Int)), some (.int (b.natAbs : Int)), none] = .nx [some (.int (Int.gcd a b)), y, z] := e
  unfold m_law_common b_law_common
  simp -implicitDefEqProofs only [callM, sSeq_ap, thn_nx, thn_ret, thn_ex, thn_brk, thn_cont, sNx_ap, sBrk_ap, sCont_ap, sSet_ap, sSetB_ap, sRet_ap, sRetN_ap, sDrop_ap, sIf_ap, sNew_ap, sPat_ap, sPar_ap, sRaise_ap, sFor_ap, sWhile_ap, sAug_ap, sApp_ap, ownL_ap, eN_ap, eC_ap, e1_ap, e2_ap, aL_nil, aL_cons, eT_ap, eL_ap, eB_ap, eF_ap, eIf_ap, eAnd_ap, eOr_ap, eNot_ap, eCh_ap, tV_ap, tAnd_ap, tOr_ap, tNot_ap, pN_ap, pS_ap, eSl_ap, iD_ap, iR1_ap, iR2_ap, iZ_ap, iE_ap, eNew_ap, eLc_ap, tTrue_ap, bindP_n, bindP_tt, bindP_tl, bindPs_nil, bindPs_cons, bind_ok, bind_ex, ofE_ok, ofE_ex, optE_some, truD_bool, isBool_bool, isInt_int, addD_int, subD_int, negD_int, ltD_int, leD_int, gtD_int, geD_int, intD_int, absD_int, lenD_tuple, lenD_list, tupleD_list, tupleD_tuple, itemsD_list, itemsD_tuple, eqD_int, neD_int, atD_tuple, atD_list, List.getElem?_cons_zero, List.getElem?_cons_succ, List.set_cons_zero, List.set_cons_succ, List.length_cons, List.length_nil, List.map_cons, List.map_nil, List.replicate, List.cons_append, List.nil_append, Option.bind_some, Option.bind_none, Option.map_some, Nat.reduceAdd, Nat.reduceSub, if_true, if_false, decide_true, decide_false, Bool.not_true, Bool.not_false, Bool.false_eq_true, reduceIte, Nat.reduceEqDiff, Nat.zero_add, Int.cast_ofNat_Int, Int.reduceEq, Int.reduceLT, Int.reduceLE, Int.reduceAdd, Int.reduceSub, Int.reduceMul, Int.reduceNeg, Nat.reduceLT, Nat.reduceLeDiff, Int.reduceToNat, Int.zero_add, ne_eq, isi_tuple_none, isi_tuple_bool, isi_tuple_int, isi_tuple_str, isi_tuple_list, isi_tuple_tuple, isi_tuple_dict, isi_int_none, isi_int_bool, isi_int_int, isi_int_str, isi_int_list, isi_int_tuple, isi_int_dict, isi_bool_none, isi_bool_bool, isi_bool_int, isi_bool_str, isi_bool_list, isi_bool_tuple, isi_bool_dict, isi_str_none, isi_str_bool, isi_str_int, isi_str_str, isi_str_list, isi_str_tuple, isi_str_dict, isi_list_none, isi_list_bool, isi_list_int, isi_list_str, isi_list_list, isi_list_tuple, isi_list_dict, isi_dict_none, isi_dict_bool, isi_dict_int, isi_dict_str, isi_dict_list, isi_dict_tuple, isi_dict_dict, atI0, atI1, atI2, atI3, atI4, atI5, pow1018, eqD_str, neD_str, eqD_bool, isD_none, isnD_none, isNone_none, isNone_tuple, isNone_int, isD_bool, isnD_bool, sz0, sz1, sz2, sz3, sz4, sz5, sz6, sz7, sz8, sz9, maxD_int, minD_int, sNewB_ap, sCatO_ap, sAugIx_ap, listOf_list, listOf_tuple, enumF_nil, enumF_cons, iZq_ap, iZ3_ap, iR3_ap, abs_if, rg, e']
theorem m_llow {n d : Int} (h : d ≠ 0) (hd : Sm 299 d) : m_law_low [.int n, .int d] = .ok (Rq (dv n d)) := by
  have hg := m_lcommon (a := n) hd
  have h1 := gs_ne (n := n) h
  have h2 := gs_sm (n := n) h hd
  unfold m_law_low b_law_low
  by_cases z : d < 0
  · have e : -(Int.gcd n d : Int) = gs n d := by unfold gs; rw [if_pos z]
    simp -implicitDefEqProofs only [callM, sSeq_ap, thn_nx, thn_ret, thn_ex, thn_brk, thn_cont, sNx_ap, sBrk_ap, sCont_ap, sSet_ap, sSetB_ap, sRet_ap, sRetN_ap, sDrop_ap, sIf_ap, sNew_ap, sPat_ap, sPar_ap, sRaise_ap, sFor_ap, sWhile_ap, sAug_ap, sApp_ap, ownL_ap, eN_ap, eC_ap, e1_ap, e2_ap, aL_nil, aL_cons, eT_ap, eL_ap, eB_ap, eF_ap, eIf_ap, eAnd_ap, eOr_ap, eNot_ap, eCh_ap, tV_ap, tAnd_ap, tOr_ap, tNot_ap, pN_ap, pS_ap, eSl_ap, iD_ap, iR1_ap, iR2_ap, iZ_ap, iE_ap, eNew_ap, eLc_ap, tTrue_ap, bindP_n, bindP_tt, bindP_tl, bindPs_nil, bindPs_cons, bind_ok, bind_ex, ofE_ok, ofE_ex, optE_some, truD_bool, isBool_bool, isInt_int, addD_int, subD_int, negD_int, ltD_int, leD_int, gtD_int, geD_int, intD_int, absD_int, lenD_tuple, lenD_list, tupleD_list, tupleD_tuple, itemsD_list, itemsD_tuple, eqD_int, neD_int, atD_tuple, atD_list, List.getElem?_cons_zero, List.getElem?_cons_succ, List.set_cons_zero, List.set_cons_succ, List.length_cons, List.length_nil, List.map_cons, List.map_nil, List.replicate, List.cons_append, List.nil_append, Option.bind_some, Option.bind_none, Option.map_some, Nat.reduceAdd, Nat.reduceSub, if_true, if_false, decide_true, decide_false, Bool.not_true, Bool.not_false, Bool.false_eq_true, reduceIte, Nat.reduceEqDiff, Nat.zero_add, Int.cast_ofNat_Int, Int.reduceEq, Int.reduceLT, Int.reduceLE, Int.reduceAdd, Int.reduceSub, Int.reduceMul, Int.reduceNeg, Nat.reduceLT, Nat.reduceLeDiff, Int.reduceToNat, Int.zero_add, ne_eq, isi_tuple_none, isi_tuple_bool, isi_tuple_int, isi_tuple_str, isi_tuple_list, isi_tuple_tuple, isi_tuple_dict, isi_int_none, isi_int_bool, isi_int_int, isi_int_str, isi_int_list, isi_int_tuple, isi_int_dict, isi_bool_none, isi_bool_bool, isi_bool_int, isi_bool_str, isi_bool_list, isi_bool_tuple, isi_bool_dict, isi_str_none, isi_str_bool, isi_str_int, isi_str_str, isi_str_list, isi_str_tuple, isi_str_dict, isi_list_none, isi_list_bool, isi_list_int, isi_list_str, isi_list_list, isi_list_tuple, isi_list_dict, isi_dict_none, isi_dict_bool, isi_dict_int, isi_dict_str, isi_dict_list, isi_dict_tuple, isi_dict_dict, atI0, atI1, atI2, atI3, atI4, atI5, pow1018, eqD_str, neD_str, eqD_bool, isD_none, isnD_none, isNone_none, isNone_tuple, isNone_int, isD_bool, isnD_bool, sz0, sz1, sz2, sz3, sz4, sz5, sz6, sz7, sz8, sz9, maxD_int, minD_int, sNewB_ap, sCatO_ap, sAugIx_ap, listOf_list, listOf_tuple, enumF_nil, enumF_cons, iZq_ap, iZ3_ap, iR3_ap, hg, decide_eq_true z, e, fdivD_sm h1 h2, dv_num h, dv_den h]
    try rfl
  · have e : (Int.gcd n d : Int) = gs n d := by unfold gs; rw [if_neg z]
    simp -implicitDefEqProofs only [callM, sSeq_ap, thn_nx, thn_ret, thn_ex, thn_brk, thn_cont, sNx_ap, sBrk_ap, sCont_ap, sSet_ap, sSetB_ap, sRet_ap, sRetN_ap, sDrop_ap, sIf_ap, sNew_ap, sPat_ap, sPar_ap, sRaise_ap, sFor_ap, sWhile_ap, sAug_ap, sApp_ap, ownL_ap, eN_ap, eC_ap, e1_ap, e2_ap, aL_nil, aL_cons, eT_ap, eL_ap, eB_ap, eF_ap, eIf_ap, eAnd_ap, eOr_ap, eNot_ap, eCh_ap, tV_ap, tAnd_ap, tOr_ap, tNot_ap, pN_ap, pS_ap, eSl_ap, iD_ap, iR1_ap, iR2_ap, iZ_ap, iE_ap, eNew_ap, eLc_ap, tTrue_ap, bindP_n, bindP_tt, bindP_tl, bindPs_nil, bindPs_cons, bind_ok, bind_ex, ofE_ok, ofE_ex, optE_some, truD_bool, isBool_bool, isInt_int, addD_int, subD_int, negD_int, ltD_int, leD_int, gtD_int, geD_int, intD_int, absD_int, lenD_tuple, lenD_list, tupleD_list, tupleD_tuple, itemsD_list, itemsD_tuple, eqD_int, neD_int, atD_tuple, atD_list, List.getElem?_cons_zero, List.getElem?_cons_succ, List.set_cons_zero, List.set_cons_succ, List.length_cons, List.length_nil, List.map_cons, List.map_nil, List.replicate, List.cons_append, List.nil_append, Option.bind_some, Option.bind_none, Option.map_some, Nat.reduceAdd, Nat.reduceSub, if_true, if_false, decide_true, decide_false, Bool.not_true, Bool.not_false, Bool.false_eq_true, reduceIte, Nat.reduceEqDiff, Nat.zero_add, Int.cast_ofNat_Int, Int.reduceEq, Int.reduceLT, Int.reduceLE, Int.reduceAdd, Int.reduceSub, Int.reduceMul, Int.reduceNeg, Nat.reduceLT, Nat.reduceLeDiff, Int.reduceToNat, Int.zero_add, ne_eq, isi_tuple_none, isi_tuple_bool, isi_tuple_int, isi_tuple_str, isi_tuple_list, isi_tuple_tuple, isi_tuple_dict, isi_int_none, isi_int_bool, isi_int_int, isi_int_str, isi_int_list, isi_int_tuple, isi_int_dict, isi_bool_none, isi_bool_bool, isi_bool_int, isi_bool_str, isi_bool_list, isi_bool_tuple, isi_bool_dict, isi_str_none, isi_str_bool, isi_str_int, isi_str_str, isi_str_list, isi_str_tuple, isi_str_dict, isi_list_none, isi_list_bool, isi_list_int, isi_list_str, isi_list_list, isi_list_tuple, isi_list_dict, isi_dict_none, isi_dict_bool, isi_dict_int, isi_dict_str, isi_dict_list, isi_dict_tuple, isi_dict_dict, atI0, atI1, atI2, atI3, atI4, atI5, pow1018, eqD_str, neD_str, eqD_bool, isD_none, isnD_none, isNone_none, isNone_tuple, isNone_int, isD_bool, isnD_bool, sz0, sz1, sz2, sz3, sz4, sz5, sz6, sz7, sz8, sz9, maxD_int, minD_int, sNewB_ap, sCatO_ap, sAugIx_ap, listOf_list, listOf_tuple, enumF_nil, enumF_cons, iZq_ap, iZ3_ap, iR3_ap, hg, decide_eq_false z, e, fdivD_sm h1 h2, dv_num h, dv_den h]
    try rfl
theorem m_tk (es : List Int) {many : Int} (h : 0 < many) : ∃ (x : Int) (es' : List Int), 0 ≤ x ∧ x < many ∧ m_law_take [.list (es.map PyData.int), .int many] = .ok (.tuple [.int x, .list (es'.map PyData.int)]) := by
  have hm : many ≠ 0 := by omega
  cases es with
  | nil =>
    refine ⟨0, [], Int.le_refl _, h, ?_⟩
    unfold m_law_take b_law_take
    simp -implicitDefEqProofs only [callM, sSeq_ap, thn_nx, thn_ret, thn_ex, thn_brk, thn_cont, sNx_ap, sBrk_ap, sCont_ap, sSet_ap, sSetB_ap, sRet_ap, sRetN_ap, sDrop_ap, sIf_ap, sNew_ap, sPat_ap, sPar_ap, sRaise_ap, sFor_ap, sWhile_ap, sAug_ap, sApp_ap, ownL_ap, eN_ap, eC_ap, e1_ap, e2_ap, aL_nil, aL_cons, eT_ap, eL_ap, eB_ap, eF_ap, eIf_ap, eAnd_ap, eOr_ap, eNot_ap, eCh_ap, tV_ap, tAnd_ap, tOr_ap, tNot_ap, pN_ap, pS_ap, eSl_ap, iD_ap, iR1_ap, iR2_ap, iZ_ap, iE_ap, eNew_ap, eLc_ap, tTrue_ap, bindP_n, bindP_tt, bindP_tl, bindPs_nil, bindPs_cons, bind_ok, bind_ex, ofE_ok, ofE_ex, optE_some, truD_bool, isBool_bool, isInt_int, addD_int, subD_int, negD_int, ltD_int, leD_int, gtD_int, geD_int, intD_int, absD_int, lenD_tuple, lenD_list, tupleD_list, tupleD_tuple, itemsD_list, itemsD_tuple, eqD_int, neD_int, atD_tuple, atD_list, List.getElem?_cons_zero, List.getElem?_cons_succ, List.set_cons_zero, List.set_cons_succ, List.length_cons, List.length_nil, List.map_cons, List.map_nil, List.replicate, List.cons_append, List.nil_append, Option.bind_some, Option.bind_none, Option.map_some, Nat.reduceAdd, Nat.reduceSub, if_true, if_false, decide_true, decide_false, Bool.not_true, Bool.not_false, Bool.false_eq_true, reduceIte, Nat.reduceEqDiff, Nat.zero_add, Int.cast_ofNat_Int, Int.reduceEq, Int.reduceLT, Int.reduceLE, Int.reduceAdd, Int.reduceSub, Int.reduceMul, Int.reduceNeg, Nat.reduceLT, Nat.reduceLeDiff, Int.reduceToNat, Int.zero_add, ne_eq, isi_tuple_none, isi_tuple_bool, isi_tuple_int, isi_tuple_str, isi_tuple_list, isi_tuple_tuple, isi_tuple_dict, isi_int_none, isi_int_bool, isi_int_int, isi_int_str, isi_int_list, isi_int_tuple, isi_int_dict, isi_bool_none, isi_bool_bool, isi_bool_int, isi_bool_str, isi_bool_list, isi_bool_tuple, isi_bool_dict, isi_str_none, isi_str_bool, isi_str_int, isi_str_str, isi_str_list, isi_str_tuple, isi_str_dict, isi_list_none, isi_list_bool, isi_list_int, isi_list_str, isi_list_list, isi_list_tuple, isi_list_dict, isi_dict_none, isi_dict_bool, isi_dict_int, isi_dict_str, isi_dict_list, isi_dict_tuple, isi_dict_dict, atI0, atI1, atI2, atI3, atI4, atI5, pow1018, eqD_str, neD_str, eqD_bool, isD_none, isnD_none, isNone_none, isNone_tuple, isNone_int, isD_bool, isnD_bool, sz0, sz1, sz2, sz3, sz4, sz5, sz6, sz7, sz8, sz9, maxD_int, minD_int, sNewB_ap, sCatO_ap, sAugIx_ap, listOf_list, listOf_tuple, enumF_nil, enumF_cons, iZq_ap, iZ3_ap, iR3_ap, callMO, ofX_some, xP_ok, x1_ap, x2_ap, xL_nil, xL_cons, xTu_ap, xLi_ap, xB_ap, xF_ap, pairD_ok, xO_ap, xPop_ap, xV_ap, xAnd_ap, xOr_ap, xNot_ap, xiD_ap, xiR1_ap, xN'_ap, xnL_ap, xLc_ap, sSetX_ap, sPatX_ap, sIfX_ap, sForX_ap, sAppX_ap, sNewX_ap, sRetX_ap, sRetO_ap, sRetF_ap, xLd_ap, xnLd_ap, sSetIxX_ap, nF_ap, listE_ok, mrg_nil, mrg_cons]
  | cons n es =>
    refine ⟨n.fmod many, es, fmod_nn h, fmod_lt h, ?_⟩
    have hl : ¬ ((es.length : Int) + 1 = 0) := by omega
    have hl2 : decide (((es.length + 1 : Nat) : Int) = 0) = false := decide_eq_false (by omega)
    unfold m_law_take b_law_take
    simp -implicitDefEqProofs only [callM, sSeq_ap, thn_nx, thn_ret, thn_ex, thn_brk, thn_cont, sNx_ap, sBrk_ap, sCont_ap, sSet_ap, sSetB_ap, sRet_ap, sRetN_ap, sDrop_ap, sIf_ap, sNew_ap, sPat_ap, sPar_ap, sRaise_ap, sFor_ap, sWhile_ap, sAug_ap, sApp_ap, ownL_ap, eN_ap, eC_ap, e1_ap, e2_ap, aL_nil, aL_cons, eT_ap, eL_ap, eB_ap, eF_ap, eIf_ap, eAnd_ap, eOr_ap, eNot_ap, eCh_ap, tV_ap, tAnd_ap, tOr_ap, tNot_ap, pN_ap, pS_ap, eSl_ap, iD_ap, iR1_ap, iR2_ap, iZ_ap, iE_ap, eNew_ap, eLc_ap, tTrue_ap, bindP_n, bindP_tt, bindP_tl, bindPs_nil, bindPs_cons, bind_ok, bind_ex, ofE_ok, ofE_ex, optE_some, truD_bool, isBool_bool, isInt_int, addD_int, subD_int, negD_int, ltD_int, leD_int, gtD_int, geD_int, intD_int, absD_int, lenD_tuple, lenD_list, tupleD_list, tupleD_tuple, itemsD_list, itemsD_tuple, eqD_int, neD_int, atD_tuple, atD_list, List.getElem?_cons_zero, List.getElem?_cons_succ, List.set_cons_zero, List.set_cons_succ, List.length_cons, List.length_nil, List.map_cons, List.map_nil, List.replicate, List.cons_append, List.nil_append, Option.bind_some, Option.bind_none, Option.map_some, Nat.reduceAdd, Nat.reduceSub, if_true, if_false, decide_true, decide_false, Bool.not_true, Bool.not_false, Bool.false_eq_true, reduceIte, Nat.reduceEqDiff, Nat.zero_add, Int.cast_ofNat_Int, Int.reduceEq, Int.reduceLT, Int.reduceLE, Int.reduceAdd, Int.reduceSub, Int.reduceMul, Int.reduceNeg, Nat.reduceLT, Nat.reduceLeDiff, Int.reduceToNat, Int.zero_add, ne_eq, isi_tuple_none, isi_tuple_bool, isi_tuple_int, isi_tuple_str, isi_tuple_list, isi_tuple_tuple, isi_tuple_dict, isi_int_none, isi_int_bool, isi_int_int, isi_int_str, isi_int_list, isi_int_tuple, isi_int_dict, isi_bool_none, isi_bool_bool, isi_bool_int, isi_bool_str, isi_bool_list, isi_bool_tuple, isi_bool_dict, isi_str_none, isi_str_bool, isi_str_int, isi_str_str, isi_str_list, isi_str_tuple, isi_str_dict, isi_list_none, isi_list_bool, isi_list_int, isi_list_str, isi_list_list, isi_list_tuple, isi_list_dict, isi_dict_none, isi_dict_bool, isi_dict_int, isi_dict_str, isi_dict_list, isi_dict_tuple, isi_dict_dict, atI0, atI1, atI2, atI3, atI4, atI5, pow1018, eqD_str, neD_str, eqD_bool, isD_none, isnD_none, isNone_none, isNone_tuple, isNone_int, isD_bool, isnD_bool, sz0, sz1, sz2, sz3, sz4, sz5, sz6, sz7, sz8, sz9, maxD_int, minD_int, sNewB_ap, sCatO_ap, sAugIx_ap, listOf_list, listOf_tuple, enumF_nil, enumF_cons, iZq_ap, iZ3_ap, iR3_ap, callMO, ofX_some, xP_ok, x1_ap, x2_ap, xL_nil, xL_cons, xTu_ap, xLi_ap, xB_ap, xF_ap, pairD_ok, xO_ap, xPop_ap, xV_ap, xAnd_ap, xOr_ap, xNot_ap, xiD_ap, xiR1_ap, xN'_ap, xnL_ap, xLc_ap, sSetX_ap, sPatX_ap, sIfX_ap, sForX_ap, sAppX_ap, sNewX_ap, sRetX_ap, sRetO_ap, sRetF_ap, xLd_ap, xnLd_ap, sSetIxX_ap, nF_ap, listE_ok, mrg_nil, mrg_cons, List.length_map, hl2, modD_int _ _ hm]
theorem num_step {n : Nat} (hn : n ≤ 63) (h0 : 0 < n) {cells : List Int} (hc : cells.length = n) (sc cnt : Option D) (k : Int) (hk : 0 ≤ k ∧ k < 100000) (acc : List Int) (ha : acc.length < 100000) (x5 x6 x7 : Option D) :
    ∃ (cells' : List Int) (w : Int) (x5 x6 x7 : Option D), cells'.length = n ∧ b_law_numbers_l1 [sc, cnt, some (.list (cells.map PyData.int)), some (.list (acc.map PyData.int)), some (.int k), x5', x6', x7'] = .nx [sc, cnt, some (.list (cells'.map PyData.int)), some (.list ((acc ++ [w]).map PyData.int)), some (.int k), x5, x6, x7] := by
  have hn0 : ¬ (n : Int) = 0 := by omega
  have j0 := fmod_nn (i := k) (show (0 : Int) < n by omega)
  have j1 := fmod_lt (i := k) (show (0 : Int) < n by omega)
  obtain ⟨j, hj⟩ : ∃ j : Nat, k.fmod n = (j : Int) := ⟨(k.fmod n).toNat, by omega⟩
  have hjl : j < cells.length := by omega
  have ea : atI (cells.map PyData.int) (j : Int) = some (.int cells[j]) := at_get (by rw [List.getElem?_map, List.getElem?_eq_getElem hjl]; rfl)
  have m1 := modD_int k n hn0
  rw [hj] at m1
  have hl : (cells.map PyData.int).length = n := by rw [List.length_map, hc]
  have sz : (acc.map PyData.int).length < sizeLine := by rw [List.length_map]; exact sz_lt (by omega)
  generalize cells[j] = c at *
  have m65521 := fun x : Int => modD_int x 65521 (by decide)
  have m65537 := fun x : Int => modD_int x 65537 (by decide)
  have m10007 := fun x : Int => modD_int x 10007 (by decide)
  have d10007 := fun x : Int => fdivD_sm (i := x) (show (10007 : Int) ≠ 0 by decide) (show Sm 14 10007 by unfold Sm; decide)
  have d65521 := fun x : Int => fdivD_sm (i := x) (show (65521 : Int) ≠ 0 by decide) (show Sm 16 65521 by unfold Sm; decide)
  have d97 := fun x : Int => fdivD_sm (i := x) (show (97 : Int) ≠ 0 by decide) (show Sm 7 97 by unfold Sm; decide)
  by_cases h : 1000000000000000000 < c
  · have ix : ixN n (j : Int) = some j := by
      unfold ixN
      rw [if_pos (by omega), if_pos (by omega)]
      congr 1
    refine ⟨cells.set j (c.fdiv 10007), c.fmod 10007, some (.int (j : Int)), some (.int c), x7', by rw [List.length_set, hc], ?_⟩
    unfold b_law_numbers_l1
    simp -implicitDefEqProofs only [callM, sSeq_ap, thn_nx, thn_ret, thn_ex, thn_brk, thn_cont, sNx_ap, sBrk_ap, sCont_ap, sSet_ap, sSetB_ap, sRet_ap, sRetN_ap, sDrop_ap, sIf_ap, sNew_ap, sPat_ap, sPar_ap, sRaise_ap, sFor_ap, sWhile_ap, sAug_ap, sApp_ap, ownL_ap, eN_ap, eC_ap, e1_ap, e2_ap, aL_nil, aL_cons, eT_ap, eL_ap, eB_ap, eF_ap, eIf_ap, eAnd_ap, eOr_ap, eNot_ap, eCh_ap, tV_ap, tAnd_ap, tOr_ap, tNot_ap, pN_ap, pS_ap, eSl_ap, iD_ap, iR1_ap, iR2_ap, iZ_ap, iE_ap, eNew_ap, eLc_ap, tTrue_ap, bindP_n, bindP_tt, bindP_tl, bindPs_nil, bindPs_cons, bind_ok, bind_ex, ofE_ok, ofE_ex, optE_some, truD_bool, isBool_bool, isInt_int, addD_int, subD_int, negD_int, ltD_int, leD_int, gtD_int, geD_int, intD_int, absD_int, lenD_tuple, lenD_list, tupleD_list, tupleD_tuple, itemsD_list, itemsD_tuple, eqD_int, neD_int, atD_tuple, atD_list, List.getElem?_cons_zero, List.getElem?_cons_succ, List.set_cons_zero, List.set_cons_succ, List.length_cons, List.length_nil, List.map_cons, List.map_nil, List.replicate, List.cons_append, List.nil_append, Option.bind_some, Option.bind_none, Option.map_some, Nat.reduceAdd, Nat.reduceSub, if_true, if_false, decide_true, decide_false, Bool.not_true, Bool.not_false, Bool.false_eq_true, reduceIte, Nat.reduceEqDiff, Nat.zero_add, Int.cast_ofNat_Int, Int.reduceEq, Int.reduceLT, Int.reduceLE, Int.reduceAdd, Int.reduceSub, Int.reduceMul, Int.reduceNeg, Nat.reduceLT, Nat.reduceLeDiff, Int.reduceToNat, Int.zero_add, ne_eq, isi_tuple_none, isi_tuple_bool, isi_tuple_int, isi_tuple_str, isi_tuple_list, isi_tuple_tuple, isi_tuple_dict, isi_int_none, isi_int_bool, isi_int_int, isi_int_str, isi_int_list, isi_int_tuple, isi_int_dict, isi_bool_none, isi_bool_bool, isi_bool_int, isi_bool_str, isi_bool_list, isi_bool_tuple, isi_bool_dict, isi_str_none, isi_str_bool, isi_str_int, isi_str_str, isi_str_list, isi_str_tuple, isi_str_dict, isi_list_none, isi_list_bool, isi_list_int, isi_list_str, isi_list_list, isi_list_tuple, isi_list_dict, isi_dict_none, isi_dict_bool, isi_dict_int, isi_dict_str, isi_dict_list, isi_dict_tuple, isi_dict_dict, atI0, atI1, atI2, atI3, atI4, atI5, pow1018, eqD_str, neD_str, eqD_bool, isD_none, isnD_none, isNone_none, isNone_tuple, isNone_int, isD_bool, isnD_bool, sz0, sz1, sz2, sz3, sz4, sz5, sz6, sz7, sz8, sz9, maxD_int, minD_int, sNewB_ap, sCatO_ap, sAugIx_ap, listOf_list, listOf_tuple, enumF_nil, enumF_cons, iZq_ap, iZ3_ap, iR3_ap, hl, m1, lf, ea, pow1018, decide_eq_true h, m10007, if_pos sz, d10007, sSetIx_ap, ix, List.map_append, List.map_set, gtD_int]
    try rfl
  · have a1 := mulD_sm (fmod_sm (i := c) (show (0 : Int) < 65521 by decide) (show Sm 16 65521 by unfold Sm; decide)) (show Sm 16 48271 by unfold Sm; decide)
    have a2 := mulD_sm (show Sm 17 k by unfold Sm; omega) (show Sm 12 3571 by unfold Sm; decide)
    have s1 : ∀ x : Int, Sm 17 (x.fmod 65537) := fun x => fmod_sm (by decide) (by unfold Sm; decide)
    have s2 : ∀ x : Int, Sm 16 (x.fmod 65521) := fun x => fmod_sm (by decide) (by unfold Sm; decide)
    have a3 := fun x : Int => mulD_sm (s1 x) (s1 x)
    have a4 := fun x : Int => mulD_sm (s2 x) (show Sm 5 31 by unfold Sm; decide)
    let mx1 := (c.fmod 65521 * 48271 + (c.fdiv 65521).fmod 65521 + k * 3571 + 17).fmod 65537
    let mx2 := (mx1 * mx1 + k).fmod 65521
    refine ⟨cells, (mx2 * 31 + mx2.fdiv 97).fmod 10007, some (.int (j : Int)), some (.int c), some (.int mx2), hc, ?_⟩
    unfold b_law_numbers_l1
    simp -implicitDefEqProofs only [callM, sSeq_ap, thn_nx, thn_ret, thn_ex, thn_brk, thn_cont, sNx_ap, sBrk_ap, sCont_ap, sSet_ap, sSetB_ap, sRet_ap, sRetN_ap, sDrop_ap, sIf_ap, sNew_ap, sPat_ap, sPar_ap, sRaise_ap, sFor_ap, sWhile_ap, sAug_ap, sApp_ap, ownL_ap, eN_ap, eC_ap, e1_ap, e2_ap, aL_nil, aL_cons, eT_ap, eL_ap, eB_ap, eF_ap, eIf_ap, eAnd_ap, eOr_ap, eNot_ap, eCh_ap, tV_ap, tAnd_ap, tOr_ap, tNot_ap, pN_ap, pS_ap, eSl_ap, iD_ap, iR1_ap, iR2_ap, iZ_ap, iE_ap, eNew_ap, eLc_ap, tTrue_ap, bindP_n, bindP_tt, bindP_tl, bindPs_nil, bindPs_cons, bind_ok, bind_ex, ofE_ok, ofE_ex, optE_some, truD_bool, isBool_bool, isInt_int, addD_int, subD_int, negD_int, ltD_int, leD_int, gtD_int, geD_int, intD_int, absD_int, lenD_tuple, lenD_list, tupleD_list, tupleD_tuple, itemsD_list, itemsD_tuple, eqD_int, neD_int, atD_tuple, atD_list, List.getElem?_cons_zero, List.getElem?_cons_succ, List.set_cons_zero, List.set_cons_succ, List.length_cons, List.length_nil, List.map_cons, List.map_nil, List.replicate, List.cons_append, List.nil_append, Option.bind_some, Option.bind_none, Option.map_some, Nat.reduceAdd, Nat.reduceSub, if_true, if_false, decide_true, decide_false, Bool.not_true, Bool.not_false, Bool.false_eq_true, reduceIte, Nat.reduceEqDiff, Nat.zero_add, Int.cast_ofNat_Int, Int.reduceEq, Int.reduceLT, Int.reduceLE, Int.reduceAdd, Int.reduceSub, Int.reduceMul, Int.reduceNeg, Nat.reduceLT, Nat.reduceLeDiff, Int.reduceToNat, Int.zero_add, ne_eq, isi_tuple_none, isi_tuple_bool, isi_tuple_int, isi_tuple_str, isi_tuple_list, isi_tuple_tuple, isi_tuple_dict, isi_int_none, isi_int_bool, isi_int_int, isi_int_str, isi_int_list, isi_int_tuple, isi_int_dict, isi_bool_none, isi_bool_bool, isi_bool_int, isi_bool_str, isi_bool_list, isi_bool_tuple, isi_bool_dict, isi_str_none, isi_str_bool, isi_str_int, isi_str_str, isi_str_list, isi_str_tuple, isi_str_dict, isi_list_none, isi_list_bool, isi_list_int, isi_list_str, isi_list_list, isi_list_tuple, isi_list_dict, isi_dict_none, isi_dict_bool, isi_dict_int, isi_dict_str, isi_dict_list, isi_dict_tuple, isi_dict_dict, atI0, atI1, atI2, atI3, atI4, atI5, pow1018, eqD_str, neD_str, eqD_bool, isD_none, isnD_none, isNone_none, isNone_tuple, isNone_int, isD_bool, isnD_bool, sz0, sz1, sz2, sz3, sz4, sz5, sz6, sz7, sz8, sz9, maxD_int, minD_int, sNewB_ap, sCatO_ap, sAugIx_ap, listOf_list, listOf_tuple, enumF_nil, enumF_cons, iZq_ap, iZ3_ap, iR3_ap, hl, m1, lf, ea, pow1018, decide_eq_false h, m10007, m65521, m65537, d65521, d97, a1, a2, a3, a4, if_pos sz, List.map_append]
    try rfl
theorem num_loop {n : Nat} (hn : n ≤ 63) (h0 : 0 < n) (sc cnt : Option D) : ∀ (m k : Nat) (cells acc : List Int) (x4 x5 x6 x7 : Option D), cells.length = n → k + m ≤ 1000 → acc.length + m ≤ 1000 → ∃ (cells' acc' : List Int) (y4 y5 y6 y7 : Option D),
    forM' (.n 4) b_law_numbers_l1 (intsD (k : Int) m) [sc, cnt, some (.list (cells.map PyData.int)), some (.list (acc.map PyData.int)), x4, x5, x6, x7] = .nx [sc, cnt, some (.list (cells'.map PyData.int)), some (.list (acc'.map PyData.int)), y4, y5, y6, y7]
  | 0, k, cells, acc, x4, x5, x6, x7, _, _, _ => ⟨cells, acc, x4, x5, x6, x7, rfl⟩
  | m + 1, k, cells, acc, x4, x5, x6, x7, hc, hk, hm => by
    obtain ⟨cells1, w, z5, z6, z7, hc1, e1⟩ := num_step (x5' := x5) (x6' := x6) (x7' := x7) hn h0 hc sc cnt (k : Int) (by omega) acc (by omega) none none none
    obtain ⟨cells2, acc2, y4, y5, y6, y7, e2⟩ := num_loop hn h0 sc cnt m (k + 1) cells1 (acc ++ [w]) (some (.int (k : Int))) z5 z6 z7 hc1 (by omega) (by rw [List.length_append, List.length_singleton]; omega)
    refine ⟨cells2, acc2, y4, y5, y6, y7, ?_⟩
    rw [intsD_succ, forM_cons]
    show (b_law_numbers_l1 [sc, cnt, some (.list (cells.map PyData.int)), some (.list (acc.map PyData.int)), some (.int (k : Int)), x5, x6, x7]).lps _ = _
    rw [e1, lps_nx]
    exact e2
theorem m_nums (ns : List Int) (count : Nat) (hcnt : count ≤ 1000) : ∃ es : List Int, m_law_numbers [.list (ns.map PyData.int), .int (count : Int)] = .ok (.list (es.map PyData.int)) := by
  have sl : sliceD none (some (63 : Int)) (.list (ns.map PyData.int)) = some (.list ((ns.take 63).map PyData.int)) := by
    show some (PyData.list (Z.cutD (ns.map PyData.int) none (some 63))) = _
    unfold Z.cutD HT.sIx
    simp only [List.length_map]
    rw [if_neg (by omega), List.drop_zero, List.map_take]
    by_cases h6 : 63 ≤ ns.length
    · rw [show min (63 : Int).toNat ns.length - 0 = 63 by show min 63 ns.length - 0 = 63; omega]
    · rw [show min (63 : Int).toNat ns.length - 0 = ns.length by show min 63 ns.length - 0 = _; omega, List.take_of_length_le (by rw [List.length_map]; omega), List.take_of_length_le (by rw [List.length_map]; omega)]
  have tl : (ns.take 63).length ≤ 63 := by rw [List.length_take]; omega
  generalize ns.take 63 = cells at *
  have lc : ∀ ρ0 : EnvD, ρ0.length = 8 → lcM (.n 6) tTrue (eB intD [(eN 6)]) ρ0 (cells.map PyData.int) = .ok (cells.map PyData.int) := fun ρ0 h => lcM_map cells fun c _ => ⟨_, bindP_n _ _ _, by
    match ρ0, h with
    | [_, _, _, _, _, _, _, _], _ => rfl⟩
  have hz : (cells.map PyData.int).length ≤ 1000000 := by rw [List.length_map]; omega
  have rg := rng1D_nat (n := count) (by omega)
  cases cells with
  | nil =>
    obtain ⟨c2, a2, y4, y5, y6, y7, e⟩ := num_loop (n := 1) (by decide) (by decide) (some (.list (ns.map PyData.int))) (some (.int (count : Int))) count 0 [0] [] none none none none rfl (by omega) (by simp; omega)
    have e : forM' (.n 4) b_law_numbers_l1 (intsD 0 count) [some (.list (ns.map PyData.int)), some (.int (count : Int)), some (.list [.int 0]), some (.list []), none, none, none, none] = _ := e
    refine ⟨a2, ?_⟩
    unfold m_law_numbers b_law_numbers
    simp -implicitDefEqProofs only [callM, sSeq_ap, thn_nx, thn_ret, thn_ex, thn_brk, thn_cont, sNx_ap, sBrk_ap, sCont_ap, sSet_ap, sSetB_ap, sRet_ap, sRetN_ap, sDrop_ap, sIf_ap, sNew_ap, sPat_ap, sPar_ap, sRaise_ap, sFor_ap, sWhile_ap, sAug_ap, sApp_ap, ownL_ap, eN_ap, eC_ap, e1_ap, e2_ap, aL_nil, aL_cons, eT_ap, eL_ap, eB_ap, eF_ap, eIf_ap, eAnd_ap, eOr_ap, eNot_ap, eCh_ap, tV_ap, tAnd_ap, tOr_ap, tNot_ap, pN_ap, pS_ap, eSl_ap, iD_ap, iR1_ap, iR2_ap, iZ_ap, iE_ap, eNew_ap, eLc_ap, tTrue_ap, bindP_n, bindP_tt, bindP_tl, bindPs_nil, bindPs_cons, bind_ok, bind_ex, ofE_ok, ofE_ex, optE_some, truD_bool, isBool_bool, isInt_int, addD_int, subD_int, negD_int, ltD_int, leD_int, gtD_int, geD_int, intD_int, absD_int, lenD_tuple, lenD_list, tupleD_list, tupleD_tuple, itemsD_list, itemsD_tuple, eqD_int, neD_int, atD_tuple, atD_list, List.getElem?_cons_zero, List.getElem?_cons_succ, List.set_cons_zero, List.set_cons_succ, List.length_cons, List.length_nil, List.map_cons, List.map_nil, List.replicate, List.cons_append, List.nil_append, Option.bind_some, Option.bind_none, Option.map_some, Nat.reduceAdd, Nat.reduceSub, if_true, if_false, decide_true, decide_false, Bool.not_true, Bool.not_false, Bool.false_eq_true, reduceIte, Nat.reduceEqDiff, Nat.zero_add, Int.cast_ofNat_Int, Int.reduceEq, Int.reduceLT, Int.reduceLE, Int.reduceAdd, Int.reduceSub, Int.reduceMul, Int.reduceNeg, Nat.reduceLT, Nat.reduceLeDiff, Int.reduceToNat, Int.zero_add, ne_eq, isi_tuple_none, isi_tuple_bool, isi_tuple_int, isi_tuple_str, isi_tuple_list, isi_tuple_tuple, isi_tuple_dict, isi_int_none, isi_int_bool, isi_int_int, isi_int_str, isi_int_list, isi_int_tuple, isi_int_dict, isi_bool_none, isi_bool_bool, isi_bool_int, isi_bool_str, isi_bool_list, isi_bool_tuple, isi_bool_dict, isi_str_none, isi_str_bool, isi_str_int, isi_str_str, isi_str_list, isi_str_tuple, isi_str_dict, isi_list_none, isi_list_bool, isi_list_int, isi_list_str, isi_list_list, isi_list_tuple, isi_list_dict, isi_dict_none, isi_dict_bool, isi_dict_int, isi_dict_str, isi_dict_list, isi_dict_tuple, isi_dict_dict, atI0, atI1, atI2, atI3, atI4, atI5, pow1018, eqD_str, neD_str, eqD_bool, isD_none, isnD_none, isNone_none, isNone_tuple, isNone_int, isD_bool, isnD_bool, sz0, sz1, sz2, sz3, sz4, sz5, sz6, sz7, sz8, sz9, maxD_int, minD_int, sNewB_ap, sCatO_ap, sAugIx_ap, listOf_list, listOf_tuple, enumF_nil, enumF_cons, iZq_ap, iZ3_ap, iR3_ap, callMO, ofX_some, xP_ok, x1_ap, x2_ap, xL_nil, xL_cons, xTu_ap, xLi_ap, xB_ap, xF_ap, pairD_ok, xO_ap, xPop_ap, xV_ap, xAnd_ap, xOr_ap, xNot_ap, xiD_ap, xiR1_ap, xN'_ap, xnL_ap, xLc_ap, sSetX_ap, sPatX_ap, sIfX_ap, sForX_ap, sAppX_ap, sNewX_ap, sRetX_ap, sRetO_ap, sRetF_ap, xLd_ap, xnLd_ap, sSetIxX_ap, nF_ap, listE_ok, mrg_nil, mrg_cons, sl, wipeR, lc, rg, e]
    have lc0 := lc [some (.list (ns.map PyData.int)), some (.int (count : Int)), none, none, none, none, none, none] rfl
    simp -implicitDefEqProofs only [List.map_nil] at lc0
    simp -implicitDefEqProofs only [callM, sSeq_ap, thn_nx, thn_ret, thn_ex, thn_brk, thn_cont, sNx_ap, sBrk_ap, sCont_ap, sSet_ap, sSetB_ap, sRet_ap, sRetN_ap, sDrop_ap, sIf_ap, sNew_ap, sPat_ap, sPar_ap, sRaise_ap, sFor_ap, sWhile_ap, sAug_ap, sApp_ap, ownL_ap, eN_ap, eC_ap, e1_ap, e2_ap, aL_nil, aL_cons, eT_ap, eL_ap, eB_ap, eF_ap, eIf_ap, eAnd_ap, eOr_ap, eNot_ap, eCh_ap, tV_ap, tAnd_ap, tOr_ap, tNot_ap, pN_ap, pS_ap, eSl_ap, iD_ap, iR1_ap, iR2_ap, iZ_ap, iE_ap, eNew_ap, eLc_ap, tTrue_ap, bindP_n, bindP_tt, bindP_tl, bindPs_nil, bindPs_cons, bind_ok, bind_ex, ofE_ok, ofE_ex, optE_some, truD_bool, isBool_bool, isInt_int, addD_int, subD_int, negD_int, ltD_int, leD_int, gtD_int, geD_int, intD_int, absD_int, lenD_tuple, lenD_list, tupleD_list, tupleD_tuple, itemsD_list, itemsD_tuple, eqD_int, neD_int, atD_tuple, atD_list, List.getElem?_cons_zero, List.getElem?_cons_succ, List.set_cons_zero, List.set_cons_succ, List.length_cons, List.length_nil, List.map_cons, List.map_nil, List.replicate, List.cons_append, List.nil_append, Option.bind_some, Option.bind_none, Option.map_some, Nat.reduceAdd, Nat.reduceSub, if_true, if_false, decide_true, decide_false, Bool.not_true, Bool.not_false, Bool.false_eq_true, reduceIte, Nat.reduceEqDiff, Nat.zero_add, Int.cast_ofNat_Int, Int.reduceEq, Int.reduceLT, Int.reduceLE, Int.reduceAdd, Int.reduceSub, Int.reduceMul, Int.reduceNeg, Nat.reduceLT, Nat.reduceLeDiff, Int.reduceToNat, Int.zero_add, ne_eq, isi_tuple_none, isi_tuple_bool, isi_tuple_int, isi_tuple_str, isi_tuple_list, isi_tuple_tuple, isi_tuple_dict, isi_int_none, isi_int_bool, isi_int_int, isi_int_str, isi_int_list, isi_int_tuple, isi_int_dict, isi_bool_none, isi_bool_bool, isi_bool_int, isi_bool_str, isi_bool_list, isi_bool_tuple, isi_bool_dict, isi_str_none, isi_str_bool, isi_str_int, isi_str_str, isi_str_list, isi_str_tuple, isi_str_dict, isi_list_none, isi_list_bool, isi_list_int, isi_list_str, isi_list_list, isi_list_tuple, isi_list_dict, isi_dict_none, isi_dict_bool, isi_dict_int, isi_dict_str, isi_dict_list, isi_dict_tuple, isi_dict_dict, atI0, atI1, atI2, atI3, atI4, atI5, pow1018, eqD_str, neD_str, eqD_bool, isD_none, isnD_none, isNone_none, isNone_tuple, isNone_int, isD_bool, isnD_bool, sz0, sz1, sz2, sz3, sz4, sz5, sz6, sz7, sz8, sz9, maxD_int, minD_int, sNewB_ap, sCatO_ap, sAugIx_ap, listOf_list, listOf_tuple, enumF_nil, enumF_cons, iZq_ap, iZ3_ap, iR3_ap, callMO, ofX_some, xP_ok, x1_ap, x2_ap, xL_nil, xL_cons, xTu_ap, xLi_ap, xB_ap, xF_ap, pairD_ok, xO_ap, xPop_ap, xV_ap, xAnd_ap, xOr_ap, xNot_ap, xiD_ap, xiR1_ap, xN'_ap, xnL_ap, xLc_ap, sSetX_ap, sPatX_ap, sIfX_ap, sForX_ap, sAppX_ap, sNewX_ap, sRetX_ap, sRetO_ap, sRetF_ap, xLd_ap, xnLd_ap, sSetIxX_ap, nF_ap, listE_ok, mrg_nil, mrg_cons, lc0, rg, e]
  | cons c cs =>
    obtain ⟨c2, a2, y4, y5, y6, y7, e⟩ := num_loop (n := cs.length + 1) (by simpa using tl) (by omega) (some (.list (ns.map PyData.int))) (some (.int (count : Int))) count 0 (c :: cs) [] none none none none rfl (by omega) (by simp; omega)
    have e : forM' (.n 4) b_law_numbers_l1 (intsD 0 count) [some (.list (ns.map PyData.int)), some (.int (count : Int)), some (.list ((c :: cs).map PyData.int)), some (.list []), none, none, none, none] = _ := e
    have hl2 : decide ((((c :: cs).map PyData.int).length : Int) = 0) = false := decide_eq_false (by rw [List.length_map, List.length_cons]; omega)
    refine ⟨a2, ?_⟩
    generalize (c :: cs).map PyData.int = CC at *
    unfold m_law_numbers b_law_numbers
    simp -implicitDefEqProofs only [callM, sSeq_ap, thn_nx, thn_ret, thn_ex, thn_brk, thn_cont, sNx_ap, sBrk_ap, sCont_ap, sSet_ap, sSetB_ap, sRet_ap, sRetN_ap, sDrop_ap, sIf_ap, sNew_ap, sPat_ap, sPar_ap, sRaise_ap, sFor_ap, sWhile_ap, sAug_ap, sApp_ap, ownL_ap, eN_ap, eC_ap, e1_ap, e2_ap, aL_nil, aL_cons, eT_ap, eL_ap, eB_ap, eF_ap, eIf_ap, eAnd_ap, eOr_ap, eNot_ap, eCh_ap, tV_ap, tAnd_ap, tOr_ap, tNot_ap, pN_ap, pS_ap, eSl_ap, iD_ap, iR1_ap, iR2_ap, iZ_ap, iE_ap, eNew_ap, eLc_ap, tTrue_ap, bindP_n, bindP_tt, bindP_tl, bindPs_nil, bindPs_cons, bind_ok, bind_ex, ofE_ok, ofE_ex, optE_some, truD_bool, isBool_bool, isInt_int, addD_int, subD_int, negD_int, ltD_int, leD_int, gtD_int, geD_int, intD_int, absD_int, lenD_tuple, lenD_list, tupleD_list, tupleD_tuple, itemsD_list, itemsD_tuple, eqD_int, neD_int, atD_tuple, atD_list, List.getElem?_cons_zero, List.getElem?_cons_succ, List.set_cons_zero, List.set_cons_succ, List.length_cons, List.length_nil, List.map_cons, List.map_nil, List.replicate, List.cons_append, List.nil_append, Option.bind_some, Option.bind_none, Option.map_some, Nat.reduceAdd, Nat.reduceSub, if_true, if_false, decide_true, decide_false, Bool.not_true, Bool.not_false, Bool.false_eq_true, reduceIte, Nat.reduceEqDiff, Nat.zero_add, Int.cast_ofNat_Int, Int.reduceEq, Int.reduceLT, Int.reduceLE, Int.reduceAdd, Int.reduceSub, Int.reduceMul, Int.reduceNeg, Nat.reduceLT, Nat.reduceLeDiff, Int.reduceToNat, Int.zero_add, ne_eq, isi_tuple_none, isi_tuple_bool, isi_tuple_int, isi_tuple_str, isi_tuple_list, isi_tuple_tuple, isi_tuple_dict, isi_int_none, isi_int_bool, isi_int_int, isi_int_str, isi_int_list, isi_int_tuple, isi_int_dict, isi_bool_none, isi_bool_bool, isi_bool_int, isi_bool_str, isi_bool_list, isi_bool_tuple, isi_bool_dict, isi_str_none, isi_str_bool, isi_str_int, isi_str_str, isi_str_list, isi_str_tuple, isi_str_dict, isi_list_none, isi_list_bool, isi_list_int, isi_list_str, isi_list_list, isi_list_tuple, isi_list_dict, isi_dict_none, isi_dict_bool, isi_dict_int, isi_dict_str, isi_dict_list, isi_dict_tuple, isi_dict_dict, atI0, atI1, atI2, atI3, atI4, atI5, pow1018, eqD_str, neD_str, eqD_bool, isD_none, isnD_none, isNone_none, isNone_tuple, isNone_int, isD_bool, isnD_bool, sz0, sz1, sz2, sz3, sz4, sz5, sz6, sz7, sz8, sz9, maxD_int, minD_int, sNewB_ap, sCatO_ap, sAugIx_ap, listOf_list, listOf_tuple, enumF_nil, enumF_cons, iZq_ap, iZ3_ap, iR3_ap, callMO, ofX_some, xP_ok, x1_ap, x2_ap, xL_nil, xL_cons, xTu_ap, xLi_ap, xB_ap, xF_ap, pairD_ok, xO_ap, xPop_ap, xV_ap, xAnd_ap, xOr_ap, xNot_ap, xiD_ap, xiR1_ap, xN'_ap, xnL_ap, xLc_ap, sSetX_ap, sPatX_ap, sIfX_ap, sForX_ap, sAppX_ap, sNewX_ap, sRetX_ap, sRetO_ap, sRetF_ap, xLd_ap, xnLd_ap, sSetIxX_ap, nF_ap, listE_ok, mrg_nil, mrg_cons, sl, wipeR, if_pos hz, lc, hl2, rg, e]
theorem m_numsI (ns : List Int) (count : Int) (h : 0 ≤ count ∧ count ≤ 1000) : ∃ es : List Int, m_law_numbers [.list (ns.map PyData.int), .int count] = .ok (.list (es.map PyData.int)) := by
  obtain ⟨es, e⟩ := m_nums ns count.toNat (by omega)
  rw [Int.toNat_of_nonneg h.1] at e
  exact ⟨es, e⟩
/-! ### names -/
def signsS : Str := "abcdefghijklmnopqrstuvwxyz0123456789"
def L36 : List Nat := signsS.cps.toList
def L26 : List Nat := L36.take 26
structure NmOk (z : Str) : Prop where
  ex : ∃ c cs, z.cps.toList = c :: cs ∧ c ∈ L26 ∧ (∀ x ∈ cs, x ∈ L36) ∧ cs.length ≤ 11
theorem at_sign {x : Int} (h0 : 0 ≤ x) (h : x < 36) : ∃ c, c ∈ L36 ∧ (x < 26 → c ∈ L26) ∧ atD (.str signsS) (.int x) = some (.str ⟨#[c]⟩) := by
  obtain ⟨j, rfl⟩ := Int.eq_ofNat_of_zero_le h0
  have hl : L36.length = 36 := by decide +kernel
  have hj : j < L36.length := by omega
  refine ⟨L36[j], List.getElem_mem hj, fun h2 => ?_, ?_⟩
  · unfold L26
    rw [List.mem_take_iff_getElem]
    exact ⟨j, by omega, rfl⟩
  · have hs : signsS.length ≤ sizeLine := Nat.le_of_lt (sz_lt (by decide +kernel))
    show (if signsS.length ≤ sizeLine then (atI signsS.cps.toList (j : Int)).map fun c => PyData.str ⟨#[c]⟩ else none) = _
    rw [if_pos hs]
    have e : atI signsS.cps.toList (j : Int) = some L36[j] := by
      unfold atI ixN
      rw [if_pos (by omega), if_pos (by show ((j : Int) < (L36.length : Int)); omega)]
      exact List.getElem?_eq_getElem hj
    rw [e]
    rfl
theorem str_app (z : Str) (c : Nat) : (z ++ (⟨#[c]⟩ : Str)).cps.toList = z.cps.toList ++ [c] := by
  show (z.cps ++ #[c]).toList = _
  rw [Array.toList_append]
theorem str_len (z : Str) : z.length = z.cps.toList.length := by
  show z.cps.size = _
  rw [Array.length_toList]
theorem addD_str {a b : Str} (h : a.length + b.length < 16777216) : addD (.str a) (.str b) = some (.str (a ++ b)) := if_pos (Nat.le_of_lt h)
theorem nm_loop0 (sg : Str) : ∀ (m k : Nat) (es : List Int) (z : Str) (y : Option D), (∃ c cs, z.cps.toList = c :: cs ∧ c ∈ L26 ∧ (∀ x ∈ cs, x ∈ L36) ∧ cs.length + m ≤ 11) → ∃ (es' : List Int) (z' : Str) (y' : Option D), NmOk z' ∧
    forM' (.n 3) b_law_name_l1 (intsD (k : Int) m) [some (.list (es.map PyData.int)), some (.str signsS), some (.str z), y] = .nx [some (.list (es'.map PyData.int)), some (.str signsS), some (.str z'), y']
  | 0, k, es, z, y, h => ⟨es, z, y, ⟨by obtain ⟨c, cs, h1, h2, h3, h4⟩ := h; exact ⟨c, cs, h1, h2, h3, by omega⟩⟩, rfl⟩
  | m + 1, k, es, z, y, h => by
    obtain ⟨c, cs, h1, h2, h3, h4⟩ := h
    obtain ⟨x, es1, x0, x1, e1⟩ := m_tk es (many := 36) (by decide)
    obtain ⟨d, d1, _, d3⟩ := at_sign x0 x1
    have hl : z.length = cs.length + 1 := by rw [str_len, h1, List.length_cons]
    have hd : (⟨#[d]⟩ : Str).length = 1 := rfl
    have ad := addD_str (a := z) (b := ⟨#[d]⟩) (by omega)
    obtain ⟨es', z', y', hz, e2⟩ := nm_loop0 sg m (k + 1) es1 (z ++ ⟨#[d]⟩) (some (.int (k : Int))) ⟨c, cs ++ [d], by rw [str_app, h1]; rfl, h2, fun x hx => by
      rcases List.mem_append.mp hx with w | w
      · exact h3 x w
      · rw [List.mem_singleton.mp w]; exact d1, by rw [List.length_append, List.length_singleton]; omega⟩
    refine ⟨es', z', y', hz, ?_⟩
    rw [intsD_succ, forM_cons, ← e2]
    generalize forM' (.n 3) b_law_name_l1 (intsD ((k + 1 : Nat) : Int) m) = KK
    unfold b_law_name_l1
    simp -implicitDefEqProofs only [callM, sSeq_ap, thn_nx, thn_ret, thn_ex, thn_brk, thn_cont, sNx_ap, sBrk_ap, sCont_ap, sSet_ap, sSetB_ap, sRet_ap, sRetN_ap, sDrop_ap, sIf_ap, sNew_ap, sPat_ap, sPar_ap, sRaise_ap, sFor_ap, sWhile_ap, sAug_ap, sApp_ap, ownL_ap, eN_ap, eC_ap, e1_ap, e2_ap, aL_nil, aL_cons, eT_ap, eL_ap, eB_ap, eF_ap, eIf_ap, eAnd_ap, eOr_ap, eNot_ap, eCh_ap, tV_ap, tAnd_ap, tOr_ap, tNot_ap, pN_ap, pS_ap, eSl_ap, iD_ap, iR1_ap, iR2_ap, iZ_ap, iE_ap, eNew_ap, eLc_ap, tTrue_ap, bindP_n, bindP_tt, bindP_tl, bindPs_nil, bindPs_cons, bind_ok, bind_ex, ofE_ok, ofE_ex, optE_some, truD_bool, isBool_bool, isInt_int, addD_int, subD_int, negD_int, ltD_int, leD_int, gtD_int, geD_int, intD_int, absD_int, lenD_tuple, lenD_list, tupleD_list, tupleD_tuple, itemsD_list, itemsD_tuple, eqD_int, neD_int, atD_tuple, atD_list, List.getElem?_cons_zero, List.getElem?_cons_succ, List.set_cons_zero, List.set_cons_succ, List.length_cons, List.length_nil, List.map_cons, List.map_nil, List.replicate, List.cons_append, List.nil_append, Option.bind_some, Option.bind_none, Option.map_some, Nat.reduceAdd, Nat.reduceSub, if_true, if_false, decide_true, decide_false, Bool.not_true, Bool.not_false, Bool.false_eq_true, reduceIte, Nat.reduceEqDiff, Nat.zero_add, Int.cast_ofNat_Int, Int.reduceEq, Int.reduceLT, Int.reduceLE, Int.reduceAdd, Int.reduceSub, Int.reduceMul, Int.reduceNeg, Nat.reduceLT, Nat.reduceLeDiff, Int.reduceToNat, Int.zero_add, ne_eq, isi_tuple_none, isi_tuple_bool, isi_tuple_int, isi_tuple_str, isi_tuple_list, isi_tuple_tuple, isi_tuple_dict, isi_int_none, isi_int_bool, isi_int_int, isi_int_str, isi_int_list, isi_int_tuple, isi_int_dict, isi_bool_none, isi_bool_bool, isi_bool_int, isi_bool_str, isi_bool_list, isi_bool_tuple, isi_bool_dict, isi_str_none, isi_str_bool, isi_str_int, isi_str_str, isi_str_list, isi_str_tuple, isi_str_dict, isi_list_none, isi_list_bool, isi_list_int, isi_list_str, isi_list_list, isi_list_tuple, isi_list_dict, isi_dict_none, isi_dict_bool, isi_dict_int, isi_dict_str, isi_dict_list, isi_dict_tuple, isi_dict_dict, atI0, atI1, atI2, atI3, atI4, atI5, pow1018, eqD_str, neD_str, eqD_bool, isD_none, isnD_none, isNone_none, isNone_tuple, isNone_int, isD_bool, isnD_bool, sz0, sz1, sz2, sz3, sz4, sz5, sz6, sz7, sz8, sz9, maxD_int, minD_int, sNewB_ap, sCatO_ap, sAugIx_ap, listOf_list, listOf_tuple, enumF_nil, enumF_cons, iZq_ap, iZ3_ap, iR3_ap, callMO, ofX_some, xP_ok, x1_ap, x2_ap, xL_nil, xL_cons, xTu_ap, xLi_ap, xB_ap, xF_ap, pairD_ok, xO_ap, xPop_ap, xV_ap, xAnd_ap, xOr_ap, xNot_ap, xiD_ap, xiR1_ap, xN'_ap, xnL_ap, xLc_ap, sSetX_ap, sPatX_ap, sIfX_ap, sForX_ap, sAppX_ap, sNewX_ap, sRetX_ap, sRetO_ap, sRetF_ap, xLd_ap, xnLd_ap, sSetIxX_ap, nF_ap, listE_ok, mrg_nil, mrg_cons, e1, d3, ad, lps_nx]
theorem m_lname (es : List Int) : ∃ (z : Str) (es' : List Int), NmOk z ∧ m_law_name [.list (es.map PyData.int)] = .ok (.tuple [.str z, .list (es'.map PyData.int)]) := by
  obtain ⟨x, es1, x0, x1, e1⟩ := m_tk es (many := 26) (by decide)
  obtain ⟨d, d1, d2, d3⟩ := at_sign x0 (by omega)
  obtain ⟨n, es2, n0, n1, e2⟩ := m_tk es1 (many := 12) (by decide)
  obtain ⟨n, rfl⟩ := Int.eq_ofNat_of_zero_le n0
  obtain ⟨es', z', y', hz, e3⟩ := nm_loop0 signsS n 0 es2 ⟨#[d]⟩ none ⟨d, [], rfl, d2 x1, by simp, by simp; omega⟩
  have e3 : forM' (.n 3) b_law_name_l1 (intsD 0 n) [some (.list (es2.map PyData.int)), some (.str signsS), some (.str ⟨#[d]⟩), none] = _ := e3
  have rg := rng1D_nat (n := n) (by omega)
  have sS : PyData.str "abcdefghijklmnopqrstuvwxyz0123456789" = .str signsS := rfl
  refine ⟨z', es', hz, ?_⟩
  unfold m_law_name b_law_name
  rw [sS]
  simp -implicitDefEqProofs only [callM, sSeq_ap, thn_nx, thn_ret, thn_ex, thn_brk, thn_cont, sNx_ap, sBrk_ap, sCont_ap, sSet_ap, sSetB_ap, sRet_ap, sRetN_ap, sDrop_ap, sIf_ap, sNew_ap, sPat_ap, sPar_ap, sRaise_ap, sFor_ap, sWhile_ap, sAug_ap, sApp_ap, ownL_ap, eN_ap, eC_ap, e1_ap, e2_ap, aL_nil, aL_cons, eT_ap, eL_ap, eB_ap, eF_ap, eIf_ap, eAnd_ap, eOr_ap, eNot_ap, eCh_ap, tV_ap, tAnd_ap, tOr_ap, tNot_ap, pN_ap, pS_ap, eSl_ap, iD_ap, iR1_ap, iR2_ap, iZ_ap, iE_ap, eNew_ap, eLc_ap, tTrue_ap, bindP_n, bindP_tt, bindP_tl, bindPs_nil, bindPs_cons, bind_ok, bind_ex, ofE_ok, ofE_ex, optE_some, truD_bool, isBool_bool, isInt_int, addD_int, subD_int, negD_int, ltD_int, leD_int, gtD_int, geD_int, intD_int, absD_int, lenD_tuple, lenD_list, tupleD_list, tupleD_tuple, itemsD_list, itemsD_tuple, eqD_int, neD_int, atD_tuple, atD_list, List.getElem?_cons_zero, List.getElem?_cons_succ, List.set_cons_zero, List.set_cons_succ, List.length_cons, List.length_nil, List.map_cons, List.map_nil, List.replicate, List.cons_append, List.nil_append, Option.bind_some, Option.bind_none, Option.map_some, Nat.reduceAdd, Nat.reduceSub, if_true, if_false, decide_true, decide_false, Bool.not_true, Bool.not_false, Bool.false_eq_true, reduceIte, Nat.reduceEqDiff, Nat.zero_add, Int.cast_ofNat_Int, Int.reduceEq, Int.reduceLT, Int.reduceLE, Int.reduceAdd, Int.reduceSub, Int.reduceMul, Int.reduceNeg, Nat.reduceLT, Nat.reduceLeDiff, Int.reduceToNat, Int.zero_add, ne_eq, isi_tuple_none, isi_tuple_bool, isi_tuple_int, isi_tuple_str, isi_tuple_list, isi_tuple_tuple, isi_tuple_dict, isi_int_none, isi_int_bool, isi_int_int, isi_int_str, isi_int_list, isi_int_tuple, isi_int_dict, isi_bool_none, isi_bool_bool, isi_bool_int, isi_bool_str, isi_bool_list, isi_bool_tuple, isi_bool_dict, isi_str_none, isi_str_bool, isi_str_int, isi_str_str, isi_str_list, isi_str_tuple, isi_str_dict, isi_list_none, isi_list_bool, isi_list_int, isi_list_str, isi_list_list, isi_list_tuple, isi_list_dict, isi_dict_none, isi_dict_bool, isi_dict_int, isi_dict_str, isi_dict_list, isi_dict_tuple, isi_dict_dict, atI0, atI1, atI2, atI3, atI4, atI5, pow1018, eqD_str, neD_str, eqD_bool, isD_none, isnD_none, isNone_none, isNone_tuple, isNone_int, isD_bool, isnD_bool, sz0, sz1, sz2, sz3, sz4, sz5, sz6, sz7, sz8, sz9, maxD_int, minD_int, sNewB_ap, sCatO_ap, sAugIx_ap, listOf_list, listOf_tuple, enumF_nil, enumF_cons, iZq_ap, iZ3_ap, iR3_ap, callMO, ofX_some, xP_ok, x1_ap, x2_ap, xL_nil, xL_cons, xTu_ap, xLi_ap, xB_ap, xF_ap, pairD_ok, xO_ap, xPop_ap, xV_ap, xAnd_ap, xOr_ap, xNot_ap, xiD_ap, xiR1_ap, xN'_ap, xnL_ap, xLc_ap, sSetX_ap, sPatX_ap, sIfX_ap, sForX_ap, sAppX_ap, sNewX_ap, sRetX_ap, sRetO_ap, sRetF_ap, xLd_ap, xnLd_ap, sSetIxX_ap, nF_ap, listE_ok, mrg_nil, mrg_cons, e1, d3, e2, rg, e3]

-- CUT
abbrev IP := Int × Int
def ipD (p : IP) : D := .tuple [.int p.1, .int p.2]
structure Bd (k : Nat) (a : IP) : Prop where
  x : Sm k a.1
  y : Sm k a.2
theorem ip0 (p : IP) : atD (ipD p) (.int 0) = some (.int p.1) := rfl
theorem ip1 (p : IP) : atD (ipD p) (.int 1) = some (.int p.2) := rfl
theorem eqv_ip (v w : IP) : PyData.eqv (ipD v) (ipD w) = (decide (v.1 = w.1) && decide (v.2 = w.2)) := by
  unfold ipD
  rw [eqv_tup, eqvAll_cons, eqvAll_cons, eqvAll_nil, eqv_int, eqv_int, Bool.and_true]
theorem eqD_ip (v w : IP) : eqD (ipD v) (ipD w) = some (.bool (decide (v.1 = w.1) && decide (v.2 = w.2))) := by
  rw [eqD_of (by rfl), eqv_ip]

/-! ### vectors, cloths -/
theorem m_lvec (es : List Int) : ∃ (v : IP) (es' : List Int), (-100 ≤ v.1 ∧ v.1 ≤ 100 ∧ -100 ≤ v.2 ∧ v.2 ≤ 100) ∧ ¬ (v.1 = 0 ∧ v.2 = 0) ∧ m_law_vector [.list (es.map PyData.int)] = .ok (.tuple [ipD v, .list (es'.map PyData.int)]) := by
  obtain ⟨t, es1, t0, t1, e1⟩ := m_tk es (many := 2) (by decide)
  have go : ∀ (x y : Int) (es' : List Int), (-100 ≤ x ∧ x ≤ 100 ∧ -100 ≤ y ∧ y ≤ 100) → (m_law_vector [.list (es.map PyData.int)] = if x = 0 ∧ y = 0 then .ok (.tuple [ipD (0, 1), .list (es'.map PyData.int)]) else .ok (.tuple [ipD (x, y), .list (es'.map PyData.int)])) →
      ∃ (v : IP) (es' : List Int), (-100 ≤ v.1 ∧ v.1 ≤ 100 ∧ -100 ≤ v.2 ∧ v.2 ≤ 100) ∧ ¬ (v.1 = 0 ∧ v.2 = 0) ∧ m_law_vector [.list (es.map PyData.int)] = .ok (.tuple [ipD v, .list (es'.map PyData.int)]) := fun x y es' h e => by
    by_cases z : x = 0 ∧ y = 0
    · rw [if_pos z] at e
      exact ⟨(0, 1), es', by decide, by decide, e⟩
    · rw [if_neg z] at e
      exact ⟨(x, y), es', h, z, e⟩
  have tp : ∀ x y : Int, PyData.tuple [.int x, .int y] = ipD (x, y) := fun _ _ => rfl
  by_cases ht : t = 0
  · obtain ⟨x, es2, x0, x1, e2⟩ := m_tk es1 (many := 3) (by decide)
    obtain ⟨y, es3, y0, y1, e3⟩ := m_tk es2 (many := 3) (by decide)
    refine go (x - 1) (y - 1) es3 (by omega) ?_
    generalize hX : x - 1 = X at *
    generalize hY : y - 1 = Y at *
    unfold m_law_vector b_law_vector
    by_cases a : X = 0
    · by_cases b : Y = 0
      · rw [if_pos ⟨a, b⟩]
        simp -implicitDefEqProofs only [callM, sSeq_ap, thn_nx, thn_ret, thn_ex, thn_brk, thn_cont, sNx_ap, sBrk_ap, sCont_ap, sSet_ap, sSetB_ap, sRet_ap, sRetN_ap, sDrop_ap, sIf_ap, sNew_ap, sPat_ap, sPar_ap, sRaise_ap, sFor_ap, sWhile_ap, sAug_ap, sApp_ap, ownL_ap, eN_ap, eC_ap, e1_ap, e2_ap, aL_nil, aL_cons, eT_ap, eL_ap, eB_ap, eF_ap, eIf_ap, eAnd_ap, eOr_ap, eNot_ap, eCh_ap, tV_ap, tAnd_ap, tOr_ap, tNot_ap, pN_ap, pS_ap, eSl_ap, iD_ap, iR1_ap, iR2_ap, iZ_ap, iE_ap, eNew_ap, eLc_ap, tTrue_ap, bindP_n, bindP_tt, bindP_tl, bindPs_nil, bindPs_cons, bind_ok, bind_ex, ofE_ok, ofE_ex, optE_some, truD_bool, isBool_bool, isInt_int, addD_int, subD_int, negD_int, ltD_int, leD_int, gtD_int, geD_int, intD_int, absD_int, lenD_tuple, lenD_list, tupleD_list, tupleD_tuple, itemsD_list, itemsD_tuple, eqD_int, neD_int, atD_tuple, atD_list, List.getElem?_cons_zero, List.getElem?_cons_succ, List.set_cons_zero, List.set_cons_succ, List.length_cons, List.length_nil, List.map_cons, List.map_nil, List.replicate, List.cons_append, List.nil_append, Option.bind_some, Option.bind_none, Option.map_some, Nat.reduceAdd, Nat.reduceSub, if_true, if_false, decide_true, decide_false, Bool.not_true, Bool.not_false, Bool.false_eq_true, reduceIte, Nat.reduceEqDiff, Nat.zero_add, Int.cast_ofNat_Int, Int.reduceEq, Int.reduceLT, Int.reduceLE, Int.reduceAdd, Int.reduceSub, Int.reduceMul, Int.reduceNeg, Nat.reduceLT, Nat.reduceLeDiff, Int.reduceToNat, Int.zero_add, ne_eq, isi_tuple_none, isi_tuple_bool, isi_tuple_int, isi_tuple_str, isi_tuple_list, isi_tuple_tuple, isi_tuple_dict, isi_int_none, isi_int_bool, isi_int_int, isi_int_str, isi_int_list, isi_int_tuple, isi_int_dict, isi_bool_none, isi_bool_bool, isi_bool_int, isi_bool_str, isi_bool_list, isi_bool_tuple, isi_bool_dict, isi_str_none, isi_str_bool, isi_str_int, isi_str_str, isi_str_list, isi_str_tuple, isi_str_dict, isi_list_none, isi_list_bool, isi_list_int, isi_list_str, isi_list_list, isi_list_tuple, isi_list_dict, isi_dict_none, isi_dict_bool, isi_dict_int, isi_dict_str, isi_dict_list, isi_dict_tuple, isi_dict_dict, atI0, atI1, atI2, atI3, atI4, atI5, pow1018, eqD_str, neD_str, eqD_bool, isD_none, isnD_none, isNone_none, isNone_tuple, isNone_int, isD_bool, isnD_bool, sz0, sz1, sz2, sz3, sz4, sz5, sz6, sz7, sz8, sz9, maxD_int, minD_int, sNewB_ap, sCatO_ap, sAugIx_ap, listOf_list, listOf_tuple, enumF_nil, enumF_cons, iZq_ap, iZ3_ap, iR3_ap, callMO, ofX_some, xP_ok, x1_ap, x2_ap, xL_nil, xL_cons, xTu_ap, xLi_ap, xB_ap, xF_ap, pairD_ok, xO_ap, xPop_ap, xV_ap, xAnd_ap, xOr_ap, xNot_ap, xiD_ap, xiR1_ap, xN'_ap, xnL_ap, xLc_ap, sSetX_ap, sPatX_ap, sIfX_ap, sForX_ap, sAppX_ap, sNewX_ap, sRetX_ap, sRetO_ap, sRetF_ap, xLd_ap, xnLd_ap, sSetIxX_ap, nF_ap, listE_ok, mrg_nil, mrg_cons, e1, decide_eq_true ht, e2, e3, hX, hY, decide_eq_true a, decide_eq_true b, tp]
      · rw [if_neg (fun z => b z.2)]
        simp -implicitDefEqProofs only [callM, sSeq_ap, thn_nx, thn_ret, thn_ex, thn_brk, thn_cont, sNx_ap, sBrk_ap, sCont_ap, sSet_ap, sSetB_ap, sRet_ap, sRetN_ap, sDrop_ap, sIf_ap, sNew_ap, sPat_ap, sPar_ap, sRaise_ap, sFor_ap, sWhile_ap, sAug_ap, sApp_ap, ownL_ap, eN_ap, eC_ap, e1_ap, e2_ap, aL_nil, aL_cons, eT_ap, eL_ap, eB_ap, eF_ap, eIf_ap, eAnd_ap, eOr_ap, eNot_ap, eCh_ap, tV_ap, tAnd_ap, tOr_ap, tNot_ap, pN_ap, pS_ap, eSl_ap, iD_ap, iR1_ap, iR2_ap, iZ_ap, iE_ap, eNew_ap, eLc_ap, tTrue_ap, bindP_n, bindP_tt, bindP_tl, bindPs_nil, bindPs_cons, bind_ok, bind_ex, ofE_ok, ofE_ex, optE_some, truD_bool, isBool_bool, isInt_int, addD_int, subD_int, negD_int, ltD_int, leD_int, gtD_int, geD_int, intD_int, absD_int, lenD_tuple, lenD_list, tupleD_list, tupleD_tuple, itemsD_list, itemsD_tuple, eqD_int, neD_int, atD_tuple, atD_list, List.getElem?_cons_zero, List.getElem?_cons_succ, List.set_cons_zero, List.set_cons_succ, List.length_cons, List.length_nil, List.map_cons, List.map_nil, List.replicate, List.cons_append, List.nil_append, Option.bind_some, Option.bind_none, Option.map_some, Nat.reduceAdd, Nat.reduceSub, if_true, if_false, decide_true, decide_false, Bool.not_true, Bool.not_false, Bool.false_eq_true, reduceIte, Nat.reduceEqDiff, Nat.zero_add, Int.cast_ofNat_Int, Int.reduceEq, Int.reduceLT, Int.reduceLE, Int.reduceAdd, Int.reduceSub, Int.reduceMul, Int.reduceNeg, Nat.reduceLT, Nat.reduceLeDiff, Int.reduceToNat, Int.zero_add, ne_eq, isi_tuple_none, isi_tuple_bool, isi_tuple_int, isi_tuple_str, isi_tuple_list, isi_tuple_tuple, isi_tuple_dict, isi_int_none, isi_int_bool, isi_int_int, isi_int_str, isi_int_list, isi_int_tuple, isi_int_dict, isi_bool_none, isi_bool_bool, isi_bool_int, isi_bool_str, isi_bool_list, isi_bool_tuple, isi_bool_dict, isi_str_none, isi_str_bool, isi_str_int, isi_str_str, isi_str_list, isi_str_tuple, isi_str_dict, isi_list_none, isi_list_bool, isi_list_int, isi_list_str, isi_list_list, isi_list_tuple, isi_list_dict, isi_dict_none, isi_dict_bool, isi_dict_int, isi_dict_str, isi_dict_list, isi_dict_tuple, isi_dict_dict, atI0, atI1, atI2, atI3, atI4, atI5, pow1018, eqD_str, neD_str, eqD_bool, isD_none, isnD_none, isNone_none, isNone_tuple, isNone_int, isD_bool, isnD_bool, sz0, sz1, sz2, sz3, sz4, sz5, sz6, sz7, sz8, sz9, maxD_int, minD_int, sNewB_ap, sCatO_ap, sAugIx_ap, listOf_list, listOf_tuple, enumF_nil, enumF_cons, iZq_ap, iZ3_ap, iR3_ap, callMO, ofX_some, xP_ok, x1_ap, x2_ap, xL_nil, xL_cons, xTu_ap, xLi_ap, xB_ap, xF_ap, pairD_ok, xO_ap, xPop_ap, xV_ap, xAnd_ap, xOr_ap, xNot_ap, xiD_ap, xiR1_ap, xN'_ap, xnL_ap, xLc_ap, sSetX_ap, sPatX_ap, sIfX_ap, sForX_ap, sAppX_ap, sNewX_ap, sRetX_ap, sRetO_ap, sRetF_ap, xLd_ap, xnLd_ap, sSetIxX_ap, nF_ap, listE_ok, mrg_nil, mrg_cons, e1, decide_eq_true ht, e2, e3, hX, hY, decide_eq_true a, decide_eq_false b, tp]
    · rw [if_neg (fun z => a z.1)]
      simp -implicitDefEqProofs only [callM, sSeq_ap, thn_nx, thn_ret, thn_ex, thn_brk, thn_cont, sNx_ap, sBrk_ap, sCont_ap, sSet_ap, sSetB_ap, sRet_ap, sRetN_ap, sDrop_ap, sIf_ap, sNew_ap, sPat_ap, sPar_ap, sRaise_ap, sFor_ap, sWhile_ap, sAug_ap, sApp_ap, ownL_ap, eN_ap, eC_ap, e1_ap, e2_ap, aL_nil, aL_cons, eT_ap, eL_ap, eB_ap, eF_ap, eIf_ap, eAnd_ap, eOr_ap, eNot_ap, eCh_ap, tV_ap, tAnd_ap, tOr_ap, tNot_ap, pN_ap, pS_ap, eSl_ap, iD_ap, iR1_ap, iR2_ap, iZ_ap, iE_ap, eNew_ap, eLc_ap, tTrue_ap, bindP_n, bindP_tt, bindP_tl, bindPs_nil, bindPs_cons, bind_ok, bind_ex, ofE_ok, ofE_ex, optE_some, truD_bool, isBool_bool, isInt_int, addD_int, subD_int, negD_int, ltD_int, leD_int, gtD_int, geD_int, intD_int, absD_int, lenD_tuple, lenD_list, tupleD_list, tupleD_tuple, itemsD_list, itemsD_tuple, eqD_int, neD_int, atD_tuple, atD_list, List.getElem?_cons_zero, List.getElem?_cons_succ, List.set_cons_zero, List.set_cons_succ, List.length_cons, List.length_nil, List.map_cons, List.map_nil, List.replicate, List.cons_append, List.nil_append, Option.bind_some, Option.bind_none, Option.map_some, Nat.reduceAdd, Nat.reduceSub, if_true, if_false, decide_true, decide_false, Bool.not_true, Bool.not_false, Bool.false_eq_true, reduceIte, Nat.reduceEqDiff, Nat.zero_add, Int.cast_ofNat_Int, Int.reduceEq, Int.reduceLT, Int.reduceLE, Int.reduceAdd, Int.reduceSub, Int.reduceMul, Int.reduceNeg, Nat.reduceLT, Nat.reduceLeDiff, Int.reduceToNat, Int.zero_add, ne_eq, isi_tuple_none, isi_tuple_bool, isi_tuple_int, isi_tuple_str, isi_tuple_list, isi_tuple_tuple, isi_tuple_dict, isi_int_none, isi_int_bool, isi_int_int, isi_int_str, isi_int_list, isi_int_tuple, isi_int_dict, isi_bool_none, isi_bool_bool, isi_bool_int, isi_bool_str, isi_bool_list, isi_bool_tuple, isi_bool_dict, isi_str_none, isi_str_bool, isi_str_int, isi_str_str, isi_str_list, isi_str_tuple, isi_str_dict, isi_list_none, isi_list_bool, isi_list_int, isi_list_str, isi_list_list, isi_list_tuple, isi_list_dict, isi_dict_none, isi_dict_bool, isi_dict_int, isi_dict_str, isi_dict_list, isi_dict_tuple, isi_dict_dict, atI0, atI1, atI2, atI3, atI4, atI5, pow1018, eqD_str, neD_str, eqD_bool, isD_none, isnD_none, isNone_none, isNone_tuple, isNone_int, isD_bool, isnD_bool, sz0, sz1, sz2, sz3, sz4, sz5, sz6, sz7, sz8, sz9, maxD_int, minD_int, sNewB_ap, sCatO_ap, sAugIx_ap, listOf_list, listOf_tuple, enumF_nil, enumF_cons, iZq_ap, iZ3_ap, iR3_ap, callMO, ofX_some, xP_ok, x1_ap, x2_ap, xL_nil, xL_cons, xTu_ap, xLi_ap, xB_ap, xF_ap, pairD_ok, xO_ap, xPop_ap, xV_ap, xAnd_ap, xOr_ap, xNot_ap, xiD_ap, xiR1_ap, xN'_ap, xnL_ap, xLc_ap, sSetX_ap, sPatX_ap, sIfX_ap, sForX_ap, sAppX_ap, sNewX_ap, sRetX_ap, sRetO_ap, sRetF_ap, xLd_ap, xnLd_ap, sSetIxX_ap, nF_ap, listE_ok, mrg_nil, mrg_cons, e1, decide_eq_true ht, e2, e3, hX, hY, decide_eq_false a, tp]
  · obtain ⟨x, es2, x0, x1, e2⟩ := m_tk es1 (many := 201) (by decide)
    obtain ⟨y, es3, y0, y1, e3⟩ := m_tk es2 (many := 201) (by decide)
    refine go (x - 100) (y - 100) es3 (by omega) ?_
    generalize hX : x - 100 = X at *
    generalize hY : y - 100 = Y at *
    unfold m_law_vector b_law_vector
    by_cases a : X = 0
    · by_cases b : Y = 0
      · rw [if_pos ⟨a, b⟩]
        simp -implicitDefEqProofs only [callM, sSeq_ap, thn_nx, thn_ret, thn_ex, thn_brk, thn_cont, sNx_ap, sBrk_ap, sCont_ap, sSet_ap, sSetB_ap, sRet_ap, sRetN_ap, sDrop_ap, sIf_ap, sNew_ap, sPat_ap, sPar_ap, sRaise_ap, sFor_ap, sWhile_ap, sAug_ap, sApp_ap, ownL_ap, eN_ap, eC_ap, e1_ap, e2_ap, aL_nil, aL_cons, eT_ap, eL_ap, eB_ap, eF_ap, eIf_ap, eAnd_ap, eOr_ap, eNot_ap, eCh_ap, tV_ap, tAnd_ap, tOr_ap, tNot_ap, pN_ap, pS_ap, eSl_ap, iD_ap, iR1_ap, iR2_ap, iZ_ap, iE_ap, eNew_ap, eLc_ap, tTrue_ap, bindP_n, bindP_tt, bindP_tl, bindPs_nil, bindPs_cons, bind_ok, bind_ex, ofE_ok, ofE_ex, optE_some, truD_bool, isBool_bool, isInt_int, addD_int, subD_int, negD_int, ltD_int, leD_int, gtD_int, geD_int, intD_int, absD_int, lenD_tuple, lenD_list, tupleD_list, tupleD_tuple, itemsD_list, itemsD_tuple, eqD_int, neD_int, atD_tuple, atD_list, List.getElem?_cons_zero, List.getElem?_cons_succ, List.set_cons_zero, List.set_cons_succ, List.length_cons, List.length_nil, List.map_cons, List.map_nil, List.replicate, List.cons_append, List.nil_append, Option.bind_some, Option.bind_none, Option.map_some, Nat.reduceAdd, Nat.reduceSub, if_true, if_false, decide_true, decide_false, Bool.not_true, Bool.not_false, Bool.false_eq_true, reduceIte, Nat.reduceEqDiff, Nat.zero_add, Int.cast_ofNat_Int, Int.reduceEq, Int.reduceLT, Int.reduceLE, Int.reduceAdd, Int.reduceSub, Int.reduceMul, Int.reduceNeg, Nat.reduceLT, Nat.reduceLeDiff, Int.reduceToNat, Int.zero_add, ne_eq, isi_tuple_none, isi_tuple_bool, isi_tuple_int, isi_tuple_str, isi_tuple_list, isi_tuple_tuple, isi_tuple_dict, isi_int_none, isi_int_bool, isi_int_int, isi_int_str, isi_int_list, isi_int_tuple, isi_int_dict, isi_bool_none, isi_bool_bool, isi_bool_int, isi_bool_str, isi_bool_list, isi_bool_tuple, isi_bool_dict, isi_str_none, isi_str_bool, isi_str_int, isi_str_str, isi_str_list, isi_str_tuple, isi_str_dict, isi_list_none, isi_list_bool, isi_list_int, isi_list_str, isi_list_list, isi_list_tuple, isi_list_dict, isi_dict_none, isi_dict_bool, isi_dict_int, isi_dict_str, isi_dict_list, isi_dict_tuple, isi_dict_dict, atI0, atI1, atI2, atI3, atI4, atI5, pow1018, eqD_str, neD_str, eqD_bool, isD_none, isnD_none, isNone_none, isNone_tuple, isNone_int, isD_bool, isnD_bool, sz0, sz1, sz2, sz3, sz4, sz5, sz6, sz7, sz8, sz9, maxD_int, minD_int, sNewB_ap, sCatO_ap, sAugIx_ap, listOf_list, listOf_tuple, enumF_nil, enumF_cons, iZq_ap, iZ3_ap, iR3_ap, callMO, ofX_some, xP_ok, x1_ap, x2_ap, xL_nil, xL_cons, xTu_ap, xLi_ap, xB_ap, xF_ap, pairD_ok, xO_ap, xPop_ap, xV_ap, xAnd_ap, xOr_ap, xNot_ap, xiD_ap, xiR1_ap, xN'_ap, xnL_ap, xLc_ap, sSetX_ap, sPatX_ap, sIfX_ap, sForX_ap, sAppX_ap, sNewX_ap, sRetX_ap, sRetO_ap, sRetF_ap, xLd_ap, xnLd_ap, sSetIxX_ap, nF_ap, listE_ok, mrg_nil, mrg_cons, e1, decide_eq_false ht, e2, e3, hX, hY, decide_eq_true a, decide_eq_true b, tp]
      · rw [if_neg (fun z => b z.2)]
        simp -implicitDefEqProofs only [callM, sSeq_ap, thn_nx, thn_ret, thn_ex, thn_brk, thn_cont, sNx_ap, sBrk_ap, sCont_ap, sSet_ap, sSetB_ap, sRet_ap, sRetN_ap, sDrop_ap, sIf_ap, sNew_ap, sPat_ap, sPar_ap, sRaise_ap, sFor_ap, sWhile_ap, sAug_ap, sApp_ap, ownL_ap, eN_ap, eC_ap, e1_ap, e2_ap, aL_nil, aL_cons, eT_ap, eL_ap, eB_ap, eF_ap, eIf_ap, eAnd_ap, eOr_ap, eNot_ap, eCh_ap, tV_ap, tAnd_ap, tOr_ap, tNot_ap, pN_ap, pS_ap, eSl_ap, iD_ap, iR1_ap, iR2_ap, iZ_ap, iE_ap, eNew_ap, eLc_ap, tTrue_ap, bindP_n, bindP_tt, bindP_tl, bindPs_nil, bindPs_cons, bind_ok, bind_ex, ofE_ok, ofE_ex, optE_some, truD_bool, isBool_bool, isInt_int, addD_int, subD_int, negD_int, ltD_int, leD_int, gtD_int, geD_int, intD_int, absD_int, lenD_tuple, lenD_list, tupleD_list, tupleD_tuple, itemsD_list, itemsD_tuple, eqD_int, neD_int, atD_tuple, atD_list, List.getElem?_cons_zero, List.getElem?_cons_succ, List.set_cons_zero, List.set_cons_succ, List.length_cons, List.length_nil, List.map_cons, List.map_nil, List.replicate, List.cons_append, List.nil_append, Option.bind_some, Option.bind_none, Option.map_some, Nat.reduceAdd, Nat.reduceSub, if_true, if_false, decide_true, decide_false, Bool.not_true, Bool.not_false, Bool.false_eq_true, reduceIte, Nat.reduceEqDiff, Nat.zero_add, Int.cast_ofNat_Int, Int.reduceEq, Int.reduceLT, Int.reduceLE, Int.reduceAdd, Int.reduceSub, Int.reduceMul, Int.reduceNeg, Nat.reduceLT, Nat.reduceLeDiff, Int.reduceToNat, Int.zero_add, ne_eq, isi_tuple_none, isi_tuple_bool, isi_tuple_int, isi_tuple_str, isi_tuple_list, isi_tuple_tuple, isi_tuple_dict, isi_int_none, isi_int_bool, isi_int_int, isi_int_str, isi_int_list, isi_int_tuple, isi_int_dict, isi_bool_none, isi_bool_bool, isi_bool_int, isi_bool_str, isi_bool_list, isi_bool_tuple, isi_bool_dict, isi_str_none, isi_str_bool, isi_str_int, isi_str_str, isi_str_list, isi_str_tuple, isi_str_dict, isi_list_none, isi_list_bool, isi_list_int, isi_list_str, isi_list_list, isi_list_tuple, isi_list_dict, isi_dict_none, isi_dict_bool, isi_dict_int, isi_dict_str, isi_dict_list, isi_dict_tuple, isi_dict_dict, atI0, atI1, atI2, atI3, atI4, atI5, pow1018, eqD_str, neD_str, eqD_bool, isD_none, isnD_none, isNone_none, isNone_tuple, isNone_int, isD_bool, isnD_bool, sz0, sz1, sz2, sz3, sz4, sz5, sz6, sz7, sz8, sz9, maxD_int, minD_int, sNewB_ap, sCatO_ap, sAugIx_ap, listOf_list, listOf_tuple, enumF_nil, enumF_cons, iZq_ap, iZ3_ap, iR3_ap, callMO, ofX_some, xP_ok, x1_ap, x2_ap, xL_nil, xL_cons, xTu_ap, xLi_ap, xB_ap, xF_ap, pairD_ok, xO_ap, xPop_ap, xV_ap, xAnd_ap, xOr_ap, xNot_ap, xiD_ap, xiR1_ap, xN'_ap, xnL_ap, xLc_ap, sSetX_ap, sPatX_ap, sIfX_ap, sForX_ap, sAppX_ap, sNewX_ap, sRetX_ap, sRetO_ap, sRetF_ap, xLd_ap, xnLd_ap, sSetIxX_ap, nF_ap, listE_ok, mrg_nil, mrg_cons, e1, decide_eq_false ht, e2, e3, hX, hY, decide_eq_true a, decide_eq_false b, tp]
    · rw [if_neg (fun z => a z.1)]
      simp -implicitDefEqProofs only [callM, sSeq_ap, thn_nx, thn_ret, thn_ex, thn_brk, thn_cont, sNx_ap, sBrk_ap, sCont_ap, sSet_ap, sSetB_ap, sRet_ap, sRetN_ap, sDrop_ap, sIf_ap, sNew_ap, sPat_ap, sPar_ap, sRaise_ap, sFor_ap, sWhile_ap, sAug_ap, sApp_ap, ownL_ap, eN_ap, eC_ap, e1_ap, e2_ap, aL_nil, aL_cons, eT_ap, eL_ap, eB_ap, eF_ap, eIf_ap, eAnd_ap, eOr_ap, eNot_ap, eCh_ap, tV_ap, tAnd_ap, tOr_ap, tNot_ap, pN_ap, pS_ap, eSl_ap, iD_ap, iR1_ap, iR2_ap, iZ_ap, iE_ap, eNew_ap, eLc_ap, tTrue_ap, bindP_n, bindP_tt, bindP_tl, bindPs_nil, bindPs_cons, bind_ok, bind_ex, ofE_ok, ofE_ex, optE_some, truD_bool, isBool_bool, isInt_int, addD_int, subD_int, negD_int, ltD_int, leD_int, gtD_int, geD_int, intD_int, absD_int, lenD_tuple, lenD_list, tupleD_list, tupleD_tuple, itemsD_list, itemsD_tuple, eqD_int, neD_int, atD_tuple, atD_list, List.getElem?_cons_zero, List.getElem?_cons_succ, List.set_cons_zero, List.set_cons_succ, List.length_cons, List.length_nil, List.map_cons, List.map_nil, List.replicate, List.cons_append, List.nil_append, Option.bind_some, Option.bind_none, Option.map_some, Nat.reduceAdd, Nat.reduceSub, if_true, if_false, decide_true, decide_false, Bool.not_true, Bool.not_false, Bool.false_eq_true, reduceIte, Nat.reduceEqDiff, Nat.zero_add, Int.cast_ofNat_Int, Int.reduceEq, Int.reduceLT, Int.reduceLE, Int.reduceAdd, Int.reduceSub, Int.reduceMul, Int.reduceNeg, Nat.reduceLT, Nat.reduceLeDiff, Int.reduceToNat, Int.zero_add, ne_eq, isi_tuple_none, isi_tuple_bool, isi_tuple_int, isi_tuple_str, isi_tuple_list, isi_tuple_tuple, isi_tuple_dict, isi_int_none, isi_int_bool, isi_int_int, isi_int_str, isi_int_list, isi_int_tuple, isi_int_dict, isi_bool_none, isi_bool_bool, isi_bool_int, isi_bool_str, isi_bool_list, isi_bool_tuple, isi_bool_dict, isi_str_none, isi_str_bool, isi_str_int, isi_str_str, isi_str_list, isi_str_tuple, isi_str_dict, isi_list_none, isi_list_bool, isi_list_int, isi_list_str, isi_list_list, isi_list_tuple, isi_list_dict, isi_dict_none, isi_dict_bool, isi_dict_int, isi_dict_str, isi_dict_list, isi_dict_tuple, isi_dict_dict, atI0, atI1, atI2, atI3, atI4, atI5, pow1018, eqD_str, neD_str, eqD_bool, isD_none, isnD_none, isNone_none, isNone_tuple, isNone_int, isD_bool, isnD_bool, sz0, sz1, sz2, sz3, sz4, sz5, sz6, sz7, sz8, sz9, maxD_int, minD_int, sNewB_ap, sCatO_ap, sAugIx_ap, listOf_list, listOf_tuple, enumF_nil, enumF_cons, iZq_ap, iZ3_ap, iR3_ap, callMO, ofX_some, xP_ok, x1_ap, x2_ap, xL_nil, xL_cons, xTu_ap, xLi_ap, xB_ap, xF_ap, pairD_ok, xO_ap, xPop_ap, xV_ap, xAnd_ap, xOr_ap, xNot_ap, xiD_ap, xiR1_ap, xN'_ap, xnL_ap, xLc_ap, sSetX_ap, sPatX_ap, sIfX_ap, sForX_ap, sAppX_ap, sNewX_ap, sRetX_ap, sRetO_ap, sRetF_ap, xLd_ap, xnLd_ap, sSetIxX_ap, nF_ap, listE_ok, mrg_nil, mrg_cons, e1, decide_eq_false ht, e2, e3, hX, hY, decide_eq_false a, tp]
structure Cl where
  z : Str
  a : Int
  b : Int
  s : Int
  w : Int
  p : Int
def clD (c : Cl) : D := .tuple [.str c.z, .int c.a, .int c.b, .int c.s, .int c.w, .int c.p]
structure ClOk (most : Int) (c : Cl) : Prop where
  a : 1 ≤ c.a ∧ c.a ≤ most
  b : 1 ≤ c.b ∧ c.b ≤ most
  s : 0 ≤ c.s ∧ c.s ≤ c.a ∧ c.s ≤ c.b
  w : 1 ≤ c.w ∧ c.w ≤ 100
  p : 0 ≤ c.p ∧ c.p ≤ 1000
theorem m_lcloth (es : List Int) (z : Str) {most : Int} (hm : 1 ≤ most) : ∃ (c : Cl) (es' : List Int), c.z = z ∧ ClOk most c ∧ m_law_cloth [.list (es.map PyData.int), .str z, .int most] = .ok (.tuple [clD c, .list (es'.map PyData.int)]) := by
  obtain ⟨a, es1, a0, a1, e1⟩ := m_tk es (many := most) (by omega)
  obtain ⟨b, es2, b0, b1, e2⟩ := m_tk es1 (many := most) (by omega)
  have hmin : ∃ m : Int, minD [.int (1 + a), .int (1 + b)] = some (.int m) ∧ m ≤ 1 + a ∧ m ≤ 1 + b ∧ 1 ≤ m := by
    rw [minD_int]
    by_cases h : 1 + b < 1 + a
    · rw [if_pos h]; exact ⟨_, rfl, by omega, by omega, by omega⟩
    · rw [if_neg h]; exact ⟨_, rfl, by omega, by omega, by omega⟩
  obtain ⟨m, em, m1, m2, m3⟩ := hmin
  obtain ⟨s, es3, s0, s1, e3⟩ := m_tk es2 (many := m + 1) (by omega)
  obtain ⟨t, es4, t0, t1, e4⟩ := m_tk es3 (many := 4) (by decide)
  obtain ⟨w, es5, w0, w1, e5⟩ := m_tk es4 (many := 100) (by decide)
  obtain ⟨p, es6, p0, p1, e6⟩ := m_tk es5 (many := 1001) (by decide)
  by_cases h : t = 0
  · refine ⟨⟨z, 1 + a, 1 + b, m, 1 + w, p⟩, es6, rfl, ⟨⟨by show 1 ≤ 1 + a; omega, by show 1 + a ≤ most; omega⟩, ⟨by show 1 ≤ 1 + b; omega, by show 1 + b ≤ most; omega⟩, ⟨by show 0 ≤ m; omega, m1, m2⟩, ⟨by show 1 ≤ 1 + w; omega, by show 1 + w ≤ 100; omega⟩, ⟨p0, by show p ≤ 1000; omega⟩⟩, ?_⟩
    rw [minD_int] at em
    have em' := Option.some.inj em
    injection em' with em'
    unfold m_law_cloth b_law_cloth clD
    simp -implicitDefEqProofs only [callM, sSeq_ap, thn_nx, thn_ret, thn_ex, thn_brk, thn_cont, sNx_ap, sBrk_ap, sCont_ap, sSet_ap, sSetB_ap, sRet_ap, sRetN_ap, sDrop_ap, sIf_ap, sNew_ap, sPat_ap, sPar_ap, sRaise_ap, sFor_ap, sWhile_ap, sAug_ap, sApp_ap, ownL_ap, eN_ap, eC_ap, e1_ap, e2_ap, aL_nil, aL_cons, eT_ap, eL_ap, eB_ap, eF_ap, eIf_ap, eAnd_ap, eOr_ap, eNot_ap, eCh_ap, tV_ap, tAnd_ap, tOr_ap, tNot_ap, pN_ap, pS_ap, eSl_ap, iD_ap, iR1_ap, iR2_ap, iZ_ap, iE_ap, eNew_ap, eLc_ap, tTrue_ap, bindP_n, bindP_tt, bindP_tl, bindPs_nil, bindPs_cons, bind_ok, bind_ex, ofE_ok, ofE_ex, optE_some, truD_bool, isBool_bool, isInt_int, addD_int, subD_int, negD_int, ltD_int, leD_int, gtD_int, geD_int, intD_int, absD_int, lenD_tuple, lenD_list, tupleD_list, tupleD_tuple, itemsD_list, itemsD_tuple, eqD_int, neD_int, atD_tuple, atD_list, List.getElem?_cons_zero, List.getElem?_cons_succ, List.set_cons_zero, List.set_cons_succ, List.length_cons, List.length_nil, List.map_cons, List.map_nil, List.replicate, List.cons_append, List.nil_append, Option.bind_some, Option.bind_none, Option.map_some, Nat.reduceAdd, Nat.reduceSub, if_true, if_false, decide_true, decide_false, Bool.not_true, Bool.not_false, Bool.false_eq_true, reduceIte, Nat.reduceEqDiff, Nat.zero_add, Int.cast_ofNat_Int, Int.reduceEq, Int.reduceLT, Int.reduceLE, Int.reduceAdd, Int.reduceSub, Int.reduceMul, Int.reduceNeg, Nat.reduceLT, Nat.reduceLeDiff, Int.reduceToNat, Int.zero_add, ne_eq, isi_tuple_none, isi_tuple_bool, isi_tuple_int, isi_tuple_str, isi_tuple_list, isi_tuple_tuple, isi_tuple_dict, isi_int_none, isi_int_bool, isi_int_int, isi_int_str, isi_int_list, isi_int_tuple, isi_int_dict, isi_bool_none, isi_bool_bool, isi_bool_int, isi_bool_str, isi_bool_list, isi_bool_tuple, isi_bool_dict, isi_str_none, isi_str_bool, isi_str_int, isi_str_str, isi_str_list, isi_str_tuple, isi_str_dict, isi_list_none, isi_list_bool, isi_list_int, isi_list_str, isi_list_list, isi_list_tuple, isi_list_dict, isi_dict_none, isi_dict_bool, isi_dict_int, isi_dict_str, isi_dict_list, isi_dict_tuple, isi_dict_dict, atI0, atI1, atI2, atI3, atI4, atI5, pow1018, eqD_str, neD_str, eqD_bool, isD_none, isnD_none, isNone_none, isNone_tuple, isNone_int, isD_bool, isnD_bool, sz0, sz1, sz2, sz3, sz4, sz5, sz6, sz7, sz8, sz9, maxD_int, minD_int, sNewB_ap, sCatO_ap, sAugIx_ap, listOf_list, listOf_tuple, enumF_nil, enumF_cons, iZq_ap, iZ3_ap, iR3_ap, callMO, ofX_some, xP_ok, x1_ap, x2_ap, xL_nil, xL_cons, xTu_ap, xLi_ap, xB_ap, xF_ap, pairD_ok, xO_ap, xPop_ap, xV_ap, xAnd_ap, xOr_ap, xNot_ap, xiD_ap, xiR1_ap, xN'_ap, xnL_ap, xLc_ap, sSetX_ap, sPatX_ap, sIfX_ap, sForX_ap, sAppX_ap, sNewX_ap, sRetX_ap, sRetO_ap, sRetF_ap, xLd_ap, xnLd_ap, sSetIxX_ap, nF_ap, listE_ok, mrg_nil, mrg_cons, e1, e2, em', e3, e4, decide_eq_true h, e5, e6]
  · refine ⟨⟨z, 1 + a, 1 + b, s, 1 + w, p⟩, es6, rfl, ⟨⟨by show 1 ≤ 1 + a; omega, by show 1 + a ≤ most; omega⟩, ⟨by show 1 ≤ 1 + b; omega, by show 1 + b ≤ most; omega⟩, ⟨s0, by show s ≤ 1 + a; omega, by show s ≤ 1 + b; omega⟩, ⟨by show 1 ≤ 1 + w; omega, by show 1 + w ≤ 100; omega⟩, ⟨p0, by show p ≤ 1000; omega⟩⟩, ?_⟩
    rw [minD_int] at em
    have em' := Option.some.inj em
    injection em' with em'
    unfold m_law_cloth b_law_cloth clD
    simp -implicitDefEqProofs only [callM, sSeq_ap, thn_nx, thn_ret, thn_ex, thn_brk, thn_cont, sNx_ap, sBrk_ap, sCont_ap, sSet_ap, sSetB_ap, sRet_ap, sRetN_ap, sDrop_ap, sIf_ap, sNew_ap, sPat_ap, sPar_ap, sRaise_ap, sFor_ap, sWhile_ap, sAug_ap, sApp_ap, ownL_ap, eN_ap, eC_ap, e1_ap, e2_ap, aL_nil, aL_cons, eT_ap, eL_ap, eB_ap, eF_ap, eIf_ap, eAnd_ap, eOr_ap, eNot_ap, eCh_ap, tV_ap, tAnd_ap, tOr_ap, tNot_ap, pN_ap, pS_ap, eSl_ap, iD_ap, iR1_ap, iR2_ap, iZ_ap, iE_ap, eNew_ap, eLc_ap, tTrue_ap, bindP_n, bindP_tt, bindP_tl, bindPs_nil, bindPs_cons, bind_ok, bind_ex, ofE_ok, ofE_ex, optE_some, truD_bool, isBool_bool, isInt_int, addD_int, subD_int, negD_int, ltD_int, leD_int, gtD_int, geD_int, intD_int, absD_int, lenD_tuple, lenD_list, tupleD_list, tupleD_tuple, itemsD_list, itemsD_tuple, eqD_int, neD_int, atD_tuple, atD_list, List.getElem?_cons_zero, List.getElem?_cons_succ, List.set_cons_zero, List.set_cons_succ, List.length_cons, List.length_nil, List.map_cons, List.map_nil, List.replicate, List.cons_append, List.nil_append, Option.bind_some, Option.bind_none, Option.map_some, Nat.reduceAdd, Nat.reduceSub, if_true, if_false, decide_true, decide_false, Bool.not_true, Bool.not_false, Bool.false_eq_true, reduceIte, Nat.reduceEqDiff, Nat.zero_add, Int.cast_ofNat_Int, Int.reduceEq, Int.reduceLT, Int.reduceLE, Int.reduceAdd, Int.reduceSub, Int.reduceMul, Int.reduceNeg, Nat.reduceLT, Nat.reduceLeDiff, Int.reduceToNat, Int.zero_add, ne_eq, isi_tuple_none, isi_tuple_bool, isi_tuple_int, isi_tuple_str, isi_tuple_list, isi_tuple_tuple, isi_tuple_dict, isi_int_none, isi_int_bool, isi_int_int, isi_int_str, isi_int_list, isi_int_tuple, isi_int_dict, isi_bool_none, isi_bool_bool, isi_bool_int, isi_bool_str, isi_bool_list, isi_bool_tuple, isi_bool_dict, isi_str_none, isi_str_bool, isi_str_int, isi_str_str, isi_str_list, isi_str_tuple, isi_str_dict, isi_list_none, isi_list_bool, isi_list_int, isi_list_str, isi_list_list, isi_list_tuple, isi_list_dict, isi_dict_none, isi_dict_bool, isi_dict_int, isi_dict_str, isi_dict_list, isi_dict_tuple, isi_dict_dict, atI0, atI1, atI2, atI3, atI4, atI5, pow1018, eqD_str, neD_str, eqD_bool, isD_none, isnD_none, isNone_none, isNone_tuple, isNone_int, isD_bool, isnD_bool, sz0, sz1, sz2, sz3, sz4, sz5, sz6, sz7, sz8, sz9, maxD_int, minD_int, sNewB_ap, sCatO_ap, sAugIx_ap, listOf_list, listOf_tuple, enumF_nil, enumF_cons, iZq_ap, iZ3_ap, iR3_ap, callMO, ofX_some, xP_ok, x1_ap, x2_ap, xL_nil, xL_cons, xTu_ap, xLi_ap, xB_ap, xF_ap, pairD_ok, xO_ap, xPop_ap, xV_ap, xAnd_ap, xOr_ap, xNot_ap, xiD_ap, xiR1_ap, xN'_ap, xnL_ap, xLc_ap, sSetX_ap, sPatX_ap, sIfX_ap, sForX_ap, sAppX_ap, sNewX_ap, sRetX_ap, sRetO_ap, sRetF_ap, xLd_ap, xnLd_ap, sSetIxX_ap, nF_ap, listE_ok, mrg_nil, mrg_cons, e1, e2, em', e3, e4, decide_eq_false h, e5, e6]

def gcW (n : Nat) (ρ : EnvD) : SR := whileM (tV isBool (e2 neD (eN 1) (eC (.int 0)))) (sPar 0 1 [(eN 1), (e2 modD (eB intD [(eN 0)]) (eN 1))]) n ρ
theorem gcW_zero {n a : Nat} : gcW (n + 1) [some (.int (a : Int)), some (.int ((0 : Nat) : Int))] = .nx [some (.int a), some (.int ((0 : Nat) : Int))] := by
  unfold gcW whileM
  simp -implicitDefEqProofs only [callM, sSeq_ap, thn_nx, thn_ret, thn_ex, thn_brk, thn_cont, sNx_ap, sBrk_ap, sCont_ap, sSet_ap, sSetB_ap, sRet_ap, sRetN_ap, sDrop_ap, sIf_ap, sNew_ap, sPat_ap, sPar_ap, sRaise_ap, sFor_ap, sWhile_ap, sAug_ap, sApp_ap, ownL_ap, eN_ap, eC_ap, e1_ap, e2_ap, aL_nil, aL_cons, eT_ap, eL_ap, eB_ap, eF_ap, eIf_ap, eAnd_ap, eOr_ap, eNot_ap, eCh_ap, tV_ap, tAnd_ap, tOr_ap, tNot_ap, pN_ap, pS_ap, eSl_ap, iD_ap, iR1_ap, iR2_ap, iZ_ap, iE_ap, eNew_ap, eLc_ap, tTrue_ap, bindP_n, bindP_tt, bindP_tl, bindPs_nil, bindPs_cons, bind_ok, bind_ex, ofE_ok, ofE_ex, optE_some, truD_bool, isBool_bool, isInt_int, addD_int, subD_int, negD_int, ltD_int, leD_int, gtD_int, geD_int, intD_int, absD_int, lenD_tuple, lenD_list, tupleD_list, tupleD_tuple, itemsD_list, itemsD_tuple, eqD_int, neD_int, atD_tuple, atD_list, List.getElem?_cons_zero, List.getElem?_cons_succ, List.set_cons_zero, List.set_cons_succ, List.length_cons, List.length_nil, List.map_cons, List.map_nil, List.replicate, List.cons_append, List.nil_append, Option.bind_some, Option.bind_none, Option.map_some, Nat.reduceAdd, Nat.reduceSub, if_true, if_false, decide_true, decide_false, Bool.not_true, Bool.not_false, Bool.false_eq_true, reduceIte, Nat.reduceEqDiff, Nat.zero_add, Int.cast_ofNat_Int, Int.reduceEq, Int.reduceLT, Int.reduceLE, Int.reduceAdd, Int.reduceSub, Int.reduceMul, Int.reduceNeg, Nat.reduceLT, Nat.reduceLeDiff, Int.reduceToNat, Int.zero_add, ne_eq, isi_tuple_none, isi_tuple_bool, isi_tuple_int, isi_tuple_str, isi_tuple_list, isi_tuple_tuple, isi_tuple_dict, isi_int_none, isi_int_bool, isi_int_int, isi_int_str, isi_int_list, isi_int_tuple, isi_int_dict, isi_bool_none, isi_bool_bool, isi_bool_int, isi_bool_str, isi_bool_list, isi_bool_tuple, isi_bool_dict, isi_str_none, isi_str_bool, isi_str_int, isi_str_str, isi_str_list, isi_str_tuple, isi_str_dict, isi_list_none, isi_list_bool, isi_list_int, isi_list_str, isi_list_list, isi_list_tuple, isi_list_dict, isi_dict_none, isi_dict_bool, isi_dict_int, isi_dict_str, isi_dict_list, isi_dict_tuple, isi_dict_dict, atI0, atI1, atI2, atI3, atI4, atI5, pow1018, eqD_str, neD_str, eqD_bool, isD_none, isnD_none, isNone_none, isNone_tuple, isNone_int, isD_bool, isnD_bool, sz0, sz1, sz2, sz3, sz4, sz5, sz6, sz7, sz8, sz9, maxD_int, minD_int, sNewB_ap, sCatO_ap, sAugIx_ap, listOf_list, listOf_tuple, enumF_nil, enumF_cons, iZq_ap, iZ3_ap, iR3_ap]
  try rfl
theorem gcW_step {n a b : Nat} (hb : 0 < b) : gcW (n + 1) [some (.int (a : Int)), some (.int (b : Int))] = gcW n [some (.int (b : Int)), some (.int ((a % b : Nat) : Int))] := by
  have h1 : ¬ (b : Int) = 0 := by omega
  show whileM _ _ (n + 1) _ = _
  unfold whileM
  simp -implicitDefEqProofs only [callM, sSeq_ap, thn_nx, thn_ret, thn_ex, thn_brk, thn_cont, sNx_ap, sBrk_ap, sCont_ap, sSet_ap, sSetB_ap, sRet_ap, sRetN_ap, sDrop_ap, sIf_ap, sNew_ap, sPat_ap, sPar_ap, sRaise_ap, sFor_ap, sWhile_ap, sAug_ap, sApp_ap, ownL_ap, eN_ap, eC_ap, e1_ap, e2_ap, aL_nil, aL_cons, eT_ap, eL_ap, eB_ap, eF_ap, eIf_ap, eAnd_ap, eOr_ap, eNot_ap, eCh_ap, tV_ap, tAnd_ap, tOr_ap, tNot_ap, pN_ap, pS_ap, eSl_ap, iD_ap, iR1_ap, iR2_ap, iZ_ap, iE_ap, eNew_ap, eLc_ap, tTrue_ap, bindP_n, bindP_tt, bindP_tl, bindPs_nil, bindPs_cons, bind_ok, bind_ex, ofE_ok, ofE_ex, optE_some, truD_bool, isBool_bool, isInt_int, addD_int, subD_int, negD_int, ltD_int, leD_int, gtD_int, geD_int, intD_int, absD_int, lenD_tuple, lenD_list, tupleD_list, tupleD_tuple, itemsD_list, itemsD_tuple, eqD_int, neD_int, atD_tuple, atD_list, List.getElem?_cons_zero, List.getElem?_cons_succ, List.set_cons_zero, List.set_cons_succ, List.length_cons, List.length_nil, List.map_cons, List.map_nil, List.replicate, List.cons_append, List.nil_append, Option.bind_some, Option.bind_none, Option.map_some, Nat.reduceAdd, Nat.reduceSub, if_true, if_false, decide_true, decide_false, Bool.not_true, Bool.not_false, Bool.false_eq_true, reduceIte, Nat.reduceEqDiff, Nat.zero_add, Int.cast_ofNat_Int, Int.reduceEq, Int.reduceLT, Int.reduceLE, Int.reduceAdd, Int.reduceSub, Int.reduceMul, Int.reduceNeg, Nat.reduceLT, Nat.reduceLeDiff, Int.reduceToNat, Int.zero_add, ne_eq, isi_tuple_none, isi_tuple_bool, isi_tuple_int, isi_tuple_str, isi_tuple_list, isi_tuple_tuple, isi_tuple_dict, isi_int_none, isi_int_bool, isi_int_int, isi_int_str, isi_int_list, isi_int_tuple, isi_int_dict, isi_bool_none, isi_bool_bool, isi_bool_int, isi_bool_str, isi_bool_list, isi_bool_tuple, isi_bool_dict, isi_str_none, isi_str_bool, isi_str_int, isi_str_str, isi_str_list, isi_str_tuple, isi_str_dict, isi_list_none, isi_list_bool, isi_list_int, isi_list_str, isi_list_list, isi_list_tuple, isi_list_dict, isi_dict_none, isi_dict_bool, isi_dict_int, isi_dict_str, isi_dict_list, isi_dict_tuple, isi_dict_dict, atI0, atI1, atI2, atI3, atI4, atI5, pow1018, eqD_str, neD_str, eqD_bool, isD_none, isnD_none, isNone_none, isNone_tuple, isNone_int, isD_bool, isnD_bool, sz0, sz1, sz2, sz3, sz4, sz5, sz6, sz7, sz8, sz9, maxD_int, minD_int, sNewB_ap, sCatO_ap, sAugIx_ap, listOf_list, listOf_tuple, enumF_nil, enumF_cons, iZq_ap, iZ3_ap, iR3_ap, modD_int _ _ h1, decide_eq_false h1, fmod_nat]
  try rfl
theorem gcW_ok : ∀ (k n a b : Nat), b < 2 ^ k → 2 * k + 1 ≤ n → gcW n [some (.int (a : Int)), some (.int (b : Int))] = .nx [some (.int (Nat.gcd a b : Nat)), some (.int ((0 : Nat) : Int))]
  | k, 0, a, b, _, h => by omega
  | k, n + 1, a, 0, _, _ => by rw [gcW_zero, Nat.gcd_zero_right]
  | 0, n + 1, a, b + 1, h, _ => by simp at h
  | k + 1, n + 1, a, b + 1, h, hn => by
    rw [gcW_step (b := b + 1) (by omega)]
    match n, hn with
    | n + 1, hn =>
      by_cases z : a % (b + 1) = 0
      · rw [z, gcW_zero]
        have : Nat.gcd a (b + 1) = b + 1 := by rw [Nat.gcd_comm, Nat.gcd_rec, z, Nat.gcd_zero_left]
        rw [this]
      · rw [gcW_step (Nat.pos_of_ne_zero z), gcW_ok k n _ _ (by have := half_mod (b := b + 1) (Nat.pos_of_ne_zero z) (by omega); rw [Nat.pow_succ] at h; omega) (by omega)]
        have e1 : Nat.gcd (a % (b + 1)) ((b + 1) % (a % (b + 1))) = Nat.gcd a (b + 1) := by
          rw [Nat.gcd_comm, ← Nat.gcd_rec, ← Nat.gcd_rec, Nat.gcd_comm]
        rw [e1]
theorem m_gcd {a b : Int} (hb : Sm 4000 b) : m_common_divisor [.int a, .int b] = .ok (.int (Int.gcd a b)) := by
  unfold m_common_divisor b_common_divisor
  simp -implicitDefEqProofs only [callM, sSeq_ap, thn_nx, thn_ret, thn_ex, thn_brk, thn_cont, sNx_ap, sBrk_ap, sCont_ap, sSet_ap, sSetB_ap, sRet_ap, sRetN_ap, sDrop_ap, sIf_ap, sNew_ap, sPat_ap, sPar_ap, sRaise_ap, sFor_ap, sWhile_ap, sAug_ap, sApp_ap, ownL_ap, eN_ap, eC_ap, e1_ap, e2_ap, aL_nil, aL_cons, eT_ap, eL_ap, eB_ap, eF_ap, eIf_ap, eAnd_ap, eOr_ap, eNot_ap, eCh_ap, tV_ap, tAnd_ap, tOr_ap, tNot_ap, pN_ap, pS_ap, eSl_ap, iD_ap, iR1_ap, iR2_ap, iZ_ap, iE_ap, eNew_ap, eLc_ap, tTrue_ap, bindP_n, bindP_tt, bindP_tl, bindPs_nil, bindPs_cons, bind_ok, bind_ex, ofE_ok, ofE_ex, optE_some, truD_bool, isBool_bool, isInt_int, addD_int, subD_int, negD_int, ltD_int, leD_int, gtD_int, geD_int, intD_int, absD_int, lenD_tuple, lenD_list, tupleD_list, tupleD_tuple, itemsD_list, itemsD_tuple, eqD_int, neD_int, atD_tuple, atD_list, List.getElem?_cons_zero, List.getElem?_cons_succ, List.set_cons_zero, List.set_cons_succ, List.length_cons, List.length_nil, List.map_cons, List.map_nil, List.replicate, List.cons_append, List.nil_append, Option.bind_some, Option.bind_none, Option.map_some, Nat.reduceAdd, Nat.reduceSub, if_true, if_false, decide_true, decide_false, Bool.not_true, Bool.not_false, Bool.false_eq_true, reduceIte, Nat.reduceEqDiff, Nat.zero_add, Int.cast_ofNat_Int, Int.reduceEq, Int.reduceLT, Int.reduceLE, Int.reduceAdd, Int.reduceSub, Int.reduceMul, Int.reduceNeg, Nat.reduceLT, Nat.reduceLeDiff, Int.reduceToNat, Int.zero_add, ne_eq, isi_tuple_none, isi_tuple_bool, isi_tuple_int, isi_tuple_str, isi_tuple_list, isi_tuple_tuple, isi_tuple_dict, isi_int_none, isi_int_bool, isi_int_int, isi_int_str, isi_int_list, isi_int_tuple, isi_int_dict, isi_bool_none, isi_bool_bool, isi_bool_int, isi_bool_str, isi_bool_list, isi_bool_tuple, isi_bool_dict, isi_str_none, isi_str_bool, isi_str_int, isi_str_str, isi_str_list, isi_str_tuple, isi_str_dict, isi_list_none, isi_list_bool, isi_list_int, isi_list_str, isi_list_list, isi_list_tuple, isi_list_dict, isi_dict_none, isi_dict_bool, isi_dict_int, isi_dict_str, isi_dict_list, isi_dict_tuple, isi_dict_dict, atI0, atI1, atI2, atI3, atI4, atI5, pow1018, eqD_str, neD_str, eqD_bool, isD_none, isnD_none, isNone_none, isNone_tuple, isNone_int, isD_bool, isnD_bool, sz0, sz1, sz2, sz3, sz4, sz5, sz6, sz7, sz8, sz9, maxD_int, minD_int, sNewB_ap, sCatO_ap, sAugIx_ap, listOf_list, listOf_tuple, enumF_nil, enumF_cons, iZq_ap, iZ3_ap, iR3_ap, abs_if]
  rw [show (whileM (tV isBool (e2 neD (eN 1) (eC (PyData.int 0)))) b_common_divisor_l1 1000000 [some (PyData.int ↑a.natAbs), some (PyData.int ↑b.natAbs)]) = gcW 1000000 [some (PyData.int ↑a.natAbs), some (PyData.int ↑b.natAbs)] from rfl]
  rw [gcW_ok 4000 _ _ _ hb (by decide)]
  simp -implicitDefEqProofs only [callM, sSeq_ap, thn_nx, thn_ret, thn_ex, thn_brk, thn_cont, sNx_ap, sBrk_ap, sCont_ap, sSet_ap, sSetB_ap, sRet_ap, sRetN_ap, sDrop_ap, sIf_ap, sNew_ap, sPat_ap, sPar_ap, sRaise_ap, sFor_ap, sWhile_ap, sAug_ap, sApp_ap, ownL_ap, eN_ap, eC_ap, e1_ap, e2_ap, aL_nil, aL_cons, eT_ap, eL_ap, eB_ap, eF_ap, eIf_ap, eAnd_ap, eOr_ap, eNot_ap, eCh_ap, tV_ap, tAnd_ap, tOr_ap, tNot_ap, pN_ap, pS_ap, eSl_ap, iD_ap, iR1_ap, iR2_ap, iZ_ap, iE_ap, eNew_ap, eLc_ap, tTrue_ap, bindP_n, bindP_tt, bindP_tl, bindPs_nil, bindPs_cons, bind_ok, bind_ex, ofE_ok, ofE_ex, optE_some, truD_bool, isBool_bool, isInt_int, addD_int, subD_int, negD_int, ltD_int, leD_int, gtD_int, geD_int, intD_int, absD_int, lenD_tuple, lenD_list, tupleD_list, tupleD_tuple, itemsD_list, itemsD_tuple, eqD_int, neD_int, atD_tuple, atD_list, List.getElem?_cons_zero, List.getElem?_cons_succ, List.set_cons_zero, List.set_cons_succ, List.length_cons, List.length_nil, List.map_cons, List.map_nil, List.replicate, List.cons_append, List.nil_append, Option.bind_some, Option.bind_none, Option.map_some, Nat.reduceAdd, Nat.reduceSub, if_true, if_false, decide_true, decide_false, Bool.not_true, Bool.not_false, Bool.false_eq_true, reduceIte, Nat.reduceEqDiff, Nat.zero_add, Int.cast_ofNat_Int, Int.reduceEq, Int.reduceLT, Int.reduceLE, Int.reduceAdd, Int.reduceSub, Int.reduceMul, Int.reduceNeg, Nat.reduceLT, Nat.reduceLeDiff, Int.reduceToNat, Int.zero_add, ne_eq, isi_tuple_none, isi_tuple_bool, isi_tuple_int, isi_tuple_str, isi_tuple_list, isi_tuple_tuple, isi_tuple_dict, isi_int_none, isi_int_bool, isi_int_int, isi_int_str, isi_int_list, isi_int_tuple, isi_int_dict, isi_bool_none, isi_bool_bool, isi_bool_int, isi_bool_str, isi_bool_list, isi_bool_tuple, isi_bool_dict, isi_str_none, isi_str_bool, isi_str_int, isi_str_str, isi_str_list, isi_str_tuple, isi_str_dict, isi_list_none, isi_list_bool, isi_list_int, isi_list_str, isi_list_list, isi_list_tuple, isi_list_dict, isi_dict_none, isi_dict_bool, isi_dict_int, isi_dict_str, isi_dict_list, isi_dict_tuple, isi_dict_dict, atI0, atI1, atI2, atI3, atI4, atI5, pow1018, eqD_str, neD_str, eqD_bool, isD_none, isnD_none, isNone_none, isNone_tuple, isNone_int, isD_bool, isnD_bool, sz0, sz1, sz2, sz3, sz4, sz5, sz6, sz7, sz8, sz9, maxD_int, minD_int, sNewB_ap, sCatO_ap, sAugIx_ap, listOf_list, listOf_tuple, enumF_nil, enumF_cons, iZq_ap, iZ3_ap, iR3_ap]
  try rfl

theorem m_make {n d : Int} (h : d ≠ 0) (hd : Sm 3999 d) : m_make_ratio [.int n, .int d] = .ok (Rq (dv n d)) := by
  unfold m_make_ratio b_make_ratio
  have hg := m_gcd (a := n) (hd.mono (b := 4000))
  have h1 := gs_ne (n := n) h
  have h2 := gs_sm (n := n) h hd
  by_cases z : d < 0
  · have e : -(Int.gcd n d : Int) = gs n d := by unfold gs; rw [if_pos z]
    simp -implicitDefEqProofs only [callM, sSeq_ap, thn_nx, thn_ret, thn_ex, thn_brk, thn_cont, sNx_ap, sBrk_ap, sCont_ap, sSet_ap, sSetB_ap, sRet_ap, sRetN_ap, sDrop_ap, sIf_ap, sNew_ap, sPat_ap, sPar_ap, sRaise_ap, sFor_ap, sWhile_ap, sAug_ap, sApp_ap, ownL_ap, eN_ap, eC_ap, e1_ap, e2_ap, aL_nil, aL_cons, eT_ap, eL_ap, eB_ap, eF_ap, eIf_ap, eAnd_ap, eOr_ap, eNot_ap, eCh_ap, tV_ap, tAnd_ap, tOr_ap, tNot_ap, pN_ap, pS_ap, eSl_ap, iD_ap, iR1_ap, iR2_ap, iZ_ap, iE_ap, eNew_ap, eLc_ap, tTrue_ap, bindP_n, bindP_tt, bindP_tl, bindPs_nil, bindPs_cons, bind_ok, bind_ex, ofE_ok, ofE_ex, optE_some, truD_bool, isBool_bool, isInt_int, addD_int, subD_int, negD_int, ltD_int, leD_int, gtD_int, geD_int, intD_int, absD_int, lenD_tuple, lenD_list, tupleD_list, tupleD_tuple, itemsD_list, itemsD_tuple, eqD_int, neD_int, atD_tuple, atD_list, List.getElem?_cons_zero, List.getElem?_cons_succ, List.set_cons_zero, List.set_cons_succ, List.length_cons, List.length_nil, List.map_cons, List.map_nil, List.replicate, List.cons_append, List.nil_append, Option.bind_some, Option.bind_none, Option.map_some, Nat.reduceAdd, Nat.reduceSub, if_true, if_false, decide_true, decide_false, Bool.not_true, Bool.not_false, Bool.false_eq_true, reduceIte, Nat.reduceEqDiff, Nat.zero_add, Int.cast_ofNat_Int, Int.reduceEq, Int.reduceLT, Int.reduceLE, Int.reduceAdd, Int.reduceSub, Int.reduceMul, Int.reduceNeg, Nat.reduceLT, Nat.reduceLeDiff, Int.reduceToNat, Int.zero_add, ne_eq, isi_tuple_none, isi_tuple_bool, isi_tuple_int, isi_tuple_str, isi_tuple_list, isi_tuple_tuple, isi_tuple_dict, isi_int_none, isi_int_bool, isi_int_int, isi_int_str, isi_int_list, isi_int_tuple, isi_int_dict, isi_bool_none, isi_bool_bool, isi_bool_int, isi_bool_str, isi_bool_list, isi_bool_tuple, isi_bool_dict, isi_str_none, isi_str_bool, isi_str_int, isi_str_str, isi_str_list, isi_str_tuple, isi_str_dict, isi_list_none, isi_list_bool, isi_list_int, isi_list_str, isi_list_list, isi_list_tuple, isi_list_dict, isi_dict_none, isi_dict_bool, isi_dict_int, isi_dict_str, isi_dict_list, isi_dict_tuple, isi_dict_dict, atI0, atI1, atI2, atI3, atI4, atI5, pow1018, eqD_str, neD_str, eqD_bool, isD_none, isnD_none, isNone_none, isNone_tuple, isNone_int, isD_bool, isnD_bool, sz0, sz1, sz2, sz3, sz4, sz5, sz6, sz7, sz8, sz9, maxD_int, minD_int, sNewB_ap, sCatO_ap, sAugIx_ap, listOf_list, listOf_tuple, enumF_nil, enumF_cons, iZq_ap, iZ3_ap, iR3_ap, decide_eq_false h, hg, decide_eq_true z, e, fdivD_sm h1 h2, dv_num h, dv_den h]
    try rfl
  · have e : (Int.gcd n d : Int) = gs n d := by unfold gs; rw [if_neg z]
    simp -implicitDefEqProofs only [callM, sSeq_ap, thn_nx, thn_ret, thn_ex, thn_brk, thn_cont, sNx_ap, sBrk_ap, sCont_ap, sSet_ap, sSetB_ap, sRet_ap, sRetN_ap, sDrop_ap, sIf_ap, sNew_ap, sPat_ap, sPar_ap, sRaise_ap, sFor_ap, sWhile_ap, sAug_ap, sApp_ap, ownL_ap, eN_ap, eC_ap, e1_ap, e2_ap, aL_nil, aL_cons, eT_ap, eL_ap, eB_ap, eF_ap, eIf_ap, eAnd_ap, eOr_ap, eNot_ap, eCh_ap, tV_ap, tAnd_ap, tOr_ap, tNot_ap, pN_ap, pS_ap, eSl_ap, iD_ap, iR1_ap, iR2_ap, iZ_ap, iE_ap, eNew_ap, eLc_ap, tTrue_ap, bindP_n, bindP_tt, bindP_tl, bindPs_nil, bindPs_cons, bind_ok, bind_ex, ofE_ok, ofE_ex, optE_some, truD_bool, isBool_bool, isInt_int, addD_int, subD_int, negD_int, ltD_int, leD_int, gtD_int, geD_int, intD_int, absD_int, lenD_tuple, lenD_list, tupleD_list, tupleD_tuple, itemsD_list, itemsD_tuple, eqD_int, neD_int, atD_tuple, atD_list, List.getElem?_cons_zero, List.getElem?_cons_succ, List.set_cons_zero, List.set_cons_succ, List.length_cons, List.length_nil, List.map_cons, List.map_nil, List.replicate, List.cons_append, List.nil_append, Option.bind_some, Option.bind_none, Option.map_some, Nat.reduceAdd, Nat.reduceSub, if_true, if_false, decide_true, decide_false, Bool.not_true, Bool.not_false, Bool.false_eq_true, reduceIte, Nat.reduceEqDiff, Nat.zero_add, Int.cast_ofNat_Int, Int.reduceEq, Int.reduceLT, Int.reduceLE, Int.reduceAdd, Int.reduceSub, Int.reduceMul, Int.reduceNeg, Nat.reduceLT, Nat.reduceLeDiff, Int.reduceToNat, Int.zero_add, ne_eq, isi_tuple_none, isi_tuple_bool, isi_tuple_int, isi_tuple_str, isi_tuple_list, isi_tuple_tuple, isi_tuple_dict, isi_int_none, isi_int_bool, isi_int_int, isi_int_str, isi_int_list, isi_int_tuple, isi_int_dict, isi_bool_none, isi_bool_bool, isi_bool_int, isi_bool_str, isi_bool_list, isi_bool_tuple, isi_bool_dict, isi_str_none, isi_str_bool, isi_str_int, isi_str_str, isi_str_list, isi_str_tuple, isi_str_dict, isi_list_none, isi_list_bool, isi_list_int, isi_list_str, isi_list_list, isi_list_tuple, isi_list_dict, isi_dict_none, isi_dict_bool, isi_dict_int, isi_dict_str, isi_dict_list, isi_dict_tuple, isi_dict_dict, atI0, atI1, atI2, atI3, atI4, atI5, pow1018, eqD_str, neD_str, eqD_bool, isD_none, isnD_none, isNone_none, isNone_tuple, isNone_int, isD_bool, isnD_bool, sz0, sz1, sz2, sz3, sz4, sz5, sz6, sz7, sz8, sz9, maxD_int, minD_int, sNewB_ap, sCatO_ap, sAugIx_ap, listOf_list, listOf_tuple, enumF_nil, enumF_cons, iZq_ap, iZ3_ap, iR3_ap, decide_eq_false h, hg, decide_eq_false z, e, fdivD_sm h1 h2, dv_num h, dv_den h]
    try rfl

theorem m_add {p q : Rat} {a b : Nat} (hp : Sq a p) (hq : Sq b q) (h : a + b ≤ 3900 := by decide) : m_add_ratios [Rq p, Rq q] = .ok (Rq (p + q)) := by
  have e := m_make (n := p.num * q.den + q.num * p.den) (d := p.den * q.den) (Int.mul_ne_zero (den_ne p) (den_ne q)) ((hp.sd.mul hq.sd).mono (by omega))
  rw [← add_dv] at e
  unfold m_add_ratios b_add_ratios Rq
  unfold Rq at e
  simp -implicitDefEqProofs only [callM, sSeq_ap, thn_nx, thn_ret, thn_ex, thn_brk, thn_cont, sNx_ap, sBrk_ap, sCont_ap, sSet_ap, sSetB_ap, sRet_ap, sRetN_ap, sDrop_ap, sIf_ap, sNew_ap, sPat_ap, sPar_ap, sRaise_ap, sFor_ap, sWhile_ap, sAug_ap, sApp_ap, ownL_ap, eN_ap, eC_ap, e1_ap, e2_ap, aL_nil, aL_cons, eT_ap, eL_ap, eB_ap, eF_ap, eIf_ap, eAnd_ap, eOr_ap, eNot_ap, eCh_ap, tV_ap, tAnd_ap, tOr_ap, tNot_ap, pN_ap, pS_ap, eSl_ap, iD_ap, iR1_ap, iR2_ap, iZ_ap, iE_ap, eNew_ap, eLc_ap, tTrue_ap, bindP_n, bindP_tt, bindP_tl, bindPs_nil, bindPs_cons, bind_ok, bind_ex, ofE_ok, ofE_ex, optE_some, truD_bool, isBool_bool, isInt_int, addD_int, subD_int, negD_int, ltD_int, leD_int, gtD_int, geD_int, intD_int, absD_int, lenD_tuple, lenD_list, tupleD_list, tupleD_tuple, itemsD_list, itemsD_tuple, eqD_int, neD_int, atD_tuple, atD_list, List.getElem?_cons_zero, List.getElem?_cons_succ, List.set_cons_zero, List.set_cons_succ, List.length_cons, List.length_nil, List.map_cons, List.map_nil, List.replicate, List.cons_append, List.nil_append, Option.bind_some, Option.bind_none, Option.map_some, Nat.reduceAdd, Nat.reduceSub, if_true, if_false, decide_true, decide_false, Bool.not_true, Bool.not_false, Bool.false_eq_true, reduceIte, Nat.reduceEqDiff, Nat.zero_add, Int.cast_ofNat_Int, Int.reduceEq, Int.reduceLT, Int.reduceLE, Int.reduceAdd, Int.reduceSub, Int.reduceMul, Int.reduceNeg, Nat.reduceLT, Nat.reduceLeDiff, Int.reduceToNat, Int.zero_add, ne_eq, isi_tuple_none, isi_tuple_bool, isi_tuple_int, isi_tuple_str, isi_tuple_list, isi_tuple_tuple, isi_tuple_dict, isi_int_none, isi_int_bool, isi_int_int, isi_int_str, isi_int_list, isi_int_tuple, isi_int_dict, isi_bool_none, isi_bool_bool, isi_bool_int, isi_bool_str, isi_bool_list, isi_bool_tuple, isi_bool_dict, isi_str_none, isi_str_bool, isi_str_int, isi_str_str, isi_str_list, isi_str_tuple, isi_str_dict, isi_list_none, isi_list_bool, isi_list_int, isi_list_str, isi_list_list, isi_list_tuple, isi_list_dict, isi_dict_none, isi_dict_bool, isi_dict_int, isi_dict_str, isi_dict_list, isi_dict_tuple, isi_dict_dict, atI0, atI1, atI2, atI3, atI4, atI5, pow1018, eqD_str, neD_str, eqD_bool, isD_none, isnD_none, isNone_none, isNone_tuple, isNone_int, isD_bool, isnD_bool, sz0, sz1, sz2, sz3, sz4, sz5, sz6, sz7, sz8, sz9, maxD_int, minD_int, sNewB_ap, sCatO_ap, sAugIx_ap, listOf_list, listOf_tuple, enumF_nil, enumF_cons, iZq_ap, iZ3_ap, iR3_ap, mulD_sm hp.sn hq.sd (by omega), mulD_sm hq.sn hp.sd (by omega), mulD_sm hp.sd hq.sd (by omega), e]

theorem m_take {p q : Rat} {a b : Nat} (hp : Sq a p) (hq : Sq b q) (h : a + b ≤ 3900 := by decide) : m_take_ratios [Rq p, Rq q] = .ok (Rq (p - q)) := by
  have e := m_make (n := p.num * q.den - q.num * p.den) (d := p.den * q.den) (Int.mul_ne_zero (den_ne p) (den_ne q)) ((hp.sd.mul hq.sd).mono (by omega))
  rw [← sub_dv] at e
  unfold m_take_ratios b_take_ratios Rq
  unfold Rq at e
  simp -implicitDefEqProofs only [callM, sSeq_ap, thn_nx, thn_ret, thn_ex, thn_brk, thn_cont, sNx_ap, sBrk_ap, sCont_ap, sSet_ap, sSetB_ap, sRet_ap, sRetN_ap, sDrop_ap, sIf_ap, sNew_ap, sPat_ap, sPar_ap, sRaise_ap, sFor_ap, sWhile_ap, sAug_ap, sApp_ap, ownL_ap, eN_ap, eC_ap, e1_ap, e2_ap, aL_nil, aL_cons, eT_ap, eL_ap, eB_ap, eF_ap, eIf_ap, eAnd_ap, eOr_ap, eNot_ap, eCh_ap, tV_ap, tAnd_ap, tOr_ap, tNot_ap, pN_ap, pS_ap, eSl_ap, iD_ap, iR1_ap, iR2_ap, iZ_ap, iE_ap, eNew_ap, eLc_ap, tTrue_ap, bindP_n, bindP_tt, bindP_tl, bindPs_nil, bindPs_cons, bind_ok, bind_ex, ofE_ok, ofE_ex, optE_some, truD_bool, isBool_bool, isInt_int, addD_int, subD_int, negD_int, ltD_int, leD_int, gtD_int, geD_int, intD_int, absD_int, lenD_tuple, lenD_list, tupleD_list, tupleD_tuple, itemsD_list, itemsD_tuple, eqD_int, neD_int, atD_tuple, atD_list, List.getElem?_cons_zero, List.getElem?_cons_succ, List.set_cons_zero, List.set_cons_succ, List.length_cons, List.length_nil, List.map_cons, List.map_nil, List.replicate, List.cons_append, List.nil_append, Option.bind_some, Option.bind_none, Option.map_some, Nat.reduceAdd, Nat.reduceSub, if_true, if_false, decide_true, decide_false, Bool.not_true, Bool.not_false, Bool.false_eq_true, reduceIte, Nat.reduceEqDiff, Nat.zero_add, Int.cast_ofNat_Int, Int.reduceEq, Int.reduceLT, Int.reduceLE, Int.reduceAdd, Int.reduceSub, Int.reduceMul, Int.reduceNeg, Nat.reduceLT, Nat.reduceLeDiff, Int.reduceToNat, Int.zero_add, ne_eq, isi_tuple_none, isi_tuple_bool, isi_tuple_int, isi_tuple_str, isi_tuple_list, isi_tuple_tuple, isi_tuple_dict, isi_int_none, isi_int_bool, isi_int_int, isi_int_str, isi_int_list, isi_int_tuple, isi_int_dict, isi_bool_none, isi_bool_bool, isi_bool_int, isi_bool_str, isi_bool_list, isi_bool_tuple, isi_bool_dict, isi_str_none, isi_str_bool, isi_str_int, isi_str_str, isi_str_list, isi_str_tuple, isi_str_dict, isi_list_none, isi_list_bool, isi_list_int, isi_list_str, isi_list_list, isi_list_tuple, isi_list_dict, isi_dict_none, isi_dict_bool, isi_dict_int, isi_dict_str, isi_dict_list, isi_dict_tuple, isi_dict_dict, atI0, atI1, atI2, atI3, atI4, atI5, pow1018, eqD_str, neD_str, eqD_bool, isD_none, isnD_none, isNone_none, isNone_tuple, isNone_int, isD_bool, isnD_bool, sz0, sz1, sz2, sz3, sz4, sz5, sz6, sz7, sz8, sz9, maxD_int, minD_int, sNewB_ap, sCatO_ap, sAugIx_ap, listOf_list, listOf_tuple, enumF_nil, enumF_cons, iZq_ap, iZ3_ap, iR3_ap, mulD_sm hp.sn hq.sd (by omega), mulD_sm hq.sn hp.sd (by omega), mulD_sm hp.sd hq.sd (by omega), e]

theorem m_times {p q : Rat} {a b : Nat} (hp : Sq a p) (hq : Sq b q) (h : a + b ≤ 3900 := by decide) : m_times_ratios [Rq p, Rq q] = .ok (Rq (p * q)) := by
  have e := m_make (n := p.num * q.num) (d := p.den * q.den) (Int.mul_ne_zero (den_ne p) (den_ne q)) ((hp.sd.mul hq.sd).mono (by omega))
  rw [← mul_dv] at e
  unfold m_times_ratios b_times_ratios Rq
  unfold Rq at e
  simp -implicitDefEqProofs only [callM, sSeq_ap, thn_nx, thn_ret, thn_ex, thn_brk, thn_cont, sNx_ap, sBrk_ap, sCont_ap, sSet_ap, sSetB_ap, sRet_ap, sRetN_ap, sDrop_ap, sIf_ap, sNew_ap, sPat_ap, sPar_ap, sRaise_ap, sFor_ap, sWhile_ap, sAug_ap, sApp_ap, ownL_ap, eN_ap, eC_ap, e1_ap, e2_ap, aL_nil, aL_cons, eT_ap, eL_ap, eB_ap, eF_ap, eIf_ap, eAnd_ap, eOr_ap, eNot_ap, eCh_ap, tV_ap, tAnd_ap, tOr_ap, tNot_ap, pN_ap, pS_ap, eSl_ap, iD_ap, iR1_ap, iR2_ap, iZ_ap, iE_ap, eNew_ap, eLc_ap, tTrue_ap, bindP_n, bindP_tt, bindP_tl, bindPs_nil, bindPs_cons, bind_ok, bind_ex, ofE_ok, ofE_ex, optE_some, truD_bool, isBool_bool, isInt_int, addD_int, subD_int, negD_int, ltD_int, leD_int, gtD_int, geD_int, intD_int, absD_int, lenD_tuple, lenD_list, tupleD_list, tupleD_tuple, itemsD_list, itemsD_tuple, eqD_int, neD_int, atD_tuple, atD_list, List.getElem?_cons_zero, List.getElem?_cons_succ, List.set_cons_zero, List.set_cons_succ, List.length_cons, List.length_nil, List.map_cons, List.map_nil, List.replicate, List.cons_append, List.nil_append, Option.bind_some, Option.bind_none, Option.map_some, Nat.reduceAdd, Nat.reduceSub, if_true, if_false, decide_true, decide_false, Bool.not_true, Bool.not_false, Bool.false_eq_true, reduceIte, Nat.reduceEqDiff, Nat.zero_add, Int.cast_ofNat_Int, Int.reduceEq, Int.reduceLT, Int.reduceLE, Int.reduceAdd, Int.reduceSub, Int.reduceMul, Int.reduceNeg, Nat.reduceLT, Nat.reduceLeDiff, Int.reduceToNat, Int.zero_add, ne_eq, isi_tuple_none, isi_tuple_bool, isi_tuple_int, isi_tuple_str, isi_tuple_list, isi_tuple_tuple, isi_tuple_dict, isi_int_none, isi_int_bool, isi_int_int, isi_int_str, isi_int_list, isi_int_tuple, isi_int_dict, isi_bool_none, isi_bool_bool, isi_bool_int, isi_bool_str, isi_bool_list, isi_bool_tuple, isi_bool_dict, isi_str_none, isi_str_bool, isi_str_int, isi_str_str, isi_str_list, isi_str_tuple, isi_str_dict, isi_list_none, isi_list_bool, isi_list_int, isi_list_str, isi_list_list, isi_list_tuple, isi_list_dict, isi_dict_none, isi_dict_bool, isi_dict_int, isi_dict_str, isi_dict_list, isi_dict_tuple, isi_dict_dict, atI0, atI1, atI2, atI3, atI4, atI5, pow1018, eqD_str, neD_str, eqD_bool, isD_none, isnD_none, isNone_none, isNone_tuple, isNone_int, isD_bool, isnD_bool, sz0, sz1, sz2, sz3, sz4, sz5, sz6, sz7, sz8, sz9, maxD_int, minD_int, sNewB_ap, sCatO_ap, sAugIx_ap, listOf_list, listOf_tuple, enumF_nil, enumF_cons, iZq_ap, iZ3_ap, iR3_ap, mulD_sm hp.sn hq.sn (by omega), mulD_sm hp.sd hq.sd (by omega), e]

theorem m_cmp {p q : Rat} {a b : Nat} (hp : Sq a p) (hq : Sq b q) (h : a + b < 1000000 := by decide) : m_compare_ratios [Rq p, Rq q] = .ok (.int (cmpR p q)) := by
  have l1 := lt_q p q
  have l2 := lt_q q p
  unfold m_compare_ratios b_compare_ratios Rq cmpR
  by_cases h1 : p < q
  · rw [← l1] at h1
    simp -implicitDefEqProofs only [callM, sSeq_ap, thn_nx, thn_ret, thn_ex, thn_brk, thn_cont, sNx_ap, sBrk_ap, sCont_ap, sSet_ap, sSetB_ap, sRet_ap, sRetN_ap, sDrop_ap, sIf_ap, sNew_ap, sPat_ap, sPar_ap, sRaise_ap, sFor_ap, sWhile_ap, sAug_ap, sApp_ap, ownL_ap, eN_ap, eC_ap, e1_ap, e2_ap, aL_nil, aL_cons, eT_ap, eL_ap, eB_ap, eF_ap, eIf_ap, eAnd_ap, eOr_ap, eNot_ap, eCh_ap, tV_ap, tAnd_ap, tOr_ap, tNot_ap, pN_ap, pS_ap, eSl_ap, iD_ap, iR1_ap, iR2_ap, iZ_ap, iE_ap, eNew_ap, eLc_ap, tTrue_ap, bindP_n, bindP_tt, bindP_tl, bindPs_nil, bindPs_cons, bind_ok, bind_ex, ofE_ok, ofE_ex, optE_some, truD_bool, isBool_bool, isInt_int, addD_int, subD_int, negD_int, ltD_int, leD_int, gtD_int, geD_int, intD_int, absD_int, lenD_tuple, lenD_list, tupleD_list, tupleD_tuple, itemsD_list, itemsD_tuple, eqD_int, neD_int, atD_tuple, atD_list, List.getElem?_cons_zero, List.getElem?_cons_succ, List.set_cons_zero, List.set_cons_succ, List.length_cons, List.length_nil, List.map_cons, List.map_nil, List.replicate, List.cons_append, List.nil_append, Option.bind_some, Option.bind_none, Option.map_some, Nat.reduceAdd, Nat.reduceSub, if_true, if_false, decide_true, decide_false, Bool.not_true, Bool.not_false, Bool.false_eq_true, reduceIte, Nat.reduceEqDiff, Nat.zero_add, Int.cast_ofNat_Int, Int.reduceEq, Int.reduceLT, Int.reduceLE, Int.reduceAdd, Int.reduceSub, Int.reduceMul, Int.reduceNeg, Nat.reduceLT, Nat.reduceLeDiff, Int.reduceToNat, Int.zero_add, ne_eq, isi_tuple_none, isi_tuple_bool, isi_tuple_int, isi_tuple_str, isi_tuple_list, isi_tuple_tuple, isi_tuple_dict, isi_int_none, isi_int_bool, isi_int_int, isi_int_str, isi_int_list, isi_int_tuple, isi_int_dict, isi_bool_none, isi_bool_bool, isi_bool_int, isi_bool_str, isi_bool_list, isi_bool_tuple, isi_bool_dict, isi_str_none, isi_str_bool, isi_str_int, isi_str_str, isi_str_list, isi_str_tuple, isi_str_dict, isi_list_none, isi_list_bool, isi_list_int, isi_list_str, isi_list_list, isi_list_tuple, isi_list_dict, isi_dict_none, isi_dict_bool, isi_dict_int, isi_dict_str, isi_dict_list, isi_dict_tuple, isi_dict_dict, atI0, atI1, atI2, atI3, atI4, atI5, pow1018, eqD_str, neD_str, eqD_bool, isD_none, isnD_none, isNone_none, isNone_tuple, isNone_int, isD_bool, isnD_bool, sz0, sz1, sz2, sz3, sz4, sz5, sz6, sz7, sz8, sz9, maxD_int, minD_int, sNewB_ap, sCatO_ap, sAugIx_ap, listOf_list, listOf_tuple, enumF_nil, enumF_cons, iZq_ap, iZ3_ap, iR3_ap, mulD_sm hp.sn hq.sd h, mulD_sm hq.sn hp.sd (by omega), h1, ← l1]
  · by_cases h2 : q < p
    · rw [← l1] at h1
      rw [← l2] at h2
      simp -implicitDefEqProofs only [callM, sSeq_ap, thn_nx, thn_ret, thn_ex, thn_brk, thn_cont, sNx_ap, sBrk_ap, sCont_ap, sSet_ap, sSetB_ap, sRet_ap, sRetN_ap, sDrop_ap, sIf_ap, sNew_ap, sPat_ap, sPar_ap, sRaise_ap, sFor_ap, sWhile_ap, sAug_ap, sApp_ap, ownL_ap, eN_ap, eC_ap, e1_ap, e2_ap, aL_nil, aL_cons, eT_ap, eL_ap, eB_ap, eF_ap, eIf_ap, eAnd_ap, eOr_ap, eNot_ap, eCh_ap, tV_ap, tAnd_ap, tOr_ap, tNot_ap, pN_ap, pS_ap, eSl_ap, iD_ap, iR1_ap, iR2_ap, iZ_ap, iE_ap, eNew_ap, eLc_ap, tTrue_ap, bindP_n, bindP_tt, bindP_tl, bindPs_nil, bindPs_cons, bind_ok, bind_ex, ofE_ok, ofE_ex, optE_some, truD_bool, isBool_bool, isInt_int, addD_int, subD_int, negD_int, ltD_int, leD_int, gtD_int, geD_int, intD_int, absD_int, lenD_tuple, lenD_list, tupleD_list, tupleD_tuple, itemsD_list, itemsD_tuple, eqD_int, neD_int, atD_tuple, atD_list, List.getElem?_cons_zero, List.getElem?_cons_succ, List.set_cons_zero, List.set_cons_succ, List.length_cons, List.length_nil, List.map_cons, List.map_nil, List.replicate, List.cons_append, List.nil_append, Option.bind_some, Option.bind_none, Option.map_some, Nat.reduceAdd, Nat.reduceSub, if_true, if_false, decide_true, decide_false, Bool.not_true, Bool.not_false, Bool.false_eq_true, reduceIte, Nat.reduceEqDiff, Nat.zero_add, Int.cast_ofNat_Int, Int.reduceEq, Int.reduceLT, Int.reduceLE, Int.reduceAdd, Int.reduceSub, Int.reduceMul, Int.reduceNeg, Nat.reduceLT, Nat.reduceLeDiff, Int.reduceToNat, Int.zero_add, ne_eq, isi_tuple_none, isi_tuple_bool, isi_tuple_int, isi_tuple_str, isi_tuple_list, isi_tuple_tuple, isi_tuple_dict, isi_int_none, isi_int_bool, isi_int_int, isi_int_str, isi_int_list, isi_int_tuple, isi_int_dict, isi_bool_none, isi_bool_bool, isi_bool_int, isi_bool_str, isi_bool_list, isi_bool_tuple, isi_bool_dict, isi_str_none, isi_str_bool, isi_str_int, isi_str_str, isi_str_list, isi_str_tuple, isi_str_dict, isi_list_none, isi_list_bool, isi_list_int, isi_list_str, isi_list_list, isi_list_tuple, isi_list_dict, isi_dict_none, isi_dict_bool, isi_dict_int, isi_dict_str, isi_dict_list, isi_dict_tuple, isi_dict_dict, atI0, atI1, atI2, atI3, atI4, atI5, pow1018, eqD_str, neD_str, eqD_bool, isD_none, isnD_none, isNone_none, isNone_tuple, isNone_int, isD_bool, isnD_bool, sz0, sz1, sz2, sz3, sz4, sz5, sz6, sz7, sz8, sz9, maxD_int, minD_int, sNewB_ap, sCatO_ap, sAugIx_ap, listOf_list, listOf_tuple, enumF_nil, enumF_cons, iZq_ap, iZ3_ap, iR3_ap, mulD_sm hp.sn hq.sd h, mulD_sm hq.sn hp.sd (by omega), h1, h2, ← l1, ← l2]
    · rw [← l1] at h1
      rw [← l2] at h2
      simp -implicitDefEqProofs only [callM, sSeq_ap, thn_nx, thn_ret, thn_ex, thn_brk, thn_cont, sNx_ap, sBrk_ap, sCont_ap, sSet_ap, sSetB_ap, sRet_ap, sRetN_ap, sDrop_ap, sIf_ap, sNew_ap, sPat_ap, sPar_ap, sRaise_ap, sFor_ap, sWhile_ap, sAug_ap, sApp_ap, ownL_ap, eN_ap, eC_ap, e1_ap, e2_ap, aL_nil, aL_cons, eT_ap, eL_ap, eB_ap, eF_ap, eIf_ap, eAnd_ap, eOr_ap, eNot_ap, eCh_ap, tV_ap, tAnd_ap, tOr_ap, tNot_ap, pN_ap, pS_ap, eSl_ap, iD_ap, iR1_ap, iR2_ap, iZ_ap, iE_ap, eNew_ap, eLc_ap, tTrue_ap, bindP_n, bindP_tt, bindP_tl, bindPs_nil, bindPs_cons, bind_ok, bind_ex, ofE_ok, ofE_ex, optE_some, truD_bool, isBool_bool, isInt_int, addD_int, subD_int, negD_int, ltD_int, leD_int, gtD_int, geD_int, intD_int, absD_int, lenD_tuple, lenD_list, tupleD_list, tupleD_tuple, itemsD_list, itemsD_tuple, eqD_int, neD_int, atD_tuple, atD_list, List.getElem?_cons_zero, List.getElem?_cons_succ, List.set_cons_zero, List.set_cons_succ, List.length_cons, List.length_nil, List.map_cons, List.map_nil, List.replicate, List.cons_append, List.nil_append, Option.bind_some, Option.bind_none, Option.map_some, Nat.reduceAdd, Nat.reduceSub, if_true, if_false, decide_true, decide_false, Bool.not_true, Bool.not_false, Bool.false_eq_true, reduceIte, Nat.reduceEqDiff, Nat.zero_add, Int.cast_ofNat_Int, Int.reduceEq, Int.reduceLT, Int.reduceLE, Int.reduceAdd, Int.reduceSub, Int.reduceMul, Int.reduceNeg, Nat.reduceLT, Nat.reduceLeDiff, Int.reduceToNat, Int.zero_add, ne_eq, isi_tuple_none, isi_tuple_bool, isi_tuple_int, isi_tuple_str, isi_tuple_list, isi_tuple_tuple, isi_tuple_dict, isi_int_none, isi_int_bool, isi_int_int, isi_int_str, isi_int_list, isi_int_tuple, isi_int_dict, isi_bool_none, isi_bool_bool, isi_bool_int, isi_bool_str, isi_bool_list, isi_bool_tuple, isi_bool_dict, isi_str_none, isi_str_bool, isi_str_int, isi_str_str, isi_str_list, isi_str_tuple, isi_str_dict, isi_list_none, isi_list_bool, isi_list_int, isi_list_str, isi_list_list, isi_list_tuple, isi_list_dict, isi_dict_none, isi_dict_bool, isi_dict_int, isi_dict_str, isi_dict_list, isi_dict_tuple, isi_dict_dict, atI0, atI1, atI2, atI3, atI4, atI5, pow1018, eqD_str, neD_str, eqD_bool, isD_none, isnD_none, isNone_none, isNone_tuple, isNone_int, isD_bool, isnD_bool, sz0, sz1, sz2, sz3, sz4, sz5, sz6, sz7, sz8, sz9, maxD_int, minD_int, sNewB_ap, sCatO_ap, sAugIx_ap, listOf_list, listOf_tuple, enumF_nil, enumF_cons, iZq_ap, iZ3_ap, iR3_ap, mulD_sm hp.sn hq.sd h, mulD_sm hq.sn hp.sd (by omega), h1, h2, ← l1, ← l2]

/-! ### ratios over one number -/
theorem dv_mulr {x B : Int} (h : B ≠ 0) : dv x B * (B : Rat) = (x : Rat) := by
  have hb : ((B : Int) : Rat) ≠ 0 := fun z => h (Rat.intCast_eq_zero_iff.mp z)
  rw [dv_eq]
  grind
theorem dv_add {x y B : Int} (h : B ≠ 0) : dv x B + dv y B = dv (x + y) B := by
  have hb : ((B : Int) : Rat) ≠ 0 := fun z => h (Rat.intCast_eq_zero_iff.mp z)
  rw [dv_eq, dv_eq, dv_eq, Rat.intCast_add]
  grind
theorem dv_sub {x y B : Int} (h : B ≠ 0) : dv x B - dv y B = dv (x - y) B := by
  have hb : ((B : Int) : Rat) ≠ 0 := fun z => h (Rat.intCast_eq_zero_iff.mp z)
  rw [dv_eq, dv_eq, dv_eq, Rat.intCast_sub]
  grind
theorem dv_mul {x y B C : Int} (h : B ≠ 0) (h2 : C ≠ 0) : dv x B * dv y C = dv (x * y) (B * C) := by
  have hb : ((B : Int) : Rat) ≠ 0 := fun z => h (Rat.intCast_eq_zero_iff.mp z)
  have hc : ((C : Int) : Rat) ≠ 0 := fun z => h2 (Rat.intCast_eq_zero_iff.mp z)
  rw [dv_eq, dv_eq, dv_eq, Rat.intCast_mul, Rat.intCast_mul]
  grind
theorem dv_self (r : Rat) : dv r.num r.den = r := by rw [dv_eq]; exact (self_dv r).symm
theorem dv_lt {x y B : Int} (h : 0 < B) : (dv x B < dv y B) = (x < y) := by
  have hb : (0 : Rat) < (B : Rat) := by exact_mod_cast h
  have e : (dv x B < dv y B) ↔ (x < y) := by
    rw [← Rat.mul_lt_mul_right hb, dv_mulr (by omega), dv_mulr (by omega)]
    exact Rat.intCast_lt_intCast
  exact propext e

-- grains: primitive vectors (needs IP, Bd)
/-! ### grains -/
def gsv (x y : Int) : Int := if x < 0 ∨ (x = 0 ∧ y < 0) then -(Int.gcd x y : Int) else (Int.gcd x y : Int)
def prm (x y : Int) : IP := (x.fdiv (gsv x y), y.fdiv (gsv x y))
theorem gcd_pos2 {x y : Int} (h : ¬ (x = 0 ∧ y = 0)) : 0 < Int.gcd x y := by
  rcases Nat.eq_zero_or_pos (Int.gcd x y) with z | z
  · exact absurd (Int.gcd_eq_zero_iff.mp z) h
  · exact z
theorem gsv_ne {x y : Int} (h : ¬ (x = 0 ∧ y = 0)) : gsv x y ≠ 0 := by
  have := gcd_pos2 h
  unfold gsv
  split <;> omega
theorem gsv_abs (x y : Int) : (gsv x y).natAbs = Int.gcd x y := by
  unfold gsv
  split <;> simp
theorem gsv_x {x y : Int} (h : ¬ (x = 0 ∧ y = 0)) : x = gsv x y * (prm x y).1 ∧ y = gsv x y * (prm x y).2 := by
  have hd1 : gsv x y ∣ x := by
    rw [← Int.natAbs_dvd_natAbs, gsv_abs]
    exact Nat.gcd_dvd_left _ _
  have hd2 : gsv x y ∣ y := by
    rw [← Int.natAbs_dvd_natAbs, gsv_abs]
    exact Nat.gcd_dvd_right _ _
  unfold prm
  exact ⟨(Int.mul_fdiv_cancel' hd1).symm, (Int.mul_fdiv_cancel' hd2).symm⟩
theorem prm_of {x y s a b : Int} (hs : s ≠ 0) (e : gsv x y = s) (h1 : x = s * a) (h2 : y = s * b) : prm x y = (a, b) := by
  unfold prm
  rw [e, h1, h2, Int.mul_fdiv_cancel_left _ hs, Int.mul_fdiv_cancel_left _ hs]
theorem gsv_scale {k x y : Int} (hk : 0 < k) : gsv (k * x) (k * y) = k * gsv x y := by
  have g : (Int.gcd (k * x) (k * y) : Int) = k * (Int.gcd x y : Int) := by
    rw [Int.gcd_mul_left]
    rw [Int.natCast_mul]
    congr 1
    omega
  have c : (k * x < 0 ∨ (k * x = 0 ∧ k * y < 0)) ↔ (x < 0 ∨ (x = 0 ∧ y < 0)) := by
    have n1 : k * x < 0 ↔ x < 0 := ⟨fun z => by
      rcases Int.lt_or_le x 0 with w | w
      · exact w
      · have := Int.mul_nonneg (Int.le_of_lt hk) w; omega, fun z => Int.mul_neg_of_pos_of_neg hk z⟩
    have n2 : k * y < 0 ↔ y < 0 := ⟨fun z => by
      rcases Int.lt_or_le y 0 with w | w
      · exact w
      · have := Int.mul_nonneg (Int.le_of_lt hk) w; omega, fun z => Int.mul_neg_of_pos_of_neg hk z⟩
    have n3 : k * x = 0 ↔ x = 0 := ⟨fun z => by
      rcases Int.mul_eq_zero.mp z with w | w
      · omega
      · exact w, fun z => by rw [z, Int.mul_zero]⟩
    rw [n1, n2, n3]
  unfold gsv
  by_cases z : x < 0 ∨ (x = 0 ∧ y < 0)
  · rw [if_pos z, if_pos (c.mpr z), g, Int.mul_neg]
  · rw [if_neg z, if_neg fun w => z (c.mp w), g]
theorem prm_scale {k x y : Int} (hk : 0 < k) (h : ¬ (x = 0 ∧ y = 0)) : prm (k * x) (k * y) = prm x y := by
  obtain ⟨h1, h2⟩ := gsv_x h
  have hn := gsv_ne h
  refine prm_of (s := k * gsv x y) (Int.mul_ne_zero (by omega) hn) (gsv_scale hk) ?_ ?_
  · rw [Int.mul_assoc]; exact congrArg (k * ·) h1
  · rw [Int.mul_assoc]; exact congrArg (k * ·) h2
theorem prm_neg {x y : Int} (h : ¬ (x = 0 ∧ y = 0)) : prm (-x) (-y) = prm x y := by
  obtain ⟨h1, h2⟩ := gsv_x h
  have hn := gsv_ne h
  have e : gsv (-x) (-y) = -gsv x y := by
    unfold gsv
    rw [Int.gcd_neg, Int.neg_gcd]
    by_cases z : x < 0 ∨ (x = 0 ∧ y < 0)
    · rw [if_pos z, if_neg (by omega), Int.neg_neg]
    · rw [if_neg z, if_pos (by omega)]
  refine prm_of (s := -gsv x y) (by omega) e ?_ ?_
  · rw [Int.neg_mul]; exact congrArg Neg.neg h1
  · rw [Int.neg_mul]; exact congrArg Neg.neg h2
theorem gsv_sm {x y : Int} {k : Nat} (h : ¬ (x = 0 ∧ y = 0)) (hx : Sm k x) (hy : Sm k y) : Sm k (gsv x y) := by
  by_cases z : y = 0
  · have : (gsv x y).natAbs = x.natAbs := by rw [gsv_abs, z, Int.gcd_zero_right]
    exact hx.le (by omega)
  · exact hy.le (by rw [gsv_abs]; exact gcd_le z)
theorem prm_sm {x y : Int} {k : Nat} (h : ¬ (x = 0 ∧ y = 0)) (hx : Sm k x) (hy : Sm k y) : Bd k (prm x y) := by
  obtain ⟨h1, h2⟩ := gsv_x h
  have hn := gsv_ne h
  exact ⟨hx.le (abs_le_mul hn h1.symm), hy.le (abs_le_mul hn h2.symm)⟩

theorem m_same : ∀ (n : Nat) (d : D), lp n d → m_law_same n [d, d] = .ok (.bool true)
  | 0, d, h => h.elim
  | n + 1, d, h => by
    show callM 3 2 (b_law_same (m_law_same n)) [d, d] = _
    unfold b_law_same
    match d, h with
    | .int i, _ => simp -implicitDefEqProofs only [callM, sSeq_ap, thn_nx, thn_ret, thn_ex, thn_brk, thn_cont, sNx_ap, sBrk_ap, sCont_ap, sSet_ap, sSetB_ap, sRet_ap, sRetN_ap, sDrop_ap, sIf_ap, sNew_ap, sPat_ap, sPar_ap, sRaise_ap, sFor_ap, sWhile_ap, sAug_ap, sApp_ap, ownL_ap, eN_ap, eC_ap, e1_ap, e2_ap, aL_nil, aL_cons, eT_ap, eL_ap, eB_ap, eF_ap, eIf_ap, eAnd_ap, eOr_ap, eNot_ap, eCh_ap, tV_ap, tAnd_ap, tOr_ap, tNot_ap, pN_ap, pS_ap, eSl_ap, iD_ap, iR1_ap, iR2_ap, iZ_ap, iE_ap, eNew_ap, eLc_ap, tTrue_ap, bindP_n, bindP_tt, bindP_tl, bindPs_nil, bindPs_cons, bind_ok, bind_ex, ofE_ok, ofE_ex, optE_some, truD_bool, isBool_bool, isInt_int, addD_int, subD_int, negD_int, ltD_int, leD_int, gtD_int, geD_int, intD_int, absD_int, lenD_tuple, lenD_list, tupleD_list, tupleD_tuple, itemsD_list, itemsD_tuple, eqD_int, neD_int, atD_tuple, atD_list, List.getElem?_cons_zero, List.getElem?_cons_succ, List.set_cons_zero, List.set_cons_succ, List.length_cons, List.length_nil, List.map_cons, List.map_nil, List.replicate, List.cons_append, List.nil_append, Option.bind_some, Option.bind_none, Option.map_some, Nat.reduceAdd, Nat.reduceSub, if_true, if_false, decide_true, decide_false, Bool.not_true, Bool.not_false, Bool.false_eq_true, reduceIte, Nat.reduceEqDiff, Nat.zero_add, Int.cast_ofNat_Int, Int.reduceEq, Int.reduceLT, Int.reduceLE, Int.reduceAdd, Int.reduceSub, Int.reduceMul, Int.reduceNeg, Nat.reduceLT, Nat.reduceLeDiff, Int.reduceToNat, Int.zero_add, ne_eq, isi_tuple_none, isi_tuple_bool, isi_tuple_int, isi_tuple_str, isi_tuple_list, isi_tuple_tuple, isi_tuple_dict, isi_int_none, isi_int_bool, isi_int_int, isi_int_str, isi_int_list, isi_int_tuple, isi_int_dict, isi_bool_none, isi_bool_bool, isi_bool_int, isi_bool_str, isi_bool_list, isi_bool_tuple, isi_bool_dict, isi_str_none, isi_str_bool, isi_str_int, isi_str_str, isi_str_list, isi_str_tuple, isi_str_dict, isi_list_none, isi_list_bool, isi_list_int, isi_list_str, isi_list_list, isi_list_tuple, isi_list_dict, isi_dict_none, isi_dict_bool, isi_dict_int, isi_dict_str, isi_dict_list, isi_dict_tuple, isi_dict_dict, atI0, atI1, atI2, atI3, atI4, atI5, pow1018, eqD_str, neD_str, eqD_bool, isD_none, isnD_none, isNone_none, isNone_tuple, isNone_int, isD_bool, isnD_bool, sz0, sz1, sz2, sz3, sz4, sz5, sz6, sz7, sz8, sz9, maxD_int, minD_int, sNewB_ap, sCatO_ap, sAugIx_ap, listOf_list, listOf_tuple, enumF_nil, enumF_cons, iZq_ap, iZ3_ap, iR3_ap]
    | .bool i, _ => simp -implicitDefEqProofs only [callM, sSeq_ap, thn_nx, thn_ret, thn_ex, thn_brk, thn_cont, sNx_ap, sBrk_ap, sCont_ap, sSet_ap, sSetB_ap, sRet_ap, sRetN_ap, sDrop_ap, sIf_ap, sNew_ap, sPat_ap, sPar_ap, sRaise_ap, sFor_ap, sWhile_ap, sAug_ap, sApp_ap, ownL_ap, eN_ap, eC_ap, e1_ap, e2_ap, aL_nil, aL_cons, eT_ap, eL_ap, eB_ap, eF_ap, eIf_ap, eAnd_ap, eOr_ap, eNot_ap, eCh_ap, tV_ap, tAnd_ap, tOr_ap, tNot_ap, pN_ap, pS_ap, eSl_ap, iD_ap, iR1_ap, iR2_ap, iZ_ap, iE_ap, eNew_ap, eLc_ap, tTrue_ap, bindP_n, bindP_tt, bindP_tl, bindPs_nil, bindPs_cons, bind_ok, bind_ex, ofE_ok, ofE_ex, optE_some, truD_bool, isBool_bool, isInt_int, addD_int, subD_int, negD_int, ltD_int, leD_int, gtD_int, geD_int, intD_int, absD_int, lenD_tuple, lenD_list, tupleD_list, tupleD_tuple, itemsD_list, itemsD_tuple, eqD_int, neD_int, atD_tuple, atD_list, List.getElem?_cons_zero, List.getElem?_cons_succ, List.set_cons_zero, List.set_cons_succ, List.length_cons, List.length_nil, List.map_cons, List.map_nil, List.replicate, List.cons_append, List.nil_append, Option.bind_some, Option.bind_none, Option.map_some, Nat.reduceAdd, Nat.reduceSub, if_true, if_false, decide_true, decide_false, Bool.not_true, Bool.not_false, Bool.false_eq_true, reduceIte, Nat.reduceEqDiff, Nat.zero_add, Int.cast_ofNat_Int, Int.reduceEq, Int.reduceLT, Int.reduceLE, Int.reduceAdd, Int.reduceSub, Int.reduceMul, Int.reduceNeg, Nat.reduceLT, Nat.reduceLeDiff, Int.reduceToNat, Int.zero_add, ne_eq, isi_tuple_none, isi_tuple_bool, isi_tuple_int, isi_tuple_str, isi_tuple_list, isi_tuple_tuple, isi_tuple_dict, isi_int_none, isi_int_bool, isi_int_int, isi_int_str, isi_int_list, isi_int_tuple, isi_int_dict, isi_bool_none, isi_bool_bool, isi_bool_int, isi_bool_str, isi_bool_list, isi_bool_tuple, isi_bool_dict, isi_str_none, isi_str_bool, isi_str_int, isi_str_str, isi_str_list, isi_str_tuple, isi_str_dict, isi_list_none, isi_list_bool, isi_list_int, isi_list_str, isi_list_list, isi_list_tuple, isi_list_dict, isi_dict_none, isi_dict_bool, isi_dict_int, isi_dict_str, isi_dict_list, isi_dict_tuple, isi_dict_dict, atI0, atI1, atI2, atI3, atI4, atI5, pow1018, eqD_str, neD_str, eqD_bool, isD_none, isnD_none, isNone_none, isNone_tuple, isNone_int, isD_bool, isnD_bool, sz0, sz1, sz2, sz3, sz4, sz5, sz6, sz7, sz8, sz9, maxD_int, minD_int, sNewB_ap, sCatO_ap, sAugIx_ap, listOf_list, listOf_tuple, enumF_nil, enumF_cons, iZq_ap, iZ3_ap, iR3_ap, show isNoneD (.bool i) = false from rfl]
    | .none, _ => simp -implicitDefEqProofs only [callM, sSeq_ap, thn_nx, thn_ret, thn_ex, thn_brk, thn_cont, sNx_ap, sBrk_ap, sCont_ap, sSet_ap, sSetB_ap, sRet_ap, sRetN_ap, sDrop_ap, sIf_ap, sNew_ap, sPat_ap, sPar_ap, sRaise_ap, sFor_ap, sWhile_ap, sAug_ap, sApp_ap, ownL_ap, eN_ap, eC_ap, e1_ap, e2_ap, aL_nil, aL_cons, eT_ap, eL_ap, eB_ap, eF_ap, eIf_ap, eAnd_ap, eOr_ap, eNot_ap, eCh_ap, tV_ap, tAnd_ap, tOr_ap, tNot_ap, pN_ap, pS_ap, eSl_ap, iD_ap, iR1_ap, iR2_ap, iZ_ap, iE_ap, eNew_ap, eLc_ap, tTrue_ap, bindP_n, bindP_tt, bindP_tl, bindPs_nil, bindPs_cons, bind_ok, bind_ex, ofE_ok, ofE_ex, optE_some, truD_bool, isBool_bool, isInt_int, addD_int, subD_int, negD_int, ltD_int, leD_int, gtD_int, geD_int, intD_int, absD_int, lenD_tuple, lenD_list, tupleD_list, tupleD_tuple, itemsD_list, itemsD_tuple, eqD_int, neD_int, atD_tuple, atD_list, List.getElem?_cons_zero, List.getElem?_cons_succ, List.set_cons_zero, List.set_cons_succ, List.length_cons, List.length_nil, List.map_cons, List.map_nil, List.replicate, List.cons_append, List.nil_append, Option.bind_some, Option.bind_none, Option.map_some, Nat.reduceAdd, Nat.reduceSub, if_true, if_false, decide_true, decide_false, Bool.not_true, Bool.not_false, Bool.false_eq_true, reduceIte, Nat.reduceEqDiff, Nat.zero_add, Int.cast_ofNat_Int, Int.reduceEq, Int.reduceLT, Int.reduceLE, Int.reduceAdd, Int.reduceSub, Int.reduceMul, Int.reduceNeg, Nat.reduceLT, Nat.reduceLeDiff, Int.reduceToNat, Int.zero_add, ne_eq, isi_tuple_none, isi_tuple_bool, isi_tuple_int, isi_tuple_str, isi_tuple_list, isi_tuple_tuple, isi_tuple_dict, isi_int_none, isi_int_bool, isi_int_int, isi_int_str, isi_int_list, isi_int_tuple, isi_int_dict, isi_bool_none, isi_bool_bool, isi_bool_int, isi_bool_str, isi_bool_list, isi_bool_tuple, isi_bool_dict, isi_str_none, isi_str_bool, isi_str_int, isi_str_str, isi_str_list, isi_str_tuple, isi_str_dict, isi_list_none, isi_list_bool, isi_list_int, isi_list_str, isi_list_list, isi_list_tuple, isi_list_dict, isi_dict_none, isi_dict_bool, isi_dict_int, isi_dict_str, isi_dict_list, isi_dict_tuple, isi_dict_dict, atI0, atI1, atI2, atI3, atI4, atI5, pow1018, eqD_str, neD_str, eqD_bool, isD_none, isnD_none, isNone_none, isNone_tuple, isNone_int, isD_bool, isnD_bool, sz0, sz1, sz2, sz3, sz4, sz5, sz6, sz7, sz8, sz9, maxD_int, minD_int, sNewB_ap, sCatO_ap, sAugIx_ap, listOf_list, listOf_tuple, enumF_nil, enumF_cons, iZq_ap, iZ3_ap, iR3_ap]
    | .str i, _ => simp -implicitDefEqProofs only [callM, sSeq_ap, thn_nx, thn_ret, thn_ex, thn_brk, thn_cont, sNx_ap, sBrk_ap, sCont_ap, sSet_ap, sSetB_ap, sRet_ap, sRetN_ap, sDrop_ap, sIf_ap, sNew_ap, sPat_ap, sPar_ap, sRaise_ap, sFor_ap, sWhile_ap, sAug_ap, sApp_ap, ownL_ap, eN_ap, eC_ap, e1_ap, e2_ap, aL_nil, aL_cons, eT_ap, eL_ap, eB_ap, eF_ap, eIf_ap, eAnd_ap, eOr_ap, eNot_ap, eCh_ap, tV_ap, tAnd_ap, tOr_ap, tNot_ap, pN_ap, pS_ap, eSl_ap, iD_ap, iR1_ap, iR2_ap, iZ_ap, iE_ap, eNew_ap, eLc_ap, tTrue_ap, bindP_n, bindP_tt, bindP_tl, bindPs_nil, bindPs_cons, bind_ok, bind_ex, ofE_ok, ofE_ex, optE_some, truD_bool, isBool_bool, isInt_int, addD_int, subD_int, negD_int, ltD_int, leD_int, gtD_int, geD_int, intD_int, absD_int, lenD_tuple, lenD_list, tupleD_list, tupleD_tuple, itemsD_list, itemsD_tuple, eqD_int, neD_int, atD_tuple, atD_list, List.getElem?_cons_zero, List.getElem?_cons_succ, List.set_cons_zero, List.set_cons_succ, List.length_cons, List.length_nil, List.map_cons, List.map_nil, List.replicate, List.cons_append, List.nil_append, Option.bind_some, Option.bind_none, Option.map_some, Nat.reduceAdd, Nat.reduceSub, if_true, if_false, decide_true, decide_false, Bool.not_true, Bool.not_false, Bool.false_eq_true, reduceIte, Nat.reduceEqDiff, Nat.zero_add, Int.cast_ofNat_Int, Int.reduceEq, Int.reduceLT, Int.reduceLE, Int.reduceAdd, Int.reduceSub, Int.reduceMul, Int.reduceNeg, Nat.reduceLT, Nat.reduceLeDiff, Int.reduceToNat, Int.zero_add, ne_eq, isi_tuple_none, isi_tuple_bool, isi_tuple_int, isi_tuple_str, isi_tuple_list, isi_tuple_tuple, isi_tuple_dict, isi_int_none, isi_int_bool, isi_int_int, isi_int_str, isi_int_list, isi_int_tuple, isi_int_dict, isi_bool_none, isi_bool_bool, isi_bool_int, isi_bool_str, isi_bool_list, isi_bool_tuple, isi_bool_dict, isi_str_none, isi_str_bool, isi_str_int, isi_str_str, isi_str_list, isi_str_tuple, isi_str_dict, isi_list_none, isi_list_bool, isi_list_int, isi_list_str, isi_list_list, isi_list_tuple, isi_list_dict, isi_dict_none, isi_dict_bool, isi_dict_int, isi_dict_str, isi_dict_list, isi_dict_tuple, isi_dict_dict, atI0, atI1, atI2, atI3, atI4, atI5, pow1018, eqD_str, neD_str, eqD_bool, isD_none, isnD_none, isNone_none, isNone_tuple, isNone_int, isD_bool, isnD_bool, sz0, sz1, sz2, sz3, sz4, sz5, sz6, sz7, sz8, sz9, maxD_int, minD_int, sNewB_ap, sCatO_ap, sAugIx_ap, listOf_list, listOf_tuple, enumF_nil, enumF_cons, iZq_ap, iZ3_ap, iR3_ap, show isNoneD (.str i) = false from rfl]
    | .tuple ds, h =>
      simp -implicitDefEqProofs only [callM, sSeq_ap, thn_nx, thn_ret, thn_ex, thn_brk, thn_cont, sNx_ap, sBrk_ap, sCont_ap, sSet_ap, sSetB_ap, sRet_ap, sRetN_ap, sDrop_ap, sIf_ap, sNew_ap, sPat_ap, sPar_ap, sRaise_ap, sFor_ap, sWhile_ap, sAug_ap, sApp_ap, ownL_ap, eN_ap, eC_ap, e1_ap, e2_ap, aL_nil, aL_cons, eT_ap, eL_ap, eB_ap, eF_ap, eIf_ap, eAnd_ap, eOr_ap, eNot_ap, eCh_ap, tV_ap, tAnd_ap, tOr_ap, tNot_ap, pN_ap, pS_ap, eSl_ap, iD_ap, iR1_ap, iR2_ap, iZ_ap, iE_ap, eNew_ap, eLc_ap, tTrue_ap, bindP_n, bindP_tt, bindP_tl, bindPs_nil, bindPs_cons, bind_ok, bind_ex, ofE_ok, ofE_ex, optE_some, truD_bool, isBool_bool, isInt_int, addD_int, subD_int, negD_int, ltD_int, leD_int, gtD_int, geD_int, intD_int, absD_int, lenD_tuple, lenD_list, tupleD_list, tupleD_tuple, itemsD_list, itemsD_tuple, eqD_int, neD_int, atD_tuple, atD_list, List.getElem?_cons_zero, List.getElem?_cons_succ, List.set_cons_zero, List.set_cons_succ, List.length_cons, List.length_nil, List.map_cons, List.map_nil, List.replicate, List.cons_append, List.nil_append, Option.bind_some, Option.bind_none, Option.map_some, Nat.reduceAdd, Nat.reduceSub, if_true, if_false, decide_true, decide_false, Bool.not_true, Bool.not_false, Bool.false_eq_true, reduceIte, Nat.reduceEqDiff, Nat.zero_add, Int.cast_ofNat_Int, Int.reduceEq, Int.reduceLT, Int.reduceLE, Int.reduceAdd, Int.reduceSub, Int.reduceMul, Int.reduceNeg, Nat.reduceLT, Nat.reduceLeDiff, Int.reduceToNat, Int.zero_add, ne_eq, isi_tuple_none, isi_tuple_bool, isi_tuple_int, isi_tuple_str, isi_tuple_list, isi_tuple_tuple, isi_tuple_dict, isi_int_none, isi_int_bool, isi_int_int, isi_int_str, isi_int_list, isi_int_tuple, isi_int_dict, isi_bool_none, isi_bool_bool, isi_bool_int, isi_bool_str, isi_bool_list, isi_bool_tuple, isi_bool_dict, isi_str_none, isi_str_bool, isi_str_int, isi_str_str, isi_str_list, isi_str_tuple, isi_str_dict, isi_list_none, isi_list_bool, isi_list_int, isi_list_str, isi_list_list, isi_list_tuple, isi_list_dict, isi_dict_none, isi_dict_bool, isi_dict_int, isi_dict_str, isi_dict_list, isi_dict_tuple, isi_dict_dict, atI0, atI1, atI2, atI3, atI4, atI5, pow1018, eqD_str, neD_str, eqD_bool, isD_none, isnD_none, isNone_none, isNone_tuple, isNone_int, isD_bool, isnD_bool, sz0, sz1, sz2, sz3, sz4, sz5, sz6, sz7, sz8, sz9, maxD_int, minD_int, sNewB_ap, sCatO_ap, sAugIx_ap, listOf_list, listOf_tuple, enumF_nil, enumF_cons, iZq_ap, iZ3_ap, iR3_ap, Bool.or_false]
      rw [rng1D_ok (show (0 : Int) ≤ (ds.length : Int) by omega) (by have := h.1; omega)]
      simp -implicitDefEqProofs only [callM, sSeq_ap, thn_nx, thn_ret, thn_ex, thn_brk, thn_cont, sNx_ap, sBrk_ap, sCont_ap, sSet_ap, sSetB_ap, sRet_ap, sRetN_ap, sDrop_ap, sIf_ap, sNew_ap, sPat_ap, sPar_ap, sRaise_ap, sFor_ap, sWhile_ap, sAug_ap, sApp_ap, ownL_ap, eN_ap, eC_ap, e1_ap, e2_ap, aL_nil, aL_cons, eT_ap, eL_ap, eB_ap, eF_ap, eIf_ap, eAnd_ap, eOr_ap, eNot_ap, eCh_ap, tV_ap, tAnd_ap, tOr_ap, tNot_ap, pN_ap, pS_ap, eSl_ap, iD_ap, iR1_ap, iR2_ap, iZ_ap, iE_ap, eNew_ap, eLc_ap, tTrue_ap, bindP_n, bindP_tt, bindP_tl, bindPs_nil, bindPs_cons, bind_ok, bind_ex, ofE_ok, ofE_ex, optE_some, truD_bool, isBool_bool, isInt_int, addD_int, subD_int, negD_int, ltD_int, leD_int, gtD_int, geD_int, intD_int, absD_int, lenD_tuple, lenD_list, tupleD_list, tupleD_tuple, itemsD_list, itemsD_tuple, eqD_int, neD_int, atD_tuple, atD_list, List.getElem?_cons_zero, List.getElem?_cons_succ, List.set_cons_zero, List.set_cons_succ, List.length_cons, List.length_nil, List.map_cons, List.map_nil, List.replicate, List.cons_append, List.nil_append, Option.bind_some, Option.bind_none, Option.map_some, Nat.reduceAdd, Nat.reduceSub, if_true, if_false, decide_true, decide_false, Bool.not_true, Bool.not_false, Bool.false_eq_true, reduceIte, Nat.reduceEqDiff, Nat.zero_add, Int.cast_ofNat_Int, Int.reduceEq, Int.reduceLT, Int.reduceLE, Int.reduceAdd, Int.reduceSub, Int.reduceMul, Int.reduceNeg, Nat.reduceLT, Nat.reduceLeDiff, Int.reduceToNat, Int.zero_add, ne_eq, isi_tuple_none, isi_tuple_bool, isi_tuple_int, isi_tuple_str, isi_tuple_list, isi_tuple_tuple, isi_tuple_dict, isi_int_none, isi_int_bool, isi_int_int, isi_int_str, isi_int_list, isi_int_tuple, isi_int_dict, isi_bool_none, isi_bool_bool, isi_bool_int, isi_bool_str, isi_bool_list, isi_bool_tuple, isi_bool_dict, isi_str_none, isi_str_bool, isi_str_int, isi_str_str, isi_str_list, isi_str_tuple, isi_str_dict, isi_list_none, isi_list_bool, isi_list_int, isi_list_str, isi_list_list, isi_list_tuple, isi_list_dict, isi_dict_none, isi_dict_bool, isi_dict_int, isi_dict_str, isi_dict_list, isi_dict_tuple, isi_dict_dict, atI0, atI1, atI2, atI3, atI4, atI5, pow1018, eqD_str, neD_str, eqD_bool, isD_none, isnD_none, isNone_none, isNone_tuple, isNone_int, isD_bool, isnD_bool, sz0, sz1, sz2, sz3, sz4, sz5, sz6, sz7, sz8, sz9, maxD_int, minD_int, sNewB_ap, sCatO_ap, sAugIx_ap, listOf_list, listOf_tuple, enumF_nil, enumF_cons, iZq_ap, iZ3_ap, iR3_ap]
      obtain ⟨ρ', e, hI⟩ := forM_inv (b := b_law_same_l1 (m_law_same n)) (p := .n 2) (fun _ ρ => ∃ x, ρ = [some (.tuple ds), some (.tuple ds), x]) (intsD 0 (ds.length : Int).toNat) 0 _ ⟨none, rfl⟩ (by
        rintro i d ρ hi ⟨x, rfl⟩
        obtain ⟨h1, rfl⟩ := intsD_at hi
        have hl : i < ds.length := by omega
        have e1 : atI ds (i : Int) = some ds[i] := at_get (List.getElem?_eq_getElem hl)
        have ih := m_same n ds[i] (h.2 _ (List.getElem_mem hl))
        refine ⟨_, [some (.tuple ds), some (.tuple ds), some (.int (0 + (i : Int)))], bindP_n _ _ _, .inl ?_, ⟨_, rfl⟩⟩
        unfold b_law_same_l1
        simp -implicitDefEqProofs only [callM, sSeq_ap, thn_nx, thn_ret, thn_ex, thn_brk, thn_cont, sNx_ap, sBrk_ap, sCont_ap, sSet_ap, sSetB_ap, sRet_ap, sRetN_ap, sDrop_ap, sIf_ap, sNew_ap, sPat_ap, sPar_ap, sRaise_ap, sFor_ap, sWhile_ap, sAug_ap, sApp_ap, ownL_ap, eN_ap, eC_ap, e1_ap, e2_ap, aL_nil, aL_cons, eT_ap, eL_ap, eB_ap, eF_ap, eIf_ap, eAnd_ap, eOr_ap, eNot_ap, eCh_ap, tV_ap, tAnd_ap, tOr_ap, tNot_ap, pN_ap, pS_ap, eSl_ap, iD_ap, iR1_ap, iR2_ap, iZ_ap, iE_ap, eNew_ap, eLc_ap, tTrue_ap, bindP_n, bindP_tt, bindP_tl, bindPs_nil, bindPs_cons, bind_ok, bind_ex, ofE_ok, ofE_ex, optE_some, truD_bool, isBool_bool, isInt_int, addD_int, subD_int, negD_int, ltD_int, leD_int, gtD_int, geD_int, intD_int, absD_int, lenD_tuple, lenD_list, tupleD_list, tupleD_tuple, itemsD_list, itemsD_tuple, eqD_int, neD_int, atD_tuple, atD_list, List.getElem?_cons_zero, List.getElem?_cons_succ, List.set_cons_zero, List.set_cons_succ, List.length_cons, List.length_nil, List.map_cons, List.map_nil, List.replicate, List.cons_append, List.nil_append, Option.bind_some, Option.bind_none, Option.map_some, Nat.reduceAdd, Nat.reduceSub, if_true, if_false, decide_true, decide_false, Bool.not_true, Bool.not_false, Bool.false_eq_true, reduceIte, Nat.reduceEqDiff, Nat.zero_add, Int.cast_ofNat_Int, Int.reduceEq, Int.reduceLT, Int.reduceLE, Int.reduceAdd, Int.reduceSub, Int.reduceMul, Int.reduceNeg, Nat.reduceLT, Nat.reduceLeDiff, Int.reduceToNat, Int.zero_add, ne_eq, isi_tuple_none, isi_tuple_bool, isi_tuple_int, isi_tuple_str, isi_tuple_list, isi_tuple_tuple, isi_tuple_dict, isi_int_none, isi_int_bool, isi_int_int, isi_int_str, isi_int_list, isi_int_tuple, isi_int_dict, isi_bool_none, isi_bool_bool, isi_bool_int, isi_bool_str, isi_bool_list, isi_bool_tuple, isi_bool_dict, isi_str_none, isi_str_bool, isi_str_int, isi_str_str, isi_str_list, isi_str_tuple, isi_str_dict, isi_list_none, isi_list_bool, isi_list_int, isi_list_str, isi_list_list, isi_list_tuple, isi_list_dict, isi_dict_none, isi_dict_bool, isi_dict_int, isi_dict_str, isi_dict_list, isi_dict_tuple, isi_dict_dict, atI0, atI1, atI2, atI3, atI4, atI5, pow1018, eqD_str, neD_str, eqD_bool, isD_none, isnD_none, isNone_none, isNone_tuple, isNone_int, isD_bool, isnD_bool, sz0, sz1, sz2, sz3, sz4, sz5, sz6, sz7, sz8, sz9, maxD_int, minD_int, sNewB_ap, sCatO_ap, sAugIx_ap, listOf_list, listOf_tuple, enumF_nil, enumF_cons, iZq_ap, iZ3_ap, iR3_ap, e1, ih])
      obtain ⟨x, rfl⟩ := hI
      rw [e]
      simp -implicitDefEqProofs only [callM, sSeq_ap, thn_nx, thn_ret, thn_ex, thn_brk, thn_cont, sNx_ap, sBrk_ap, sCont_ap, sSet_ap, sSetB_ap, sRet_ap, sRetN_ap, sDrop_ap, sIf_ap, sNew_ap, sPat_ap, sPar_ap, sRaise_ap, sFor_ap, sWhile_ap, sAug_ap, sApp_ap, ownL_ap, eN_ap, eC_ap, e1_ap, e2_ap, aL_nil, aL_cons, eT_ap, eL_ap, eB_ap, eF_ap, eIf_ap, eAnd_ap, eOr_ap, eNot_ap, eCh_ap, tV_ap, tAnd_ap, tOr_ap, tNot_ap, pN_ap, pS_ap, eSl_ap, iD_ap, iR1_ap, iR2_ap, iZ_ap, iE_ap, eNew_ap, eLc_ap, tTrue_ap, bindP_n, bindP_tt, bindP_tl, bindPs_nil, bindPs_cons, bind_ok, bind_ex, ofE_ok, ofE_ex, optE_some, truD_bool, isBool_bool, isInt_int, addD_int, subD_int, negD_int, ltD_int, leD_int, gtD_int, geD_int, intD_int, absD_int, lenD_tuple, lenD_list, tupleD_list, tupleD_tuple, itemsD_list, itemsD_tuple, eqD_int, neD_int, atD_tuple, atD_list, List.getElem?_cons_zero, List.getElem?_cons_succ, List.set_cons_zero, List.set_cons_succ, List.length_cons, List.length_nil, List.map_cons, List.map_nil, List.replicate, List.cons_append, List.nil_append, Option.bind_some, Option.bind_none, Option.map_some, Nat.reduceAdd, Nat.reduceSub, if_true, if_false, decide_true, decide_false, Bool.not_true, Bool.not_false, Bool.false_eq_true, reduceIte, Nat.reduceEqDiff, Nat.zero_add, Int.cast_ofNat_Int, Int.reduceEq, Int.reduceLT, Int.reduceLE, Int.reduceAdd, Int.reduceSub, Int.reduceMul, Int.reduceNeg, Nat.reduceLT, Nat.reduceLeDiff, Int.reduceToNat, Int.zero_add, ne_eq, isi_tuple_none, isi_tuple_bool, isi_tuple_int, isi_tuple_str, isi_tuple_list, isi_tuple_tuple, isi_tuple_dict, isi_int_none, isi_int_bool, isi_int_int, isi_int_str, isi_int_list, isi_int_tuple, isi_int_dict, isi_bool_none, isi_bool_bool, isi_bool_int, isi_bool_str, isi_bool_list, isi_bool_tuple, isi_bool_dict, isi_str_none, isi_str_bool, isi_str_int, isi_str_str, isi_str_list, isi_str_tuple, isi_str_dict, isi_list_none, isi_list_bool, isi_list_int, isi_list_str, isi_list_list, isi_list_tuple, isi_list_dict, isi_dict_none, isi_dict_bool, isi_dict_int, isi_dict_str, isi_dict_list, isi_dict_tuple, isi_dict_dict, atI0, atI1, atI2, atI3, atI4, atI5, pow1018, eqD_str, neD_str, eqD_bool, isD_none, isnD_none, isNone_none, isNone_tuple, isNone_int, isD_bool, isnD_bool, sz0, sz1, sz2, sz3, sz4, sz5, sz6, sz7, sz8, sz9, maxD_int, minD_int, sNewB_ap, sCatO_ap, sAugIx_ap, listOf_list, listOf_tuple, enumF_nil, enumF_cons, iZq_ap, iZ3_ap, iR3_ap]

-- CUT
/-! ### the strength of a cloth (laws 22 to 40) -/
theorem m_lgrain {v : IP} (hv : Bd 290 v) (h : ¬ (v.1 = 0 ∧ v.2 = 0)) : m_law_grain [ipD v] = .ok (ipD (prm v.1 v.2)) := by
  have hg := m_lcommon (a := v.1) (hv.y.mono (b := 299))
  have hn := gsv_ne h
  have hs := (gsv_sm h hv.x hv.y).mono (b := 449)
  have f1 := fdivD_sm (i := v.1) hn hs
  have f2 := fdivD_sm (i := v.2) hn hs
  have ed : ∀ a b : Int, PyData.tuple [.int a, .int b] = ipD (a, b) := fun _ _ => rfl
  unfold m_law_grain b_law_grain prm
  by_cases z : v.1 < 0
  · have e : -(Int.gcd v.1 v.2 : Int) = gsv v.1 v.2 := by unfold gsv; rw [if_pos (.inl z)]
    simp -implicitDefEqProofs only [callM, sSeq_ap, thn_nx, thn_ret, thn_ex, thn_brk, thn_cont, sNx_ap, sBrk_ap, sCont_ap, sSet_ap, sSetB_ap, sRet_ap, sRetN_ap, sDrop_ap, sIf_ap, sNew_ap, sPat_ap, sPar_ap, sRaise_ap, sFor_ap, sWhile_ap, sAug_ap, sApp_ap, ownL_ap, eN_ap, eC_ap, e1_ap, e2_ap, aL_nil, aL_cons, eT_ap, eL_ap, eB_ap, eF_ap, eIf_ap, eAnd_ap, eOr_ap, eNot_ap, eCh_ap, tV_ap, tAnd_ap, tOr_ap, tNot_ap, pN_ap, pS_ap, eSl_ap, iD_ap, iR1_ap, iR2_ap, iZ_ap, iE_ap, eNew_ap, eLc_ap, tTrue_ap, bindP_n, bindP_tt, bindP_tl, bindPs_nil, bindPs_cons, bind_ok, bind_ex, ofE_ok, ofE_ex, optE_some, truD_bool, isBool_bool, isInt_int, addD_int, subD_int, negD_int, ltD_int, leD_int, gtD_int, geD_int, intD_int, absD_int, lenD_tuple, lenD_list, tupleD_list, tupleD_tuple, itemsD_list, itemsD_tuple, eqD_int, neD_int, atD_tuple, atD_list, List.getElem?_cons_zero, List.getElem?_cons_succ, List.set_cons_zero, List.set_cons_succ, List.length_cons, List.length_nil, List.map_cons, List.map_nil, List.replicate, List.cons_append, List.nil_append, Option.bind_some, Option.bind_none, Option.map_some, Nat.reduceAdd, Nat.reduceSub, if_true, if_false, decide_true, decide_false, Bool.not_true, Bool.not_false, Bool.false_eq_true, reduceIte, Nat.reduceEqDiff, Nat.zero_add, Int.cast_ofNat_Int, Int.reduceEq, Int.reduceLT, Int.reduceLE, Int.reduceAdd, Int.reduceSub, Int.reduceMul, Int.reduceNeg, Nat.reduceLT, Nat.reduceLeDiff, Int.reduceToNat, Int.zero_add, ne_eq, isi_tuple_none, isi_tuple_bool, isi_tuple_int, isi_tuple_str, isi_tuple_list, isi_tuple_tuple, isi_tuple_dict, isi_int_none, isi_int_bool, isi_int_int, isi_int_str, isi_int_list, isi_int_tuple, isi_int_dict, isi_bool_none, isi_bool_bool, isi_bool_int, isi_bool_str, isi_bool_list, isi_bool_tuple, isi_bool_dict, isi_str_none, isi_str_bool, isi_str_int, isi_str_str, isi_str_list, isi_str_tuple, isi_str_dict, isi_list_none, isi_list_bool, isi_list_int, isi_list_str, isi_list_list, isi_list_tuple, isi_list_dict, isi_dict_none, isi_dict_bool, isi_dict_int, isi_dict_str, isi_dict_list, isi_dict_tuple, isi_dict_dict, atI0, atI1, atI2, atI3, atI4, atI5, pow1018, eqD_str, neD_str, eqD_bool, isD_none, isnD_none, isNone_none, isNone_tuple, isNone_int, isD_bool, isnD_bool, sz0, sz1, sz2, sz3, sz4, sz5, sz6, sz7, sz8, sz9, maxD_int, minD_int, sNewB_ap, sCatO_ap, sAugIx_ap, listOf_list, listOf_tuple, enumF_nil, enumF_cons, iZq_ap, iZ3_ap, iR3_ap, ip0, ip1, hg, decide_eq_true z, e, f1, f2, ed]
  · by_cases z0 : v.1 = 0
    · by_cases z2 : v.2 < 0
      · have e : -(Int.gcd v.1 v.2 : Int) = gsv v.1 v.2 := by unfold gsv; rw [if_pos (.inr ⟨z0, z2⟩)]
        simp -implicitDefEqProofs only [callM, sSeq_ap, thn_nx, thn_ret, thn_ex, thn_brk, thn_cont, sNx_ap, sBrk_ap, sCont_ap, sSet_ap, sSetB_ap, sRet_ap, sRetN_ap, sDrop_ap, sIf_ap, sNew_ap, sPat_ap, sPar_ap, sRaise_ap, sFor_ap, sWhile_ap, sAug_ap, sApp_ap, ownL_ap, eN_ap, eC_ap, e1_ap, e2_ap, aL_nil, aL_cons, eT_ap, eL_ap, eB_ap, eF_ap, eIf_ap, eAnd_ap, eOr_ap, eNot_ap, eCh_ap, tV_ap, tAnd_ap, tOr_ap, tNot_ap, pN_ap, pS_ap, eSl_ap, iD_ap, iR1_ap, iR2_ap, iZ_ap, iE_ap, eNew_ap, eLc_ap, tTrue_ap, bindP_n, bindP_tt, bindP_tl, bindPs_nil, bindPs_cons, bind_ok, bind_ex, ofE_ok, ofE_ex, optE_some, truD_bool, isBool_bool, isInt_int, addD_int, subD_int, negD_int, ltD_int, leD_int, gtD_int, geD_int, intD_int, absD_int, lenD_tuple, lenD_list, tupleD_list, tupleD_tuple, itemsD_list, itemsD_tuple, eqD_int, neD_int, atD_tuple, atD_list, List.getElem?_cons_zero, List.getElem?_cons_succ, List.set_cons_zero, List.set_cons_succ, List.length_cons, List.length_nil, List.map_cons, List.map_nil, List.replicate, List.cons_append, List.nil_append, Option.bind_some, Option.bind_none, Option.map_some, Nat.reduceAdd, Nat.reduceSub, if_true, if_false, decide_true, decide_false, Bool.not_true, Bool.not_false, Bool.false_eq_true, reduceIte, Nat.reduceEqDiff, Nat.zero_add, Int.cast_ofNat_Int, Int.reduceEq, Int.reduceLT, Int.reduceLE, Int.reduceAdd, Int.reduceSub, Int.reduceMul, Int.reduceNeg, Nat.reduceLT, Nat.reduceLeDiff, Int.reduceToNat, Int.zero_add, ne_eq, isi_tuple_none, isi_tuple_bool, isi_tuple_int, isi_tuple_str, isi_tuple_list, isi_tuple_tuple, isi_tuple_dict, isi_int_none, isi_int_bool, isi_int_int, isi_int_str, isi_int_list, isi_int_tuple, isi_int_dict, isi_bool_none, isi_bool_bool, isi_bool_int, isi_bool_str, isi_bool_list, isi_bool_tuple, isi_bool_dict, isi_str_none, isi_str_bool, isi_str_int, isi_str_str, isi_str_list, isi_str_tuple, isi_str_dict, isi_list_none, isi_list_bool, isi_list_int, isi_list_str, isi_list_list, isi_list_tuple, isi_list_dict, isi_dict_none, isi_dict_bool, isi_dict_int, isi_dict_str, isi_dict_list, isi_dict_tuple, isi_dict_dict, atI0, atI1, atI2, atI3, atI4, atI5, pow1018, eqD_str, neD_str, eqD_bool, isD_none, isnD_none, isNone_none, isNone_tuple, isNone_int, isD_bool, isnD_bool, sz0, sz1, sz2, sz3, sz4, sz5, sz6, sz7, sz8, sz9, maxD_int, minD_int, sNewB_ap, sCatO_ap, sAugIx_ap, listOf_list, listOf_tuple, enumF_nil, enumF_cons, iZq_ap, iZ3_ap, iR3_ap, ip0, ip1, hg, decide_eq_false z, decide_eq_true z0, decide_eq_true z2, e, f1, f2, ed]
      · have e : (Int.gcd v.1 v.2 : Int) = gsv v.1 v.2 := by unfold gsv; rw [if_neg (by omega)]
        simp -implicitDefEqProofs only [callM, sSeq_ap, thn_nx, thn_ret, thn_ex, thn_brk, thn_cont, sNx_ap, sBrk_ap, sCont_ap, sSet_ap, sSetB_ap, sRet_ap, sRetN_ap, sDrop_ap, sIf_ap, sNew_ap, sPat_ap, sPar_ap, sRaise_ap, sFor_ap, sWhile_ap, sAug_ap, sApp_ap, ownL_ap, eN_ap, eC_ap, e1_ap, e2_ap, aL_nil, aL_cons, eT_ap, eL_ap, eB_ap, eF_ap, eIf_ap, eAnd_ap, eOr_ap, eNot_ap, eCh_ap, tV_ap, tAnd_ap, tOr_ap, tNot_ap, pN_ap, pS_ap, eSl_ap, iD_ap, iR1_ap, iR2_ap, iZ_ap, iE_ap, eNew_ap, eLc_ap, tTrue_ap, bindP_n, bindP_tt, bindP_tl, bindPs_nil, bindPs_cons, bind_ok, bind_ex, ofE_ok, ofE_ex, optE_some, truD_bool, isBool_bool, isInt_int, addD_int, subD_int, negD_int, ltD_int, leD_int, gtD_int, geD_int, intD_int, absD_int, lenD_tuple, lenD_list, tupleD_list, tupleD_tuple, itemsD_list, itemsD_tuple, eqD_int, neD_int, atD_tuple, atD_list, List.getElem?_cons_zero, List.getElem?_cons_succ, List.set_cons_zero, List.set_cons_succ, List.length_cons, List.length_nil, List.map_cons, List.map_nil, List.replicate, List.cons_append, List.nil_append, Option.bind_some, Option.bind_none, Option.map_some, Nat.reduceAdd, Nat.reduceSub, if_true, if_false, decide_true, decide_false, Bool.not_true, Bool.not_false, Bool.false_eq_true, reduceIte, Nat.reduceEqDiff, Nat.zero_add, Int.cast_ofNat_Int, Int.reduceEq, Int.reduceLT, Int.reduceLE, Int.reduceAdd, Int.reduceSub, Int.reduceMul, Int.reduceNeg, Nat.reduceLT, Nat.reduceLeDiff, Int.reduceToNat, Int.zero_add, ne_eq, isi_tuple_none, isi_tuple_bool, isi_tuple_int, isi_tuple_str, isi_tuple_list, isi_tuple_tuple, isi_tuple_dict, isi_int_none, isi_int_bool, isi_int_int, isi_int_str, isi_int_list, isi_int_tuple, isi_int_dict, isi_bool_none, isi_bool_bool, isi_bool_int, isi_bool_str, isi_bool_list, isi_bool_tuple, isi_bool_dict, isi_str_none, isi_str_bool, isi_str_int, isi_str_str, isi_str_list, isi_str_tuple, isi_str_dict, isi_list_none, isi_list_bool, isi_list_int, isi_list_str, isi_list_list, isi_list_tuple, isi_list_dict, isi_dict_none, isi_dict_bool, isi_dict_int, isi_dict_str, isi_dict_list, isi_dict_tuple, isi_dict_dict, atI0, atI1, atI2, atI3, atI4, atI5, pow1018, eqD_str, neD_str, eqD_bool, isD_none, isnD_none, isNone_none, isNone_tuple, isNone_int, isD_bool, isnD_bool, sz0, sz1, sz2, sz3, sz4, sz5, sz6, sz7, sz8, sz9, maxD_int, minD_int, sNewB_ap, sCatO_ap, sAugIx_ap, listOf_list, listOf_tuple, enumF_nil, enumF_cons, iZq_ap, iZ3_ap, iR3_ap, ip0, ip1, hg, decide_eq_false z, decide_eq_true z0, decide_eq_false z2, e, f1, f2, ed]
    · have e : (Int.gcd v.1 v.2 : Int) = gsv v.1 v.2 := by unfold gsv; rw [if_neg (by omega)]
      simp -implicitDefEqProofs only [callM, sSeq_ap, thn_nx, thn_ret, thn_ex, thn_brk, thn_cont, sNx_ap, sBrk_ap, sCont_ap, sSet_ap, sSetB_ap, sRet_ap, sRetN_ap, sDrop_ap, sIf_ap, sNew_ap, sPat_ap, sPar_ap, sRaise_ap, sFor_ap, sWhile_ap, sAug_ap, sApp_ap, ownL_ap, eN_ap, eC_ap, e1_ap, e2_ap, aL_nil, aL_cons, eT_ap, eL_ap, eB_ap, eF_ap, eIf_ap, eAnd_ap, eOr_ap, eNot_ap, eCh_ap, tV_ap, tAnd_ap, tOr_ap, tNot_ap, pN_ap, pS_ap, eSl_ap, iD_ap, iR1_ap, iR2_ap, iZ_ap, iE_ap, eNew_ap, eLc_ap, tTrue_ap, bindP_n, bindP_tt, bindP_tl, bindPs_nil, bindPs_cons, bind_ok, bind_ex, ofE_ok, ofE_ex, optE_some, truD_bool, isBool_bool, isInt_int, addD_int, subD_int, negD_int, ltD_int, leD_int, gtD_int, geD_int, intD_int, absD_int, lenD_tuple, lenD_list, tupleD_list, tupleD_tuple, itemsD_list, itemsD_tuple, eqD_int, neD_int, atD_tuple, atD_list, List.getElem?_cons_zero, List.getElem?_cons_succ, List.set_cons_zero, List.set_cons_succ, List.length_cons, List.length_nil, List.map_cons, List.map_nil, List.replicate, List.cons_append, List.nil_append, Option.bind_some, Option.bind_none, Option.map_some, Nat.reduceAdd, Nat.reduceSub, if_true, if_false, decide_true, decide_false, Bool.not_true, Bool.not_false, Bool.false_eq_true, reduceIte, Nat.reduceEqDiff, Nat.zero_add, Int.cast_ofNat_Int, Int.reduceEq, Int.reduceLT, Int.reduceLE, Int.reduceAdd, Int.reduceSub, Int.reduceMul, Int.reduceNeg, Nat.reduceLT, Nat.reduceLeDiff, Int.reduceToNat, Int.zero_add, ne_eq, isi_tuple_none, isi_tuple_bool, isi_tuple_int, isi_tuple_str, isi_tuple_list, isi_tuple_tuple, isi_tuple_dict, isi_int_none, isi_int_bool, isi_int_int, isi_int_str, isi_int_list, isi_int_tuple, isi_int_dict, isi_bool_none, isi_bool_bool, isi_bool_int, isi_bool_str, isi_bool_list, isi_bool_tuple, isi_bool_dict, isi_str_none, isi_str_bool, isi_str_int, isi_str_str, isi_str_list, isi_str_tuple, isi_str_dict, isi_list_none, isi_list_bool, isi_list_int, isi_list_str, isi_list_list, isi_list_tuple, isi_list_dict, isi_dict_none, isi_dict_bool, isi_dict_int, isi_dict_str, isi_dict_list, isi_dict_tuple, isi_dict_dict, atI0, atI1, atI2, atI3, atI4, atI5, pow1018, eqD_str, neD_str, eqD_bool, isD_none, isnD_none, isNone_none, isNone_tuple, isNone_int, isD_bool, isnD_bool, sz0, sz1, sz2, sz3, sz4, sz5, sz6, sz7, sz8, sz9, maxD_int, minD_int, sNewB_ap, sCatO_ap, sAugIx_ap, listOf_list, listOf_tuple, enumF_nil, enumF_cons, iZq_ap, iZ3_ap, iR3_ap, ip0, ip1, hg, decide_eq_false z, decide_eq_false z0, e, f1, f2, ed]
/-- a vector that is not zero, of small numbers -/
structure V7 (v : IP) : Prop where
  x : Sm 7 v.1
  y : Sm 7 v.2
  nz : ¬ (v.1 = 0 ∧ v.2 = 0)
def dt (g v : IP) : Int := g.1 * v.1 + g.2 * v.2
def cs (g v : IP) : Int := g.1 * v.2 - g.2 * v.1
def tt (g v : IP) : Int := dt g v * dt g v + cs g v * cs g v
theorem tt_eq (g v : IP) : (g.1 * g.1 + g.2 * g.2) * (v.1 * v.1 + v.2 * v.2) = tt g v := by
  unfold tt dt cs
  grind
theorem sq_nn (x : Int) : 0 ≤ x * x := by rw [← Int.natAbs_mul_self' x]; exact Int.mul_nonneg (by omega) (by omega)
theorem msp {x : Int} (h : x ≠ 0) : 0 < x * x := by
  rw [← Int.natAbs_mul_self' x]
  exact Int.mul_pos (by omega) (by omega)
theorem nz_sq {v : IP} (h : ¬ (v.1 = 0 ∧ v.2 = 0)) : 0 < v.1 * v.1 + v.2 * v.2 := by
  have a := sq_nn v.1
  have b := sq_nn v.2
  by_cases z : v.1 = 0
  · have : v.2 ≠ 0 := fun w => h ⟨z, w⟩
    have := msp this
    omega
  · have := msp z
    omega
theorem tt_pos {g v : IP} (hg : V7 g) (hv : V7 v) : 0 < tt g v := by
  rw [← tt_eq]
  exact Int.mul_pos (nz_sq hg.nz) (nz_sq hv.nz)
theorem dt_sm {g v : IP} (hg : V7 g) (hv : V7 v) : Sm 15 (dt g v) := (hg.x.mul hv.x).add (hg.y.mul hv.y)
theorem cs_sm {g v : IP} (hg : V7 g) (hv : V7 v) : Sm 15 (cs g v) := (hg.x.mul hv.y).sub (hg.y.mul hv.x)
theorem tt_sm {g v : IP} (hg : V7 g) (hv : V7 v) : Sm 31 (tt g v) := ((dt_sm hg hv).mul (dt_sm hg hv)).add ((cs_sm hg hv).mul (cs_sm hg hv))
def Ps (g v : IP) : Rat := dv (dt g v * dt g v) (tt g v)
def Qs (g v : IP) : Rat := dv (cs g v * cs g v) (tt g v)
theorem Ps_sz {g v : IP} (hg : V7 g) (hv : V7 v) : Sq 31 (Ps g v) := Sq.dv (by have := tt_pos hg hv; omega) (((dt_sm hg hv).mul (dt_sm hg hv)).mono) (tt_sm hg hv)
theorem Qs_sz {g v : IP} (hg : V7 g) (hv : V7 v) : Sq 31 (Qs g v) := Sq.dv (by have := tt_pos hg hv; omega) (((cs_sm hg hv).mul (cs_sm hg hv)).mono) (tt_sm hg hv)
theorem m_shares {g v : IP} (hg : V7 g) (hv : V7 v) : m_grain_shares [ipD g, ipD v] = .ok (.tuple [Rq (Ps g v), Rq (Qs g v)]) := by
  have x1 := mulD_sm hg.x hv.x
  have x2 := mulD_sm hg.y hv.y
  have x3 := mulD_sm hg.x hv.y
  have x4 := mulD_sm hg.y hv.x
  have x5 := mulD_sm hg.x hg.x
  have x6 := mulD_sm hg.y hg.y
  have x7 := mulD_sm hv.x hv.x
  have x8 := mulD_sm hv.y hv.y
  have x9 := mulD_sm ((hg.x.mul hg.x).add (hg.y.mul hg.y)) ((hv.x.mul hv.x).add (hv.y.mul hv.y))
  rw [tt_eq] at x9
  have d1 := dt_sm hg hv
  have c1 := cs_sm hg hv
  have y1 := mulD_sm d1 d1
  have y2 := mulD_sm c1 c1
  have tp := tt_pos hg hv
  have ts := tt_sm hg hv
  have z1 := m_make (n := dt g v * dt g v) (d := tt g v) (by omega) ts.mono
  have z2 := m_make (n := cs g v * cs g v) (d := tt g v) (by omega) ts.mono
  have e1 : g.1 * v.1 + g.2 * v.2 = dt g v := rfl
  have e2 : g.1 * v.2 - g.2 * v.1 = cs g v := rfl
  unfold m_grain_shares b_grain_shares Ps Qs
  simp -implicitDefEqProofs only [callM, sSeq_ap, thn_nx, thn_ret, thn_ex, thn_brk, thn_cont, sNx_ap, sBrk_ap, sCont_ap, sSet_ap, sSetB_ap, sRet_ap, sRetN_ap, sDrop_ap, sIf_ap, sNew_ap, sPat_ap, sPar_ap, sRaise_ap, sFor_ap, sWhile_ap, sAug_ap, sApp_ap, ownL_ap, eN_ap, eC_ap, e1_ap, e2_ap, aL_nil, aL_cons, eT_ap, eL_ap, eB_ap, eF_ap, eIf_ap, eAnd_ap, eOr_ap, eNot_ap, eCh_ap, tV_ap, tAnd_ap, tOr_ap, tNot_ap, pN_ap, pS_ap, eSl_ap, iD_ap, iR1_ap, iR2_ap, iZ_ap, iE_ap, eNew_ap, eLc_ap, tTrue_ap, bindP_n, bindP_tt, bindP_tl, bindPs_nil, bindPs_cons, bind_ok, bind_ex, ofE_ok, ofE_ex, optE_some, truD_bool, isBool_bool, isInt_int, addD_int, subD_int, negD_int, ltD_int, leD_int, gtD_int, geD_int, intD_int, absD_int, lenD_tuple, lenD_list, tupleD_list, tupleD_tuple, itemsD_list, itemsD_tuple, eqD_int, neD_int, atD_tuple, atD_list, List.getElem?_cons_zero, List.getElem?_cons_succ, List.set_cons_zero, List.set_cons_succ, List.length_cons, List.length_nil, List.map_cons, List.map_nil, List.replicate, List.cons_append, List.nil_append, Option.bind_some, Option.bind_none, Option.map_some, Nat.reduceAdd, Nat.reduceSub, if_true, if_false, decide_true, decide_false, Bool.not_true, Bool.not_false, Bool.false_eq_true, reduceIte, Nat.reduceEqDiff, Nat.zero_add, Int.cast_ofNat_Int, Int.reduceEq, Int.reduceLT, Int.reduceLE, Int.reduceAdd, Int.reduceSub, Int.reduceMul, Int.reduceNeg, Nat.reduceLT, Nat.reduceLeDiff, Int.reduceToNat, Int.zero_add, ne_eq, isi_tuple_none, isi_tuple_bool, isi_tuple_int, isi_tuple_str, isi_tuple_list, isi_tuple_tuple, isi_tuple_dict, isi_int_none, isi_int_bool, isi_int_int, isi_int_str, isi_int_list, isi_int_tuple, isi_int_dict, isi_bool_none, isi_bool_bool, isi_bool_int, isi_bool_str, isi_bool_list, isi_bool_tuple, isi_bool_dict, isi_str_none, isi_str_bool, isi_str_int, isi_str_str, isi_str_list, isi_str_tuple, isi_str_dict, isi_list_none, isi_list_bool, isi_list_int, isi_list_str, isi_list_list, isi_list_tuple, isi_list_dict, isi_dict_none, isi_dict_bool, isi_dict_int, isi_dict_str, isi_dict_list, isi_dict_tuple, isi_dict_dict, atI0, atI1, atI2, atI3, atI4, atI5, pow1018, eqD_str, neD_str, eqD_bool, isD_none, isnD_none, isNone_none, isNone_tuple, isNone_int, isD_bool, isnD_bool, sz0, sz1, sz2, sz3, sz4, sz5, sz6, sz7, sz8, sz9, maxD_int, minD_int, sNewB_ap, sCatO_ap, sAugIx_ap, listOf_list, listOf_tuple, enumF_nil, enumF_cons, iZq_ap, iZ3_ap, iR3_ap, ip0, ip1, x1, x2, x3, x4, x5, x6, x7, x8, e1, e2, x9, y1, y2, z1, z2]
theorem rI {k : Nat} {x : Int} (h : Sm k x) (hk : 1 ≤ k) : Sq k (x : Rat) ∧ PyData.tuple [.int x, .int 1] = Rq (x : Rat) := by
  refine ⟨⟨by rw [Rat.num_intCast]; exact h, by rw [Rat.den_intCast]; exact Nat.lt_of_lt_of_le (by decide) (Nat.pow_le_pow_right (n := 2) (by decide) hk)⟩, ?_⟩
  unfold Rq
  rw [Rat.num_intCast, Rat.den_intCast]
  rfl
def stR (a b s : Int) (g v : IP) : Rat := ((a : Rat) * Ps g v + (b : Rat) * Qs g v) - ((4 * s : Int) : Rat) * (Ps g v * Qs g v)
theorem stR_sz {a b s : Int} (ha : Sm 10 a) (hb : Sm 10 b) (hs : Sm 10 s) {g v : IP} (hg : V7 g) (hv : V7 v) : Sq 160 (stR a b s g v) := by
  have p := Ps_sz hg hv
  have q := Qs_sz hg hv
  have h4 : Sm 13 (4 * s) := (show Sm 3 4 by unfold Sm; decide).mul hs
  exact ((((rI ha (by decide)).1.mul p).add ((rI hb (by decide)).1.mul q)).sub ((rI h4 (by decide)).1.mul (p.mul q))).mono
theorem m_wr (x : Int) : m_whole_ratio [.int x] = .ok (.tuple [.int x, .int 1]) := rfl
theorem m_strength {n w p : D} {a b s : Int} (ha : Sm 10 a) (hb : Sm 10 b) (hs : Sm 10 s) {g v : IP} (hg : V7 g) (hv : V7 v) : m_cloth_strength [.tuple [n, .int a, .int b, .int s, w, p], ipD g, ipD v] = .ok (Rq (stR a b s g v)) := by
  have e0 := m_shares hg hv
  have sp := Ps_sz hg hv
  have sq := Qs_sz hg hv
  have h4 : Sm 13 (4 * s) := (show Sm 3 4 by unfold Sm; decide).mul hs
  obtain ⟨s1, r1⟩ := rI ha (by decide)
  obtain ⟨s2, r2⟩ := rI hb (by decide)
  obtain ⟨s3, r3⟩ := rI h4 (by decide)
  have m4 := mulD_sm (show Sm 3 4 by unfold Sm; decide) hs
  have e1 := m_times s1 sp
  have e2 := m_times s2 sq
  have e3 := m_times sp sq
  have e4 := m_times s3 (sp.mul sq)
  have e5 := m_add (s1.mul sp) (s2.mul sq)
  have e6 := m_take ((s1.mul sp).add (s2.mul sq)) (s3.mul (sp.mul sq))
  have w1 := m_wr a
  have w2 := m_wr b
  have w3 := m_wr (4 * s)
  rw [r1] at w1
  rw [r2] at w2
  rw [r3] at w3
  have bd : ∀ x y : D, ∀ r : EnvD, bindP (.t [.n 3, .n 4]) (.tuple [x, y]) r = some ((r.set 3 (some x)).set 4 (some y)) := fun _ _ _ => rfl
  unfold m_cloth_strength b_cloth_strength stR
  simp -implicitDefEqProofs only [callM, sSeq_ap, thn_nx, thn_ret, thn_ex, thn_brk, thn_cont, sNx_ap, sBrk_ap, sCont_ap, sSet_ap, sSetB_ap, sRet_ap, sRetN_ap, sDrop_ap, sIf_ap, sNew_ap, sPat_ap, sPar_ap, sRaise_ap, sFor_ap, sWhile_ap, sAug_ap, sApp_ap, ownL_ap, eN_ap, eC_ap, e1_ap, e2_ap, aL_nil, aL_cons, eT_ap, eL_ap, eB_ap, eF_ap, eIf_ap, eAnd_ap, eOr_ap, eNot_ap, eCh_ap, tV_ap, tAnd_ap, tOr_ap, tNot_ap, pN_ap, pS_ap, eSl_ap, iD_ap, iR1_ap, iR2_ap, iZ_ap, iE_ap, eNew_ap, eLc_ap, tTrue_ap, bindP_n, bindP_tt, bindP_tl, bindPs_nil, bindPs_cons, bind_ok, bind_ex, ofE_ok, ofE_ex, optE_some, truD_bool, isBool_bool, isInt_int, addD_int, subD_int, negD_int, ltD_int, leD_int, gtD_int, geD_int, intD_int, absD_int, lenD_tuple, lenD_list, tupleD_list, tupleD_tuple, itemsD_list, itemsD_tuple, eqD_int, neD_int, atD_tuple, atD_list, List.getElem?_cons_zero, List.getElem?_cons_succ, List.set_cons_zero, List.set_cons_succ, List.length_cons, List.length_nil, List.map_cons, List.map_nil, List.replicate, List.cons_append, List.nil_append, Option.bind_some, Option.bind_none, Option.map_some, Nat.reduceAdd, Nat.reduceSub, if_true, if_false, decide_true, decide_false, Bool.not_true, Bool.not_false, Bool.false_eq_true, reduceIte, Nat.reduceEqDiff, Nat.zero_add, Int.cast_ofNat_Int, Int.reduceEq, Int.reduceLT, Int.reduceLE, Int.reduceAdd, Int.reduceSub, Int.reduceMul, Int.reduceNeg, Nat.reduceLT, Nat.reduceLeDiff, Int.reduceToNat, Int.zero_add, ne_eq, isi_tuple_none, isi_tuple_bool, isi_tuple_int, isi_tuple_str, isi_tuple_list, isi_tuple_tuple, isi_tuple_dict, isi_int_none, isi_int_bool, isi_int_int, isi_int_str, isi_int_list, isi_int_tuple, isi_int_dict, isi_bool_none, isi_bool_bool, isi_bool_int, isi_bool_str, isi_bool_list, isi_bool_tuple, isi_bool_dict, isi_str_none, isi_str_bool, isi_str_int, isi_str_str, isi_str_list, isi_str_tuple, isi_str_dict, isi_list_none, isi_list_bool, isi_list_int, isi_list_str, isi_list_list, isi_list_tuple, isi_list_dict, isi_dict_none, isi_dict_bool, isi_dict_int, isi_dict_str, isi_dict_list, isi_dict_tuple, isi_dict_dict, atI0, atI1, atI2, atI3, atI4, atI5, pow1018, eqD_str, neD_str, eqD_bool, isD_none, isnD_none, isNone_none, isNone_tuple, isNone_int, isD_bool, isnD_bool, sz0, sz1, sz2, sz3, sz4, sz5, sz6, sz7, sz8, sz9, maxD_int, minD_int, sNewB_ap, sCatO_ap, sAugIx_ap, listOf_list, listOf_tuple, enumF_nil, enumF_cons, iZq_ap, iZ3_ap, iR3_ap, e0, bd, w1, w2, m4, w3, e1, e2, e3, e4, e5, e6]
def stN (a b s : Int) (g v : IP) : Int := (a * dt g v * dt g v + b * cs g v * cs g v) * tt g v - 4 * s * dt g v * dt g v * cs g v * cs g v
theorem stR_eq (a b s : Int) {g v : IP} (hg : V7 g) (hv : V7 v) : stR a b s g v = dv (stN a b s g v) (tt g v * tt g v) := by
  have tp := tt_pos hg hv
  have tz : ((tt g v : Int) : Rat) ≠ 0 := fun z => by have := Rat.intCast_eq_zero_iff.mp z; omega
  unfold stR Ps Qs stN
  rw [dv_eq, dv_eq, dv_eq]
  rw [Rat.intCast_sub, Rat.intCast_mul _ (tt g v), Rat.intCast_add]
  simp only [Rat.intCast_mul]
  grind
theorem stN_nn {a b s : Int} (h : 0 ≤ s ∧ s ≤ a ∧ s ≤ b) (g v : IP) : 0 ≤ stN a b s g v := by
  unfold stN tt
  have hD := sq_nn (dt g v)
  have hC := sq_nn (cs g v)
  have hd := sq_nn (dt g v * dt g v - cs g v * cs g v)
  rw [Int.mul_assoc a, Int.mul_assoc b, show 4 * s * dt g v * dt g v * cs g v * cs g v = 4 * s * (dt g v * dt g v) * (cs g v * cs g v) by grind]
  generalize dt g v * dt g v = P at *
  generalize cs g v * cs g v = Q at *
  obtain ⟨h0, h1, h2⟩ := h
  have k1 : 0 ≤ (a - s) * P * (P + Q) := Int.mul_nonneg (Int.mul_nonneg (by omega) hD) (by omega)
  have k2 : 0 ≤ (b - s) * Q * (P + Q) := Int.mul_nonneg (Int.mul_nonneg (by omega) hC) (by omega)
  have k3 : 0 ≤ s * ((P - Q) * (P - Q)) := Int.mul_nonneg h0 hd
  have : (a * P + b * Q) * (P + Q) - 4 * s * P * Q = (a - s) * P * (P + Q) + (b - s) * Q * (P + Q) + s * ((P - Q) * (P - Q)) := by grind
  rw [this]
  omega
theorem m_lstrength {n w p : D} {a b s : Int} (ha : Sm 10 a) (hb : Sm 10 b) (hs : Sm 10 s) {g v : IP} (hg : V7 g) (hv : V7 v) : m_law_strength [.tuple [n, .int a, .int b, .int s, w, p], ipD g, ipD v] = .ok (Rq (stR a b s g v)) := by
  have x1 := mulD_sm hg.x hv.x
  have x2 := mulD_sm hg.y hv.y
  have x3 := mulD_sm hg.x hv.y
  have x4 := mulD_sm hg.y hv.x
  have d1 := dt_sm hg hv
  have c1 := cs_sm hg hv
  have t1 := tt_sm hg hv
  have tp := tt_pos hg hv
  have e1 : g.1 * v.1 + g.2 * v.2 = dt g v := rfl
  have e2 : g.1 * v.2 - g.2 * v.1 = cs g v := rfl
  have e3 : dt g v * dt g v + cs g v * cs g v = tt g v := rfl
  have ef : (a * dt g v * dt g v + b * cs g v * cs g v) * tt g v - 4 * s * dt g v * dt g v * cs g v * cs g v = stN a b s g v := rfl
  have lw := m_llow (n := stN a b s g v) (d := tt g v * tt g v) (Int.mul_ne_zero (by omega) (by omega)) ((t1.mul t1).mono)
  rw [← stR_eq a b s hg hv] at lw
  have y1 := mulD_sm d1 d1
  have y2 := mulD_sm c1 c1
  have y3 := mulD_sm ha d1
  have y4 := mulD_sm (ha.mul d1) d1
  have y5 := mulD_sm hb c1
  have y6 := mulD_sm (hb.mul c1) c1
  have y7 := mulD_sm ((((ha.mul d1).mul d1).add ((hb.mul c1).mul c1))) t1
  have n4 : Sm 3 (4 : Int) := by unfold Sm; decide
  have y8 := mulD_sm n4 hs
  have y9 := mulD_sm (n4.mul hs) d1
  have y10 := mulD_sm ((n4.mul hs).mul d1) d1
  have y11 := mulD_sm (((n4.mul hs).mul d1).mul d1) c1
  have y12 := mulD_sm ((((n4.mul hs).mul d1).mul d1).mul c1) c1
  have y13 := mulD_sm t1 t1
  unfold m_law_strength b_law_strength
  simp -implicitDefEqProofs only [callM, sSeq_ap, thn_nx, thn_ret, thn_ex, thn_brk, thn_cont, sNx_ap, sBrk_ap, sCont_ap, sSet_ap, sSetB_ap, sRet_ap, sRetN_ap, sDrop_ap, sIf_ap, sNew_ap, sPat_ap, sPar_ap, sRaise_ap, sFor_ap, sWhile_ap, sAug_ap, sApp_ap, ownL_ap, eN_ap, eC_ap, e1_ap, e2_ap, aL_nil, aL_cons, eT_ap, eL_ap, eB_ap, eF_ap, eIf_ap, eAnd_ap, eOr_ap, eNot_ap, eCh_ap, tV_ap, tAnd_ap, tOr_ap, tNot_ap, pN_ap, pS_ap, eSl_ap, iD_ap, iR1_ap, iR2_ap, iZ_ap, iE_ap, eNew_ap, eLc_ap, tTrue_ap, bindP_n, bindP_tt, bindP_tl, bindPs_nil, bindPs_cons, bind_ok, bind_ex, ofE_ok, ofE_ex, optE_some, truD_bool, isBool_bool, isInt_int, addD_int, subD_int, negD_int, ltD_int, leD_int, gtD_int, geD_int, intD_int, absD_int, lenD_tuple, lenD_list, tupleD_list, tupleD_tuple, itemsD_list, itemsD_tuple, eqD_int, neD_int, atD_tuple, atD_list, List.getElem?_cons_zero, List.getElem?_cons_succ, List.set_cons_zero, List.set_cons_succ, List.length_cons, List.length_nil, List.map_cons, List.map_nil, List.replicate, List.cons_append, List.nil_append, Option.bind_some, Option.bind_none, Option.map_some, Nat.reduceAdd, Nat.reduceSub, if_true, if_false, decide_true, decide_false, Bool.not_true, Bool.not_false, Bool.false_eq_true, reduceIte, Nat.reduceEqDiff, Nat.zero_add, Int.cast_ofNat_Int, Int.reduceEq, Int.reduceLT, Int.reduceLE, Int.reduceAdd, Int.reduceSub, Int.reduceMul, Int.reduceNeg, Nat.reduceLT, Nat.reduceLeDiff, Int.reduceToNat, Int.zero_add, ne_eq, isi_tuple_none, isi_tuple_bool, isi_tuple_int, isi_tuple_str, isi_tuple_list, isi_tuple_tuple, isi_tuple_dict, isi_int_none, isi_int_bool, isi_int_int, isi_int_str, isi_int_list, isi_int_tuple, isi_int_dict, isi_bool_none, isi_bool_bool, isi_bool_int, isi_bool_str, isi_bool_list, isi_bool_tuple, isi_bool_dict, isi_str_none, isi_str_bool, isi_str_int, isi_str_str, isi_str_list, isi_str_tuple, isi_str_dict, isi_list_none, isi_list_bool, isi_list_int, isi_list_str, isi_list_list, isi_list_tuple, isi_list_dict, isi_dict_none, isi_dict_bool, isi_dict_int, isi_dict_str, isi_dict_list, isi_dict_tuple, isi_dict_dict, atI0, atI1, atI2, atI3, atI4, atI5, pow1018, eqD_str, neD_str, eqD_bool, isD_none, isnD_none, isNone_none, isNone_tuple, isNone_int, isD_bool, isnD_bool, sz0, sz1, sz2, sz3, sz4, sz5, sz6, sz7, sz8, sz9, maxD_int, minD_int, sNewB_ap, sCatO_ap, sAugIx_ap, listOf_list, listOf_tuple, enumF_nil, enumF_cons, iZq_ap, iZ3_ap, iR3_ap, ip0, ip1, x1, x2, x3, x4, e1, e2, y1, y2, e3, y3, y4, y5, y6, y7, y8, y9, y10, y11, y12, ef, y13, lw]
theorem stR_nn {a b s : Int} (h : 0 ≤ s ∧ s ≤ a ∧ s ≤ b) {g v : IP} (hg : V7 g) (hv : V7 v) : 0 ≤ stR a b s g v := by
  have tp := tt_pos hg hv
  rw [stR_eq a b s hg hv]
  exact dv_nn (stN_nn h g v) (Int.mul_pos tp tp)
theorem Ps_neg (g v : IP) : Ps g (-v.1, -v.2) = Ps g v ∧ Qs g (-v.1, -v.2) = Qs g v := by
  have e1 : dt g (-v.1, -v.2) = -dt g v := by unfold dt; grind
  have e2 : cs g (-v.1, -v.2) = -cs g v := by unfold cs; grind
  have e3 : tt g (-v.1, -v.2) = tt g v := by unfold tt; rw [e1, e2]; grind
  unfold Ps Qs
  rw [e1, e2, e3, Int.neg_mul_neg, Int.neg_mul_neg]
  exact ⟨rfl, rfl⟩
theorem dv_sc {k x y : Int} (hk : k ≠ 0) (hy : y ≠ 0) : dv (k * x) (k * y) = dv x y := by
  have a : ((k : Int) : Rat) ≠ 0 := fun z => hk (Rat.intCast_eq_zero_iff.mp z)
  have b : ((y : Int) : Rat) ≠ 0 := fun z => hy (Rat.intCast_eq_zero_iff.mp z)
  rw [dv_eq, dv_eq, Rat.intCast_mul, Rat.intCast_mul]
  grind
theorem Ps_scale {k : Int} (hk : k ≠ 0) {g v : IP} (ht : tt g v ≠ 0) : Ps (k * g.1, k * g.2) v = Ps g v ∧ Qs (k * g.1, k * g.2) v = Qs g v := by
  have e1 : dt (k * g.1, k * g.2) v = k * dt g v := by unfold dt; grind
  have e2 : cs (k * g.1, k * g.2) v = k * cs g v := by unfold cs; grind
  have e3 : tt (k * g.1, k * g.2) v = k * k * tt g v := by unfold tt; rw [e1, e2]; grind
  have kk : k * k ≠ 0 := Int.mul_ne_zero hk hk
  unfold Ps Qs
  rw [e1, e2, e3, show k * dt g v * (k * dt g v) = k * k * (dt g v * dt g v) by grind, show k * cs g v * (k * cs g v) = k * k * (cs g v * cs g v) by grind, dv_sc kk ht, dv_sc kk ht]
  exact ⟨rfl, rfl⟩
theorem V7.of {v : IP} (h : -100 ≤ v.1 ∧ v.1 ≤ 100 ∧ -100 ≤ v.2 ∧ v.2 ≤ 100) (h0 : ¬ (v.1 = 0 ∧ v.2 = 0)) : V7 v := ⟨by unfold Sm; omega, by unfold Sm; omega, h0⟩
theorem V7.prm {v : IP} (h : V7 v) : V7 (prm v.1 v.2) := by
  have p := prm_sm h.nz h.x h.y
  obtain ⟨k1, k2⟩ := gsv_x h.nz
  refine ⟨p.x, p.y, fun ⟨a, b⟩ => ?_⟩
  rw [a, Int.mul_zero] at k1
  rw [b, Int.mul_zero] at k2
  exact h.nz ⟨k1, k2⟩

/-! ### loops that end at the first bad item -/
theorem loop_all {p : Pat} {b : EnvD → SR} (good : Nat → Bool) (I : EnvD → Prop) : ∀ (ds : List D) (k : Nat) (ρ : EnvD), I ρ →
    (∀ i d, ds[i]? = some d → ∀ ρ, I ρ → ∃ ρ1, bindP p d ρ = some ρ1 ∧ ((good (k + i) = true ∧ ∃ ρ2, b ρ1 = .nx ρ2 ∧ I ρ2) ∨ (good (k + i) = false ∧ b ρ1 = .ret (.bool false)))) →
    ((∀ i, i < ds.length → good (k + i) = true) ∧ ∃ ρ', forM' p b ds ρ = .nx ρ' ∧ I ρ') ∨ ((∃ i, i < ds.length ∧ good (k + i) = false) ∧ forM' p b ds ρ = .ret (.bool false))
  | [], k, ρ, h, _ => .inl ⟨fun i hi => by simp at hi, ρ, rfl, h⟩
  | d :: ds, k, ρ, h, hb => by
    obtain ⟨ρ1, e1, e2⟩ := hb 0 d rfl ρ h
    rw [Nat.add_zero] at e2
    rcases e2 with ⟨g, ρ2, e3, e4⟩ | ⟨g, e3⟩
    · have ih := loop_all good I ds (k + 1) ρ2 e4 fun i d' hd ρ hρ => by
        have := hb (i + 1) d' hd ρ hρ
        rw [show k + (i + 1) = k + 1 + i by omega] at this
        exact this
      have ef : forM' p b (d :: ds) ρ = forM' p b ds ρ2 := by
        conv => lhs; unfold forM'
        rw [e1]
        dsimp only
        rw [e3]
      rw [ef]
      rcases ih with ⟨a, c⟩ | ⟨⟨i, hi, a⟩, c⟩
      · refine .inl ⟨fun i hi => ?_, c⟩
        match i with
        | 0 => exact g
        | i + 1 =>
          have := a i (by simpa using hi)
          rw [show k + 1 + i = k + (i + 1) by omega] at this
          exact this
      · exact .inr ⟨⟨i + 1, by simpa using hi, by rw [show k + (i + 1) = k + 1 + i by omega]; exact a⟩, c⟩
    · refine .inr ⟨⟨0, by simp, g⟩, ?_⟩
      conv => lhs; unfold forM'
      rw [e1]
      dsimp only
      rw [e3]
theorem forM_t2 {i j : Nat} {b : EnvD → SR} {x y : D} {ds : List D} {ρ : EnvD} : forM' (.t [.n i, .n j]) b (.tuple [x, y] :: ds) ρ = (b ((ρ.set i (some x)).set j (some y))).lps (forM' (.t [.n i, .n j]) b ds) := by
  show (match b ((ρ.set i (some x)).set j (some y)) with
      | .nx ρ2 => forM' (.t [.n i, .n j]) b ds ρ2
      | .cont ρ2 => forM' (.t [.n i, .n j]) b ds ρ2
      | .brk ρ2 => .nx ρ2
      | .ret x => .ret x
      | .ex x ρ2 => .ex x ρ2
      | .no => .no) = _
  cases b ((ρ.set i (some x)).set j (some y)) <;> rfl
theorem forM_t3 {i j k : Nat} {b : EnvD → SR} {x y z : D} {ds : List D} {ρ : EnvD} : forM' (.t [.n i, .n j, .n k]) b (.tuple [x, y, z] :: ds) ρ = (b (((ρ.set i (some x)).set j (some y)).set k (some z))).lps (forM' (.t [.n i, .n j, .n k]) b ds) := by
  show (match b (((ρ.set i (some x)).set j (some y)).set k (some z)) with
      | .nx ρ2 => forM' (.t [.n i, .n j, .n k]) b ds ρ2
      | .cont ρ2 => forM' (.t [.n i, .n j, .n k]) b ds ρ2
      | .brk ρ2 => .nx ρ2
      | .ret x => .ret x
      | .ex x ρ2 => .ex x ρ2
      | .no => .no) = _
  cases b (((ρ.set i (some x)).set j (some y)).set k (some z)) <;> rfl
theorem getD_at {α : Type} {L : List α} {k : Nat} {d : α} (h : k < L.length) : L.getD k d = L[k] := by
  rw [List.getD_eq_getElem?_getD, List.getElem?_eq_getElem h]
  rfl
theorem getD_mem {α : Type} {L : List α} {k : Nat} {d : α} (h : k < L.length) : L.getD k d ∈ L := by
  rw [getD_at h]
  exact List.getElem_mem h

-- CUT
/-! ### margins (laws 25 to 40) -/
structure CS (c : Cl) : Prop where
  a : Sm 10 c.a
  b : Sm 10 c.b
  s : Sm 10 c.s
structure Pa where
  c : Cl
  pc : D
  g : IP
def paD (p : Pa) : D := .tuple [clD p.c, p.pc, ipD p.g]
structure PaS (p : Pa) : Prop where
  c : CS p.c
  g : V7 p.g
structure Gu where
  n : Str
  v : IP
  q : Int
  s : Rat
def guD (u : Gu) : D := .tuple [.tuple [.str u.n, ipD u.v, .int u.q], Rq u.s]
structure GuS (u : Gu) : Prop where
  v : V7 u.v
  q : Sm 10 u.q
  s : Sq 3 u.s
def st (c : Cl) (g v : IP) : Rat := stR c.a c.b c.s g v
theorem m_st {c : Cl} (h : CS c) {g v : IP} (hg : V7 g) (hv : V7 v) : m_cloth_strength [clD c, ipD g, ipD v] = .ok (Rq (st c g v)) := m_strength h.a h.b h.s hg hv
theorem l_st {c : Cl} (h : CS c) {g v : IP} (hg : V7 g) (hv : V7 v) : m_law_strength [clD c, ipD g, ipD v] = .ok (Rq (st c g v)) := m_lstrength h.a h.b h.s hg hv
theorem st_sz {c : Cl} (h : CS c) {g v : IP} (hg : V7 g) (hv : V7 v) : Sq 160 (st c g v) := stR_sz h.a h.b h.s hg hv
def mgn (p : Pa) (u : Gu) (l : Rat) (w : Int) : Rat := st p.c p.g u.v * dv (12 - w) 12 - ((u.q : Rat) * u.s) * l
def WOk (w : Int) : Prop := 0 ≤ w ∧ w ≤ 12
theorem dv12 {w : Int} (h : WOk w) : Sq 4 (dv (12 - w) 12) := by
  unfold WOk at h
  exact Sq.dv (by decide) (by unfold Sm; omega) (by unfold Sm; decide)
theorem mgn_sz {p : Pa} {u : Gu} {l : Rat} {w : Int} (hp : PaS p) (hu : GuS u) (hl : Sq 12 l) (hw : WOk w) : Sq 190 (mgn p u l w) :=
  (((st_sz hp.c hp.g hu.v).mul (dv12 hw)).sub (((rI hu.q (by decide)).1.mul hu.s).mul hl)).mono
theorem pa0 (p : Pa) : atD (paD p) (.int 0) = some (clD p.c) := rfl
theorem pa2 (p : Pa) : atD (paD p) (.int 2) = some (ipD p.g) := rfl
theorem gu0 (u : Gu) : atD (guD u) (.int 0) = some (.tuple [.str u.n, ipD u.v, .int u.q]) := rfl
theorem gu1 (u : Gu) : atD (guD u) (.int 1) = some (Rq u.s) := rfl
theorem Rq0 (q : Rat) : atD (Rq q) (.int 0) = some (.int q.num) := rfl
theorem Rq1 (q : Rat) : atD (Rq q) (.int 1) = some (.int q.den) := rfl
theorem m_holds {p : Pa} {u : Gu} {w : Int} (hp : PaS p) (hu : GuS u) (hw : WOk w) : m_part_holds [paD p, guD u, .int w] = .ok (Rq (st p.c p.g u.v * dv (12 - w) 12)) := by
  have e1 := m_st hp.c hp.g hu.v
  have e2 := m_make (n := 12 - w) (d := 12) (by decide) (show Sm 4 (12 : Int) by unfold Sm; decide).mono
  have e3 := m_times (st_sz hp.c hp.g hu.v) (dv12 hw)
  have dF : d_FULL_SHARES = .int 12 := rfl
  have e4 : m_worn_strength [Rq (st p.c p.g u.v), .int w] = .ok (Rq (st p.c p.g u.v * dv (12 - w) 12)) := by
    unfold m_worn_strength b_worn_strength
    rw [dF]
    simp -implicitDefEqProofs only [callM, sSeq_ap, thn_nx, thn_ret, thn_ex, thn_brk, thn_cont, sNx_ap, sBrk_ap, sCont_ap, sSet_ap, sSetB_ap, sRet_ap, sRetN_ap, sDrop_ap, sIf_ap, sNew_ap, sPat_ap, sPar_ap, sRaise_ap, sFor_ap, sWhile_ap, sAug_ap, sApp_ap, ownL_ap, eN_ap, eC_ap, e1_ap, e2_ap, aL_nil, aL_cons, eT_ap, eL_ap, eB_ap, eF_ap, eIf_ap, eAnd_ap, eOr_ap, eNot_ap, eCh_ap, tV_ap, tAnd_ap, tOr_ap, tNot_ap, pN_ap, pS_ap, eSl_ap, iD_ap, iR1_ap, iR2_ap, iZ_ap, iE_ap, eNew_ap, eLc_ap, tTrue_ap, bindP_n, bindP_tt, bindP_tl, bindPs_nil, bindPs_cons, bind_ok, bind_ex, ofE_ok, ofE_ex, optE_some, truD_bool, isBool_bool, isInt_int, addD_int, subD_int, negD_int, ltD_int, leD_int, gtD_int, geD_int, intD_int, absD_int, lenD_tuple, lenD_list, tupleD_list, tupleD_tuple, itemsD_list, itemsD_tuple, eqD_int, neD_int, atD_tuple, atD_list, List.getElem?_cons_zero, List.getElem?_cons_succ, List.set_cons_zero, List.set_cons_succ, List.length_cons, List.length_nil, List.map_cons, List.map_nil, List.replicate, List.cons_append, List.nil_append, Option.bind_some, Option.bind_none, Option.map_some, Nat.reduceAdd, Nat.reduceSub, if_true, if_false, decide_true, decide_false, Bool.not_true, Bool.not_false, Bool.false_eq_true, reduceIte, Nat.reduceEqDiff, Nat.zero_add, Int.cast_ofNat_Int, Int.reduceEq, Int.reduceLT, Int.reduceLE, Int.reduceAdd, Int.reduceSub, Int.reduceMul, Int.reduceNeg, Nat.reduceLT, Nat.reduceLeDiff, Int.reduceToNat, Int.zero_add, ne_eq, isi_tuple_none, isi_tuple_bool, isi_tuple_int, isi_tuple_str, isi_tuple_list, isi_tuple_tuple, isi_tuple_dict, isi_int_none, isi_int_bool, isi_int_int, isi_int_str, isi_int_list, isi_int_tuple, isi_int_dict, isi_bool_none, isi_bool_bool, isi_bool_int, isi_bool_str, isi_bool_list, isi_bool_tuple, isi_bool_dict, isi_str_none, isi_str_bool, isi_str_int, isi_str_str, isi_str_list, isi_str_tuple, isi_str_dict, isi_list_none, isi_list_bool, isi_list_int, isi_list_str, isi_list_list, isi_list_tuple, isi_list_dict, isi_dict_none, isi_dict_bool, isi_dict_int, isi_dict_str, isi_dict_list, isi_dict_tuple, isi_dict_dict, atI0, atI1, atI2, atI3, atI4, atI5, pow1018, eqD_str, neD_str, eqD_bool, isD_none, isnD_none, isNone_none, isNone_tuple, isNone_int, isD_bool, isnD_bool, sz0, sz1, sz2, sz3, sz4, sz5, sz6, sz7, sz8, sz9, maxD_int, minD_int, sNewB_ap, sCatO_ap, sAugIx_ap, listOf_list, listOf_tuple, enumF_nil, enumF_cons, iZq_ap, iZ3_ap, iR3_ap, e2, e3]
  unfold m_part_holds b_part_holds
  simp -implicitDefEqProofs only [callM, sSeq_ap, thn_nx, thn_ret, thn_ex, thn_brk, thn_cont, sNx_ap, sBrk_ap, sCont_ap, sSet_ap, sSetB_ap, sRet_ap, sRetN_ap, sDrop_ap, sIf_ap, sNew_ap, sPat_ap, sPar_ap, sRaise_ap, sFor_ap, sWhile_ap, sAug_ap, sApp_ap, ownL_ap, eN_ap, eC_ap, e1_ap, e2_ap, aL_nil, aL_cons, eT_ap, eL_ap, eB_ap, eF_ap, eIf_ap, eAnd_ap, eOr_ap, eNot_ap, eCh_ap, tV_ap, tAnd_ap, tOr_ap, tNot_ap, pN_ap, pS_ap, eSl_ap, iD_ap, iR1_ap, iR2_ap, iZ_ap, iE_ap, eNew_ap, eLc_ap, tTrue_ap, bindP_n, bindP_tt, bindP_tl, bindPs_nil, bindPs_cons, bind_ok, bind_ex, ofE_ok, ofE_ex, optE_some, truD_bool, isBool_bool, isInt_int, addD_int, subD_int, negD_int, ltD_int, leD_int, gtD_int, geD_int, intD_int, absD_int, lenD_tuple, lenD_list, tupleD_list, tupleD_tuple, itemsD_list, itemsD_tuple, eqD_int, neD_int, atD_tuple, atD_list, List.getElem?_cons_zero, List.getElem?_cons_succ, List.set_cons_zero, List.set_cons_succ, List.length_cons, List.length_nil, List.map_cons, List.map_nil, List.replicate, List.cons_append, List.nil_append, Option.bind_some, Option.bind_none, Option.map_some, Nat.reduceAdd, Nat.reduceSub, if_true, if_false, decide_true, decide_false, Bool.not_true, Bool.not_false, Bool.false_eq_true, reduceIte, Nat.reduceEqDiff, Nat.zero_add, Int.cast_ofNat_Int, Int.reduceEq, Int.reduceLT, Int.reduceLE, Int.reduceAdd, Int.reduceSub, Int.reduceMul, Int.reduceNeg, Nat.reduceLT, Nat.reduceLeDiff, Int.reduceToNat, Int.zero_add, ne_eq, isi_tuple_none, isi_tuple_bool, isi_tuple_int, isi_tuple_str, isi_tuple_list, isi_tuple_tuple, isi_tuple_dict, isi_int_none, isi_int_bool, isi_int_int, isi_int_str, isi_int_list, isi_int_tuple, isi_int_dict, isi_bool_none, isi_bool_bool, isi_bool_int, isi_bool_str, isi_bool_list, isi_bool_tuple, isi_bool_dict, isi_str_none, isi_str_bool, isi_str_int, isi_str_str, isi_str_list, isi_str_tuple, isi_str_dict, isi_list_none, isi_list_bool, isi_list_int, isi_list_str, isi_list_list, isi_list_tuple, isi_list_dict, isi_dict_none, isi_dict_bool, isi_dict_int, isi_dict_str, isi_dict_list, isi_dict_tuple, isi_dict_dict, atI0, atI1, atI2, atI3, atI4, atI5, pow1018, eqD_str, neD_str, eqD_bool, isD_none, isnD_none, isNone_none, isNone_tuple, isNone_int, isD_bool, isnD_bool, sz0, sz1, sz2, sz3, sz4, sz5, sz6, sz7, sz8, sz9, maxD_int, minD_int, sNewB_ap, sCatO_ap, sAugIx_ap, listOf_list, listOf_tuple, enumF_nil, enumF_cons, iZq_ap, iZ3_ap, iR3_ap, pa0, pa2, gu0, e1, e4]
theorem m_pulled {u : Gu} {l : Rat} (hu : GuS u) (hl : Sq 12 l) : m_part_pulled [guD u, Rq l] = .ok (Rq (((u.q : Rat) * u.s) * l)) := by
  obtain ⟨s1, r1⟩ := rI hu.q (by decide)
  have w := m_wr u.q
  rw [r1] at w
  have e1 := m_times s1 hu.s
  have e2 := m_times (s1.mul hu.s) hl
  unfold m_part_pulled b_part_pulled
  simp -implicitDefEqProofs only [callM, sSeq_ap, thn_nx, thn_ret, thn_ex, thn_brk, thn_cont, sNx_ap, sBrk_ap, sCont_ap, sSet_ap, sSetB_ap, sRet_ap, sRetN_ap, sDrop_ap, sIf_ap, sNew_ap, sPat_ap, sPar_ap, sRaise_ap, sFor_ap, sWhile_ap, sAug_ap, sApp_ap, ownL_ap, eN_ap, eC_ap, e1_ap, e2_ap, aL_nil, aL_cons, eT_ap, eL_ap, eB_ap, eF_ap, eIf_ap, eAnd_ap, eOr_ap, eNot_ap, eCh_ap, tV_ap, tAnd_ap, tOr_ap, tNot_ap, pN_ap, pS_ap, eSl_ap, iD_ap, iR1_ap, iR2_ap, iZ_ap, iE_ap, eNew_ap, eLc_ap, tTrue_ap, bindP_n, bindP_tt, bindP_tl, bindPs_nil, bindPs_cons, bind_ok, bind_ex, ofE_ok, ofE_ex, optE_some, truD_bool, isBool_bool, isInt_int, addD_int, subD_int, negD_int, ltD_int, leD_int, gtD_int, geD_int, intD_int, absD_int, lenD_tuple, lenD_list, tupleD_list, tupleD_tuple, itemsD_list, itemsD_tuple, eqD_int, neD_int, atD_tuple, atD_list, List.getElem?_cons_zero, List.getElem?_cons_succ, List.set_cons_zero, List.set_cons_succ, List.length_cons, List.length_nil, List.map_cons, List.map_nil, List.replicate, List.cons_append, List.nil_append, Option.bind_some, Option.bind_none, Option.map_some, Nat.reduceAdd, Nat.reduceSub, if_true, if_false, decide_true, decide_false, Bool.not_true, Bool.not_false, Bool.false_eq_true, reduceIte, Nat.reduceEqDiff, Nat.zero_add, Int.cast_ofNat_Int, Int.reduceEq, Int.reduceLT, Int.reduceLE, Int.reduceAdd, Int.reduceSub, Int.reduceMul, Int.reduceNeg, Nat.reduceLT, Nat.reduceLeDiff, Int.reduceToNat, Int.zero_add, ne_eq, isi_tuple_none, isi_tuple_bool, isi_tuple_int, isi_tuple_str, isi_tuple_list, isi_tuple_tuple, isi_tuple_dict, isi_int_none, isi_int_bool, isi_int_int, isi_int_str, isi_int_list, isi_int_tuple, isi_int_dict, isi_bool_none, isi_bool_bool, isi_bool_int, isi_bool_str, isi_bool_list, isi_bool_tuple, isi_bool_dict, isi_str_none, isi_str_bool, isi_str_int, isi_str_str, isi_str_list, isi_str_tuple, isi_str_dict, isi_list_none, isi_list_bool, isi_list_int, isi_list_str, isi_list_list, isi_list_tuple, isi_list_dict, isi_dict_none, isi_dict_bool, isi_dict_int, isi_dict_str, isi_dict_list, isi_dict_tuple, isi_dict_dict, atI0, atI1, atI2, atI3, atI4, atI5, pow1018, eqD_str, neD_str, eqD_bool, isD_none, isnD_none, isNone_none, isNone_tuple, isNone_int, isD_bool, isnD_bool, sz0, sz1, sz2, sz3, sz4, sz5, sz6, sz7, sz8, sz9, maxD_int, minD_int, sNewB_ap, sCatO_ap, sAugIx_ap, listOf_list, listOf_tuple, enumF_nil, enumF_cons, iZq_ap, iZ3_ap, iR3_ap, gu0, gu1, w, e1, e2]
theorem l_margin {p : Pa} {u : Gu} {l : Rat} {w : Int} (hp : PaS p) (hu : GuS u) (hl : Sq 12 l) (hw : WOk w) : m_law_margin [paD p, guD u, Rq l, .int w] = .ok (Rq (mgn p u l w)) := by
  have e1 := l_st hp.c hp.g hu.v
  have sz := st_sz hp.c hp.g hu.v
  have em : mgn p u l w = dv ((st p.c p.g u.v).num * (12 - w) * u.s.den * l.den - 12 * (st p.c p.g u.v).den * u.q * u.s.num * l.num) (12 * (st p.c p.g u.v).den * u.s.den * l.den) := by
    unfold mgn
    generalize st p.c p.g u.v = S
    have a1 : ((S.den : Int) : Rat) ≠ 0 := fun z => den_ne S (Rat.intCast_eq_zero_iff.mp z)
    have a2 : ((u.s.den : Int) : Rat) ≠ 0 := fun z => den_ne u.s (Rat.intCast_eq_zero_iff.mp z)
    have a3 : ((l.den : Int) : Rat) ≠ 0 := fun z => den_ne l (Rat.intCast_eq_zero_iff.mp z)
    rw [dv_eq, dv_eq]
    have h1 := self_dv S
    have h2 := self_dv u.s
    have h3 := self_dv l
    rw [Rat.intCast_sub]
    simp only [Rat.intCast_mul, Rat.intCast_sub]
    generalize hS : (S.num : Rat) = sn at *
    generalize hSd : ((S.den : Int) : Rat) = sd at *
    generalize hu : (u.s.num : Rat) = un at *
    generalize hud : ((u.s.den : Int) : Rat) = ud at *
    generalize hl : (l.num : Rat) = ln at *
    generalize hld : ((l.den : Int) : Rat) = ld at *
    rw [h1, h2, h3]
    have t12 : ((12 : Int) : Rat) = 12 := rfl
    rw [t12]
    grind
  have hwS : Sm 4 (12 - w) := by unfold WOk at hw; unfold Sm; omega
  have n12 : Sm 4 (12 : Int) := by unfold Sm; decide
  generalize st p.c p.g u.v = S at *
  have x1 := mulD_sm sz.sn hwS
  have x2 := mulD_sm (sz.sn.mul hwS) hu.s.sd
  have x3 := mulD_sm ((sz.sn.mul hwS).mul hu.s.sd) hl.sd
  have x4 := mulD_sm n12 sz.sd
  have x5 := mulD_sm (n12.mul sz.sd) hu.q
  have x6 := mulD_sm ((n12.mul sz.sd).mul hu.q) hu.s.sn
  have x7 := mulD_sm (((n12.mul sz.sd).mul hu.q).mul hu.s.sn) hl.sn
  have x8 := mulD_sm (n12.mul sz.sd) hu.s.sd
  have x9 := mulD_sm ((n12.mul sz.sd).mul hu.s.sd) hl.sd
  have lw := m_llow (n := S.num * (12 - w) * u.s.den * l.den - 12 * S.den * u.q * u.s.num * l.num) (d := 12 * S.den * u.s.den * l.den) (Int.mul_ne_zero (Int.mul_ne_zero (Int.mul_ne_zero (by decide) (den_ne _)) (den_ne _)) (den_ne _)) ((((n12.mul sz.sd).mul hu.s.sd).mul hl.sd).mono)
  rw [← em] at lw
  unfold m_law_margin b_law_margin
  simp -implicitDefEqProofs only [callM, sSeq_ap, thn_nx, thn_ret, thn_ex, thn_brk, thn_cont, sNx_ap, sBrk_ap, sCont_ap, sSet_ap, sSetB_ap, sRet_ap, sRetN_ap, sDrop_ap, sIf_ap, sNew_ap, sPat_ap, sPar_ap, sRaise_ap, sFor_ap, sWhile_ap, sAug_ap, sApp_ap, ownL_ap, eN_ap, eC_ap, e1_ap, e2_ap, aL_nil, aL_cons, eT_ap, eL_ap, eB_ap, eF_ap, eIf_ap, eAnd_ap, eOr_ap, eNot_ap, eCh_ap, tV_ap, tAnd_ap, tOr_ap, tNot_ap, pN_ap, pS_ap, eSl_ap, iD_ap, iR1_ap, iR2_ap, iZ_ap, iE_ap, eNew_ap, eLc_ap, tTrue_ap, bindP_n, bindP_tt, bindP_tl, bindPs_nil, bindPs_cons, bind_ok, bind_ex, ofE_ok, ofE_ex, optE_some, truD_bool, isBool_bool, isInt_int, addD_int, subD_int, negD_int, ltD_int, leD_int, gtD_int, geD_int, intD_int, absD_int, lenD_tuple, lenD_list, tupleD_list, tupleD_tuple, itemsD_list, itemsD_tuple, eqD_int, neD_int, atD_tuple, atD_list, List.getElem?_cons_zero, List.getElem?_cons_succ, List.set_cons_zero, List.set_cons_succ, List.length_cons, List.length_nil, List.map_cons, List.map_nil, List.replicate, List.cons_append, List.nil_append, Option.bind_some, Option.bind_none, Option.map_some, Nat.reduceAdd, Nat.reduceSub, if_true, if_false, decide_true, decide_false, Bool.not_true, Bool.not_false, Bool.false_eq_true, reduceIte, Nat.reduceEqDiff, Nat.zero_add, Int.cast_ofNat_Int, Int.reduceEq, Int.reduceLT, Int.reduceLE, Int.reduceAdd, Int.reduceSub, Int.reduceMul, Int.reduceNeg, Nat.reduceLT, Nat.reduceLeDiff, Int.reduceToNat, Int.zero_add, ne_eq, isi_tuple_none, isi_tuple_bool, isi_tuple_int, isi_tuple_str, isi_tuple_list, isi_tuple_tuple, isi_tuple_dict, isi_int_none, isi_int_bool, isi_int_int, isi_int_str, isi_int_list, isi_int_tuple, isi_int_dict, isi_bool_none, isi_bool_bool, isi_bool_int, isi_bool_str, isi_bool_list, isi_bool_tuple, isi_bool_dict, isi_str_none, isi_str_bool, isi_str_int, isi_str_str, isi_str_list, isi_str_tuple, isi_str_dict, isi_list_none, isi_list_bool, isi_list_int, isi_list_str, isi_list_list, isi_list_tuple, isi_list_dict, isi_dict_none, isi_dict_bool, isi_dict_int, isi_dict_str, isi_dict_list, isi_dict_tuple, isi_dict_dict, atI0, atI1, atI2, atI3, atI4, atI5, pow1018, eqD_str, neD_str, eqD_bool, isD_none, isnD_none, isNone_none, isNone_tuple, isNone_int, isD_bool, isnD_bool, sz0, sz1, sz2, sz3, sz4, sz5, sz6, sz7, sz8, sz9, maxD_int, minD_int, sNewB_ap, sCatO_ap, sAugIx_ap, listOf_list, listOf_tuple, enumF_nil, enumF_cons, iZq_ap, iZ3_ap, iR3_ap, pa0, pa2, gu0, gu1, e1, Rq0, Rq1, x1, x2, x3, x4, x5, x6, x7, x8, x9, lw]

-- CUT
/-! ### rows of margins -/
def p0 : Pa := ⟨⟨"", 0, 0, 0, 0, 0⟩, .none, (0, 0)⟩
def psD (P : List Pa) : D := .tuple (P.map paD)
def lsD (L : List Rat) : D := .tuple (L.map Rq)
def wsD (W : List Int) : D := .tuple (W.map PyData.int)
structure SlS (P : List Pa) (L : List Rat) (W : List Int) : Prop where
  p : ∀ x ∈ P, PaS x
  l : ∀ x ∈ L, Sq 12 x
  w : ∀ x ∈ W, WOk x
  ll : L.length = P.length
  lw : W.length = P.length
  n4 : P.length ≤ 8
def MT (P : List Pa) (L : List Rat) (W : List Int) (u : Gu) : List Rat := (List.range P.length).map fun k => mgn (P.getD k p0) u (L.getD k 0) (W.getD k 0)
def itm (P : List Pa) (L : List Rat) (W : List Int) (k : Nat) : D := .tuple [paD (P.getD k p0), Rq (L.getD k 0), .int (W.getD k 0)]
theorem zip3_eq : ∀ (P : List Pa) (L : List Rat) (W : List Int), L.length = P.length → W.length = P.length → zipD3 (P.map paD) (L.map Rq) (W.map PyData.int) = (List.range P.length).map (itm P L W)
  | [], L, W, h1, h2 => by
    cases L with
    | nil => rfl
    | cons a b => simp at h1
  | p :: P, l :: L, w :: W, h1, h2 => by
    have e : zipD3 ((p :: P).map paD) ((l :: L).map Rq) ((w :: W).map PyData.int) = .tuple [paD p, Rq l, .int w] :: zipD3 (P.map paD) (L.map Rq) (W.map PyData.int) := rfl
    rw [e, zip3_eq P L W (by simpa using h1) (by simpa using h2), List.length_cons, List.range_succ_eq_map, List.map_cons, List.map_map]
    rfl
  | p :: P, [], W, h1, h2 => by simp at h1
  | p :: P, l :: L, [], h1, h2 => by simp at h2
theorem gm_loop {P : List Pa} {L : List Rat} {W : List Int} (h : SlS P L W) {u : Gu} (hu : GuS u) (a b c d : Option D) : ∀ (ks : List Nat) (acc : List D) (x5 x6 x7 : Option D), (∀ k ∈ ks, k < P.length) → acc.length + ks.length ≤ 1000 → ∃ y5 y6 y7,
    forM' (.t [.n 5, .n 6, .n 7]) b_gust_margins_l1 (ks.map (itm P L W)) [a, some (guD u), c, d, some (.list acc), x5, x6, x7] = .nx [a, some (guD u), c, d, some (.list (acc ++ ks.map fun k => Rq (mgn (P.getD k p0) u (L.getD k 0) (W.getD k 0)))), y5, y6, y7]
  | [], acc, x5, x6, x7, _, _ => ⟨x5, x6, x7, by rw [List.map_nil, List.map_nil, List.append_nil]; rfl⟩
  | k :: ks, acc, x5, x6, x7, hk, hl => by
    have hlt := hk k (List.mem_cons_self ..)
    have hp := h.p _ (getD_mem (d := p0) hlt)
    have hl2 := h.l _ (getD_mem (L := L) (d := 0) (by rw [h.ll]; exact hlt))
    have hw := h.w _ (getD_mem (L := W) (d := 0) (by rw [h.lw]; exact hlt))
    have e1 := m_holds hp hu hw
    have e2 := m_pulled hu hl2
    have e3 := m_take ((st_sz hp.c hp.g hu.v).mul (dv12 hw)) (((rI hu.q (by decide)).1.mul hu.s).mul hl2)
    have e3 : m_take_ratios [Rq (st (P.getD k p0).c (P.getD k p0).g u.v * dv (12 - W.getD k 0) 12), Rq (((u.q : Rat) * u.s) * L.getD k 0)] = .ok (Rq (mgn (P.getD k p0) u (L.getD k 0) (W.getD k 0))) := e3
    have sz : acc.length < sizeLine := sz_lt (by omega)
    obtain ⟨y5, y6, y7, ih⟩ := gm_loop h hu a b c d ks (acc ++ [Rq (mgn (P.getD k p0) u (L.getD k 0) (W.getD k 0))]) (some (paD (P.getD k p0))) (some (Rq (L.getD k 0))) (some (.int (W.getD k 0))) (fun j hj => hk j (List.mem_cons_of_mem _ hj)) (by rw [List.length_append, List.length_singleton]; rw [List.length_cons] at hl; omega)
    refine ⟨y5, y6, y7, ?_⟩
    rw [List.map_cons]
    show forM' _ _ (.tuple [paD (P.getD k p0), Rq (L.getD k 0), .int (W.getD k 0)] :: ks.map (itm P L W)) _ = _
    rw [forM_t3, List.map_cons, List.append_cons acc, ← ih]
    generalize forM' (.t [.n 5, .n 6, .n 7]) b_gust_margins_l1 (ks.map (itm P L W)) = KK
    unfold b_gust_margins_l1
    simp -implicitDefEqProofs only [callM, sSeq_ap, thn_nx, thn_ret, thn_ex, thn_brk, thn_cont, sNx_ap, sBrk_ap, sCont_ap, sSet_ap, sSetB_ap, sRet_ap, sRetN_ap, sDrop_ap, sIf_ap, sNew_ap, sPat_ap, sPar_ap, sRaise_ap, sFor_ap, sWhile_ap, sAug_ap, sApp_ap, ownL_ap, eN_ap, eC_ap, e1_ap, e2_ap, aL_nil, aL_cons, eT_ap, eL_ap, eB_ap, eF_ap, eIf_ap, eAnd_ap, eOr_ap, eNot_ap, eCh_ap, tV_ap, tAnd_ap, tOr_ap, tNot_ap, pN_ap, pS_ap, eSl_ap, iD_ap, iR1_ap, iR2_ap, iZ_ap, iE_ap, eNew_ap, eLc_ap, tTrue_ap, bindP_n, bindP_tt, bindP_tl, bindPs_nil, bindPs_cons, bind_ok, bind_ex, ofE_ok, ofE_ex, optE_some, truD_bool, isBool_bool, isInt_int, addD_int, subD_int, negD_int, ltD_int, leD_int, gtD_int, geD_int, intD_int, absD_int, lenD_tuple, lenD_list, tupleD_list, tupleD_tuple, itemsD_list, itemsD_tuple, eqD_int, neD_int, atD_tuple, atD_list, List.getElem?_cons_zero, List.getElem?_cons_succ, List.set_cons_zero, List.set_cons_succ, List.length_cons, List.length_nil, List.map_cons, List.map_nil, List.replicate, List.cons_append, List.nil_append, Option.bind_some, Option.bind_none, Option.map_some, Nat.reduceAdd, Nat.reduceSub, if_true, if_false, decide_true, decide_false, Bool.not_true, Bool.not_false, Bool.false_eq_true, reduceIte, Nat.reduceEqDiff, Nat.zero_add, Int.cast_ofNat_Int, Int.reduceEq, Int.reduceLT, Int.reduceLE, Int.reduceAdd, Int.reduceSub, Int.reduceMul, Int.reduceNeg, Nat.reduceLT, Nat.reduceLeDiff, Int.reduceToNat, Int.zero_add, ne_eq, isi_tuple_none, isi_tuple_bool, isi_tuple_int, isi_tuple_str, isi_tuple_list, isi_tuple_tuple, isi_tuple_dict, isi_int_none, isi_int_bool, isi_int_int, isi_int_str, isi_int_list, isi_int_tuple, isi_int_dict, isi_bool_none, isi_bool_bool, isi_bool_int, isi_bool_str, isi_bool_list, isi_bool_tuple, isi_bool_dict, isi_str_none, isi_str_bool, isi_str_int, isi_str_str, isi_str_list, isi_str_tuple, isi_str_dict, isi_list_none, isi_list_bool, isi_list_int, isi_list_str, isi_list_list, isi_list_tuple, isi_list_dict, isi_dict_none, isi_dict_bool, isi_dict_int, isi_dict_str, isi_dict_list, isi_dict_tuple, isi_dict_dict, atI0, atI1, atI2, atI3, atI4, atI5, pow1018, eqD_str, neD_str, eqD_bool, isD_none, isnD_none, isNone_none, isNone_tuple, isNone_int, isD_bool, isnD_bool, sz0, sz1, sz2, sz3, sz4, sz5, sz6, sz7, sz8, sz9, maxD_int, minD_int, sNewB_ap, sCatO_ap, sAugIx_ap, listOf_list, listOf_tuple, enumF_nil, enumF_cons, iZq_ap, iZ3_ap, iR3_ap, e1, e2, e3, if_pos sz, lps_nx]
theorem m_margins {P : List Pa} {L : List Rat} {W : List Int} (h : SlS P L W) {u : Gu} (hu : GuS u) : m_gust_margins [psD P, guD u, lsD L, wsD W] = .ok (.tuple ((MT P L W u).map Rq)) := by
  obtain ⟨y5, y6, y7, e⟩ := gm_loop h hu (some (psD P)) none (some (lsD L)) (some (wsD W)) (List.range P.length) [] none none none (fun k hk => List.mem_range.mp hk) (by rw [List.length_range]; have := h.n4; simp; omega)
  have z : zip3Q (psD P) (lsD L) (wsD W) = some ((List.range P.length).map (itm P L W)) := by
    show some (zipD3 (P.map paD) (L.map Rq) (W.map PyData.int)) = _
    rw [zip3_eq P L W h.ll h.lw]
  rw [List.nil_append] at e
  have e2 : ((List.range P.length).map fun k => Rq (mgn (P.getD k p0) u (L.getD k 0) (W.getD k 0))) = (MT P L W u).map Rq := by
    unfold MT
    rw [List.map_map]
    rfl
  rw [e2] at e
  generalize (List.range P.length).map (itm P L W) = ZZ at *
  generalize (MT P L W u).map Rq = MM at *
  unfold m_gust_margins b_gust_margins
  simp -implicitDefEqProofs only [callM, sSeq_ap, thn_nx, thn_ret, thn_ex, thn_brk, thn_cont, sNx_ap, sBrk_ap, sCont_ap, sSet_ap, sSetB_ap, sRet_ap, sRetN_ap, sDrop_ap, sIf_ap, sNew_ap, sPat_ap, sPar_ap, sRaise_ap, sFor_ap, sWhile_ap, sAug_ap, sApp_ap, ownL_ap, eN_ap, eC_ap, e1_ap, e2_ap, aL_nil, aL_cons, eT_ap, eL_ap, eB_ap, eF_ap, eIf_ap, eAnd_ap, eOr_ap, eNot_ap, eCh_ap, tV_ap, tAnd_ap, tOr_ap, tNot_ap, pN_ap, pS_ap, eSl_ap, iD_ap, iR1_ap, iR2_ap, iZ_ap, iE_ap, eNew_ap, eLc_ap, tTrue_ap, bindP_n, bindP_tt, bindP_tl, bindPs_nil, bindPs_cons, bind_ok, bind_ex, ofE_ok, ofE_ex, optE_some, truD_bool, isBool_bool, isInt_int, addD_int, subD_int, negD_int, ltD_int, leD_int, gtD_int, geD_int, intD_int, absD_int, lenD_tuple, lenD_list, tupleD_list, tupleD_tuple, itemsD_list, itemsD_tuple, eqD_int, neD_int, atD_tuple, atD_list, List.getElem?_cons_zero, List.getElem?_cons_succ, List.set_cons_zero, List.set_cons_succ, List.length_cons, List.length_nil, List.map_cons, List.map_nil, List.replicate, List.cons_append, List.nil_append, Option.bind_some, Option.bind_none, Option.map_some, Nat.reduceAdd, Nat.reduceSub, if_true, if_false, decide_true, decide_false, Bool.not_true, Bool.not_false, Bool.false_eq_true, reduceIte, Nat.reduceEqDiff, Nat.zero_add, Int.cast_ofNat_Int, Int.reduceEq, Int.reduceLT, Int.reduceLE, Int.reduceAdd, Int.reduceSub, Int.reduceMul, Int.reduceNeg, Nat.reduceLT, Nat.reduceLeDiff, Int.reduceToNat, Int.zero_add, ne_eq, isi_tuple_none, isi_tuple_bool, isi_tuple_int, isi_tuple_str, isi_tuple_list, isi_tuple_tuple, isi_tuple_dict, isi_int_none, isi_int_bool, isi_int_int, isi_int_str, isi_int_list, isi_int_tuple, isi_int_dict, isi_bool_none, isi_bool_bool, isi_bool_int, isi_bool_str, isi_bool_list, isi_bool_tuple, isi_bool_dict, isi_str_none, isi_str_bool, isi_str_int, isi_str_str, isi_str_list, isi_str_tuple, isi_str_dict, isi_list_none, isi_list_bool, isi_list_int, isi_list_str, isi_list_list, isi_list_tuple, isi_list_dict, isi_dict_none, isi_dict_bool, isi_dict_int, isi_dict_str, isi_dict_list, isi_dict_tuple, isi_dict_dict, atI0, atI1, atI2, atI3, atI4, atI5, pow1018, eqD_str, neD_str, eqD_bool, isD_none, isnD_none, isNone_none, isNone_tuple, isNone_int, isD_bool, isnD_bool, sz0, sz1, sz2, sz3, sz4, sz5, sz6, sz7, sz8, sz9, maxD_int, minD_int, sNewB_ap, sCatO_ap, sAugIx_ap, listOf_list, listOf_tuple, enumF_nil, enumF_cons, iZq_ap, iZ3_ap, iR3_ap, z, e]
theorem l_margins {P : List Pa} {L : List Rat} {W : List Int} (h : SlS P L W) {u : Gu} (hu : GuS u) : m_law_margins [psD P, guD u, lsD L, wsD W] = .ok (.list ((MT P L W u).map Rq)) := by
  have lc := fun ρ0 (hρ : ρ0 = [some (psD P), some (guD u), some (lsD L), some (wsD W), none]) => lcM_idx (p := .n 4) (tc := tTrue) (m := (eF m_law_margin [(Z.e2 atD (eN 0) (eN 4)), (eN 1), (Z.e2 atD (eN 2) (eN 4)), (Z.e2 atD (eN 3) (eN 4))])) (ρ0 := ρ0) (keep := fun _ => true) (out := fun k => Rq (mgn (P.getD k p0) u (L.getD k 0) (W.getD k 0))) (intsD 0 P.length) 0 (by
    intro i d hd
    obtain ⟨hi, rfl⟩ := intsD_at hd
    have a1 : atD (psD P) (.int (i : Int)) = some (paD (P.getD i p0)) := at_get (xs := P.map paD) (by rw [List.getElem?_map, List.getElem?_eq_getElem hi, getD_at hi]; rfl)
    have a2 : atD (lsD L) (.int (i : Int)) = some (Rq (L.getD i 0)) := at_get (xs := L.map Rq) (by rw [List.getElem?_map, List.getElem?_eq_getElem (by rw [h.ll]; exact hi), getD_at (by rw [h.ll]; exact hi)]; rfl)
    have a3 : atD (wsD W) (.int (i : Int)) = some (.int (W.getD i 0)) := at_get (xs := W.map PyData.int) (by rw [List.getElem?_map, List.getElem?_eq_getElem (by rw [h.lw]; exact hi), getD_at (by rw [h.lw]; exact hi)]; rfl)
    have e := l_margin (h.p _ (getD_mem (d := p0) hi)) hu (h.l _ (getD_mem (L := L) (d := 0) (by rw [h.ll]; exact hi))) (h.w _ (getD_mem (L := W) (d := 0) (by rw [h.lw]; exact hi)))
    subst hρ
    refine ⟨_, bindP_n _ _ _, rfl, ?_⟩
    rw [Nat.zero_add, Int.zero_add]
    simp -implicitDefEqProofs only [callM, sSeq_ap, thn_nx, thn_ret, thn_ex, thn_brk, thn_cont, sNx_ap, sBrk_ap, sCont_ap, sSet_ap, sSetB_ap, sRet_ap, sRetN_ap, sDrop_ap, sIf_ap, sNew_ap, sPat_ap, sPar_ap, sRaise_ap, sFor_ap, sWhile_ap, sAug_ap, sApp_ap, ownL_ap, eN_ap, eC_ap, e1_ap, e2_ap, aL_nil, aL_cons, eT_ap, eL_ap, eB_ap, eF_ap, eIf_ap, eAnd_ap, eOr_ap, eNot_ap, eCh_ap, tV_ap, tAnd_ap, tOr_ap, tNot_ap, pN_ap, pS_ap, eSl_ap, iD_ap, iR1_ap, iR2_ap, iZ_ap, iE_ap, eNew_ap, eLc_ap, tTrue_ap, bindP_n, bindP_tt, bindP_tl, bindPs_nil, bindPs_cons, bind_ok, bind_ex, ofE_ok, ofE_ex, optE_some, truD_bool, isBool_bool, isInt_int, addD_int, subD_int, negD_int, ltD_int, leD_int, gtD_int, geD_int, intD_int, absD_int, lenD_tuple, lenD_list, tupleD_list, tupleD_tuple, itemsD_list, itemsD_tuple, eqD_int, neD_int, atD_tuple, atD_list, List.getElem?_cons_zero, List.getElem?_cons_succ, List.set_cons_zero, List.set_cons_succ, List.length_cons, List.length_nil, List.map_cons, List.map_nil, List.replicate, List.cons_append, List.nil_append, Option.bind_some, Option.bind_none, Option.map_some, Nat.reduceAdd, Nat.reduceSub, if_true, if_false, decide_true, decide_false, Bool.not_true, Bool.not_false, Bool.false_eq_true, reduceIte, Nat.reduceEqDiff, Nat.zero_add, Int.cast_ofNat_Int, Int.reduceEq, Int.reduceLT, Int.reduceLE, Int.reduceAdd, Int.reduceSub, Int.reduceMul, Int.reduceNeg, Nat.reduceLT, Nat.reduceLeDiff, Int.reduceToNat, Int.zero_add, ne_eq, isi_tuple_none, isi_tuple_bool, isi_tuple_int, isi_tuple_str, isi_tuple_list, isi_tuple_tuple, isi_tuple_dict, isi_int_none, isi_int_bool, isi_int_int, isi_int_str, isi_int_list, isi_int_tuple, isi_int_dict, isi_bool_none, isi_bool_bool, isi_bool_int, isi_bool_str, isi_bool_list, isi_bool_tuple, isi_bool_dict, isi_str_none, isi_str_bool, isi_str_int, isi_str_str, isi_str_list, isi_str_tuple, isi_str_dict, isi_list_none, isi_list_bool, isi_list_int, isi_list_str, isi_list_list, isi_list_tuple, isi_list_dict, isi_dict_none, isi_dict_bool, isi_dict_int, isi_dict_str, isi_dict_list, isi_dict_tuple, isi_dict_dict, atI0, atI1, atI2, atI3, atI4, atI5, pow1018, eqD_str, neD_str, eqD_bool, isD_none, isnD_none, isNone_none, isNone_tuple, isNone_int, isD_bool, isnD_bool, sz0, sz1, sz2, sz3, sz4, sz5, sz6, sz7, sz8, sz9, maxD_int, minD_int, sNewB_ap, sCatO_ap, sAugIx_ap, listOf_list, listOf_tuple, enumF_nil, enumF_cons, iZq_ap, iZ3_ap, iR3_ap, a1, a2, a3, e])
  have lc2 := lc _ rfl
  rw [lcO_all (fun _ _ => rfl), intsD_len] at lc2
  have e2 : ((List.range P.length).map fun i => Rq (mgn (P.getD (0 + i) p0) u (L.getD (0 + i) 0) (W.getD (0 + i) 0))) = (MT P L W u).map Rq := by
    unfold MT
    rw [List.map_map]
    apply List.map_congr_left
    intro i _
    rw [Nat.zero_add]
    rfl
  have lc2 : lcM (.n 4) tTrue (eF m_law_margin [(Z.e2 atD (eN 0) (eN 4)), (eN 1), (Z.e2 atD (eN 2) (eN 4)), (Z.e2 atD (eN 3) (eN 4))]) [some (psD P), some (guD u), some (lsD L), some (wsD W), none] (intsD 0 P.length) = .ok ((List.range P.length).map fun i => Rq (mgn (P.getD (0 + i) p0) u (L.getD (0 + i) 0) (W.getD (0 + i) 0))) := lc2
  rw [e2] at lc2
  have hn := h.n4
  have ln : lenD [psD P] = some (.int (P.length : Int)) := by unfold psD; rw [lenD_tuple, List.length_map]
  have rg := rng1D_nat (n := P.length) (by omega)
  have hz : (intsD 0 P.length).length ≤ 1000000 := by rw [intsD_len]; omega
  generalize intsD 0 P.length = II at *
  unfold m_law_margins b_law_margins
  simp -implicitDefEqProofs only [callM, sSeq_ap, thn_nx, thn_ret, thn_ex, thn_brk, thn_cont, sNx_ap, sBrk_ap, sCont_ap, sSet_ap, sSetB_ap, sRet_ap, sRetN_ap, sDrop_ap, sIf_ap, sNew_ap, sPat_ap, sPar_ap, sRaise_ap, sFor_ap, sWhile_ap, sAug_ap, sApp_ap, ownL_ap, eN_ap, eC_ap, e1_ap, e2_ap, aL_nil, aL_cons, eT_ap, eL_ap, eB_ap, eF_ap, eIf_ap, eAnd_ap, eOr_ap, eNot_ap, eCh_ap, tV_ap, tAnd_ap, tOr_ap, tNot_ap, pN_ap, pS_ap, eSl_ap, iD_ap, iR1_ap, iR2_ap, iZ_ap, iE_ap, eNew_ap, eLc_ap, tTrue_ap, bindP_n, bindP_tt, bindP_tl, bindPs_nil, bindPs_cons, bind_ok, bind_ex, ofE_ok, ofE_ex, optE_some, truD_bool, isBool_bool, isInt_int, addD_int, subD_int, negD_int, ltD_int, leD_int, gtD_int, geD_int, intD_int, absD_int, lenD_tuple, lenD_list, tupleD_list, tupleD_tuple, itemsD_list, itemsD_tuple, eqD_int, neD_int, atD_tuple, atD_list, List.getElem?_cons_zero, List.getElem?_cons_succ, List.set_cons_zero, List.set_cons_succ, List.length_cons, List.length_nil, List.map_cons, List.map_nil, List.replicate, List.cons_append, List.nil_append, Option.bind_some, Option.bind_none, Option.map_some, Nat.reduceAdd, Nat.reduceSub, if_true, if_false, decide_true, decide_false, Bool.not_true, Bool.not_false, Bool.false_eq_true, reduceIte, Nat.reduceEqDiff, Nat.zero_add, Int.cast_ofNat_Int, Int.reduceEq, Int.reduceLT, Int.reduceLE, Int.reduceAdd, Int.reduceSub, Int.reduceMul, Int.reduceNeg, Nat.reduceLT, Nat.reduceLeDiff, Int.reduceToNat, Int.zero_add, ne_eq, isi_tuple_none, isi_tuple_bool, isi_tuple_int, isi_tuple_str, isi_tuple_list, isi_tuple_tuple, isi_tuple_dict, isi_int_none, isi_int_bool, isi_int_int, isi_int_str, isi_int_list, isi_int_tuple, isi_int_dict, isi_bool_none, isi_bool_bool, isi_bool_int, isi_bool_str, isi_bool_list, isi_bool_tuple, isi_bool_dict, isi_str_none, isi_str_bool, isi_str_int, isi_str_str, isi_str_list, isi_str_tuple, isi_str_dict, isi_list_none, isi_list_bool, isi_list_int, isi_list_str, isi_list_list, isi_list_tuple, isi_list_dict, isi_dict_none, isi_dict_bool, isi_dict_int, isi_dict_str, isi_dict_list, isi_dict_tuple, isi_dict_dict, atI0, atI1, atI2, atI3, atI4, atI5, pow1018, eqD_str, neD_str, eqD_bool, isD_none, isnD_none, isNone_none, isNone_tuple, isNone_int, isD_bool, isnD_bool, sz0, sz1, sz2, sz3, sz4, sz5, sz6, sz7, sz8, sz9, maxD_int, minD_int, sNewB_ap, sCatO_ap, sAugIx_ap, listOf_list, listOf_tuple, enumF_nil, enumF_cons, iZq_ap, iZ3_ap, iR3_ap, ln, rg, wipeR, if_pos hz, lc2]
theorem MT_len (P : List Pa) (L : List Rat) (W : List Int) (u : Gu) : (MT P L W u).length = P.length := by unfold MT; rw [List.length_map, List.length_range]
theorem MT_sz {P : List Pa} {L : List Rat} {W : List Int} (h : SlS P L W) {u : Gu} (hu : GuS u) : ∀ q ∈ MT P L W u, Sq 190 q := fun q hq => by
  obtain ⟨k, hk, rfl⟩ := List.mem_map.mp hq
  have hk := List.mem_range.mp hk
  exact mgn_sz (h.p _ (getD_mem (d := p0) hk)) hu (h.l _ (getD_mem (L := L) (d := 0) (by rw [h.ll]; exact hk))) (h.w _ (getD_mem (L := W) (d := 0) (by rw [h.lw]; exact hk)))
/-! ### the weakest of a row -/
def wk (m : List Rat) : Nat := am (fun k => m.getD k 0) m.length
def wv (m : List Rat) : Rat := m.getD (wk m) 0
def rwD (m : List Rat) : D := .tuple [.int (wk m : Nat), Rq (wv m)]
structure MOk (m : List Rat) : Prop where
  n1 : 1 ≤ m.length
  n4 : m.length ≤ 8
  s : ∀ q ∈ m, Sq 190 q
theorem at_m {m : List Rat} {k : Nat} (h : k < m.length) : atI (m.map Rq) (k : Int) = some (Rq (m.getD k 0)) := at_get (by rw [List.getElem?_map, List.getElem?_eq_getElem h, getD_at h]; rfl)
theorem wk_lt {m : List Rat} (h : MOk m) : wk m < m.length := am_lt _ h.n1
theorem am_lt' (f : Nat → Rat) {n k : Nat} (h : k < n) : am f k < n := by
  by_cases z : k = 0
  · subst z; exact h
  · have := am_lt f (n := k) (by omega); omega
theorem l_below {p q : Rat} {a b : Nat} (hp : Sq a p) (hq : Sq b q) (h : a + b ≤ 3900 := by decide) : m_law_below [Rq p, Rq q] = .ok (.bool (decide (p < q))) := by
  have l := lt_q p q
  unfold m_law_below b_law_below
  simp -implicitDefEqProofs only [callM, sSeq_ap, thn_nx, thn_ret, thn_ex, thn_brk, thn_cont, sNx_ap, sBrk_ap, sCont_ap, sSet_ap, sSetB_ap, sRet_ap, sRetN_ap, sDrop_ap, sIf_ap, sNew_ap, sPat_ap, sPar_ap, sRaise_ap, sFor_ap, sWhile_ap, sAug_ap, sApp_ap, ownL_ap, eN_ap, eC_ap, e1_ap, e2_ap, aL_nil, aL_cons, eT_ap, eL_ap, eB_ap, eF_ap, eIf_ap, eAnd_ap, eOr_ap, eNot_ap, eCh_ap, tV_ap, tAnd_ap, tOr_ap, tNot_ap, pN_ap, pS_ap, eSl_ap, iD_ap, iR1_ap, iR2_ap, iZ_ap, iE_ap, eNew_ap, eLc_ap, tTrue_ap, bindP_n, bindP_tt, bindP_tl, bindPs_nil, bindPs_cons, bind_ok, bind_ex, ofE_ok, ofE_ex, optE_some, truD_bool, isBool_bool, isInt_int, addD_int, subD_int, negD_int, ltD_int, leD_int, gtD_int, geD_int, intD_int, absD_int, lenD_tuple, lenD_list, tupleD_list, tupleD_tuple, itemsD_list, itemsD_tuple, eqD_int, neD_int, atD_tuple, atD_list, List.getElem?_cons_zero, List.getElem?_cons_succ, List.set_cons_zero, List.set_cons_succ, List.length_cons, List.length_nil, List.map_cons, List.map_nil, List.replicate, List.cons_append, List.nil_append, Option.bind_some, Option.bind_none, Option.map_some, Nat.reduceAdd, Nat.reduceSub, if_true, if_false, decide_true, decide_false, Bool.not_true, Bool.not_false, Bool.false_eq_true, reduceIte, Nat.reduceEqDiff, Nat.zero_add, Int.cast_ofNat_Int, Int.reduceEq, Int.reduceLT, Int.reduceLE, Int.reduceAdd, Int.reduceSub, Int.reduceMul, Int.reduceNeg, Nat.reduceLT, Nat.reduceLeDiff, Int.reduceToNat, Int.zero_add, ne_eq, isi_tuple_none, isi_tuple_bool, isi_tuple_int, isi_tuple_str, isi_tuple_list, isi_tuple_tuple, isi_tuple_dict, isi_int_none, isi_int_bool, isi_int_int, isi_int_str, isi_int_list, isi_int_tuple, isi_int_dict, isi_bool_none, isi_bool_bool, isi_bool_int, isi_bool_str, isi_bool_list, isi_bool_tuple, isi_bool_dict, isi_str_none, isi_str_bool, isi_str_int, isi_str_str, isi_str_list, isi_str_tuple, isi_str_dict, isi_list_none, isi_list_bool, isi_list_int, isi_list_str, isi_list_list, isi_list_tuple, isi_list_dict, isi_dict_none, isi_dict_bool, isi_dict_int, isi_dict_str, isi_dict_list, isi_dict_tuple, isi_dict_dict, atI0, atI1, atI2, atI3, atI4, atI5, pow1018, eqD_str, neD_str, eqD_bool, isD_none, isnD_none, isNone_none, isNone_tuple, isNone_int, isD_bool, isnD_bool, sz0, sz1, sz2, sz3, sz4, sz5, sz6, sz7, sz8, sz9, maxD_int, minD_int, sNewB_ap, sCatO_ap, sAugIx_ap, listOf_list, listOf_tuple, enumF_nil, enumF_cons, iZq_ap, iZ3_ap, iR3_ap, Rq0, Rq1, mulD_sm hp.sn hq.sd (by omega), mulD_sm hq.sn hp.sd (by omega), l]
theorem wl_loop {m : List Rat} (h : MOk m) (a b c d : Option D) : ∀ (j k : Nat) (x6 x7 : Option D), k + j = m.length → ∃ y6 y7, forM' (.t [.n 6, .n 7]) b_weakest_part_l1 (enumFrom' k ((m.drop k).map Rq)) [a, b, c, d, some (.tuple (m.map Rq)), some (.int (am (fun k => m.getD k 0) k : Nat)), x6, x7] = .nx [a, b, c, d, some (.tuple (m.map Rq)), some (.int (wk m : Nat)), y6, y7]
  | 0, k, x6, x7, hk => ⟨x6, x7, by
    rw [List.drop_of_length_le (by omega)]
    unfold wk
    rw [show m.length = k by omega]
    rfl⟩
  | j + 1, k, x6, x7, hk => by
    have hlt : k < m.length := by omega
    have hz := am_lt' (fun k => m.getD k 0) hlt
    have s1 := h.s _ (getD_mem (d := 0) hlt)
    have s2 := h.s _ (getD_mem (d := 0) hz)
    have e1 := m_cmp s1 s2
    have e2 := at_m hz
    obtain ⟨y6, y7, ih⟩ := wl_loop h a b c d j (k + 1) (some (.int (k : Int))) (some (Rq (m.getD k 0))) (by omega)
    rw [List.drop_eq_getElem_cons hlt, List.map_cons, enumF_cons, forM_t2, ← getD_at (d := 0) hlt]
    refine ⟨y6, y7, ?_⟩
    rw [← ih]
    generalize forM' (.t [.n 6, .n 7]) b_weakest_part_l1 (enumFrom' (k + 1) ((m.drop (k + 1)).map Rq)) = KK
    by_cases z : m.getD k 0 < m.getD (am (fun k => m.getD k 0) k) 0
    · have ea : am (fun k => m.getD k 0) (k + 1) = k := by conv => lhs; unfold am; rw [if_pos z]
      rw [ea]
      generalize am (fun k => m.getD k 0) k = A at *
      unfold b_weakest_part_l1
      simp -implicitDefEqProofs only [callM, sSeq_ap, thn_nx, thn_ret, thn_ex, thn_brk, thn_cont, sNx_ap, sBrk_ap, sCont_ap, sSet_ap, sSetB_ap, sRet_ap, sRetN_ap, sDrop_ap, sIf_ap, sNew_ap, sPat_ap, sPar_ap, sRaise_ap, sFor_ap, sWhile_ap, sAug_ap, sApp_ap, ownL_ap, eN_ap, eC_ap, e1_ap, e2_ap, aL_nil, aL_cons, eT_ap, eL_ap, eB_ap, eF_ap, eIf_ap, eAnd_ap, eOr_ap, eNot_ap, eCh_ap, tV_ap, tAnd_ap, tOr_ap, tNot_ap, pN_ap, pS_ap, eSl_ap, iD_ap, iR1_ap, iR2_ap, iZ_ap, iE_ap, eNew_ap, eLc_ap, tTrue_ap, bindP_n, bindP_tt, bindP_tl, bindPs_nil, bindPs_cons, bind_ok, bind_ex, ofE_ok, ofE_ex, optE_some, truD_bool, isBool_bool, isInt_int, addD_int, subD_int, negD_int, ltD_int, leD_int, gtD_int, geD_int, intD_int, absD_int, lenD_tuple, lenD_list, tupleD_list, tupleD_tuple, itemsD_list, itemsD_tuple, eqD_int, neD_int, atD_tuple, atD_list, List.getElem?_cons_zero, List.getElem?_cons_succ, List.set_cons_zero, List.set_cons_succ, List.length_cons, List.length_nil, List.map_cons, List.map_nil, List.replicate, List.cons_append, List.nil_append, Option.bind_some, Option.bind_none, Option.map_some, Nat.reduceAdd, Nat.reduceSub, if_true, if_false, decide_true, decide_false, Bool.not_true, Bool.not_false, Bool.false_eq_true, reduceIte, Nat.reduceEqDiff, Nat.zero_add, Int.cast_ofNat_Int, Int.reduceEq, Int.reduceLT, Int.reduceLE, Int.reduceAdd, Int.reduceSub, Int.reduceMul, Int.reduceNeg, Nat.reduceLT, Nat.reduceLeDiff, Int.reduceToNat, Int.zero_add, ne_eq, isi_tuple_none, isi_tuple_bool, isi_tuple_int, isi_tuple_str, isi_tuple_list, isi_tuple_tuple, isi_tuple_dict, isi_int_none, isi_int_bool, isi_int_int, isi_int_str, isi_int_list, isi_int_tuple, isi_int_dict, isi_bool_none, isi_bool_bool, isi_bool_int, isi_bool_str, isi_bool_list, isi_bool_tuple, isi_bool_dict, isi_str_none, isi_str_bool, isi_str_int, isi_str_str, isi_str_list, isi_str_tuple, isi_str_dict, isi_list_none, isi_list_bool, isi_list_int, isi_list_str, isi_list_list, isi_list_tuple, isi_list_dict, isi_dict_none, isi_dict_bool, isi_dict_int, isi_dict_str, isi_dict_list, isi_dict_tuple, isi_dict_dict, atI0, atI1, atI2, atI3, atI4, atI5, pow1018, eqD_str, neD_str, eqD_bool, isD_none, isnD_none, isNone_none, isNone_tuple, isNone_int, isD_bool, isnD_bool, sz0, sz1, sz2, sz3, sz4, sz5, sz6, sz7, sz8, sz9, maxD_int, minD_int, sNewB_ap, sCatO_ap, sAugIx_ap, listOf_list, listOf_tuple, enumF_nil, enumF_cons, iZq_ap, iZ3_ap, iR3_ap, e2, e1, cmp_lt0, decide_eq_true z, lps_nx]
    · have ea : am (fun k => m.getD k 0) (k + 1) = am (fun k => m.getD k 0) k := by conv => lhs; unfold am; rw [if_neg z]
      rw [ea]
      generalize am (fun k => m.getD k 0) k = A at *
      unfold b_weakest_part_l1
      simp -implicitDefEqProofs only [callM, sSeq_ap, thn_nx, thn_ret, thn_ex, thn_brk, thn_cont, sNx_ap, sBrk_ap, sCont_ap, sSet_ap, sSetB_ap, sRet_ap, sRetN_ap, sDrop_ap, sIf_ap, sNew_ap, sPat_ap, sPar_ap, sRaise_ap, sFor_ap, sWhile_ap, sAug_ap, sApp_ap, ownL_ap, eN_ap, eC_ap, e1_ap, e2_ap, aL_nil, aL_cons, eT_ap, eL_ap, eB_ap, eF_ap, eIf_ap, eAnd_ap, eOr_ap, eNot_ap, eCh_ap, tV_ap, tAnd_ap, tOr_ap, tNot_ap, pN_ap, pS_ap, eSl_ap, iD_ap, iR1_ap, iR2_ap, iZ_ap, iE_ap, eNew_ap, eLc_ap, tTrue_ap, bindP_n, bindP_tt, bindP_tl, bindPs_nil, bindPs_cons, bind_ok, bind_ex, ofE_ok, ofE_ex, optE_some, truD_bool, isBool_bool, isInt_int, addD_int, subD_int, negD_int, ltD_int, leD_int, gtD_int, geD_int, intD_int, absD_int, lenD_tuple, lenD_list, tupleD_list, tupleD_tuple, itemsD_list, itemsD_tuple, eqD_int, neD_int, atD_tuple, atD_list, List.getElem?_cons_zero, List.getElem?_cons_succ, List.set_cons_zero, List.set_cons_succ, List.length_cons, List.length_nil, List.map_cons, List.map_nil, List.replicate, List.cons_append, List.nil_append, Option.bind_some, Option.bind_none, Option.map_some, Nat.reduceAdd, Nat.reduceSub, if_true, if_false, decide_true, decide_false, Bool.not_true, Bool.not_false, Bool.false_eq_true, reduceIte, Nat.reduceEqDiff, Nat.zero_add, Int.cast_ofNat_Int, Int.reduceEq, Int.reduceLT, Int.reduceLE, Int.reduceAdd, Int.reduceSub, Int.reduceMul, Int.reduceNeg, Nat.reduceLT, Nat.reduceLeDiff, Int.reduceToNat, Int.zero_add, ne_eq, isi_tuple_none, isi_tuple_bool, isi_tuple_int, isi_tuple_str, isi_tuple_list, isi_tuple_tuple, isi_tuple_dict, isi_int_none, isi_int_bool, isi_int_int, isi_int_str, isi_int_list, isi_int_tuple, isi_int_dict, isi_bool_none, isi_bool_bool, isi_bool_int, isi_bool_str, isi_bool_list, isi_bool_tuple, isi_bool_dict, isi_str_none, isi_str_bool, isi_str_int, isi_str_str, isi_str_list, isi_str_tuple, isi_str_dict, isi_list_none, isi_list_bool, isi_list_int, isi_list_str, isi_list_list, isi_list_tuple, isi_list_dict, isi_dict_none, isi_dict_bool, isi_dict_int, isi_dict_str, isi_dict_list, isi_dict_tuple, isi_dict_dict, atI0, atI1, atI2, atI3, atI4, atI5, pow1018, eqD_str, neD_str, eqD_bool, isD_none, isnD_none, isNone_none, isNone_tuple, isNone_int, isD_bool, isnD_bool, sz0, sz1, sz2, sz3, sz4, sz5, sz6, sz7, sz8, sz9, maxD_int, minD_int, sNewB_ap, sCatO_ap, sAugIx_ap, listOf_list, listOf_tuple, enumF_nil, enumF_cons, iZq_ap, iZ3_ap, iR3_ap, e2, e1, cmp_lt0, decide_eq_false z, lps_nx]
theorem m_weakest {m : List Rat} (h : MOk m) {P U L W : D} (e : m_gust_margins [P, U, L, W] = .ok (.tuple (m.map Rq))) : m_weakest_part [P, U, L, W] = .ok (rwD m) := by
  obtain ⟨y6, y7, e1⟩ := wl_loop h (some P) (some U) (some L) (some W) m.length 0 none none (by omega)
  have e1 : forM' (.t [.n 6, .n 7]) b_weakest_part_l1 (enumFrom' 0 (m.map Rq)) [some P, some U, some L, some W, some (.tuple (m.map Rq)), some (.int 0), none, none] = _ := e1
  have e2 := at_m (wk_lt h)
  unfold m_weakest_part b_weakest_part rwD wv
  simp -implicitDefEqProofs only [callM, sSeq_ap, thn_nx, thn_ret, thn_ex, thn_brk, thn_cont, sNx_ap, sBrk_ap, sCont_ap, sSet_ap, sSetB_ap, sRet_ap, sRetN_ap, sDrop_ap, sIf_ap, sNew_ap, sPat_ap, sPar_ap, sRaise_ap, sFor_ap, sWhile_ap, sAug_ap, sApp_ap, ownL_ap, eN_ap, eC_ap, e1_ap, e2_ap, aL_nil, aL_cons, eT_ap, eL_ap, eB_ap, eF_ap, eIf_ap, eAnd_ap, eOr_ap, eNot_ap, eCh_ap, tV_ap, tAnd_ap, tOr_ap, tNot_ap, pN_ap, pS_ap, eSl_ap, iD_ap, iR1_ap, iR2_ap, iZ_ap, iE_ap, eNew_ap, eLc_ap, tTrue_ap, bindP_n, bindP_tt, bindP_tl, bindPs_nil, bindPs_cons, bind_ok, bind_ex, ofE_ok, ofE_ex, optE_some, truD_bool, isBool_bool, isInt_int, addD_int, subD_int, negD_int, ltD_int, leD_int, gtD_int, geD_int, intD_int, absD_int, lenD_tuple, lenD_list, tupleD_list, tupleD_tuple, itemsD_list, itemsD_tuple, eqD_int, neD_int, atD_tuple, atD_list, List.getElem?_cons_zero, List.getElem?_cons_succ, List.set_cons_zero, List.set_cons_succ, List.length_cons, List.length_nil, List.map_cons, List.map_nil, List.replicate, List.cons_append, List.nil_append, Option.bind_some, Option.bind_none, Option.map_some, Nat.reduceAdd, Nat.reduceSub, if_true, if_false, decide_true, decide_false, Bool.not_true, Bool.not_false, Bool.false_eq_true, reduceIte, Nat.reduceEqDiff, Nat.zero_add, Int.cast_ofNat_Int, Int.reduceEq, Int.reduceLT, Int.reduceLE, Int.reduceAdd, Int.reduceSub, Int.reduceMul, Int.reduceNeg, Nat.reduceLT, Nat.reduceLeDiff, Int.reduceToNat, Int.zero_add, ne_eq, isi_tuple_none, isi_tuple_bool, isi_tuple_int, isi_tuple_str, isi_tuple_list, isi_tuple_tuple, isi_tuple_dict, isi_int_none, isi_int_bool, isi_int_int, isi_int_str, isi_int_list, isi_int_tuple, isi_int_dict, isi_bool_none, isi_bool_bool, isi_bool_int, isi_bool_str, isi_bool_list, isi_bool_tuple, isi_bool_dict, isi_str_none, isi_str_bool, isi_str_int, isi_str_str, isi_str_list, isi_str_tuple, isi_str_dict, isi_list_none, isi_list_bool, isi_list_int, isi_list_str, isi_list_list, isi_list_tuple, isi_list_dict, isi_dict_none, isi_dict_bool, isi_dict_int, isi_dict_str, isi_dict_list, isi_dict_tuple, isi_dict_dict, atI0, atI1, atI2, atI3, atI4, atI5, pow1018, eqD_str, neD_str, eqD_bool, isD_none, isnD_none, isNone_none, isNone_tuple, isNone_int, isD_bool, isnD_bool, sz0, sz1, sz2, sz3, sz4, sz5, sz6, sz7, sz8, sz9, maxD_int, minD_int, sNewB_ap, sCatO_ap, sAugIx_ap, listOf_list, listOf_tuple, enumF_nil, enumF_cons, iZq_ap, iZ3_ap, iR3_ap, e, e1, e2]
theorem lw_loop {m : List Rat} (h : MOk m) : ∀ (j k : Nat) (x2 : Option D), k + j = m.length → ∃ y2, forM' (.n 2) b_law_weakest_l1 (intsD (k : Int) j) [some (.list (m.map Rq)), some (.int (am (fun k => m.getD k 0) k : Nat)), x2] = .nx [some (.list (m.map Rq)), some (.int (wk m : Nat)), y2]
  | 0, k, x2, hk => ⟨x2, by
    unfold wk
    rw [show m.length = k by omega]
    rfl⟩
  | j + 1, k, x2, hk => by
    have hlt : k < m.length := by omega
    have hz := am_lt' (fun k => m.getD k 0) hlt
    have s1 := h.s _ (getD_mem (d := 0) hlt)
    have s2 := h.s _ (getD_mem (d := 0) hz)
    have e1 := l_below s1 s2
    have e2 := at_m hz
    have e3 := at_m hlt
    obtain ⟨y2, ih⟩ := lw_loop h j (k + 1) (some (.int (k : Int))) (by omega)
    rw [intsD_succ, forM_cons]
    refine ⟨y2, ?_⟩
    rw [← ih]
    generalize forM' (.n 2) b_law_weakest_l1 (intsD ((k + 1 : Nat) : Int) j) = KK
    by_cases z : m.getD k 0 < m.getD (am (fun k => m.getD k 0) k) 0
    · have ea : am (fun k => m.getD k 0) (k + 1) = k := by conv => lhs; unfold am; rw [if_pos z]
      rw [ea]
      rw [decide_eq_true z] at e1
      generalize am (fun k => m.getD k 0) k = A at *
      unfold b_law_weakest_l1
      simp -implicitDefEqProofs only [callM, sSeq_ap, thn_nx, thn_ret, thn_ex, thn_brk, thn_cont, sNx_ap, sBrk_ap, sCont_ap, sSet_ap, sSetB_ap, sRet_ap, sRetN_ap, sDrop_ap, sIf_ap, sNew_ap, sPat_ap, sPar_ap, sRaise_ap, sFor_ap, sWhile_ap, sAug_ap, sApp_ap, ownL_ap, eN_ap, eC_ap, e1_ap, e2_ap, aL_nil, aL_cons, eT_ap, eL_ap, eB_ap, eF_ap, eIf_ap, eAnd_ap, eOr_ap, eNot_ap, eCh_ap, tV_ap, tAnd_ap, tOr_ap, tNot_ap, pN_ap, pS_ap, eSl_ap, iD_ap, iR1_ap, iR2_ap, iZ_ap, iE_ap, eNew_ap, eLc_ap, tTrue_ap, bindP_n, bindP_tt, bindP_tl, bindPs_nil, bindPs_cons, bind_ok, bind_ex, ofE_ok, ofE_ex, optE_some, truD_bool, isBool_bool, isInt_int, addD_int, subD_int, negD_int, ltD_int, leD_int, gtD_int, geD_int, intD_int, absD_int, lenD_tuple, lenD_list, tupleD_list, tupleD_tuple, itemsD_list, itemsD_tuple, eqD_int, neD_int, atD_tuple, atD_list, List.getElem?_cons_zero, List.getElem?_cons_succ, List.set_cons_zero, List.set_cons_succ, List.length_cons, List.length_nil, List.map_cons, List.map_nil, List.replicate, List.cons_append, List.nil_append, Option.bind_some, Option.bind_none, Option.map_some, Nat.reduceAdd, Nat.reduceSub, if_true, if_false, decide_true, decide_false, Bool.not_true, Bool.not_false, Bool.false_eq_true, reduceIte, Nat.reduceEqDiff, Nat.zero_add, Int.cast_ofNat_Int, Int.reduceEq, Int.reduceLT, Int.reduceLE, Int.reduceAdd, Int.reduceSub, Int.reduceMul, Int.reduceNeg, Nat.reduceLT, Nat.reduceLeDiff, Int.reduceToNat, Int.zero_add, ne_eq, isi_tuple_none, isi_tuple_bool, isi_tuple_int, isi_tuple_str, isi_tuple_list, isi_tuple_tuple, isi_tuple_dict, isi_int_none, isi_int_bool, isi_int_int, isi_int_str, isi_int_list, isi_int_tuple, isi_int_dict, isi_bool_none, isi_bool_bool, isi_bool_int, isi_bool_str, isi_bool_list, isi_bool_tuple, isi_bool_dict, isi_str_none, isi_str_bool, isi_str_int, isi_str_str, isi_str_list, isi_str_tuple, isi_str_dict, isi_list_none, isi_list_bool, isi_list_int, isi_list_str, isi_list_list, isi_list_tuple, isi_list_dict, isi_dict_none, isi_dict_bool, isi_dict_int, isi_dict_str, isi_dict_list, isi_dict_tuple, isi_dict_dict, atI0, atI1, atI2, atI3, atI4, atI5, pow1018, eqD_str, neD_str, eqD_bool, isD_none, isnD_none, isNone_none, isNone_tuple, isNone_int, isD_bool, isnD_bool, sz0, sz1, sz2, sz3, sz4, sz5, sz6, sz7, sz8, sz9, maxD_int, minD_int, sNewB_ap, sCatO_ap, sAugIx_ap, listOf_list, listOf_tuple, enumF_nil, enumF_cons, iZq_ap, iZ3_ap, iR3_ap, e2, e3, e1, lps_nx]
    · have ea : am (fun k => m.getD k 0) (k + 1) = am (fun k => m.getD k 0) k := by conv => lhs; unfold am; rw [if_neg z]
      rw [ea]
      rw [decide_eq_false z] at e1
      generalize am (fun k => m.getD k 0) k = A at *
      unfold b_law_weakest_l1
      simp -implicitDefEqProofs only [callM, sSeq_ap, thn_nx, thn_ret, thn_ex, thn_brk, thn_cont, sNx_ap, sBrk_ap, sCont_ap, sSet_ap, sSetB_ap, sRet_ap, sRetN_ap, sDrop_ap, sIf_ap, sNew_ap, sPat_ap, sPar_ap, sRaise_ap, sFor_ap, sWhile_ap, sAug_ap, sApp_ap, ownL_ap, eN_ap, eC_ap, e1_ap, e2_ap, aL_nil, aL_cons, eT_ap, eL_ap, eB_ap, eF_ap, eIf_ap, eAnd_ap, eOr_ap, eNot_ap, eCh_ap, tV_ap, tAnd_ap, tOr_ap, tNot_ap, pN_ap, pS_ap, eSl_ap, iD_ap, iR1_ap, iR2_ap, iZ_ap, iE_ap, eNew_ap, eLc_ap, tTrue_ap, bindP_n, bindP_tt, bindP_tl, bindPs_nil, bindPs_cons, bind_ok, bind_ex, ofE_ok, ofE_ex, optE_some, truD_bool, isBool_bool, isInt_int, addD_int, subD_int, negD_int, ltD_int, leD_int, gtD_int, geD_int, intD_int, absD_int, lenD_tuple, lenD_list, tupleD_list, tupleD_tuple, itemsD_list, itemsD_tuple, eqD_int, neD_int, atD_tuple, atD_list, List.getElem?_cons_zero, List.getElem?_cons_succ, List.set_cons_zero, List.set_cons_succ, List.length_cons, List.length_nil, List.map_cons, List.map_nil, List.replicate, List.cons_append, List.nil_append, Option.bind_some, Option.bind_none, Option.map_some, Nat.reduceAdd, Nat.reduceSub, if_true, if_false, decide_true, decide_false, Bool.not_true, Bool.not_false, Bool.false_eq_true, reduceIte, Nat.reduceEqDiff, Nat.zero_add, Int.cast_ofNat_Int, Int.reduceEq, Int.reduceLT, Int.reduceLE, Int.reduceAdd, Int.reduceSub, Int.reduceMul, Int.reduceNeg, Nat.reduceLT, Nat.reduceLeDiff, Int.reduceToNat, Int.zero_add, ne_eq, isi_tuple_none, isi_tuple_bool, isi_tuple_int, isi_tuple_str, isi_tuple_list, isi_tuple_tuple, isi_tuple_dict, isi_int_none, isi_int_bool, isi_int_int, isi_int_str, isi_int_list, isi_int_tuple, isi_int_dict, isi_bool_none, isi_bool_bool, isi_bool_int, isi_bool_str, isi_bool_list, isi_bool_tuple, isi_bool_dict, isi_str_none, isi_str_bool, isi_str_int, isi_str_str, isi_str_list, isi_str_tuple, isi_str_dict, isi_list_none, isi_list_bool, isi_list_int, isi_list_str, isi_list_list, isi_list_tuple, isi_list_dict, isi_dict_none, isi_dict_bool, isi_dict_int, isi_dict_str, isi_dict_list, isi_dict_tuple, isi_dict_dict, atI0, atI1, atI2, atI3, atI4, atI5, pow1018, eqD_str, neD_str, eqD_bool, isD_none, isnD_none, isNone_none, isNone_tuple, isNone_int, isD_bool, isnD_bool, sz0, sz1, sz2, sz3, sz4, sz5, sz6, sz7, sz8, sz9, maxD_int, minD_int, sNewB_ap, sCatO_ap, sAugIx_ap, listOf_list, listOf_tuple, enumF_nil, enumF_cons, iZq_ap, iZ3_ap, iR3_ap, e2, e3, e1, lps_nx]
theorem l_weakest {m : List Rat} (h : MOk m) : m_law_weakest [.list (m.map Rq)] = .ok (rwD m) := by
  obtain ⟨y2, e1⟩ := lw_loop h m.length 0 none (by omega)
  have e1 : forM' (.n 2) b_law_weakest_l1 (intsD 0 m.length) [some (.list (m.map Rq)), some (.int 0), none] = _ := e1
  have e2 := at_m (wk_lt h)
  have hn := h.n4
  have rg := rng1D_nat (n := m.length) (by omega)
  have hl : (m.map Rq).length = m.length := List.length_map ..
  unfold m_law_weakest b_law_weakest rwD wv
  simp -implicitDefEqProofs only [callM, sSeq_ap, thn_nx, thn_ret, thn_ex, thn_brk, thn_cont, sNx_ap, sBrk_ap, sCont_ap, sSet_ap, sSetB_ap, sRet_ap, sRetN_ap, sDrop_ap, sIf_ap, sNew_ap, sPat_ap, sPar_ap, sRaise_ap, sFor_ap, sWhile_ap, sAug_ap, sApp_ap, ownL_ap, eN_ap, eC_ap, e1_ap, e2_ap, aL_nil, aL_cons, eT_ap, eL_ap, eB_ap, eF_ap, eIf_ap, eAnd_ap, eOr_ap, eNot_ap, eCh_ap, tV_ap, tAnd_ap, tOr_ap, tNot_ap, pN_ap, pS_ap, eSl_ap, iD_ap, iR1_ap, iR2_ap, iZ_ap, iE_ap, eNew_ap, eLc_ap, tTrue_ap, bindP_n, bindP_tt, bindP_tl, bindPs_nil, bindPs_cons, bind_ok, bind_ex, ofE_ok, ofE_ex, optE_some, truD_bool, isBool_bool, isInt_int, addD_int, subD_int, negD_int, ltD_int, leD_int, gtD_int, geD_int, intD_int, absD_int, lenD_tuple, lenD_list, tupleD_list, tupleD_tuple, itemsD_list, itemsD_tuple, eqD_int, neD_int, atD_tuple, atD_list, List.getElem?_cons_zero, List.getElem?_cons_succ, List.set_cons_zero, List.set_cons_succ, List.length_cons, List.length_nil, List.map_cons, List.map_nil, List.replicate, List.cons_append, List.nil_append, Option.bind_some, Option.bind_none, Option.map_some, Nat.reduceAdd, Nat.reduceSub, if_true, if_false, decide_true, decide_false, Bool.not_true, Bool.not_false, Bool.false_eq_true, reduceIte, Nat.reduceEqDiff, Nat.zero_add, Int.cast_ofNat_Int, Int.reduceEq, Int.reduceLT, Int.reduceLE, Int.reduceAdd, Int.reduceSub, Int.reduceMul, Int.reduceNeg, Nat.reduceLT, Nat.reduceLeDiff, Int.reduceToNat, Int.zero_add, ne_eq, isi_tuple_none, isi_tuple_bool, isi_tuple_int, isi_tuple_str, isi_tuple_list, isi_tuple_tuple, isi_tuple_dict, isi_int_none, isi_int_bool, isi_int_int, isi_int_str, isi_int_list, isi_int_tuple, isi_int_dict, isi_bool_none, isi_bool_bool, isi_bool_int, isi_bool_str, isi_bool_list, isi_bool_tuple, isi_bool_dict, isi_str_none, isi_str_bool, isi_str_int, isi_str_str, isi_str_list, isi_str_tuple, isi_str_dict, isi_list_none, isi_list_bool, isi_list_int, isi_list_str, isi_list_list, isi_list_tuple, isi_list_dict, isi_dict_none, isi_dict_bool, isi_dict_int, isi_dict_str, isi_dict_list, isi_dict_tuple, isi_dict_dict, atI0, atI1, atI2, atI3, atI4, atI5, pow1018, eqD_str, neD_str, eqD_bool, isD_none, isnD_none, isNone_none, isNone_tuple, isNone_int, isD_bool, isnD_bool, sz0, sz1, sz2, sz3, sz4, sz5, sz6, sz7, sz8, sz9, maxD_int, minD_int, sNewB_ap, sCatO_ap, sAugIx_ap, listOf_list, listOf_tuple, enumF_nil, enumF_cons, iZq_ap, iZ3_ap, iR3_ap, hl, rg, e1, e2]

-- CUT
/-! ### points (laws 28 to 40) -/
abbrev Pt := Rat × Rat
def pt (p : Pt) : D := .tuple [Rq p.1, Rq p.2]
def pts (L : List Pt) : D := .tuple (L.map pt)
structure SP (k : Nat) (p : Pt) : Prop where
  a : Sq k p.1
  b : Sq k p.2
theorem SP.mono {k l : Nat} {p : Pt} (h : SP k p) (e : k ≤ l := by decide) : SP l p := ⟨h.a.mono e, h.b.mono e⟩
theorem pt0 (p : Pt) : atD (pt p) (.int 0) = some (Rq p.1) := rfl
theorem pt1 (p : Pt) : atD (pt p) (.int 1) = some (Rq p.2) := rfl
theorem ptp (a b : Rat) : PyData.tuple [Rq a, Rq b] = pt (a, b) := rfl
def cr (u v : Pt) : Rat := u.1 * v.2 - u.2 * v.1
theorem cr_sz {u v : Pt} {a b : Nat} (hu : SP a u) (hv : SP b v) : Sq (a + b + (a + b) + 1) (cr u v) := (hu.a.mul hv.b).sub (hu.b.mul hv.a)
theorem m_crs {u v : Pt} {a b : Nat} (hu : SP a u) (hv : SP b v) (hk : a + b ≤ 900) : m_cross_product [pt u, pt v] = .ok (Rq (cr u v)) := by
  have e1 := m_times hu.a hv.b (by omega)
  have e2 := m_times hu.b hv.a (by omega)
  have e3 := m_take (hu.a.mul hv.b) (hu.b.mul hv.a) (by omega)
  unfold m_cross_product b_cross_product cr
  simp -implicitDefEqProofs only [callM, sSeq_ap, thn_nx, thn_ret, thn_ex, thn_brk, thn_cont, sNx_ap, sBrk_ap, sCont_ap, sSet_ap, sSetB_ap, sRet_ap, sRetN_ap, sDrop_ap, sIf_ap, sNew_ap, sPat_ap, sPar_ap, sRaise_ap, sFor_ap, sWhile_ap, sAug_ap, sApp_ap, ownL_ap, eN_ap, eC_ap, e1_ap, e2_ap, aL_nil, aL_cons, eT_ap, eL_ap, eB_ap, eF_ap, eIf_ap, eAnd_ap, eOr_ap, eNot_ap, eCh_ap, tV_ap, tAnd_ap, tOr_ap, tNot_ap, pN_ap, pS_ap, eSl_ap, iD_ap, iR1_ap, iR2_ap, iZ_ap, iE_ap, eNew_ap, eLc_ap, tTrue_ap, bindP_n, bindP_tt, bindP_tl, bindPs_nil, bindPs_cons, bind_ok, bind_ex, ofE_ok, ofE_ex, optE_some, truD_bool, isBool_bool, isInt_int, addD_int, subD_int, negD_int, ltD_int, leD_int, gtD_int, geD_int, intD_int, absD_int, lenD_tuple, lenD_list, tupleD_list, tupleD_tuple, itemsD_list, itemsD_tuple, eqD_int, neD_int, atD_tuple, atD_list, List.getElem?_cons_zero, List.getElem?_cons_succ, List.set_cons_zero, List.set_cons_succ, List.length_cons, List.length_nil, List.map_cons, List.map_nil, List.replicate, List.cons_append, List.nil_append, Option.bind_some, Option.bind_none, Option.map_some, Nat.reduceAdd, Nat.reduceSub, if_true, if_false, decide_true, decide_false, Bool.not_true, Bool.not_false, Bool.false_eq_true, reduceIte, Nat.reduceEqDiff, Nat.zero_add, Int.cast_ofNat_Int, Int.reduceEq, Int.reduceLT, Int.reduceLE, Int.reduceAdd, Int.reduceSub, Int.reduceMul, Int.reduceNeg, Nat.reduceLT, Nat.reduceLeDiff, Int.reduceToNat, Int.zero_add, ne_eq, isi_tuple_none, isi_tuple_bool, isi_tuple_int, isi_tuple_str, isi_tuple_list, isi_tuple_tuple, isi_tuple_dict, isi_int_none, isi_int_bool, isi_int_int, isi_int_str, isi_int_list, isi_int_tuple, isi_int_dict, isi_bool_none, isi_bool_bool, isi_bool_int, isi_bool_str, isi_bool_list, isi_bool_tuple, isi_bool_dict, isi_str_none, isi_str_bool, isi_str_int, isi_str_str, isi_str_list, isi_str_tuple, isi_str_dict, isi_list_none, isi_list_bool, isi_list_int, isi_list_str, isi_list_list, isi_list_tuple, isi_list_dict, isi_dict_none, isi_dict_bool, isi_dict_int, isi_dict_str, isi_dict_list, isi_dict_tuple, isi_dict_dict, atI0, atI1, atI2, atI3, atI4, atI5, pow1018, eqD_str, neD_str, eqD_bool, isD_none, isnD_none, isNone_none, isNone_tuple, isNone_int, isD_bool, isnD_bool, sz0, sz1, sz2, sz3, sz4, sz5, sz6, sz7, sz8, sz9, maxD_int, minD_int, sNewB_ap, sCatO_ap, sAugIx_ap, listOf_list, listOf_tuple, enumF_nil, enumF_cons, iZq_ap, iZ3_ap, iR3_ap, pt0, pt1, e1, e2, e3]
/-! ### the double area -/
def chn : Pt → List Pt → Rat
  | _, [] => 0
  | p, q :: r => cr p q + chn q r
def prv (L : List Pt) (k : Nat) : Pt := if k = 0 then L.getD (L.length - 1) (0, 0) else L.getD (k - 1) (0, 0)
theorem at_pts {L : List Pt} {k : Nat} (h : k < L.length) : atD (pts L) (.int (k : Int)) = some (pt L[k]) := at_get (xs := L.map pt) (by rw [List.getElem?_map, List.getElem?_eq_getElem h]; rfl)
theorem at_prv {L : List Pt} {k : Nat} (h : k < L.length) : atD (pts L) (.int ((k : Int) - 1)) = some (pt (prv L k)) ∧ prv L k ∈ L := by
  unfold prv
  by_cases hk : k = 0
  · subst hk
    rw [if_pos rfl, getD_at (by omega)]
    refine ⟨?_, List.getElem_mem _⟩
    have e : atI (L.map pt) (((0 : Nat) : Int) - 1) = (L.map pt)[L.length - 1]? := by
      show atI (L.map pt) (-1) = _
      unfold atI ixN
      rw [List.length_map, if_neg (by decide), if_pos (by omega)]
      show (L.map pt)[((-1 : Int) + L.length).toNat]? = _
      congr 1
      omega
    show atI (L.map pt) (((0 : Nat) : Int) - 1) = _
    rw [e, List.getElem?_map, List.getElem?_eq_getElem (by omega)]
    rfl
  · rw [if_neg hk, getD_at (by omega)]
    refine ⟨?_, List.getElem_mem _⟩
    rw [show (k : Int) - 1 = ((k - 1 : Nat) : Int) by omega]
    exact at_pts (by omega)
theorem da_loop {L : List Pt} (hs : ∀ p ∈ L, SP 24 p) (hl : L.length ≤ 8) : ∀ (m k : Nat) (t : Rat) (x2 : Option D), k + m = L.length → Sq (98 * k + 1) t → ∃ y2,
    forM' (.n 2) b_double_area_l1 (intsD (k : Int) m) [some (pts L), some (Rq t), x2] = .nx [some (pts L), some (Rq (t + chn (prv L k) (L.drop k))), y2] ∧ Sq (98 * L.length + 1) (t + chn (prv L k) (L.drop k))
  | 0, k, t, x2, hk, hz => by
    refine ⟨x2, ?_, ?_⟩
    · rw [List.drop_of_length_le (by omega)]
      show _ = SR.nx [some (pts L), some (Rq (t + 0)), x2]
      rw [Rat.add_zero]
      rfl
    · rw [List.drop_of_length_le (by omega)]
      show Sq _ (t + 0)
      rw [Rat.add_zero]
      exact hz.mono (by omega)
  | m + 1, k, t, x2, hk, hz => by
    have hlt : k < L.length := by omega
    obtain ⟨e1, hp⟩ := at_prv hlt
    have e2 := at_pts hlt
    have s1 := hs _ hp
    have s2 := hs _ (List.getElem_mem hlt)
    have e3 := m_crs s1 s2 (by decide)
    have cz := cr_sz s1 s2
    have e4 := m_add hz cz (by omega)
    obtain ⟨y2, ih, iz⟩ := da_loop hs hl m (k + 1) (t + cr (prv L k) L[k]) (some (.int (k : Int))) (by omega) ((hz.add cz).mono (by omega))
    have hd : L.drop k = L[k] :: L.drop (k + 1) := List.drop_eq_getElem_cons hlt
    have hp2 : prv L (k + 1) = L[k] := by
      unfold prv
      rw [if_neg (by omega)]
      exact getD_at hlt
    have et : t + chn (prv L k) (L.drop k) = t + cr (prv L k) L[k] + chn (prv L (k + 1)) (L.drop (k + 1)) := by
      rw [hd, hp2]
      show t + (cr (prv L k) L[k] + chn L[k] (L.drop (k + 1))) = _
      rw [Rat.add_assoc]
    rw [et]
    refine ⟨y2, ?_, iz⟩
    rw [intsD_succ, forM_cons, ← ih]
    unfold b_double_area_l1
    simp -implicitDefEqProofs only [callM, sSeq_ap, thn_nx, thn_ret, thn_ex, thn_brk, thn_cont, sNx_ap, sBrk_ap, sCont_ap, sSet_ap, sSetB_ap, sRet_ap, sRetN_ap, sDrop_ap, sIf_ap, sNew_ap, sPat_ap, sPar_ap, sRaise_ap, sFor_ap, sWhile_ap, sAug_ap, sApp_ap, ownL_ap, eN_ap, eC_ap, e1_ap, e2_ap, aL_nil, aL_cons, eT_ap, eL_ap, eB_ap, eF_ap, eIf_ap, eAnd_ap, eOr_ap, eNot_ap, eCh_ap, tV_ap, tAnd_ap, tOr_ap, tNot_ap, pN_ap, pS_ap, eSl_ap, iD_ap, iR1_ap, iR2_ap, iZ_ap, iE_ap, eNew_ap, eLc_ap, tTrue_ap, bindP_n, bindP_tt, bindP_tl, bindPs_nil, bindPs_cons, bind_ok, bind_ex, ofE_ok, ofE_ex, optE_some, truD_bool, isBool_bool, isInt_int, addD_int, subD_int, negD_int, ltD_int, leD_int, gtD_int, geD_int, intD_int, absD_int, lenD_tuple, lenD_list, tupleD_list, tupleD_tuple, itemsD_list, itemsD_tuple, eqD_int, neD_int, atD_tuple, atD_list, List.getElem?_cons_zero, List.getElem?_cons_succ, List.set_cons_zero, List.set_cons_succ, List.length_cons, List.length_nil, List.map_cons, List.map_nil, List.replicate, List.cons_append, List.nil_append, Option.bind_some, Option.bind_none, Option.map_some, Nat.reduceAdd, Nat.reduceSub, if_true, if_false, decide_true, decide_false, Bool.not_true, Bool.not_false, Bool.false_eq_true, reduceIte, Nat.reduceEqDiff, Nat.zero_add, Int.cast_ofNat_Int, Int.reduceEq, Int.reduceLT, Int.reduceLE, Int.reduceAdd, Int.reduceSub, Int.reduceMul, Int.reduceNeg, Nat.reduceLT, Nat.reduceLeDiff, Int.reduceToNat, Int.zero_add, ne_eq, isi_tuple_none, isi_tuple_bool, isi_tuple_int, isi_tuple_str, isi_tuple_list, isi_tuple_tuple, isi_tuple_dict, isi_int_none, isi_int_bool, isi_int_int, isi_int_str, isi_int_list, isi_int_tuple, isi_int_dict, isi_bool_none, isi_bool_bool, isi_bool_int, isi_bool_str, isi_bool_list, isi_bool_tuple, isi_bool_dict, isi_str_none, isi_str_bool, isi_str_int, isi_str_str, isi_str_list, isi_str_tuple, isi_str_dict, isi_list_none, isi_list_bool, isi_list_int, isi_list_str, isi_list_list, isi_list_tuple, isi_list_dict, isi_dict_none, isi_dict_bool, isi_dict_int, isi_dict_str, isi_dict_list, isi_dict_tuple, isi_dict_dict, atI0, atI1, atI2, atI3, atI4, atI5, pow1018, eqD_str, neD_str, eqD_bool, isD_none, isnD_none, isNone_none, isNone_tuple, isNone_int, isD_bool, isnD_bool, sz0, sz1, sz2, sz3, sz4, sz5, sz6, sz7, sz8, sz9, maxD_int, minD_int, sNewB_ap, sCatO_ap, sAugIx_ap, listOf_list, listOf_tuple, enumF_nil, enumF_cons, iZq_ap, iZ3_ap, iR3_ap, e1, e2, e3, e4, lps_nx]
def DA (L : List Pt) : Rat := chn (prv L 0) L
theorem m_da {L : List Pt} (hs : ∀ p ∈ L, SP 24 p) (hl : L.length ≤ 8) : m_double_area [pts L] = .ok (Rq (DA L)) ∧ Sq 785 (DA L) := by
  obtain ⟨y2, e, z⟩ := da_loop hs hl L.length 0 0 none (by omega) ⟨by unfold Sm; decide, by unfold Sm; decide⟩
  rw [List.drop_zero, Rat.zero_add] at e z
  refine ⟨?_, z.mono (by omega)⟩
  have r0 : d_ZERO = Rq 0 := rfl
  have hl2 : lenD [pts L] = some (.int (L.length : Int)) := by unfold pts; rw [lenD_tuple, List.length_map]
  have rg := rng1D_nat (n := L.length) (by omega)
  have e : forM' (.n 2) b_double_area_l1 (intsD 0 L.length) [some (pts L), some (Rq 0), none] = _ := e
  unfold m_double_area b_double_area DA
  simp -implicitDefEqProofs only [callM, sSeq_ap, thn_nx, thn_ret, thn_ex, thn_brk, thn_cont, sNx_ap, sBrk_ap, sCont_ap, sSet_ap, sSetB_ap, sRet_ap, sRetN_ap, sDrop_ap, sIf_ap, sNew_ap, sPat_ap, sPar_ap, sRaise_ap, sFor_ap, sWhile_ap, sAug_ap, sApp_ap, ownL_ap, eN_ap, eC_ap, e1_ap, e2_ap, aL_nil, aL_cons, eT_ap, eL_ap, eB_ap, eF_ap, eIf_ap, eAnd_ap, eOr_ap, eNot_ap, eCh_ap, tV_ap, tAnd_ap, tOr_ap, tNot_ap, pN_ap, pS_ap, eSl_ap, iD_ap, iR1_ap, iR2_ap, iZ_ap, iE_ap, eNew_ap, eLc_ap, tTrue_ap, bindP_n, bindP_tt, bindP_tl, bindPs_nil, bindPs_cons, bind_ok, bind_ex, ofE_ok, ofE_ex, optE_some, truD_bool, isBool_bool, isInt_int, addD_int, subD_int, negD_int, ltD_int, leD_int, gtD_int, geD_int, intD_int, absD_int, lenD_tuple, lenD_list, tupleD_list, tupleD_tuple, itemsD_list, itemsD_tuple, eqD_int, neD_int, atD_tuple, atD_list, List.getElem?_cons_zero, List.getElem?_cons_succ, List.set_cons_zero, List.set_cons_succ, List.length_cons, List.length_nil, List.map_cons, List.map_nil, List.replicate, List.cons_append, List.nil_append, Option.bind_some, Option.bind_none, Option.map_some, Nat.reduceAdd, Nat.reduceSub, if_true, if_false, decide_true, decide_false, Bool.not_true, Bool.not_false, Bool.false_eq_true, reduceIte, Nat.reduceEqDiff, Nat.zero_add, Int.cast_ofNat_Int, Int.reduceEq, Int.reduceLT, Int.reduceLE, Int.reduceAdd, Int.reduceSub, Int.reduceMul, Int.reduceNeg, Nat.reduceLT, Nat.reduceLeDiff, Int.reduceToNat, Int.zero_add, ne_eq, isi_tuple_none, isi_tuple_bool, isi_tuple_int, isi_tuple_str, isi_tuple_list, isi_tuple_tuple, isi_tuple_dict, isi_int_none, isi_int_bool, isi_int_int, isi_int_str, isi_int_list, isi_int_tuple, isi_int_dict, isi_bool_none, isi_bool_bool, isi_bool_int, isi_bool_str, isi_bool_list, isi_bool_tuple, isi_bool_dict, isi_str_none, isi_str_bool, isi_str_int, isi_str_str, isi_str_list, isi_str_tuple, isi_str_dict, isi_list_none, isi_list_bool, isi_list_int, isi_list_str, isi_list_list, isi_list_tuple, isi_list_dict, isi_dict_none, isi_dict_bool, isi_dict_int, isi_dict_str, isi_dict_list, isi_dict_tuple, isi_dict_dict, atI0, atI1, atI2, atI3, atI4, atI5, pow1018, eqD_str, neD_str, eqD_bool, isD_none, isnD_none, isNone_none, isNone_tuple, isNone_int, isD_bool, isnD_bool, sz0, sz1, sz2, sz3, sz4, sz5, sz6, sz7, sz8, sz9, maxD_int, minD_int, sNewB_ap, sCatO_ap, sAugIx_ap, listOf_list, listOf_tuple, enumF_nil, enumF_cons, iZq_ap, iZ3_ap, iR3_ap, r0, hl2, rg, e]
theorem sqH : Sq 2 (1 / 2 : Rat) := ⟨by unfold Sm; decide +kernel, by unfold Sm; decide +kernel⟩
theorem m_parea {L : List Pt} (hs : ∀ p ∈ L, SP 24 p) (hl : L.length ≤ 8) : m_piece_area [pts L] = .ok (Rq (DA L * (1 / 2))) ∧ Sq 787 (DA L * (1 / 2)) := by
  obtain ⟨e1, z1⟩ := m_da hs hl
  have rH : d_HALF = Rq (1 / 2) := by kernel_rfl
  have a1 := m_times z1 sqH
  refine ⟨?_, z1.mul sqH⟩
  unfold m_piece_area b_piece_area
  simp -implicitDefEqProofs only [callM, sSeq_ap, thn_nx, thn_ret, thn_ex, thn_brk, thn_cont, sNx_ap, sBrk_ap, sCont_ap, sSet_ap, sSetB_ap, sRet_ap, sRetN_ap, sDrop_ap, sIf_ap, sNew_ap, sPat_ap, sPar_ap, sRaise_ap, sFor_ap, sWhile_ap, sAug_ap, sApp_ap, ownL_ap, eN_ap, eC_ap, e1_ap, e2_ap, aL_nil, aL_cons, eT_ap, eL_ap, eB_ap, eF_ap, eIf_ap, eAnd_ap, eOr_ap, eNot_ap, eCh_ap, tV_ap, tAnd_ap, tOr_ap, tNot_ap, pN_ap, pS_ap, eSl_ap, iD_ap, iR1_ap, iR2_ap, iZ_ap, iE_ap, eNew_ap, eLc_ap, tTrue_ap, bindP_n, bindP_tt, bindP_tl, bindPs_nil, bindPs_cons, bind_ok, bind_ex, ofE_ok, ofE_ex, optE_some, truD_bool, isBool_bool, isInt_int, addD_int, subD_int, negD_int, ltD_int, leD_int, gtD_int, geD_int, intD_int, absD_int, lenD_tuple, lenD_list, tupleD_list, tupleD_tuple, itemsD_list, itemsD_tuple, eqD_int, neD_int, atD_tuple, atD_list, List.getElem?_cons_zero, List.getElem?_cons_succ, List.set_cons_zero, List.set_cons_succ, List.length_cons, List.length_nil, List.map_cons, List.map_nil, List.replicate, List.cons_append, List.nil_append, Option.bind_some, Option.bind_none, Option.map_some, Nat.reduceAdd, Nat.reduceSub, if_true, if_false, decide_true, decide_false, Bool.not_true, Bool.not_false, Bool.false_eq_true, reduceIte, Nat.reduceEqDiff, Nat.zero_add, Int.cast_ofNat_Int, Int.reduceEq, Int.reduceLT, Int.reduceLE, Int.reduceAdd, Int.reduceSub, Int.reduceMul, Int.reduceNeg, Nat.reduceLT, Nat.reduceLeDiff, Int.reduceToNat, Int.zero_add, ne_eq, isi_tuple_none, isi_tuple_bool, isi_tuple_int, isi_tuple_str, isi_tuple_list, isi_tuple_tuple, isi_tuple_dict, isi_int_none, isi_int_bool, isi_int_int, isi_int_str, isi_int_list, isi_int_tuple, isi_int_dict, isi_bool_none, isi_bool_bool, isi_bool_int, isi_bool_str, isi_bool_list, isi_bool_tuple, isi_bool_dict, isi_str_none, isi_str_bool, isi_str_int, isi_str_str, isi_str_list, isi_str_tuple, isi_str_dict, isi_list_none, isi_list_bool, isi_list_int, isi_list_str, isi_list_list, isi_list_tuple, isi_list_dict, isi_dict_none, isi_dict_bool, isi_dict_int, isi_dict_str, isi_dict_list, isi_dict_tuple, isi_dict_dict, atI0, atI1, atI2, atI3, atI4, atI5, pow1018, eqD_str, neD_str, eqD_bool, isD_none, isnD_none, isNone_none, isNone_tuple, isNone_int, isD_bool, isnD_bool, sz0, sz1, sz2, sz3, sz4, sz5, sz6, sz7, sz8, sz9, maxD_int, minD_int, sNewB_ap, sCatO_ap, sAugIx_ap, listOf_list, listOf_tuple, enumF_nil, enumF_cons, iZq_ap, iZ3_ap, iR3_ap, e1, rH, a1]

/-! ### pieces over a base of whole numbers -/
structure Af where
  x : Rat
  y : Rat
  w : Rat
  h : Rat
structure AfS (a : Af) : Prop where
  w0 : 0 < a.w
  h0 : 0 < a.h
def Af.p (a : Af) (p : IP) : Pt := (a.x + a.w * (p.1 : Rat), a.y + a.h * (p.2 : Rat))
theorem getD_map {α β : Type} {f : α → β} {L : List α} {k : Nat} {d : β} {e : α} (h : k < L.length) : (L.map f).getD k d = f (L.getD k e) := by
  rw [getD_at (by rw [List.length_map]; exact h), getD_at h, List.getElem_map]
def gI (L : List IP) (k : Nat) : IP := L.getD k (0, 0)
def pvI (L : List IP) (k : Nat) : IP := if k = 0 then gI L (L.length - 1) else gI L (k - 1)
/-! ### what is a piece over a base of whole numbers -/
def crI (p q : IP) : Int := p.1 * q.2 - p.2 * q.1
def chI : IP → List IP → Int
  | _, [] => 0
  | p, q :: r => crI p q + chI q r
def DAI (L : List IP) : Int := chI (pvI L 0) L
def lastI : IP → List IP → IP
  | p, [] => p
  | _, q :: r => lastI q r
theorem lastI_at : ∀ (r : List IP) (q : IP), lastI q r = (q :: r).getD r.length (0, 0)
  | [], _ => rfl
  | q' :: r, q => by
    show lastI q' r = (q' :: r).getD r.length (0, 0)
    exact lastI_at r q'
theorem chn_sim (a : Af) : ∀ (r : List IP) (p : IP), chn (a.p p) (r.map a.p) = a.w * a.h * ((chI p r : Int) : Rat) + a.x * a.h * (((lastI p r).2 : Rat) - (p.2 : Rat)) - a.y * a.w * (((lastI p r).1 : Rat) - (p.1 : Rat))
  | [], p => by
    show (0 : Rat) = a.w * a.h * ((0 : Int) : Rat) + a.x * a.h * ((p.2 : Rat) - (p.2 : Rat)) - a.y * a.w * ((p.1 : Rat) - (p.1 : Rat))
    have : ((0 : Int) : Rat) = 0 := rfl
    rw [this]
    grind
  | q :: r, p => by
    show cr (a.p p) (a.p q) + chn (a.p q) (r.map a.p) = a.w * a.h * ((crI p q + chI q r : Int) : Rat) + a.x * a.h * (((lastI q r).2 : Rat) - (p.2 : Rat)) - a.y * a.w * (((lastI q r).1 : Rat) - (p.1 : Rat))
    rw [chn_sim a r q]
    unfold cr Af.p crI
    dsimp only
    simp only [Rat.intCast_add, Rat.intCast_sub, Rat.intCast_mul]
    grind
theorem DA_sim (a : Af) {L : List IP} (h : 1 ≤ L.length) : DA (L.map a.p) = a.w * a.h * ((DAI L : Int) : Rat) := by
  match L, h with
  | q :: r, _ =>
    have e0 : pvI (q :: r) 0 = lastI q r := by
      unfold pvI gI
      rw [if_pos rfl, lastI_at]
      rfl
    have e1 : prv ((q :: r).map a.p) 0 = a.p (lastI q r) := by
      rw [← e0]
      unfold prv pvI gI
      rw [List.length_map, if_pos rfl, if_pos rfl, getD_map (e := (0, 0)) (by simp)]
    unfold DA DAI
    rw [e1, e0, chn_sim]
    show a.w * a.h * ((chI (lastI q r) (q :: r) : Int) : Rat) + a.x * a.h * (((lastI q r).2 : Rat) - ((lastI q r).2 : Rat)) - a.y * a.w * (((lastI q r).1 : Rat) - ((lastI q r).1 : Rat)) = _
    grind
def bas : List (List IP) := [[(0, 0), (1, 0), (1, 1), (0, 1)], [(0, 0), (1, 0), (0, 1)], [(0, 0), (2, 0), (2, 1), (1, 1), (1, 2), (0, 2)], [(0, 1), (1, 0), (2, 0), (3, 1), (3, 2), (2, 3), (1, 3), (0, 2)], [(0, 0), (1, 0), (2, 1), (1, 1)]]
def bkd (k : Nat) : List IP := bas.getD k []
def bar (k : Nat) : Int := ([2, 1, 6, 14, 2] : List Int).getD k 0
theorem bas_ok : ∀ k, k < 5 → DAI (bkd k) = bar k ∧ 3 ≤ (bkd k).length ∧ (bkd k).length ≤ 8 ∧ (∀ p ∈ bkd k, 0 ≤ p.1 ∧ p.1 ≤ 3 ∧ 0 ≤ p.2 ∧ p.2 ≤ 3) := by decide +kernel

def ars (a : Af) (k : Nat) : Rat := a.w * a.h * ((bar k : Int) : Rat) * (1 / 2)
theorem dv_scale (w i d : Int) (hd : d ≠ 0) : dv (w * i) d = dv w d * (i : Rat) := by
  have h : dv w d * dv i 1 = dv (w * i) (d * 1) := dv_mul hd (by decide)
  rw [Int.mul_one] at h
  rw [← h]
  have h1 : dv i 1 = (i : Rat) := by
    have := dv_mulr (x := i) (B := 1) (by decide)
    rw [← this]
    have e : ((1 : Int) : Rat) = 1 := rfl
    rw [e, Rat.mul_one]
  rw [h1]
theorem m_lshape (es : List Int) : ∃ (k : Nat) (a : Af) (es' : List Int), k < 5 ∧ AfS a ∧ (∀ p ∈ bkd k, SP 24 (a.p p)) ∧ Sq 9 (ars a k) ∧ m_law_shape [.list (es.map PyData.int)] = .ok (.tuple [.tuple [pts ((bkd k).map a.p), Rq (ars a k)], .list (es'.map PyData.int)]) := by
  obtain ⟨k, es1, k0, k1, tk1⟩ := m_tk es (many := 5) (by decide)
  obtain ⟨x, es2, x0, x1, tk2⟩ := m_tk es1 (many := 21) (by decide)
  obtain ⟨y, es3, y0, y1, tk3⟩ := m_tk es2 (many := 21) (by decide)
  obtain ⟨w, es4, w0, w1, tk4⟩ := m_tk es3 (many := 6) (by decide)
  obtain ⟨h, es5, h0, h1, tk5⟩ := m_tk es4 (many := 6) (by decide)
  obtain ⟨d, es6, d0, d1, tk6⟩ := m_tk es5 (many := 3) (by decide)
  obtain ⟨k, rfl⟩ := Int.eq_ofNat_of_zero_le k0
  have hk : k < 5 := by omega
  obtain ⟨_, _, b8, bp⟩ := bas_ok k hk
  have bb : 1 ≤ bar k ∧ bar k ≤ 14 := by
    have : k = 0 ∨ k = 1 ∨ k = 2 ∨ k = 3 ∨ k = 4 := by omega
    rcases this with rfl | rfl | rfl | rfl | rfl <;> decide
  have hd : 1 + d ≠ 0 := by omega
  have hdp : 0 < 1 + d := by omega
  generalize hX : x - 10 = X at *
  generalize hY : y - 10 = Y at *
  generalize hW : 1 + w = W at *
  generalize hH : 1 + h = H at *
  generalize hDd : 1 + d = d' at *
  have sX : Sm 5 X := by unfold Sm; omega
  have sY : Sm 5 Y := by unfold Sm; omega
  have sW : Sm 5 W := by unfold Sm; omega
  have sH : Sm 5 H := by unfold Sm; omega
  have sd : Sm 5 d' := by unfold Sm; omega
  have sB : Sm 5 (bar k) := by unfold Sm; omega
  have pos : ∀ n : Int, 0 < n → 0 < dv n d' := fun n hn => by
    have := dv_lt (x := 0) (y := n) hdp
    have z : dv 0 d' = 0 := by
      have q := dv_mulr (x := 0) hd
      have dz : ((d' : Int) : Rat) ≠ 0 := by exact_mod_cast hd
      have q : dv 0 d' * (d' : Rat) = 0 := q
      rcases Rat.mul_eq_zero.mp q with q | q
      · exact q
      · exact absurd q dz
    rw [z] at this
    rw [this]
    exact hn
  have key : ∀ (u v i : Int), Sm 5 u → Sm 5 v → 0 ≤ i ∧ i ≤ 3 → m_law_low [.int (u + v * i), .int d'] = .ok (Rq (dv u d' + dv v d' * (i : Rat))) ∧ Sq 24 (dv u d' + dv v d' * (i : Rat)) := fun u v i hu hv hi => by
    have e := m_llow (n := u + v * i) (d := d') hd (sd.mono (by decide))
    rw [← dv_add hd, dv_scale _ _ _ hd] at e
    refine ⟨e, ?_⟩
    have s1 : Sq 5 (dv u d') := Sq.dv hd hu sd
    have s2 : Sq 11 (dv (v * i) d') := Sq.dv hd ((hv.mul (show Sm 5 i by unfold Sm; omega)).mono (by decide)) (sd.mono (by decide))
    rw [dv_scale _ _ _ hd] at s2
    exact (s1.add s2).mono (by decide)
  obtain ⟨a, ha⟩ : ∃ a : Af, a = ⟨dv X d', dv Y d', dv W d', dv H d'⟩ := ⟨_, rfl⟩
  have hA : AfS a := by
    rw [ha]
    exact ⟨pos W (by omega), pos H (by omega)⟩
  have hsp : ∀ p ∈ bkd k, SP 24 (a.p p) := fun p hp => by
    obtain ⟨i0, i1, j0, j1⟩ := bp p hp
    rw [ha]
    exact ⟨(key X W p.1 sX sW ⟨i0, i1⟩).2, (key Y H p.2 sY sH ⟨j0, j1⟩).2⟩
  have m1 := mulD_sm sB sW (by decide)
  have m2 := mulD_sm ((sB.mul sW).mono (by decide) : Sm 10 _) sH (by decide)
  have m3 := mulD_sm (show Sm 5 (2 : Int) by unfold Sm; decide) sd (by decide)
  have m4 := mulD_sm (((show Sm 5 (2 : Int) by unfold Sm; decide).mul sd).mono (by decide) : Sm 10 _) sd (by decide)
  have hd2 : 2 * d' * d' ≠ 0 := Int.mul_ne_zero (Int.mul_ne_zero (by decide) hd) hd
  have ea := m_llow (n := bar k * W * H) (d := 2 * d' * d') hd2 (by
    have := (((show Sm 5 (2 : Int) by unfold Sm; decide).mul sd).mul sd)
    exact this.mono (by decide))
  have er : dv (bar k * W * H) (2 * d' * d') = ars a k := by
    have q1 := dv_mul (x := W) (y := H) hd hd
    have q2 := dv_mul (x := W * H) (y := bar k) (B := d' * d') (C := 2) (Int.mul_ne_zero hd hd) (by decide)
    have q3 : dv (bar k) 2 = ((bar k : Int) : Rat) * (1 / 2) := by
      have := dv_mulr (x := bar k) (B := 2) (by decide)
      have t : ((2 : Int) : Rat) = 2 := rfl
      rw [t] at this
      rw [← this]
      grind
    unfold ars
    rw [ha]
    dsimp only
    rw [Rat.mul_assoc, ← q3, q1, q2]
    congr 1
    · rw [Int.mul_comm (W * H), Int.mul_assoc]
    · rw [Int.mul_comm (d' * d'), Int.mul_assoc]
  have hs : Sq 9 (ars a k) := by
    rw [← er]
    refine Sq.dv hd2 ?_ ?_
    · have q1 : 0 ≤ bar k * W := Int.mul_nonneg (by omega) (by omega)
      have q2 : bar k * W ≤ 14 * 6 := Int.mul_le_mul (by omega) (by omega) (by omega) (by decide)
      have q3 : 0 ≤ bar k * W * H := Int.mul_nonneg q1 (by omega)
      have q4 : bar k * W * H ≤ 14 * 6 * 6 := Int.mul_le_mul q2 (by omega) (by omega) (by decide)
      unfold Sm
      omega
    · have : d' = 1 ∨ d' = 2 ∨ d' = 3 := by omega
      rcases this with rfl | rfl | rfl <;> (unfold Sm; decide)
  rw [er] at ea
  refine ⟨k, a, es6, hk, hA, hsp, hs, ?_⟩
  have ac : atI ([.list [.tuple [.int 0, .int 0], .tuple [.int 1, .int 0], .tuple [.int 1, .int 1], .tuple [.int 0, .int 1]], .list [.tuple [.int 0, .int 0], .tuple [.int 1, .int 0], .tuple [.int 0, .int 1]], .list [.tuple [.int 0, .int 0], .tuple [.int 2, .int 0], .tuple [.int 2, .int 1], .tuple [.int 1, .int 1], .tuple [.int 1, .int 2], .tuple [.int 0, .int 2]], .list [.tuple [.int 0, .int 1], .tuple [.int 1, .int 0], .tuple [.int 2, .int 0], .tuple [.int 3, .int 1], .tuple [.int 3, .int 2], .tuple [.int 2, .int 3], .tuple [.int 1, .int 3], .tuple [.int 0, .int 2]], .list [.tuple [.int 0, .int 0], .tuple [.int 1, .int 0], .tuple [.int 2, .int 1], .tuple [.int 1, .int 1]]] : List D) (k : Int) = some (.list ((bkd k).map ipD)) := by
    have : k = 0 ∨ k = 1 ∨ k = 2 ∨ k = 3 ∨ k = 4 := by omega
    rcases this with rfl | rfl | rfl | rfl | rfl <;> rfl
  have ab : atI ([.int 2, .int 1, .int 6, .int 14, .int 2] : List D) (k : Int) = some (.int (bar k)) := by
    have : k = 0 ∨ k = 1 ∨ k = 2 ∨ k = 3 ∨ k = 4 := by omega
    rcases this with rfl | rfl | rfl | rfl | rfl <;> rfl
  have lc := lcM_map (p := .t [.n 9, .n 10]) (m := eT [(eF m_law_low [(e2 addD (eN 3) (e2 mulD (eN 5) (eN 9))), (eN 7)]), (eF m_law_low [(e2 addD (eN 4) (e2 mulD (eN 6) (eN 10))), (eN 7)])]) (ρ0 := [some (.list (es6.map PyData.int)), some (.list [.list [.tuple [.int 0, .int 0], .tuple [.int 1, .int 0], .tuple [.int 1, .int 1], .tuple [.int 0, .int 1]], .list [.tuple [.int 0, .int 0], .tuple [.int 1, .int 0], .tuple [.int 0, .int 1]], .list [.tuple [.int 0, .int 0], .tuple [.int 2, .int 0], .tuple [.int 2, .int 1], .tuple [.int 1, .int 1], .tuple [.int 1, .int 2], .tuple [.int 0, .int 2]], .list [.tuple [.int 0, .int 1], .tuple [.int 1, .int 0], .tuple [.int 2, .int 0], .tuple [.int 3, .int 1], .tuple [.int 3, .int 2], .tuple [.int 2, .int 3], .tuple [.int 1, .int 3], .tuple [.int 0, .int 2]], .list [.tuple [.int 0, .int 0], .tuple [.int 1, .int 0], .tuple [.int 2, .int 1], .tuple [.int 1, .int 1]]]), some (.int (k : Int)), some (.int X), some (.int Y), some (.int W), some (.int H), some (.int d'), none, none, none]) (f := ipD) (g := fun p => pt (a.p p)) (bkd k) (fun p hp => by
    obtain ⟨i0, i1, j0, j1⟩ := bp p hp
    refine ⟨[some (.list (es6.map PyData.int)), some (.list [.list [.tuple [.int 0, .int 0], .tuple [.int 1, .int 0], .tuple [.int 1, .int 1], .tuple [.int 0, .int 1]], .list [.tuple [.int 0, .int 0], .tuple [.int 1, .int 0], .tuple [.int 0, .int 1]], .list [.tuple [.int 0, .int 0], .tuple [.int 2, .int 0], .tuple [.int 2, .int 1], .tuple [.int 1, .int 1], .tuple [.int 1, .int 2], .tuple [.int 0, .int 2]], .list [.tuple [.int 0, .int 1], .tuple [.int 1, .int 0], .tuple [.int 2, .int 0], .tuple [.int 3, .int 1], .tuple [.int 3, .int 2], .tuple [.int 2, .int 3], .tuple [.int 1, .int 3], .tuple [.int 0, .int 2]], .list [.tuple [.int 0, .int 0], .tuple [.int 1, .int 0], .tuple [.int 2, .int 1], .tuple [.int 1, .int 1]]]), some (.int (k : Int)), some (.int X), some (.int Y), some (.int W), some (.int H), some (.int d'), none, some (.int p.1), some (.int p.2)], rfl, ?_⟩
    have c1 := (key X W p.1 sX sW ⟨i0, i1⟩).1
    have c2 := (key Y H p.2 sY sH ⟨j0, j1⟩).1
    have n1 := mulD_sm sW (show Sm 5 p.1 by unfold Sm; omega) (by decide)
    have n2 := mulD_sm sH (show Sm 5 p.2 by unfold Sm; omega) (by decide)
    have ep : pt (a.p p) = .tuple [Rq (dv X d' + dv W d' * (p.1 : Rat)), Rq (dv Y d' + dv H d' * (p.2 : Rat))] := by rw [ha]; rfl
    rw [ep]
    simp -implicitDefEqProofs only [callM, sSeq_ap, thn_nx, thn_ret, thn_ex, thn_brk, thn_cont, sNx_ap, sBrk_ap, sCont_ap, sSet_ap, sSetB_ap, sRet_ap, sRetN_ap, sDrop_ap, sIf_ap, sNew_ap, sPat_ap, sPar_ap, sRaise_ap, sFor_ap, sWhile_ap, sAug_ap, sApp_ap, ownL_ap, eN_ap, eC_ap, e1_ap, e2_ap, aL_nil, aL_cons, eT_ap, eL_ap, eB_ap, eF_ap, eIf_ap, eAnd_ap, eOr_ap, eNot_ap, eCh_ap, tV_ap, tAnd_ap, tOr_ap, tNot_ap, pN_ap, pS_ap, eSl_ap, iD_ap, iR1_ap, iR2_ap, iZ_ap, iE_ap, eNew_ap, eLc_ap, tTrue_ap, bindP_n, bindP_tt, bindP_tl, bindPs_nil, bindPs_cons, bind_ok, bind_ex, ofE_ok, ofE_ex, optE_some, truD_bool, isBool_bool, isInt_int, addD_int, subD_int, negD_int, ltD_int, leD_int, gtD_int, geD_int, intD_int, absD_int, lenD_tuple, lenD_list, tupleD_list, tupleD_tuple, itemsD_list, itemsD_tuple, eqD_int, neD_int, atD_tuple, atD_list, List.getElem?_cons_zero, List.getElem?_cons_succ, List.set_cons_zero, List.set_cons_succ, List.length_cons, List.length_nil, List.map_cons, List.map_nil, List.replicate, List.cons_append, List.nil_append, Option.bind_some, Option.bind_none, Option.map_some, Nat.reduceAdd, Nat.reduceSub, if_true, if_false, decide_true, decide_false, Bool.not_true, Bool.not_false, Bool.false_eq_true, reduceIte, Nat.reduceEqDiff, Nat.zero_add, Int.cast_ofNat_Int, Int.reduceEq, Int.reduceLT, Int.reduceLE, Int.reduceAdd, Int.reduceSub, Int.reduceMul, Int.reduceNeg, Nat.reduceLT, Nat.reduceLeDiff, Int.reduceToNat, Int.zero_add, ne_eq, isi_tuple_none, isi_tuple_bool, isi_tuple_int, isi_tuple_str, isi_tuple_list, isi_tuple_tuple, isi_tuple_dict, isi_int_none, isi_int_bool, isi_int_int, isi_int_str, isi_int_list, isi_int_tuple, isi_int_dict, isi_bool_none, isi_bool_bool, isi_bool_int, isi_bool_str, isi_bool_list, isi_bool_tuple, isi_bool_dict, isi_str_none, isi_str_bool, isi_str_int, isi_str_str, isi_str_list, isi_str_tuple, isi_str_dict, isi_list_none, isi_list_bool, isi_list_int, isi_list_str, isi_list_list, isi_list_tuple, isi_list_dict, isi_dict_none, isi_dict_bool, isi_dict_int, isi_dict_str, isi_dict_list, isi_dict_tuple, isi_dict_dict, atI0, atI1, atI2, atI3, atI4, atI5, pow1018, eqD_str, neD_str, eqD_bool, isD_none, isnD_none, isNone_none, isNone_tuple, isNone_int, isD_bool, isnD_bool, sz0, sz1, sz2, sz3, sz4, sz5, sz6, sz7, sz8, sz9, maxD_int, minD_int, sNewB_ap, sCatO_ap, sAugIx_ap, listOf_list, listOf_tuple, enumF_nil, enumF_cons, iZq_ap, iZ3_ap, iR3_ap, n1, n2, c1, c2])
  have ll : ((bkd k).map ipD).length ≤ 1000000 := by rw [List.length_map]; omega
  have ef : (bkd k).map (fun p => pt (a.p p)) = ((bkd k).map a.p).map pt := by rw [List.map_map]; rfl
  have et : PyData.tuple ((bkd k).map fun p => pt (a.p p)) = pts ((bkd k).map a.p) := by rw [ef]; rfl
  unfold m_law_shape b_law_shape
  generalize List.map (fun p => pt (a.p p)) (bkd k) = PL at *
  generalize List.map ipD (bkd k) = IL at *
  generalize ars a k = AR at *
  simp -implicitDefEqProofs only [callM, sSeq_ap, thn_nx, thn_ret, thn_ex, thn_brk, thn_cont, sNx_ap, sBrk_ap, sCont_ap, sSet_ap, sSetB_ap, sRet_ap, sRetN_ap, sDrop_ap, sIf_ap, sNew_ap, sPat_ap, sPar_ap, sRaise_ap, sFor_ap, sWhile_ap, sAug_ap, sApp_ap, ownL_ap, eN_ap, eC_ap, e1_ap, e2_ap, aL_nil, aL_cons, eT_ap, eL_ap, eB_ap, eF_ap, eIf_ap, eAnd_ap, eOr_ap, eNot_ap, eCh_ap, tV_ap, tAnd_ap, tOr_ap, tNot_ap, pN_ap, pS_ap, eSl_ap, iD_ap, iR1_ap, iR2_ap, iZ_ap, iE_ap, eNew_ap, eLc_ap, tTrue_ap, bindP_n, bindP_tt, bindP_tl, bindPs_nil, bindPs_cons, bind_ok, bind_ex, ofE_ok, ofE_ex, optE_some, truD_bool, isBool_bool, isInt_int, addD_int, subD_int, negD_int, ltD_int, leD_int, gtD_int, geD_int, intD_int, absD_int, lenD_tuple, lenD_list, tupleD_list, tupleD_tuple, itemsD_list, itemsD_tuple, eqD_int, neD_int, atD_tuple, atD_list, List.getElem?_cons_zero, List.getElem?_cons_succ, List.set_cons_zero, List.set_cons_succ, List.length_cons, List.length_nil, List.map_cons, List.map_nil, List.replicate, List.cons_append, List.nil_append, Option.bind_some, Option.bind_none, Option.map_some, Nat.reduceAdd, Nat.reduceSub, if_true, if_false, decide_true, decide_false, Bool.not_true, Bool.not_false, Bool.false_eq_true, reduceIte, Nat.reduceEqDiff, Nat.zero_add, Int.cast_ofNat_Int, Int.reduceEq, Int.reduceLT, Int.reduceLE, Int.reduceAdd, Int.reduceSub, Int.reduceMul, Int.reduceNeg, Nat.reduceLT, Nat.reduceLeDiff, Int.reduceToNat, Int.zero_add, ne_eq, isi_tuple_none, isi_tuple_bool, isi_tuple_int, isi_tuple_str, isi_tuple_list, isi_tuple_tuple, isi_tuple_dict, isi_int_none, isi_int_bool, isi_int_int, isi_int_str, isi_int_list, isi_int_tuple, isi_int_dict, isi_bool_none, isi_bool_bool, isi_bool_int, isi_bool_str, isi_bool_list, isi_bool_tuple, isi_bool_dict, isi_str_none, isi_str_bool, isi_str_int, isi_str_str, isi_str_list, isi_str_tuple, isi_str_dict, isi_list_none, isi_list_bool, isi_list_int, isi_list_str, isi_list_list, isi_list_tuple, isi_list_dict, isi_dict_none, isi_dict_bool, isi_dict_int, isi_dict_str, isi_dict_list, isi_dict_tuple, isi_dict_dict, atI0, atI1, atI2, atI3, atI4, atI5, pow1018, eqD_str, neD_str, eqD_bool, isD_none, isnD_none, isNone_none, isNone_tuple, isNone_int, isD_bool, isnD_bool, sz0, sz1, sz2, sz3, sz4, sz5, sz6, sz7, sz8, sz9, maxD_int, minD_int, sNewB_ap, sCatO_ap, sAugIx_ap, listOf_list, listOf_tuple, enumF_nil, enumF_cons, iZq_ap, iZ3_ap, iR3_ap, callMO, ofX_some, xP_ok, x1_ap, x2_ap, xL_nil, xL_cons, xTu_ap, xLi_ap, xB_ap, xF_ap, pairD_ok, xO_ap, xPop_ap, xV_ap, xAnd_ap, xOr_ap, xNot_ap, xiD_ap, xiR1_ap, xN'_ap, xnL_ap, xLc_ap, sSetX_ap, sPatX_ap, sIfX_ap, sForX_ap, sAppX_ap, sNewX_ap, sRetX_ap, sRetO_ap, sRetF_ap, xLd_ap, xnLd_ap, sSetIxX_ap, nF_ap, listE_ok, mrg_nil, mrg_cons, tk1, tk2, tk3, tk4, tk5, tk6, hX, hY, hW, hH, hDd, ac, ll, wipeR, lc, ab, m1, m2, m3, m4, ea, et]

-- CUT
theorem lcX_all {k : Nat} {p : Pat} {vs : List Nat} {m : EnvD → XR D} {α : Type} (f : α → D) (Pr : α → Prop) (S : List Int → EnvD) : ∀ (ds : List D),
    (∀ d ∈ ds, ∀ es, ∃ (ρ1 : EnvD) (a : α) (es' : List Int) (ρ2 : EnvD), bindP p d (wipeR (S es) vs) = some ρ1 ∧ m ρ1 = some (f a, ρ2) ∧ mrg [k] (S es) ρ2 = S es' ∧ Pr a) →
    ∀ es, ∃ (as : List α) (es' : List Int), as.length = ds.length ∧ (∀ a ∈ as, Pr a) ∧ lcX [k] p vs tTrue m ds (S es) = some (as.map f, S es')
  | [], _, es => ⟨[], es, rfl, fun a h => by simp at h, rfl⟩
  | d :: ds, h, es => by
    obtain ⟨ρ1, a, es1, ρ2, e1, e2, e3, e4⟩ := h d (List.mem_cons_self ..) es
    obtain ⟨as, es2, l, ha, e5⟩ := lcX_all f Pr S ds (fun z hz => h z (List.mem_cons_of_mem _ hz)) es1
    refine ⟨a :: as, es2, by rw [List.length_cons, List.length_cons, l], fun b hb => ?_, ?_⟩
    · rcases List.mem_cons.mp hb with rfl | hb
      · exact e4
      · exact ha b hb
    · unfold lcX
      rw [e1]
      dsimp only [Option.bind_some]
      have et : tTrue ρ1 = .ok true := rfl
      rw [et]
      dsimp only
      rw [e2]
      dsimp only [Option.bind_some]
      rw [e3, e5]
      rfl

/-! ### law 25: the parts -/
theorem lcX_allM {M : List Nat} {p : Pat} {vs : List Nat} {m : EnvD → XR D} {α : Type} (f : α → D) (Pr : α → Prop) (S : List Int → EnvD) : ∀ (ds : List D),
    (∀ d ∈ ds, ∀ es, ∃ (ρ1 : EnvD) (a : α) (es' : List Int) (ρ2 : EnvD), bindP p d (wipeR (S es) vs) = some ρ1 ∧ m ρ1 = some (f a, ρ2) ∧ mrg M (S es) ρ2 = S es' ∧ Pr a) →
    ∀ es, ∃ (as : List α) (es' : List Int), as.length = ds.length ∧ (∀ a ∈ as, Pr a) ∧ lcX M p vs tTrue m ds (S es) = some (as.map f, S es')
  | [], _, es => ⟨[], es, rfl, fun a h => by simp at h, rfl⟩
  | d :: ds, h, es => by
    obtain ⟨ρ1, a, es1, ρ2, e1, e2, e3, e4⟩ := h d (List.mem_cons_self ..) es
    obtain ⟨as, es2, l, ha, e5⟩ := lcX_allM f Pr S ds (fun z hz => h z (List.mem_cons_of_mem _ hz)) es1
    refine ⟨a :: as, es2, by rw [List.length_cons, List.length_cons, l], fun b hb => ?_, ?_⟩
    · rcases List.mem_cons.mp hb with rfl | hb
      · exact e4
      · exact ha b hb
    · unfold lcX
      rw [e1]
      dsimp only [Option.bind_some]
      have et : tTrue ρ1 = .ok true := rfl
      rw [et]
      dsimp only
      rw [e2]
      dsimp only [Option.bind_some]
      rw [e3, e5]
      rfl
theorem CS.of {most : Int} (hm : most ≤ 1000) {c : Cl} (h : ClOk most c) : CS c := by
  have a := h.a
  have b := h.b
  have s := h.s
  exact ⟨by unfold Sm; omega, by unfold Sm; omega, by unfold Sm; omega⟩
theorem lfA_pt : ∀ R : List Pt, lfAll (R.map pt) = true
  | [] => rfl
  | p :: R => by
    show (lf (pt p) && lfAll (R.map pt)) = true
    rw [lfA_pt R]
    rfl
theorem lf_pts (R : List Pt) : lf (pts R) = true := by
  have h := lfA_pt R
  unfold pts
  simpa [lf] using h
theorem lfA_ints : ∀ W : List Int, lfAll (W.map PyData.int) = true
  | [] => rfl
  | x :: W => by
    show (lf (.int x) && lfAll (W.map PyData.int)) = true
    rw [lfA_ints W]
    rfl
theorem lfA_rq : ∀ W : List Rat, lfAll (W.map Rq) = true
  | [] => rfl
  | x :: W => by
    show (lf (Rq x) && lfAll (W.map Rq)) = true
    rw [lfA_rq W]
    rfl
structure Q25 where
  a : Pa
  r : Rat
structure QOk (q : Q25) : Prop where
  a : PaS q.a
  r : Sq 9 q.r
  e : m_piece_area [q.a.pc] = .ok (Rq q.r)
  lf : lf q.a.pc = true
theorem QOk.lfp {q : Q25} (h : QOk q) : Z.lf (paD q.a) = true := by
  have h1 := h.lf
  unfold paD
  have : Z.lf (PyData.tuple [clD q.a.c, q.a.pc, ipD q.a.g]) = (Z.lf (clD q.a.c) && (Z.lf q.a.pc && (Z.lf (ipD q.a.g) && true))) := by simp [Z.lf, lfAll]
  rw [this, h1]
  rfl
def paQ (q : Q25) : D := paD q.a
def arQ (q : Q25) : D := Rq q.r
theorem d25_loop : ∀ (m k : Nat) (es : List Int) (ps : List Q25) (S0 : Option D) (y4 y5 y6 y7 : Option D), (∀ p ∈ ps, QOk p) → ps.length + m ≤ 100 → ∃ (es' : List Int) (ps' : List Q25) (z4 z5 z6 z7 : Option D), (∀ p ∈ ps', QOk p) ∧ ps'.length = ps.length + m ∧
    forM' (.n 4) b_law_l1 (intsD (k : Int) m) [S0, some (.list (es.map PyData.int)), some (.list (ps.map paQ)), some (.list (ps.map arQ)), y4, y5, y6, y7, none, none, none, none, none, none, none, none, none, none, none] = .nx [S0, some (.list (es'.map PyData.int)), some (.list (ps'.map paQ)), some (.list (ps'.map arQ)), z4, z5, z6, z7, none, none, none, none, none, none, none, none, none, none, none]
  | 0, k, es, ps, S0, y4, y5, y6, y7, hp, _ => ⟨es, ps, y4, y5, y6, y7, hp, rfl, rfl⟩
  | m + 1, k, es, ps, S0, y4, y5, y6, y7, hp, hl => by
    obtain ⟨z, es0, hz, e0⟩ := m_lname es
    obtain ⟨c, es1, _, ck, e1⟩ := m_lcloth es0 z (most := 120) (by decide)
    obtain ⟨kk, a, es2, hk, ha, hs, har, e2⟩ := m_lshape es1
    obtain ⟨v, es3, bv, nv, e3⟩ := m_lvec es2
    have bd : Bd 7 v := ⟨by unfold Sm; omega, by unfold Sm; omega⟩
    have e4 := m_lgrain (v := v) ⟨bd.x.mono (by decide), bd.y.mono (by decide)⟩ nv
    have pg := prm_sm nv bd.x bd.y
    have pn : ¬ ((prm v.1 v.2).1 = 0 ∧ (prm v.1 v.2).2 = 0) := fun h => by
      obtain ⟨g1, g2⟩ := gsv_x nv
      rw [h.1, Int.mul_zero] at g1
      rw [h.2, Int.mul_zero] at g2
      exact nv ⟨g1, g2⟩
    obtain ⟨ed, l3, l8, _⟩ := bas_ok kk hk
    have ea : m_piece_area [pts ((bkd kk).map a.p)] = .ok (Rq (ars a kk)) := by
      have m := (m_parea (L := (bkd kk).map a.p) (fun q hq => by
        obtain ⟨r, hr, rfl⟩ := List.mem_map.mp hq
        exact hs r hr) (by rw [List.length_map]; exact l8)).1
      have e := DA_sim a (L := bkd kk) (by omega)
      rw [ed] at e
      rw [e] at m
      exact m
    have ok : QOk ⟨⟨c, pts ((bkd kk).map a.p), prm v.1 v.2⟩, ars a kk⟩ := ⟨⟨CS.of (by decide) ck, ⟨pg.x, pg.y, pn⟩⟩, har, ea, lf_pts _⟩
    obtain ⟨es', ps', z4, z5, z6, z7, h1, h2, ih⟩ := d25_loop m (k + 1) es3 (ps ++ [⟨⟨c, pts ((bkd kk).map a.p), prm v.1 v.2⟩, ars a kk⟩]) S0 (some (.int (k : Int))) (some (clD c)) (some (pts ((bkd kk).map a.p))) (some (Rq (ars a kk))) (fun p hp' => by
      rcases List.mem_append.mp hp' with q | q
      · exact hp p q
      · rw [List.mem_singleton.mp q]; exact ok) (by rw [List.length_append, List.length_singleton]; omega)
    refine ⟨es', ps', z4, z5, z6, z7, h1, by rw [h2, List.length_append, List.length_singleton]; omega, ?_⟩
    have sz : ps.length < sizeLine := sz_lt (by omega)
    have s2 : (ps.map paQ).length < sizeLine := by rw [List.length_map]; exact sz
    have s3 : (ps.map arQ).length < sizeLine := by rw [List.length_map]; exact sz
    rw [intsD_succ, forM_cons, ← ih, List.map_append, List.map_append]
    have k1 : [(⟨⟨c, pts ((bkd kk).map a.p), prm v.1 v.2⟩, ars a kk⟩ : Q25)].map paQ = [.tuple [clD c, pts ((bkd kk).map a.p), ipD (prm v.1 v.2)]] := rfl
    have k2 : [(⟨⟨c, pts ((bkd kk).map a.p), prm v.1 v.2⟩, ars a kk⟩ : Q25)].map arQ = [Rq (ars a kk)] := rfl
    rw [k1, k2]
    have b67 : ∀ (x y : D) (r : EnvD), bindP (.t [.n 6, .n 7]) (.tuple [x, y]) r = some ((r.set 6 (some x)).set 7 (some y)) := fun _ _ _ => rfl
    generalize List.map paQ ps = PL at *
    generalize List.map arQ ps = AL at *
    generalize pts ((bkd kk).map a.p) = PC at *
    generalize Rq (ars a kk) = AR at *
    generalize ipD (prm v.1 v.2) = GR at *
    generalize ipD v = VV at *
    generalize clD c = CC at *
    generalize forM' (.n 4) b_law_l1 (intsD ((k + 1 : Nat) : Int) m) = KK
    unfold b_law_l1
    simp -implicitDefEqProofs only [callM, sSeq_ap, thn_nx, thn_ret, thn_ex, thn_brk, thn_cont, sNx_ap, sBrk_ap, sCont_ap, sSet_ap, sSetB_ap, sRet_ap, sRetN_ap, sDrop_ap, sIf_ap, sNew_ap, sPat_ap, sPar_ap, sRaise_ap, sFor_ap, sWhile_ap, sAug_ap, sApp_ap, ownL_ap, eN_ap, eC_ap, e1_ap, e2_ap, aL_nil, aL_cons, eT_ap, eL_ap, eB_ap, eF_ap, eIf_ap, eAnd_ap, eOr_ap, eNot_ap, eCh_ap, tV_ap, tAnd_ap, tOr_ap, tNot_ap, pN_ap, pS_ap, eSl_ap, iD_ap, iR1_ap, iR2_ap, iZ_ap, iE_ap, eNew_ap, eLc_ap, tTrue_ap, bindP_n, bindP_tt, bindP_tl, bindPs_nil, bindPs_cons, bind_ok, bind_ex, ofE_ok, ofE_ex, optE_some, truD_bool, isBool_bool, isInt_int, addD_int, subD_int, negD_int, ltD_int, leD_int, gtD_int, geD_int, intD_int, absD_int, lenD_tuple, lenD_list, tupleD_list, tupleD_tuple, itemsD_list, itemsD_tuple, eqD_int, neD_int, atD_tuple, atD_list, List.getElem?_cons_zero, List.getElem?_cons_succ, List.set_cons_zero, List.set_cons_succ, List.length_cons, List.length_nil, List.map_cons, List.map_nil, List.replicate, List.cons_append, List.nil_append, Option.bind_some, Option.bind_none, Option.map_some, Nat.reduceAdd, Nat.reduceSub, if_true, if_false, decide_true, decide_false, Bool.not_true, Bool.not_false, Bool.false_eq_true, reduceIte, Nat.reduceEqDiff, Nat.zero_add, Int.cast_ofNat_Int, Int.reduceEq, Int.reduceLT, Int.reduceLE, Int.reduceAdd, Int.reduceSub, Int.reduceMul, Int.reduceNeg, Nat.reduceLT, Nat.reduceLeDiff, Int.reduceToNat, Int.zero_add, ne_eq, isi_tuple_none, isi_tuple_bool, isi_tuple_int, isi_tuple_str, isi_tuple_list, isi_tuple_tuple, isi_tuple_dict, isi_int_none, isi_int_bool, isi_int_int, isi_int_str, isi_int_list, isi_int_tuple, isi_int_dict, isi_bool_none, isi_bool_bool, isi_bool_int, isi_bool_str, isi_bool_list, isi_bool_tuple, isi_bool_dict, isi_str_none, isi_str_bool, isi_str_int, isi_str_str, isi_str_list, isi_str_tuple, isi_str_dict, isi_list_none, isi_list_bool, isi_list_int, isi_list_str, isi_list_list, isi_list_tuple, isi_list_dict, isi_dict_none, isi_dict_bool, isi_dict_int, isi_dict_str, isi_dict_list, isi_dict_tuple, isi_dict_dict, atI0, atI1, atI2, atI3, atI4, atI5, pow1018, eqD_str, neD_str, eqD_bool, isD_none, isnD_none, isNone_none, isNone_tuple, isNone_int, isD_bool, isnD_bool, sz0, sz1, sz2, sz3, sz4, sz5, sz6, sz7, sz8, sz9, maxD_int, minD_int, sNewB_ap, sCatO_ap, sAugIx_ap, listOf_list, listOf_tuple, enumF_nil, enumF_cons, iZq_ap, iZ3_ap, iR3_ap, callMO, ofX_some, xP_ok, x1_ap, x2_ap, xL_nil, xL_cons, xTu_ap, xLi_ap, xB_ap, xF_ap, pairD_ok, xO_ap, xPop_ap, xV_ap, xAnd_ap, xOr_ap, xNot_ap, xiD_ap, xiR1_ap, xN'_ap, xnL_ap, xLc_ap, sSetX_ap, sPatX_ap, sIfX_ap, sForX_ap, sAppX_ap, sNewX_ap, sRetX_ap, sRetO_ap, sRetF_ap, xLd_ap, xnLd_ap, sSetIxX_ap, nF_ap, listE_ok, mrg_nil, mrg_cons, e0, e1, e2, b67, e3, e4, s2, s3, lps_nx]
theorem m_llefts (es : List Int) {A : List Rat} (hA : ∀ r ∈ A, Sq 9 r) (hl : A.length ≤ 100) : ∃ (L : List Rat) (es' : List Int), L.length = A.length ∧ (∀ x ∈ L, Sq 12 x) ∧ m_law_lefts [.list (es.map PyData.int), .list (A.map Rq)] = .ok (.tuple [.tuple (L.map Rq), .list (es'.map PyData.int)]) := by
  obtain ⟨L, es', l1, l2, e⟩ := lcX_all (k := 0) (p := .n 2) (vs := [2]) (m := xF m_law_low [(x2 mulD (xP (e2 atD (eN 2) (eC (.int 0)))) (xO m_law_take 0 [(xP (eC (.int 9)))])), (xP (e2 mulD (e2 atD (eN 2) (eC (.int 1))) (eC (.int 8))))]) Rq (fun x => Sq 12 x) (fun es => [some (.list (es.map PyData.int)), some (.list (A.map Rq)), none]) (A.map Rq) (fun d hd es => by
    obtain ⟨r, hr, rfl⟩ := List.mem_map.mp hd
    have s := hA r hr
    obtain ⟨t, eq, t0, t1, q1⟩ := m_tk es (many := 9) (by decide)
    have sn := s.sn
    have sdn := s.sd
    have s9 : Sm 9 r.num := sn
    have d9 : Sm 9 (r.den : Int) := sdn
    have dpos : (0 : Int) < r.den := den_pos r
    have m1 := mulD_sm s9 (show Sm 4 t by unfold Sm; omega) (by decide)
    have m2 := mulD_sm d9 (show Sm 4 (8 : Int) by unfold Sm; decide) (by decide)
    have nn : Sm 12 (r.num * t) := by
      unfold Sm at s9 ⊢
      have h1 : (r.num * t).natAbs = r.num.natAbs * t.natAbs := Int.natAbs_mul ..
      have h2 : r.num.natAbs * t.natAbs ≤ 511 * 8 := Nat.mul_le_mul (by omega) (by omega)
      omega
    have dd : Sm 12 ((r.den : Int) * 8) := by
      unfold Sm at d9 ⊢
      omega
    have el := m_llow (n := r.num * t) (d := (r.den : Int) * 8) (by omega) (dd.mono (by decide))
    refine ⟨[some (.list (es.map PyData.int)), some (.list (A.map Rq)), some (Rq r)], dv (r.num * t) (r.den * 8), eq, [some (.list (eq.map PyData.int)), some (.list (A.map Rq)), some (Rq r)], rfl, ?_, rfl, Sq.dv (by omega) nn dd⟩
    have r0 := Rq0 r
    have r1 := Rq1 r
    generalize Rq r = RR at *
    generalize A.map Rq = AD at *
    simp -implicitDefEqProofs only [callM, sSeq_ap, thn_nx, thn_ret, thn_ex, thn_brk, thn_cont, sNx_ap, sBrk_ap, sCont_ap, sSet_ap, sSetB_ap, sRet_ap, sRetN_ap, sDrop_ap, sIf_ap, sNew_ap, sPat_ap, sPar_ap, sRaise_ap, sFor_ap, sWhile_ap, sAug_ap, sApp_ap, ownL_ap, eN_ap, eC_ap, e1_ap, e2_ap, aL_nil, aL_cons, eT_ap, eL_ap, eB_ap, eF_ap, eIf_ap, eAnd_ap, eOr_ap, eNot_ap, eCh_ap, tV_ap, tAnd_ap, tOr_ap, tNot_ap, pN_ap, pS_ap, eSl_ap, iD_ap, iR1_ap, iR2_ap, iZ_ap, iE_ap, eNew_ap, eLc_ap, tTrue_ap, bindP_n, bindP_tt, bindP_tl, bindPs_nil, bindPs_cons, bind_ok, bind_ex, ofE_ok, ofE_ex, optE_some, truD_bool, isBool_bool, isInt_int, addD_int, subD_int, negD_int, ltD_int, leD_int, gtD_int, geD_int, intD_int, absD_int, lenD_tuple, lenD_list, tupleD_list, tupleD_tuple, itemsD_list, itemsD_tuple, eqD_int, neD_int, atD_tuple, atD_list, List.getElem?_cons_zero, List.getElem?_cons_succ, List.set_cons_zero, List.set_cons_succ, List.length_cons, List.length_nil, List.map_cons, List.map_nil, List.replicate, List.cons_append, List.nil_append, Option.bind_some, Option.bind_none, Option.map_some, Nat.reduceAdd, Nat.reduceSub, if_true, if_false, decide_true, decide_false, Bool.not_true, Bool.not_false, Bool.false_eq_true, reduceIte, Nat.reduceEqDiff, Nat.zero_add, Int.cast_ofNat_Int, Int.reduceEq, Int.reduceLT, Int.reduceLE, Int.reduceAdd, Int.reduceSub, Int.reduceMul, Int.reduceNeg, Nat.reduceLT, Nat.reduceLeDiff, Int.reduceToNat, Int.zero_add, ne_eq, isi_tuple_none, isi_tuple_bool, isi_tuple_int, isi_tuple_str, isi_tuple_list, isi_tuple_tuple, isi_tuple_dict, isi_int_none, isi_int_bool, isi_int_int, isi_int_str, isi_int_list, isi_int_tuple, isi_int_dict, isi_bool_none, isi_bool_bool, isi_bool_int, isi_bool_str, isi_bool_list, isi_bool_tuple, isi_bool_dict, isi_str_none, isi_str_bool, isi_str_int, isi_str_str, isi_str_list, isi_str_tuple, isi_str_dict, isi_list_none, isi_list_bool, isi_list_int, isi_list_str, isi_list_list, isi_list_tuple, isi_list_dict, isi_dict_none, isi_dict_bool, isi_dict_int, isi_dict_str, isi_dict_list, isi_dict_tuple, isi_dict_dict, atI0, atI1, atI2, atI3, atI4, atI5, pow1018, eqD_str, neD_str, eqD_bool, isD_none, isnD_none, isNone_none, isNone_tuple, isNone_int, isD_bool, isnD_bool, sz0, sz1, sz2, sz3, sz4, sz5, sz6, sz7, sz8, sz9, maxD_int, minD_int, sNewB_ap, sCatO_ap, sAugIx_ap, listOf_list, listOf_tuple, enumF_nil, enumF_cons, iZq_ap, iZ3_ap, iR3_ap, callMO, ofX_some, xP_ok, x1_ap, x2_ap, xL_nil, xL_cons, xTu_ap, xLi_ap, xB_ap, xF_ap, pairD_ok, xO_ap, xPop_ap, xV_ap, xAnd_ap, xOr_ap, xNot_ap, xiD_ap, xiR1_ap, xN'_ap, xnL_ap, xLc_ap, sSetX_ap, sPatX_ap, sIfX_ap, sForX_ap, sAppX_ap, sNewX_ap, sRetX_ap, sRetO_ap, sRetF_ap, xLd_ap, xnLd_ap, sSetIxX_ap, nF_ap, listE_ok, mrg_nil, mrg_cons, xP_ok, r0, r1, q1, m1, m2, el]) es
  rw [List.length_map] at l1
  refine ⟨L, es', l1, l2, ?_⟩
  have it : itemsD (.list (A.map Rq)) = some (A.map Rq) := rfl
  have ll : (A.map Rq).length ≤ 1000000 := by rw [List.length_map]; omega
  generalize A.map Rq = AD at *
  generalize L.map Rq = LD at *
  unfold m_law_lefts b_law_lefts
  simp -implicitDefEqProofs only [callM, sSeq_ap, thn_nx, thn_ret, thn_ex, thn_brk, thn_cont, sNx_ap, sBrk_ap, sCont_ap, sSet_ap, sSetB_ap, sRet_ap, sRetN_ap, sDrop_ap, sIf_ap, sNew_ap, sPat_ap, sPar_ap, sRaise_ap, sFor_ap, sWhile_ap, sAug_ap, sApp_ap, ownL_ap, eN_ap, eC_ap, e1_ap, e2_ap, aL_nil, aL_cons, eT_ap, eL_ap, eB_ap, eF_ap, eIf_ap, eAnd_ap, eOr_ap, eNot_ap, eCh_ap, tV_ap, tAnd_ap, tOr_ap, tNot_ap, pN_ap, pS_ap, eSl_ap, iD_ap, iR1_ap, iR2_ap, iZ_ap, iE_ap, eNew_ap, eLc_ap, tTrue_ap, bindP_n, bindP_tt, bindP_tl, bindPs_nil, bindPs_cons, bind_ok, bind_ex, ofE_ok, ofE_ex, optE_some, truD_bool, isBool_bool, isInt_int, addD_int, subD_int, negD_int, ltD_int, leD_int, gtD_int, geD_int, intD_int, absD_int, lenD_tuple, lenD_list, tupleD_list, tupleD_tuple, itemsD_list, itemsD_tuple, eqD_int, neD_int, atD_tuple, atD_list, List.getElem?_cons_zero, List.getElem?_cons_succ, List.set_cons_zero, List.set_cons_succ, List.length_cons, List.length_nil, List.map_cons, List.map_nil, List.replicate, List.cons_append, List.nil_append, Option.bind_some, Option.bind_none, Option.map_some, Nat.reduceAdd, Nat.reduceSub, if_true, if_false, decide_true, decide_false, Bool.not_true, Bool.not_false, Bool.false_eq_true, reduceIte, Nat.reduceEqDiff, Nat.zero_add, Int.cast_ofNat_Int, Int.reduceEq, Int.reduceLT, Int.reduceLE, Int.reduceAdd, Int.reduceSub, Int.reduceMul, Int.reduceNeg, Nat.reduceLT, Nat.reduceLeDiff, Int.reduceToNat, Int.zero_add, ne_eq, isi_tuple_none, isi_tuple_bool, isi_tuple_int, isi_tuple_str, isi_tuple_list, isi_tuple_tuple, isi_tuple_dict, isi_int_none, isi_int_bool, isi_int_int, isi_int_str, isi_int_list, isi_int_tuple, isi_int_dict, isi_bool_none, isi_bool_bool, isi_bool_int, isi_bool_str, isi_bool_list, isi_bool_tuple, isi_bool_dict, isi_str_none, isi_str_bool, isi_str_int, isi_str_str, isi_str_list, isi_str_tuple, isi_str_dict, isi_list_none, isi_list_bool, isi_list_int, isi_list_str, isi_list_list, isi_list_tuple, isi_list_dict, isi_dict_none, isi_dict_bool, isi_dict_int, isi_dict_str, isi_dict_list, isi_dict_tuple, isi_dict_dict, atI0, atI1, atI2, atI3, atI4, atI5, pow1018, eqD_str, neD_str, eqD_bool, isD_none, isnD_none, isNone_none, isNone_tuple, isNone_int, isD_bool, isnD_bool, sz0, sz1, sz2, sz3, sz4, sz5, sz6, sz7, sz8, sz9, maxD_int, minD_int, sNewB_ap, sCatO_ap, sAugIx_ap, listOf_list, listOf_tuple, enumF_nil, enumF_cons, iZq_ap, iZ3_ap, iR3_ap, callMO, ofX_some, xP_ok, x1_ap, x2_ap, xL_nil, xL_cons, xTu_ap, xLi_ap, xB_ap, xF_ap, pairD_ok, xO_ap, xPop_ap, xV_ap, xAnd_ap, xOr_ap, xNot_ap, xiD_ap, xiR1_ap, xN'_ap, xnL_ap, xLc_ap, sSetX_ap, sPatX_ap, sIfX_ap, sForX_ap, sAppX_ap, sNewX_ap, sRetX_ap, sRetO_ap, sRetF_ap, xLd_ap, xnLd_ap, sSetIxX_ap, nF_ap, listE_ok, mrg_nil, mrg_cons, xP_ok, it, ll, e]
theorem m_gust (es : List Int) : ∃ (u : Gu) (es' : List Int), GuS u ∧ m_law_gust [.list (es.map PyData.int)] = .ok (.tuple [guD u, .list (es'.map PyData.int)]) := by
  obtain ⟨z, es1, hz, e1⟩ := m_lname es
  obtain ⟨v, es3, bv, nv, e3⟩ := m_lvec es1
  have hv : V7 v := ⟨by unfold Sm; omega, by unfold Sm; omega, nv⟩
  obtain ⟨q, es4, q0, q1, e5⟩ := m_tk es3 (many := 9) (by decide)
  obtain ⟨t, es5, t0, t1, e6⟩ := m_tk es4 (many := 5) (by decide)
  have e7 := m_llow (n := t) (d := 4) (by decide) (by unfold Sm; decide)
  refine ⟨⟨z, v, q, dv t 4⟩, es5, ⟨hv, by show Sm 10 q; unfold Sm; omega, show Sq 3 (dv t 4) from Sq.dv (by decide) (by unfold Sm; omega) (by unfold Sm; decide)⟩, ?_⟩
  unfold m_law_gust b_law_gust guD
  dsimp only
  generalize ipD v = VV at *
  generalize Rq (dv t 4) = TT at *
  simp -implicitDefEqProofs only [callM, sSeq_ap, thn_nx, thn_ret, thn_ex, thn_brk, thn_cont, sNx_ap, sBrk_ap, sCont_ap, sSet_ap, sSetB_ap, sRet_ap, sRetN_ap, sDrop_ap, sIf_ap, sNew_ap, sPat_ap, sPar_ap, sRaise_ap, sFor_ap, sWhile_ap, sAug_ap, sApp_ap, ownL_ap, eN_ap, eC_ap, e1_ap, e2_ap, aL_nil, aL_cons, eT_ap, eL_ap, eB_ap, eF_ap, eIf_ap, eAnd_ap, eOr_ap, eNot_ap, eCh_ap, tV_ap, tAnd_ap, tOr_ap, tNot_ap, pN_ap, pS_ap, eSl_ap, iD_ap, iR1_ap, iR2_ap, iZ_ap, iE_ap, eNew_ap, eLc_ap, tTrue_ap, bindP_n, bindP_tt, bindP_tl, bindPs_nil, bindPs_cons, bind_ok, bind_ex, ofE_ok, ofE_ex, optE_some, truD_bool, isBool_bool, isInt_int, addD_int, subD_int, negD_int, ltD_int, leD_int, gtD_int, geD_int, intD_int, absD_int, lenD_tuple, lenD_list, tupleD_list, tupleD_tuple, itemsD_list, itemsD_tuple, eqD_int, neD_int, atD_tuple, atD_list, List.getElem?_cons_zero, List.getElem?_cons_succ, List.set_cons_zero, List.set_cons_succ, List.length_cons, List.length_nil, List.map_cons, List.map_nil, List.replicate, List.cons_append, List.nil_append, Option.bind_some, Option.bind_none, Option.map_some, Nat.reduceAdd, Nat.reduceSub, if_true, if_false, decide_true, decide_false, Bool.not_true, Bool.not_false, Bool.false_eq_true, reduceIte, Nat.reduceEqDiff, Nat.zero_add, Int.cast_ofNat_Int, Int.reduceEq, Int.reduceLT, Int.reduceLE, Int.reduceAdd, Int.reduceSub, Int.reduceMul, Int.reduceNeg, Nat.reduceLT, Nat.reduceLeDiff, Int.reduceToNat, Int.zero_add, ne_eq, isi_tuple_none, isi_tuple_bool, isi_tuple_int, isi_tuple_str, isi_tuple_list, isi_tuple_tuple, isi_tuple_dict, isi_int_none, isi_int_bool, isi_int_int, isi_int_str, isi_int_list, isi_int_tuple, isi_int_dict, isi_bool_none, isi_bool_bool, isi_bool_int, isi_bool_str, isi_bool_list, isi_bool_tuple, isi_bool_dict, isi_str_none, isi_str_bool, isi_str_int, isi_str_str, isi_str_list, isi_str_tuple, isi_str_dict, isi_list_none, isi_list_bool, isi_list_int, isi_list_str, isi_list_list, isi_list_tuple, isi_list_dict, isi_dict_none, isi_dict_bool, isi_dict_int, isi_dict_str, isi_dict_list, isi_dict_tuple, isi_dict_dict, atI0, atI1, atI2, atI3, atI4, atI5, pow1018, eqD_str, neD_str, eqD_bool, isD_none, isnD_none, isNone_none, isNone_tuple, isNone_int, isD_bool, isnD_bool, sz0, sz1, sz2, sz3, sz4, sz5, sz6, sz7, sz8, sz9, maxD_int, minD_int, sNewB_ap, sCatO_ap, sAugIx_ap, listOf_list, listOf_tuple, enumF_nil, enumF_cons, iZq_ap, iZ3_ap, iR3_ap, callMO, ofX_some, xP_ok, x1_ap, x2_ap, xL_nil, xL_cons, xTu_ap, xLi_ap, xB_ap, xF_ap, pairD_ok, xO_ap, xPop_ap, xV_ap, xAnd_ap, xOr_ap, xNot_ap, xiD_ap, xiR1_ap, xN'_ap, xnL_ap, xLc_ap, sSetX_ap, sPatX_ap, sIfX_ap, sForX_ap, sAppX_ap, sNewX_ap, sRetX_ap, sRetO_ap, sRetF_ap, xLd_ap, xnLd_ap, sSetIxX_ap, nF_ap, listE_ok, mrg_nil, mrg_cons, e1, e3, e5, e6, e7]

-- CUT
/-! ### law 25: the checks -/
theorem m_full {ps : List Q25} (hp : ∀ p ∈ ps, QOk p) (hl : ps.length ≤ 8) : m_full_lefts [.tuple (ps.map paQ)] = .ok (.tuple (ps.map arQ)) := by
  have lc := lcM_map (p := .n 1) (m := eF m_piece_area [e2 atD (eN 1) (eC (.int 1))]) (ρ0 := [some (.tuple (ps.map paQ)), none]) (f := paQ) (g := arQ) ps (fun p h => ⟨[some (.tuple (ps.map paQ)), some (paQ p)], rfl, by
    have e := (hp p h).e
    have a1 : atD (paQ p) (.int 1) = some p.a.pc := rfl
    simp -implicitDefEqProofs only [callM, sSeq_ap, thn_nx, thn_ret, thn_ex, thn_brk, thn_cont, sNx_ap, sBrk_ap, sCont_ap, sSet_ap, sSetB_ap, sRet_ap, sRetN_ap, sDrop_ap, sIf_ap, sNew_ap, sPat_ap, sPar_ap, sRaise_ap, sFor_ap, sWhile_ap, sAug_ap, sApp_ap, ownL_ap, eN_ap, eC_ap, e1_ap, e2_ap, aL_nil, aL_cons, eT_ap, eL_ap, eB_ap, eF_ap, eIf_ap, eAnd_ap, eOr_ap, eNot_ap, eCh_ap, tV_ap, tAnd_ap, tOr_ap, tNot_ap, pN_ap, pS_ap, eSl_ap, iD_ap, iR1_ap, iR2_ap, iZ_ap, iE_ap, eNew_ap, eLc_ap, tTrue_ap, bindP_n, bindP_tt, bindP_tl, bindPs_nil, bindPs_cons, bind_ok, bind_ex, ofE_ok, ofE_ex, optE_some, truD_bool, isBool_bool, isInt_int, addD_int, subD_int, negD_int, ltD_int, leD_int, gtD_int, geD_int, intD_int, absD_int, lenD_tuple, lenD_list, tupleD_list, tupleD_tuple, itemsD_list, itemsD_tuple, eqD_int, neD_int, atD_tuple, atD_list, List.getElem?_cons_zero, List.getElem?_cons_succ, List.set_cons_zero, List.set_cons_succ, List.length_cons, List.length_nil, List.map_cons, List.map_nil, List.replicate, List.cons_append, List.nil_append, Option.bind_some, Option.bind_none, Option.map_some, Nat.reduceAdd, Nat.reduceSub, if_true, if_false, decide_true, decide_false, Bool.not_true, Bool.not_false, Bool.false_eq_true, reduceIte, Nat.reduceEqDiff, Nat.zero_add, Int.cast_ofNat_Int, Int.reduceEq, Int.reduceLT, Int.reduceLE, Int.reduceAdd, Int.reduceSub, Int.reduceMul, Int.reduceNeg, Nat.reduceLT, Nat.reduceLeDiff, Int.reduceToNat, Int.zero_add, ne_eq, isi_tuple_none, isi_tuple_bool, isi_tuple_int, isi_tuple_str, isi_tuple_list, isi_tuple_tuple, isi_tuple_dict, isi_int_none, isi_int_bool, isi_int_int, isi_int_str, isi_int_list, isi_int_tuple, isi_int_dict, isi_bool_none, isi_bool_bool, isi_bool_int, isi_bool_str, isi_bool_list, isi_bool_tuple, isi_bool_dict, isi_str_none, isi_str_bool, isi_str_int, isi_str_str, isi_str_list, isi_str_tuple, isi_str_dict, isi_list_none, isi_list_bool, isi_list_int, isi_list_str, isi_list_list, isi_list_tuple, isi_list_dict, isi_dict_none, isi_dict_bool, isi_dict_int, isi_dict_str, isi_dict_list, isi_dict_tuple, isi_dict_dict, atI0, atI1, atI2, atI3, atI4, atI5, pow1018, eqD_str, neD_str, eqD_bool, isD_none, isnD_none, isNone_none, isNone_tuple, isNone_int, isD_bool, isnD_bool, sz0, sz1, sz2, sz3, sz4, sz5, sz6, sz7, sz8, sz9, maxD_int, minD_int, sNewB_ap, sCatO_ap, sAugIx_ap, listOf_list, listOf_tuple, enumF_nil, enumF_cons, iZq_ap, iZ3_ap, iR3_ap, a1, e]
    rfl⟩)
  have ll : (ps.map paQ).length ≤ 1000000 := by rw [List.length_map]; omega
  generalize List.map paQ ps = PA at *
  generalize List.map arQ ps = AR at *
  unfold m_full_lefts b_full_lefts
  simp -implicitDefEqProofs only [callM, sSeq_ap, thn_nx, thn_ret, thn_ex, thn_brk, thn_cont, sNx_ap, sBrk_ap, sCont_ap, sSet_ap, sSetB_ap, sRet_ap, sRetN_ap, sDrop_ap, sIf_ap, sNew_ap, sPat_ap, sPar_ap, sRaise_ap, sFor_ap, sWhile_ap, sAug_ap, sApp_ap, ownL_ap, eN_ap, eC_ap, e1_ap, e2_ap, aL_nil, aL_cons, eT_ap, eL_ap, eB_ap, eF_ap, eIf_ap, eAnd_ap, eOr_ap, eNot_ap, eCh_ap, tV_ap, tAnd_ap, tOr_ap, tNot_ap, pN_ap, pS_ap, eSl_ap, iD_ap, iR1_ap, iR2_ap, iZ_ap, iE_ap, eNew_ap, eLc_ap, tTrue_ap, bindP_n, bindP_tt, bindP_tl, bindPs_nil, bindPs_cons, bind_ok, bind_ex, ofE_ok, ofE_ex, optE_some, truD_bool, isBool_bool, isInt_int, addD_int, subD_int, negD_int, ltD_int, leD_int, gtD_int, geD_int, intD_int, absD_int, lenD_tuple, lenD_list, tupleD_list, tupleD_tuple, itemsD_list, itemsD_tuple, eqD_int, neD_int, atD_tuple, atD_list, List.getElem?_cons_zero, List.getElem?_cons_succ, List.set_cons_zero, List.set_cons_succ, List.length_cons, List.length_nil, List.map_cons, List.map_nil, List.replicate, List.cons_append, List.nil_append, Option.bind_some, Option.bind_none, Option.map_some, Nat.reduceAdd, Nat.reduceSub, if_true, if_false, decide_true, decide_false, Bool.not_true, Bool.not_false, Bool.false_eq_true, reduceIte, Nat.reduceEqDiff, Nat.zero_add, Int.cast_ofNat_Int, Int.reduceEq, Int.reduceLT, Int.reduceLE, Int.reduceAdd, Int.reduceSub, Int.reduceMul, Int.reduceNeg, Nat.reduceLT, Nat.reduceLeDiff, Int.reduceToNat, Int.zero_add, ne_eq, isi_tuple_none, isi_tuple_bool, isi_tuple_int, isi_tuple_str, isi_tuple_list, isi_tuple_tuple, isi_tuple_dict, isi_int_none, isi_int_bool, isi_int_int, isi_int_str, isi_int_list, isi_int_tuple, isi_int_dict, isi_bool_none, isi_bool_bool, isi_bool_int, isi_bool_str, isi_bool_list, isi_bool_tuple, isi_bool_dict, isi_str_none, isi_str_bool, isi_str_int, isi_str_str, isi_str_list, isi_str_tuple, isi_str_dict, isi_list_none, isi_list_bool, isi_list_int, isi_list_str, isi_list_list, isi_list_tuple, isi_list_dict, isi_dict_none, isi_dict_bool, isi_dict_int, isi_dict_str, isi_dict_list, isi_dict_tuple, isi_dict_dict, atI0, atI1, atI2, atI3, atI4, atI5, pow1018, eqD_str, neD_str, eqD_bool, isD_none, isnD_none, isNone_none, isNone_tuple, isNone_int, isD_bool, isnD_bool, sz0, sz1, sz2, sz3, sz4, sz5, sz6, sz7, sz8, sz9, maxD_int, minD_int, sNewB_ap, sCatO_ap, sAugIx_ap, listOf_list, listOf_tuple, enumF_nil, enumF_cons, iZq_ap, iZ3_ap, iR3_ap, ll, wipeR, lc]
def zrs (n : Nat) : List D := List.replicate n (.int 0)
theorem lc_zr {p : Pat} {ρ0 : EnvD} {i : Nat} (h : p = .n i) : ∀ ds : List D, lcM p tTrue (eC (.int 0)) ρ0 ds = .ok (zrs ds.length)
  | [] => rfl
  | d :: ds => by
    subst h
    unfold lcM
    rw [bindP_n]
    dsimp only
    have et : ∀ ρ1, tTrue ρ1 = .ok true := fun _ => rfl
    rw [et]
    have ec : ∀ ρ1, eC (.int 0) ρ1 = .ok (.int 0) := fun _ => rfl
    dsimp only
    rw [ec]
    dsimp only
    rw [lc_zr rfl ds]
    rfl
theorem m_nowear (ds : List D) (hl : ds.length ≤ 100) : m_no_wear [.tuple ds] = .ok (.tuple (zrs ds.length)) := by
  have lc := lc_zr (p := .n 1) (ρ0 := [some (.tuple ds), none]) rfl ds
  have ll : ds.length ≤ 1000000 := by omega
  unfold m_no_wear b_no_wear
  simp -implicitDefEqProofs only [callM, sSeq_ap, thn_nx, thn_ret, thn_ex, thn_brk, thn_cont, sNx_ap, sBrk_ap, sCont_ap, sSet_ap, sSetB_ap, sRet_ap, sRetN_ap, sDrop_ap, sIf_ap, sNew_ap, sPat_ap, sPar_ap, sRaise_ap, sFor_ap, sWhile_ap, sAug_ap, sApp_ap, ownL_ap, eN_ap, eC_ap, e1_ap, e2_ap, aL_nil, aL_cons, eT_ap, eL_ap, eB_ap, eF_ap, eIf_ap, eAnd_ap, eOr_ap, eNot_ap, eCh_ap, tV_ap, tAnd_ap, tOr_ap, tNot_ap, pN_ap, pS_ap, eSl_ap, iD_ap, iR1_ap, iR2_ap, iZ_ap, iE_ap, eNew_ap, eLc_ap, tTrue_ap, bindP_n, bindP_tt, bindP_tl, bindPs_nil, bindPs_cons, bind_ok, bind_ex, ofE_ok, ofE_ex, optE_some, truD_bool, isBool_bool, isInt_int, addD_int, subD_int, negD_int, ltD_int, leD_int, gtD_int, geD_int, intD_int, absD_int, lenD_tuple, lenD_list, tupleD_list, tupleD_tuple, itemsD_list, itemsD_tuple, eqD_int, neD_int, atD_tuple, atD_list, List.getElem?_cons_zero, List.getElem?_cons_succ, List.set_cons_zero, List.set_cons_succ, List.length_cons, List.length_nil, List.map_cons, List.map_nil, List.replicate, List.cons_append, List.nil_append, Option.bind_some, Option.bind_none, Option.map_some, Nat.reduceAdd, Nat.reduceSub, if_true, if_false, decide_true, decide_false, Bool.not_true, Bool.not_false, Bool.false_eq_true, reduceIte, Nat.reduceEqDiff, Nat.zero_add, Int.cast_ofNat_Int, Int.reduceEq, Int.reduceLT, Int.reduceLE, Int.reduceAdd, Int.reduceSub, Int.reduceMul, Int.reduceNeg, Nat.reduceLT, Nat.reduceLeDiff, Int.reduceToNat, Int.zero_add, ne_eq, isi_tuple_none, isi_tuple_bool, isi_tuple_int, isi_tuple_str, isi_tuple_list, isi_tuple_tuple, isi_tuple_dict, isi_int_none, isi_int_bool, isi_int_int, isi_int_str, isi_int_list, isi_int_tuple, isi_int_dict, isi_bool_none, isi_bool_bool, isi_bool_int, isi_bool_str, isi_bool_list, isi_bool_tuple, isi_bool_dict, isi_str_none, isi_str_bool, isi_str_int, isi_str_str, isi_str_list, isi_str_tuple, isi_str_dict, isi_list_none, isi_list_bool, isi_list_int, isi_list_str, isi_list_list, isi_list_tuple, isi_list_dict, isi_dict_none, isi_dict_bool, isi_dict_int, isi_dict_str, isi_dict_list, isi_dict_tuple, isi_dict_dict, atI0, atI1, atI2, atI3, atI4, atI5, pow1018, eqD_str, neD_str, eqD_bool, isD_none, isnD_none, isNone_none, isNone_tuple, isNone_int, isD_bool, isnD_bool, sz0, sz1, sz2, sz3, sz4, sz5, sz6, sz7, sz8, sz9, maxD_int, minD_int, sNewB_ap, sCatO_ap, sAugIx_ap, listOf_list, listOf_tuple, enumF_nil, enumF_cons, iZq_ap, iZ3_ap, iR3_ap, ll, wipeR, lc]
section
variable {P : List Pa} {L : List Rat} {W : List Int} (h : SlS P L W) (h1 : 1 ≤ P.length)
include h h1
theorem mok {u : Gu} (hu : GuS u) : MOk (MT P L W u) := ⟨by rw [MT_len]; exact h1, by rw [MT_len]; exact h.n4, MT_sz h hu⟩
omit h1 in
theorem at_3 {k : Nat} (hk : k < P.length) : atI (P.map paD) (k : Int) = some (paD (P.getD k p0)) ∧ atI (L.map Rq) (k : Int) = some (Rq (L.getD k 0)) ∧ atI (W.map PyData.int) (k : Int) = some (.int (W.getD k 0)) := by
  have kl : k < L.length := by rw [h.ll]; exact hk
  have kw : k < W.length := by rw [h.lw]; exact hk
  refine ⟨at_get ?_, at_get ?_, at_get ?_⟩
  · rw [List.getElem?_map, List.getElem?_eq_getElem hk, getD_at hk]; rfl
  · rw [List.getElem?_map, List.getElem?_eq_getElem kl, getD_at kl]; rfl
  · rw [List.getElem?_map, List.getElem?_eq_getElem kw, getD_at kw]; rfl
theorem lp_q {n : Nat} (q : Rat) : lp (n + 2) (Rq q) := ⟨by show 2 < 2 ^ 62; decide, fun y hy => by
  simp only [List.mem_cons, List.not_mem_nil, or_false] at hy
  rcases hy with rfl | rfl <;> trivial⟩
theorem m_one {u : Gu} (hu : GuS u) : m_law_one_gust [psD P, guD u, lsD L, wsD W] = .ok (.bool true) := by
  have e1 := l_margins h hu
  have e2 := m_margins h hu
  have ok := mok h h1 hu
  have e3 := m_weakest ok e2
  have e4 := l_weakest ok
  have sq : ∀ q : Rat, m_law_same 12 [Rq q, Rq q] = .ok (.bool true) := fun q => m_same 12 _ (lp_q h h1 q)
  have s1 : m_law_same 12 [.tuple ((MT P L W u).map Rq), .tuple ((MT P L W u).map Rq)] = .ok (.bool true) := m_same 12 _ ⟨by rw [List.length_map]; have := ok.n4; omega, fun x hx => by
    obtain ⟨q, _, rfl⟩ := List.mem_map.mp hx
    exact lp_q h h1 q⟩
  have s2 : m_law_same 12 [rwD (MT P L W u), rwD (MT P L W u)] = .ok (.bool true) := m_same 12 _ ⟨by show 2 < 2 ^ 62; decide, fun x hx => by
    simp only [List.mem_cons, List.not_mem_nil, or_false] at hx
    rcases hx with rfl | rfl
    · trivial
    · exact lp_q h h1 _⟩
  obtain ⟨ρ', e5, y5, y6, y7, y8, rfl⟩ := forM_inv (p := .n 5) (b := b_law_one_gust_l1) (fun _ ρ => ∃ y5 y6 y7 y8, ρ = [some (psD P), some (guD u), some (lsD L), some (wsD W), some (.list ((MT P L W u).map Rq)), y5, y6, y7, y8]) (intsD 0 P.length) 0 [some (psD P), some (guD u), some (lsD L), some (wsD W), some (.list ((MT P L W u).map Rq)), none, none, none, none] ⟨none, none, none, none, rfl⟩ (by
    rintro i d ρ hi ⟨y5, y6, y7, y8, rfl⟩
    obtain ⟨hk, rfl⟩ := intsD_at hi
    rw [Int.zero_add]
    obtain ⟨a1, a2, a3⟩ := at_3 h hk
    have hp := h.p _ (getD_mem (d := p0) hk)
    have hl := h.l _ (getD_mem (L := L) (d := 0) (by rw [h.ll]; exact hk))
    have hw := h.w _ (getD_mem (L := W) (d := 0) (by rw [h.lw]; exact hk))
    have a1 : atD (psD P) (.int (i : Int)) = some (paD (P.getD i p0)) := a1
    have a2 : atD (lsD L) (.int (i : Int)) = some (Rq (L.getD i 0)) := a2
    have a3 : atD (wsD W) (.int (i : Int)) = some (.int (W.getD i 0)) := a3
    generalize P.getD i p0 = p at *
    generalize L.getD i 0 = l at *
    generalize W.getD i 0 = w at *
    have es := l_st hp.c hp.g hu.v
    have ss := st_sz hp.c hp.g hu.v
    have eh := m_holds hp hu hw
    have eq := m_pulled hu hl
    have d12 : (12 : Int) ≠ 0 := by decide
    have hw' : Sm 4 (12 - w) := by unfold WOk at hw; unfold Sm; omega
    have q1 := m_llow (n := (st p.c p.g u.v).num * (12 - w)) (d := (st p.c p.g u.v).den * 12) (Int.mul_ne_zero (den_ne _) d12) ((ss.sd.mul (show Sm 4 (12 : Int) by unfold Sm; decide)).mono (by decide))
    rw [← dv_mul (den_ne _) d12, dv_self] at q1
    have q2 := m_llow (n := u.q * u.s.num * l.num) (d := u.s.den * l.den) (Int.mul_ne_zero (den_ne _) (den_ne _)) ((hu.s.sd.mul hl.sd).mono (by decide))
    have eqq : dv (u.q * u.s.num * l.num) (u.s.den * l.den) = ((u.q : Rat) * u.s) * l := by
      have t1 := dv_mul (x := u.q) (y := u.s.num) (B := 1) (C := u.s.den) (by decide) (den_ne _)
      rw [dv_self, Int.one_mul] at t1
      have t2 := dv_mul (x := u.q * u.s.num) (y := l.num) (den_ne u.s) (den_ne l)
      rw [← t2, ← t1, dv_self]
      congr 2
      have := dv_mulr (x := u.q) (B := 1) (by decide)
      have e1 : ((1 : Int) : Rat) = 1 := rfl
      rw [e1, Rat.mul_one] at this
      exact this
    rw [eqq] at q2
    have m1 := mulD_sm ss.sn hw' (by decide)
    have m2 := mulD_sm ss.sd (show Sm 4 (12 : Int) by unfold Sm; decide) (by decide)
    have m3 := mulD_sm hu.q hu.s.sn (by decide)
    have m4 := mulD_sm (hu.q.mul hu.s.sn) hl.sn (by decide)
    have m5 := mulD_sm hu.s.sd hl.sd (by decide)
    have k1 := sq (st p.c p.g u.v * dv (12 - w) 12)
    have k2 := sq (((u.q : Rat) * u.s) * l)
    have g0 := gu0 u
    have g1 := gu1 u
    have v1 : atD (.tuple [.str u.n, ipD u.v, .int u.q]) (.int 1) = some (ipD u.v) := rfl
    have v2 : atD (.tuple [.str u.n, ipD u.v, .int u.q]) (.int 2) = some (.int u.q) := rfl
    have p0' := pa0 p
    have p2' := pa2 p
    have t0 := Rq0 (st p.c p.g u.v)
    have t1 := Rq1 (st p.c p.g u.v)
    have s0 := Rq0 u.s
    have s1 := Rq1 u.s
    have l0 := Rq0 l
    have l1 := Rq1 l
    refine ⟨_, [some (psD P), some (guD u), some (lsD L), some (wsD W), some (.list ((MT P L W u).map Rq)), some (.int (i : Int)), some (Rq (st p.c p.g u.v)), some (Rq (st p.c p.g u.v * dv (12 - w) 12)), some (Rq (((u.q : Rat) * u.s) * l))], bindP_n _ _ _, .inl ?_, _, _, _, _, rfl⟩
    clear e1 e2 e3 e4 s1 s2 sq
    have s1 := Rq1 u.s
    generalize (MT P L W u).map Rq = MM at *
    generalize psD P = PD at *
    generalize lsD L = LD at *
    generalize wsD W = WD at *
    generalize PyData.tuple [.str u.n, ipD u.v, .int u.q] = U0 at *
    generalize guD u = UD at *
    generalize Rq (st p.c p.g u.v * dv (12 - w) 12) = Q1 at *
    generalize Rq (((u.q : Rat) * u.s) * l) = Q2 at *
    generalize Rq (st p.c p.g u.v) = Q3 at *
    generalize Rq u.s = Q4 at *
    generalize Rq l = Q5 at *
    generalize ipD u.v = VV at *
    generalize clD p.c = CC at *
    generalize ipD p.g = GG at *
    generalize paD p = PP at *
    unfold b_law_one_gust_l1
    simp -implicitDefEqProofs only [callM, sSeq_ap, thn_nx, thn_ret, thn_ex, thn_brk, thn_cont, sNx_ap, sBrk_ap, sCont_ap, sSet_ap, sSetB_ap, sRet_ap, sRetN_ap, sDrop_ap, sIf_ap, sNew_ap, sPat_ap, sPar_ap, sRaise_ap, sFor_ap, sWhile_ap, sAug_ap, sApp_ap, ownL_ap, eN_ap, eC_ap, e1_ap, e2_ap, aL_nil, aL_cons, eT_ap, eL_ap, eB_ap, eF_ap, eIf_ap, eAnd_ap, eOr_ap, eNot_ap, eCh_ap, tV_ap, tAnd_ap, tOr_ap, tNot_ap, pN_ap, pS_ap, eSl_ap, iD_ap, iR1_ap, iR2_ap, iZ_ap, iE_ap, eNew_ap, eLc_ap, tTrue_ap, bindP_n, bindP_tt, bindP_tl, bindPs_nil, bindPs_cons, bind_ok, bind_ex, ofE_ok, ofE_ex, optE_some, truD_bool, isBool_bool, isInt_int, addD_int, subD_int, negD_int, ltD_int, leD_int, gtD_int, geD_int, intD_int, absD_int, lenD_tuple, lenD_list, tupleD_list, tupleD_tuple, itemsD_list, itemsD_tuple, eqD_int, neD_int, atD_tuple, atD_list, List.getElem?_cons_zero, List.getElem?_cons_succ, List.set_cons_zero, List.set_cons_succ, List.length_cons, List.length_nil, List.map_cons, List.map_nil, List.replicate, List.cons_append, List.nil_append, Option.bind_some, Option.bind_none, Option.map_some, Nat.reduceAdd, Nat.reduceSub, if_true, if_false, decide_true, decide_false, Bool.not_true, Bool.not_false, Bool.false_eq_true, reduceIte, Nat.reduceEqDiff, Nat.zero_add, Int.cast_ofNat_Int, Int.reduceEq, Int.reduceLT, Int.reduceLE, Int.reduceAdd, Int.reduceSub, Int.reduceMul, Int.reduceNeg, Nat.reduceLT, Nat.reduceLeDiff, Int.reduceToNat, Int.zero_add, ne_eq, isi_tuple_none, isi_tuple_bool, isi_tuple_int, isi_tuple_str, isi_tuple_list, isi_tuple_tuple, isi_tuple_dict, isi_int_none, isi_int_bool, isi_int_int, isi_int_str, isi_int_list, isi_int_tuple, isi_int_dict, isi_bool_none, isi_bool_bool, isi_bool_int, isi_bool_str, isi_bool_list, isi_bool_tuple, isi_bool_dict, isi_str_none, isi_str_bool, isi_str_int, isi_str_str, isi_str_list, isi_str_tuple, isi_str_dict, isi_list_none, isi_list_bool, isi_list_int, isi_list_str, isi_list_list, isi_list_tuple, isi_list_dict, isi_dict_none, isi_dict_bool, isi_dict_int, isi_dict_str, isi_dict_list, isi_dict_tuple, isi_dict_dict, atI0, atI1, atI2, atI3, atI4, atI5, pow1018, eqD_str, neD_str, eqD_bool, isD_none, isnD_none, isNone_none, isNone_tuple, isNone_int, isD_bool, isnD_bool, sz0, sz1, sz2, sz3, sz4, sz5, sz6, sz7, sz8, sz9, maxD_int, minD_int, sNewB_ap, sCatO_ap, sAugIx_ap, listOf_list, listOf_tuple, enumF_nil, enumF_cons, iZq_ap, iZ3_ap, iR3_ap, a1, p0', p2', g0, v1, es, a3, t0, t1, m1, m2, q1, eh, k1, v2, g1, s0, s1, a2, l0, l1, m3, m4, m5, q2, eq, k2])
  have rg := rng1D_nat (n := P.length) (by have := h.n4; omega)
  have ln : lenD [psD P] = some (.int (P.length : Int)) := by unfold psD; rw [lenD_tuple, List.length_map]
  have tl : tupleD [.list ((MT P L W u).map Rq)] = some (.tuple ((MT P L W u).map Rq)) := rfl
  generalize rwD (MT P L W u) = RW at *
  generalize (MT P L W u).map Rq = MM at *
  generalize psD P = PD at *
  generalize lsD L = LD at *
  generalize wsD W = WD at *
  generalize guD u = UD at *
  unfold m_law_one_gust b_law_one_gust
  generalize b_law_one_gust_l1 = B1 at *
  simp -implicitDefEqProofs only [callM, sSeq_ap, thn_nx, thn_ret, thn_ex, thn_brk, thn_cont, sNx_ap, sBrk_ap, sCont_ap, sSet_ap, sSetB_ap, sRet_ap, sRetN_ap, sDrop_ap, sIf_ap, sNew_ap, sPat_ap, sPar_ap, sRaise_ap, sFor_ap, sWhile_ap, sAug_ap, sApp_ap, ownL_ap, eN_ap, eC_ap, e1_ap, e2_ap, aL_nil, aL_cons, eT_ap, eL_ap, eB_ap, eF_ap, eIf_ap, eAnd_ap, eOr_ap, eNot_ap, eCh_ap, tV_ap, tAnd_ap, tOr_ap, tNot_ap, pN_ap, pS_ap, eSl_ap, iD_ap, iR1_ap, iR2_ap, iZ_ap, iE_ap, eNew_ap, eLc_ap, tTrue_ap, bindP_n, bindP_tt, bindP_tl, bindPs_nil, bindPs_cons, bind_ok, bind_ex, ofE_ok, ofE_ex, optE_some, truD_bool, isBool_bool, isInt_int, addD_int, subD_int, negD_int, ltD_int, leD_int, gtD_int, geD_int, intD_int, absD_int, lenD_tuple, lenD_list, tupleD_list, tupleD_tuple, itemsD_list, itemsD_tuple, eqD_int, neD_int, atD_tuple, atD_list, List.getElem?_cons_zero, List.getElem?_cons_succ, List.set_cons_zero, List.set_cons_succ, List.length_cons, List.length_nil, List.map_cons, List.map_nil, List.replicate, List.cons_append, List.nil_append, Option.bind_some, Option.bind_none, Option.map_some, Nat.reduceAdd, Nat.reduceSub, if_true, if_false, decide_true, decide_false, Bool.not_true, Bool.not_false, Bool.false_eq_true, reduceIte, Nat.reduceEqDiff, Nat.zero_add, Int.cast_ofNat_Int, Int.reduceEq, Int.reduceLT, Int.reduceLE, Int.reduceAdd, Int.reduceSub, Int.reduceMul, Int.reduceNeg, Nat.reduceLT, Nat.reduceLeDiff, Int.reduceToNat, Int.zero_add, ne_eq, isi_tuple_none, isi_tuple_bool, isi_tuple_int, isi_tuple_str, isi_tuple_list, isi_tuple_tuple, isi_tuple_dict, isi_int_none, isi_int_bool, isi_int_int, isi_int_str, isi_int_list, isi_int_tuple, isi_int_dict, isi_bool_none, isi_bool_bool, isi_bool_int, isi_bool_str, isi_bool_list, isi_bool_tuple, isi_bool_dict, isi_str_none, isi_str_bool, isi_str_int, isi_str_str, isi_str_list, isi_str_tuple, isi_str_dict, isi_list_none, isi_list_bool, isi_list_int, isi_list_str, isi_list_list, isi_list_tuple, isi_list_dict, isi_dict_none, isi_dict_bool, isi_dict_int, isi_dict_str, isi_dict_list, isi_dict_tuple, isi_dict_dict, atI0, atI1, atI2, atI3, atI4, atI5, pow1018, eqD_str, neD_str, eqD_bool, isD_none, isnD_none, isNone_none, isNone_tuple, isNone_int, isD_bool, isnD_bool, sz0, sz1, sz2, sz3, sz4, sz5, sz6, sz7, sz8, sz9, maxD_int, minD_int, sNewB_ap, sCatO_ap, sAugIx_ap, listOf_list, listOf_tuple, enumF_nil, enumF_cons, iZq_ap, iZ3_ap, iR3_ap, e1, ln, rg, e5, e2, s1, e3, e4, s2]
end

-- CUT
/-! ### law 25: the worst gust -/
def u0 : Gu := ⟨"", (0, 0), 0, 0⟩
section
variable {P : List Pa} {L : List Rat} {W : List Int} (h : SlS P L W) (h1 : 1 ≤ P.length) {G : List Gu} (hG : ∀ u ∈ G, GuS u) (g4 : G.length ≤ 8) (g1 : 1 ≤ G.length)
def WR (P : List Pa) (L : List Rat) (W : List Int) (u : Gu) : D := rwD (MT P L W u)
def fG (P : List Pa) (L : List Rat) (W : List Int) (G : List Gu) (k : Nat) : Rat := wv (MT P L W (G.getD k u0))
include h h1 hG g4 g1
theorem wv_sz {k : Nat} (hk : k < G.length) : Sq 190 (fG P L W G k) := by
  have hu := hG _ (getD_mem (d := u0) hk)
  exact MT_sz h hu _ (getD_mem (wk_lt (mok h h1 hu)))
omit h h1 hG g4 g1 in
theorem at_w {k : Nat} (hk : k < G.length) : atI (G.map (WR P L W)) (k : Int) = some (WR P L W (G.getD k u0)) := at_get (by rw [List.getElem?_map, List.getElem?_eq_getElem hk, getD_at hk]; rfl)
omit h h1 hG g4 g1 in
theorem WR1 (u : Gu) : atD (WR P L W u) (.int 1) = some (Rq (wv (MT P L W u))) := rfl
omit h h1 hG g4 g1 in
theorem WR0 (u : Gu) : atD (WR P L W u) (.int 0) = some (.int (wk (MT P L W u) : Nat)) := rfl
theorem wg_loop (x0 x1 x2 x3 x8 : Option D) : ∀ (j k : Nat) (x6 x7 : Option D), k + j = G.length → ∃ y6 y7, forM' (.t [.n 6, .n 7]) b_worst_gust_l1 (enumFrom' k ((G.drop k).map (WR P L W))) [x0, x1, x2, x3, some (.list (G.map (WR P L W))), some (.int (am (fG P L W G) k : Nat)), x6, x7, x8] = .nx [x0, x1, x2, x3, some (.list (G.map (WR P L W))), some (.int (am (fG P L W G) G.length : Nat)), y6, y7, x8]
  | 0, k, x6, x7, hk => ⟨x6, x7, by
    rw [List.drop_of_length_le (by omega), show G.length = k by omega]
    rfl⟩
  | j + 1, k, x6, x7, hk => by
    have hlt : k < G.length := by omega
    have hz := am_lt' (fG P L W G) hlt
    have s1 := wv_sz h h1 hG g4 g1 hlt
    have s2 := wv_sz h h1 hG g4 g1 hz
    have e1 := m_cmp s1 s2
    have e2 := at_w (P := P) (L := L) (W := W) hz
    have w1 : atD (WR P L W (G.getD k u0)) (.int 1) = some (Rq (fG P L W G k)) := WR1 _
    have w2 : atD (WR P L W (G.getD (am (fG P L W G) k) u0)) (.int 1) = some (Rq (fG P L W G (am (fG P L W G) k))) := WR1 _
    obtain ⟨y6, y7, ih⟩ := wg_loop x0 x1 x2 x3 x8 j (k + 1) (some (.int (k : Int))) (some (WR P L W (G.getD k u0))) (by omega)
    rw [List.drop_eq_getElem_cons hlt, List.map_cons, enumF_cons, forM_t2, ← getD_at (d := u0) hlt]
    refine ⟨y6, y7, ?_⟩
    rw [← ih]
    generalize forM' (.t [.n 6, .n 7]) b_worst_gust_l1 (enumFrom' (k + 1) ((G.drop (k + 1)).map (WR P L W))) = KK
    generalize hWG : G.map (WR P L W) = WL at *
    generalize WR P L W (G.getD k u0) = R1 at *
    generalize WR P L W (G.getD (am (fG P L W G) k) u0) = R2 at *
    by_cases z : fG P L W G k < fG P L W G (am (fG P L W G) k)
    · have ea : am (fG P L W G) (k + 1) = k := by conv => lhs; unfold am; rw [if_pos z]
      rw [ea]
      generalize am (fG P L W G) k = A at *
      unfold b_worst_gust_l1
      simp -implicitDefEqProofs only [callM, sSeq_ap, thn_nx, thn_ret, thn_ex, thn_brk, thn_cont, sNx_ap, sBrk_ap, sCont_ap, sSet_ap, sSetB_ap, sRet_ap, sRetN_ap, sDrop_ap, sIf_ap, sNew_ap, sPat_ap, sPar_ap, sRaise_ap, sFor_ap, sWhile_ap, sAug_ap, sApp_ap, ownL_ap, eN_ap, eC_ap, e1_ap, e2_ap, aL_nil, aL_cons, eT_ap, eL_ap, eB_ap, eF_ap, eIf_ap, eAnd_ap, eOr_ap, eNot_ap, eCh_ap, tV_ap, tAnd_ap, tOr_ap, tNot_ap, pN_ap, pS_ap, eSl_ap, iD_ap, iR1_ap, iR2_ap, iZ_ap, iE_ap, eNew_ap, eLc_ap, tTrue_ap, bindP_n, bindP_tt, bindP_tl, bindPs_nil, bindPs_cons, bind_ok, bind_ex, ofE_ok, ofE_ex, optE_some, truD_bool, isBool_bool, isInt_int, addD_int, subD_int, negD_int, ltD_int, leD_int, gtD_int, geD_int, intD_int, absD_int, lenD_tuple, lenD_list, tupleD_list, tupleD_tuple, itemsD_list, itemsD_tuple, eqD_int, neD_int, atD_tuple, atD_list, List.getElem?_cons_zero, List.getElem?_cons_succ, List.set_cons_zero, List.set_cons_succ, List.length_cons, List.length_nil, List.map_cons, List.map_nil, List.replicate, List.cons_append, List.nil_append, Option.bind_some, Option.bind_none, Option.map_some, Nat.reduceAdd, Nat.reduceSub, if_true, if_false, decide_true, decide_false, Bool.not_true, Bool.not_false, Bool.false_eq_true, reduceIte, Nat.reduceEqDiff, Nat.zero_add, Int.cast_ofNat_Int, Int.reduceEq, Int.reduceLT, Int.reduceLE, Int.reduceAdd, Int.reduceSub, Int.reduceMul, Int.reduceNeg, Nat.reduceLT, Nat.reduceLeDiff, Int.reduceToNat, Int.zero_add, ne_eq, isi_tuple_none, isi_tuple_bool, isi_tuple_int, isi_tuple_str, isi_tuple_list, isi_tuple_tuple, isi_tuple_dict, isi_int_none, isi_int_bool, isi_int_int, isi_int_str, isi_int_list, isi_int_tuple, isi_int_dict, isi_bool_none, isi_bool_bool, isi_bool_int, isi_bool_str, isi_bool_list, isi_bool_tuple, isi_bool_dict, isi_str_none, isi_str_bool, isi_str_int, isi_str_str, isi_str_list, isi_str_tuple, isi_str_dict, isi_list_none, isi_list_bool, isi_list_int, isi_list_str, isi_list_list, isi_list_tuple, isi_list_dict, isi_dict_none, isi_dict_bool, isi_dict_int, isi_dict_str, isi_dict_list, isi_dict_tuple, isi_dict_dict, atI0, atI1, atI2, atI3, atI4, atI5, pow1018, eqD_str, neD_str, eqD_bool, isD_none, isnD_none, isNone_none, isNone_tuple, isNone_int, isD_bool, isnD_bool, sz0, sz1, sz2, sz3, sz4, sz5, sz6, sz7, sz8, sz9, maxD_int, minD_int, sNewB_ap, sCatO_ap, sAugIx_ap, listOf_list, listOf_tuple, enumF_nil, enumF_cons, iZq_ap, iZ3_ap, iR3_ap, w1, e2, w2, e1, cmp_lt0, decide_eq_true z, lps_nx]
    · have ea : am (fG P L W G) (k + 1) = am (fG P L W G) k := by conv => lhs; unfold am; rw [if_neg z]
      rw [ea]
      generalize am (fG P L W G) k = A at *
      unfold b_worst_gust_l1
      simp -implicitDefEqProofs only [callM, sSeq_ap, thn_nx, thn_ret, thn_ex, thn_brk, thn_cont, sNx_ap, sBrk_ap, sCont_ap, sSet_ap, sSetB_ap, sRet_ap, sRetN_ap, sDrop_ap, sIf_ap, sNew_ap, sPat_ap, sPar_ap, sRaise_ap, sFor_ap, sWhile_ap, sAug_ap, sApp_ap, ownL_ap, eN_ap, eC_ap, e1_ap, e2_ap, aL_nil, aL_cons, eT_ap, eL_ap, eB_ap, eF_ap, eIf_ap, eAnd_ap, eOr_ap, eNot_ap, eCh_ap, tV_ap, tAnd_ap, tOr_ap, tNot_ap, pN_ap, pS_ap, eSl_ap, iD_ap, iR1_ap, iR2_ap, iZ_ap, iE_ap, eNew_ap, eLc_ap, tTrue_ap, bindP_n, bindP_tt, bindP_tl, bindPs_nil, bindPs_cons, bind_ok, bind_ex, ofE_ok, ofE_ex, optE_some, truD_bool, isBool_bool, isInt_int, addD_int, subD_int, negD_int, ltD_int, leD_int, gtD_int, geD_int, intD_int, absD_int, lenD_tuple, lenD_list, tupleD_list, tupleD_tuple, itemsD_list, itemsD_tuple, eqD_int, neD_int, atD_tuple, atD_list, List.getElem?_cons_zero, List.getElem?_cons_succ, List.set_cons_zero, List.set_cons_succ, List.length_cons, List.length_nil, List.map_cons, List.map_nil, List.replicate, List.cons_append, List.nil_append, Option.bind_some, Option.bind_none, Option.map_some, Nat.reduceAdd, Nat.reduceSub, if_true, if_false, decide_true, decide_false, Bool.not_true, Bool.not_false, Bool.false_eq_true, reduceIte, Nat.reduceEqDiff, Nat.zero_add, Int.cast_ofNat_Int, Int.reduceEq, Int.reduceLT, Int.reduceLE, Int.reduceAdd, Int.reduceSub, Int.reduceMul, Int.reduceNeg, Nat.reduceLT, Nat.reduceLeDiff, Int.reduceToNat, Int.zero_add, ne_eq, isi_tuple_none, isi_tuple_bool, isi_tuple_int, isi_tuple_str, isi_tuple_list, isi_tuple_tuple, isi_tuple_dict, isi_int_none, isi_int_bool, isi_int_int, isi_int_str, isi_int_list, isi_int_tuple, isi_int_dict, isi_bool_none, isi_bool_bool, isi_bool_int, isi_bool_str, isi_bool_list, isi_bool_tuple, isi_bool_dict, isi_str_none, isi_str_bool, isi_str_int, isi_str_str, isi_str_list, isi_str_tuple, isi_str_dict, isi_list_none, isi_list_bool, isi_list_int, isi_list_str, isi_list_list, isi_list_tuple, isi_list_dict, isi_dict_none, isi_dict_bool, isi_dict_int, isi_dict_str, isi_dict_list, isi_dict_tuple, isi_dict_dict, atI0, atI1, atI2, atI3, atI4, atI5, pow1018, eqD_str, neD_str, eqD_bool, isD_none, isnD_none, isNone_none, isNone_tuple, isNone_int, isD_bool, isnD_bool, sz0, sz1, sz2, sz3, sz4, sz5, sz6, sz7, sz8, sz9, maxD_int, minD_int, sNewB_ap, sCatO_ap, sAugIx_ap, listOf_list, listOf_tuple, enumF_nil, enumF_cons, iZq_ap, iZ3_ap, iR3_ap, w1, e2, w2, e1, cmp_lt0, decide_eq_false z, lps_nx]
def due (P : List Pa) (L : List Rat) (W : List Int) (G : List Gu) : D := .tuple [.int (am (fG P L W G) G.length : Nat), .int (wk (MT P L W (G.getD (am (fG P L W G) G.length) u0)) : Nat), Rq (wv (MT P L W (G.getD (am (fG P L W G) G.length) u0)))]
theorem m_worst : m_worst_gust [psD P, .tuple (G.map guD), lsD L, wsD W] = .ok (due P L W G) := by
  have lc := lcM_map (p := .n 8) (m := eF m_weakest_part [(eN 0), (eN 8), (eN 2), (eN 3)]) (ρ0 := [some (psD P), some (.tuple (G.map guD)), some (lsD L), some (wsD W), none, none, none, none, none]) (f := guD) (g := WR P L W) G (fun u hu => ⟨[some (psD P), some (.tuple (G.map guD)), some (lsD L), some (wsD W), none, none, none, none, some (guD u)], bindP_n _ _ _, by
    have e2 := m_margins h (hG u hu)
    have e3 := m_weakest (mok h h1 (hG u hu)) e2
    have e3 : m_weakest_part [psD P, guD u, lsD L, wsD W] = .ok (WR P L W u) := e3
    generalize psD P = PD at *
    generalize lsD L = LD at *
    generalize wsD W = WD at *
    generalize guD u = UD at *
    simp -implicitDefEqProofs only [callM, sSeq_ap, thn_nx, thn_ret, thn_ex, thn_brk, thn_cont, sNx_ap, sBrk_ap, sCont_ap, sSet_ap, sSetB_ap, sRet_ap, sRetN_ap, sDrop_ap, sIf_ap, sNew_ap, sPat_ap, sPar_ap, sRaise_ap, sFor_ap, sWhile_ap, sAug_ap, sApp_ap, ownL_ap, eN_ap, eC_ap, e1_ap, e2_ap, aL_nil, aL_cons, eT_ap, eL_ap, eB_ap, eF_ap, eIf_ap, eAnd_ap, eOr_ap, eNot_ap, eCh_ap, tV_ap, tAnd_ap, tOr_ap, tNot_ap, pN_ap, pS_ap, eSl_ap, iD_ap, iR1_ap, iR2_ap, iZ_ap, iE_ap, eNew_ap, eLc_ap, tTrue_ap, bindP_n, bindP_tt, bindP_tl, bindPs_nil, bindPs_cons, bind_ok, bind_ex, ofE_ok, ofE_ex, optE_some, truD_bool, isBool_bool, isInt_int, addD_int, subD_int, negD_int, ltD_int, leD_int, gtD_int, geD_int, intD_int, absD_int, lenD_tuple, lenD_list, tupleD_list, tupleD_tuple, itemsD_list, itemsD_tuple, eqD_int, neD_int, atD_tuple, atD_list, List.getElem?_cons_zero, List.getElem?_cons_succ, List.set_cons_zero, List.set_cons_succ, List.length_cons, List.length_nil, List.map_cons, List.map_nil, List.replicate, List.cons_append, List.nil_append, Option.bind_some, Option.bind_none, Option.map_some, Nat.reduceAdd, Nat.reduceSub, if_true, if_false, decide_true, decide_false, Bool.not_true, Bool.not_false, Bool.false_eq_true, reduceIte, Nat.reduceEqDiff, Nat.zero_add, Int.cast_ofNat_Int, Int.reduceEq, Int.reduceLT, Int.reduceLE, Int.reduceAdd, Int.reduceSub, Int.reduceMul, Int.reduceNeg, Nat.reduceLT, Nat.reduceLeDiff, Int.reduceToNat, Int.zero_add, ne_eq, isi_tuple_none, isi_tuple_bool, isi_tuple_int, isi_tuple_str, isi_tuple_list, isi_tuple_tuple, isi_tuple_dict, isi_int_none, isi_int_bool, isi_int_int, isi_int_str, isi_int_list, isi_int_tuple, isi_int_dict, isi_bool_none, isi_bool_bool, isi_bool_int, isi_bool_str, isi_bool_list, isi_bool_tuple, isi_bool_dict, isi_str_none, isi_str_bool, isi_str_int, isi_str_str, isi_str_list, isi_str_tuple, isi_str_dict, isi_list_none, isi_list_bool, isi_list_int, isi_list_str, isi_list_list, isi_list_tuple, isi_list_dict, isi_dict_none, isi_dict_bool, isi_dict_int, isi_dict_str, isi_dict_list, isi_dict_tuple, isi_dict_dict, atI0, atI1, atI2, atI3, atI4, atI5, pow1018, eqD_str, neD_str, eqD_bool, isD_none, isnD_none, isNone_none, isNone_tuple, isNone_int, isD_bool, isnD_bool, sz0, sz1, sz2, sz3, sz4, sz5, sz6, sz7, sz8, sz9, maxD_int, minD_int, sNewB_ap, sCatO_ap, sAugIx_ap, listOf_list, listOf_tuple, enumF_nil, enumF_cons, iZq_ap, iZ3_ap, iR3_ap, e3]⟩)
  obtain ⟨y6, y7, e⟩ := wg_loop h h1 hG g4 g1 (some (psD P)) (some (.tuple (G.map guD))) (some (lsD L)) (some (wsD W)) none G.length 0 none none (by omega)
  rw [List.drop_zero] at e
  have e : forM' (.t [.n 6, .n 7]) b_worst_gust_l1 (enumFrom' 0 (G.map (WR P L W))) [some (psD P), some (.tuple (G.map guD)), some (lsD L), some (wsD W), some (.list (G.map (WR P L W))), some (.int 0), none, none, none] = _ := e
  have hz : am (fG P L W G) G.length < G.length := am_lt _ g1
  have aw := at_w (P := P) (L := L) (W := W) hz
  have w0 := WR0 (P := P) (L := L) (W := W) (G.getD (am (fG P L W G) G.length) u0)
  have w1 := WR1 (P := P) (L := L) (W := W) (G.getD (am (fG P L W G) G.length) u0)
  have it : itemsD (.tuple (G.map guD)) = some (G.map guD) := rfl
  have ll : (G.map guD).length ≤ 1000000 := by rw [List.length_map]; omega
  have ln : lenD [.tuple (G.map guD)] = some (.int (G.length : Int)) := by rw [lenD_tuple, List.length_map]
  have nz : decide ((G.length : Int) = 0) = false := decide_eq_false (by omega)
  unfold due
  generalize WR P L W (G.getD (am (fG P L W G) G.length) u0) = R1 at *
  generalize hWG : G.map (WR P L W) = WL at *
  generalize am (fG P L W G) G.length = A at *
  generalize wk (MT P L W (G.getD A u0)) = K1 at *
  generalize Rq (wv (MT P L W (G.getD A u0))) = Q1 at *
  generalize psD P = PD at *
  generalize lsD L = LD at *
  generalize wsD W = WD at *
  generalize hGD : G.map guD = GD at *
  generalize (G.length : Int) = gl at *
  unfold m_worst_gust b_worst_gust
  generalize b_worst_gust_l1 = B1 at *
  simp -implicitDefEqProofs only [callM, sSeq_ap, thn_nx, thn_ret, thn_ex, thn_brk, thn_cont, sNx_ap, sBrk_ap, sCont_ap, sSet_ap, sSetB_ap, sRet_ap, sRetN_ap, sDrop_ap, sIf_ap, sNew_ap, sPat_ap, sPar_ap, sRaise_ap, sFor_ap, sWhile_ap, sAug_ap, sApp_ap, ownL_ap, eN_ap, eC_ap, e1_ap, e2_ap, aL_nil, aL_cons, eT_ap, eL_ap, eB_ap, eF_ap, eIf_ap, eAnd_ap, eOr_ap, eNot_ap, eCh_ap, tV_ap, tAnd_ap, tOr_ap, tNot_ap, pN_ap, pS_ap, eSl_ap, iD_ap, iR1_ap, iR2_ap, iZ_ap, iE_ap, eNew_ap, eLc_ap, tTrue_ap, bindP_n, bindP_tt, bindP_tl, bindPs_nil, bindPs_cons, bind_ok, bind_ex, ofE_ok, ofE_ex, optE_some, truD_bool, isBool_bool, isInt_int, addD_int, subD_int, negD_int, ltD_int, leD_int, gtD_int, geD_int, intD_int, absD_int, lenD_tuple, lenD_list, tupleD_list, tupleD_tuple, itemsD_list, itemsD_tuple, eqD_int, neD_int, atD_tuple, atD_list, List.getElem?_cons_zero, List.getElem?_cons_succ, List.set_cons_zero, List.set_cons_succ, List.length_cons, List.length_nil, List.map_cons, List.map_nil, List.replicate, List.cons_append, List.nil_append, Option.bind_some, Option.bind_none, Option.map_some, Nat.reduceAdd, Nat.reduceSub, if_true, if_false, decide_true, decide_false, Bool.not_true, Bool.not_false, Bool.false_eq_true, reduceIte, Nat.reduceEqDiff, Nat.zero_add, Int.cast_ofNat_Int, Int.reduceEq, Int.reduceLT, Int.reduceLE, Int.reduceAdd, Int.reduceSub, Int.reduceMul, Int.reduceNeg, Nat.reduceLT, Nat.reduceLeDiff, Int.reduceToNat, Int.zero_add, ne_eq, isi_tuple_none, isi_tuple_bool, isi_tuple_int, isi_tuple_str, isi_tuple_list, isi_tuple_tuple, isi_tuple_dict, isi_int_none, isi_int_bool, isi_int_int, isi_int_str, isi_int_list, isi_int_tuple, isi_int_dict, isi_bool_none, isi_bool_bool, isi_bool_int, isi_bool_str, isi_bool_list, isi_bool_tuple, isi_bool_dict, isi_str_none, isi_str_bool, isi_str_int, isi_str_str, isi_str_list, isi_str_tuple, isi_str_dict, isi_list_none, isi_list_bool, isi_list_int, isi_list_str, isi_list_list, isi_list_tuple, isi_list_dict, isi_dict_none, isi_dict_bool, isi_dict_int, isi_dict_str, isi_dict_list, isi_dict_tuple, isi_dict_dict, atI0, atI1, atI2, atI3, atI4, atI5, pow1018, eqD_str, neD_str, eqD_bool, isD_none, isnD_none, isNone_none, isNone_tuple, isNone_int, isD_bool, isnD_bool, sz0, sz1, sz2, sz3, sz4, sz5, sz6, sz7, sz8, sz9, maxD_int, minD_int, sNewB_ap, sCatO_ap, sAugIx_ap, listOf_list, listOf_tuple, enumF_nil, enumF_cons, iZq_ap, iZ3_ap, iR3_ap, ln, nz, it, ll, wipeR, lc, e, aw, w0, w1]
theorem lw_loop2 (x0 x1 x3 x5 x6 x7 x11 x12 x13 : Option D) : ∀ (j k : Nat) (x4 : Option D), k + j = G.length → ∃ y4, forM' (.n 4) b_law_l2 (intsD (k : Int) j) [x0, x1, some (psD P), x3, x4, x5, x6, x7, some (wsD W), some (lsD L), some (.list (G.map guD)), x11, x12, x13, some (.int (am (fG P L W G) k : Nat)), some (.list (G.map (WR P L W))), none, none, none] = .nx [x0, x1, some (psD P), x3, y4, x5, x6, x7, some (wsD W), some (lsD L), some (.list (G.map guD)), x11, x12, x13, some (.int (am (fG P L W G) G.length : Nat)), some (.list (G.map (WR P L W))), none, none, none]
  | 0, k, x4, hk => ⟨x4, by rw [show G.length = k by omega]; rfl⟩
  | j + 1, k, x4, hk => by
    have hlt : k < G.length := by omega
    have hz := am_lt' (fG P L W G) hlt
    have s1 := wv_sz h h1 hG g4 g1 hlt
    have s2 := wv_sz h h1 hG g4 g1 hz
    have e1 := l_below s1 s2
    have e2 := at_w (P := P) (L := L) (W := W) hz
    have e3 := at_w (P := P) (L := L) (W := W) hlt
    have w1 : atD (WR P L W (G.getD k u0)) (.int 1) = some (Rq (fG P L W G k)) := WR1 _
    have w2 : atD (WR P L W (G.getD (am (fG P L W G) k) u0)) (.int 1) = some (Rq (fG P L W G (am (fG P L W G) k))) := WR1 _
    have ag : atI (G.map guD) (k : Int) = some (guD (G.getD k u0)) := at_get (by rw [List.getElem?_map, List.getElem?_eq_getElem hlt, getD_at hlt]; rfl)
    have o1 := m_one h h1 (hG _ (getD_mem (d := u0) hlt))
    obtain ⟨y4, ih⟩ := lw_loop2 x0 x1 x3 x5 x6 x7 x11 x12 x13 j (k + 1) (some (.int (k : Int))) (by omega)
    refine ⟨y4, ?_⟩
    rw [intsD_succ, forM_cons, ← ih]
    generalize forM' (.n 4) b_law_l2 (intsD ((k + 1 : Nat) : Int) j) = KK
    generalize hWG : G.map (WR P L W) = WL at *
    generalize hGD : G.map guD = GD at *
    generalize guD (G.getD k u0) = U1 at *
    generalize psD P = PD at *
    generalize lsD L = LD at *
    generalize wsD W = WD at *
    generalize WR P L W (G.getD k u0) = R1 at *
    generalize WR P L W (G.getD (am (fG P L W G) k) u0) = R2 at *
    by_cases z : fG P L W G k < fG P L W G (am (fG P L W G) k)
    · have ea : am (fG P L W G) (k + 1) = k := by conv => lhs; unfold am; rw [if_pos z]
      rw [ea]
      rw [decide_eq_true z] at e1
      generalize am (fG P L W G) k = A at *
      unfold b_law_l2
      simp -implicitDefEqProofs only [callM, sSeq_ap, thn_nx, thn_ret, thn_ex, thn_brk, thn_cont, sNx_ap, sBrk_ap, sCont_ap, sSet_ap, sSetB_ap, sRet_ap, sRetN_ap, sDrop_ap, sIf_ap, sNew_ap, sPat_ap, sPar_ap, sRaise_ap, sFor_ap, sWhile_ap, sAug_ap, sApp_ap, ownL_ap, eN_ap, eC_ap, e1_ap, e2_ap, aL_nil, aL_cons, eT_ap, eL_ap, eB_ap, eF_ap, eIf_ap, eAnd_ap, eOr_ap, eNot_ap, eCh_ap, tV_ap, tAnd_ap, tOr_ap, tNot_ap, pN_ap, pS_ap, eSl_ap, iD_ap, iR1_ap, iR2_ap, iZ_ap, iE_ap, eNew_ap, eLc_ap, tTrue_ap, bindP_n, bindP_tt, bindP_tl, bindPs_nil, bindPs_cons, bind_ok, bind_ex, ofE_ok, ofE_ex, optE_some, truD_bool, isBool_bool, isInt_int, addD_int, subD_int, negD_int, ltD_int, leD_int, gtD_int, geD_int, intD_int, absD_int, lenD_tuple, lenD_list, tupleD_list, tupleD_tuple, itemsD_list, itemsD_tuple, eqD_int, neD_int, atD_tuple, atD_list, List.getElem?_cons_zero, List.getElem?_cons_succ, List.set_cons_zero, List.set_cons_succ, List.length_cons, List.length_nil, List.map_cons, List.map_nil, List.replicate, List.cons_append, List.nil_append, Option.bind_some, Option.bind_none, Option.map_some, Nat.reduceAdd, Nat.reduceSub, if_true, if_false, decide_true, decide_false, Bool.not_true, Bool.not_false, Bool.false_eq_true, reduceIte, Nat.reduceEqDiff, Nat.zero_add, Int.cast_ofNat_Int, Int.reduceEq, Int.reduceLT, Int.reduceLE, Int.reduceAdd, Int.reduceSub, Int.reduceMul, Int.reduceNeg, Nat.reduceLT, Nat.reduceLeDiff, Int.reduceToNat, Int.zero_add, ne_eq, isi_tuple_none, isi_tuple_bool, isi_tuple_int, isi_tuple_str, isi_tuple_list, isi_tuple_tuple, isi_tuple_dict, isi_int_none, isi_int_bool, isi_int_int, isi_int_str, isi_int_list, isi_int_tuple, isi_int_dict, isi_bool_none, isi_bool_bool, isi_bool_int, isi_bool_str, isi_bool_list, isi_bool_tuple, isi_bool_dict, isi_str_none, isi_str_bool, isi_str_int, isi_str_str, isi_str_list, isi_str_tuple, isi_str_dict, isi_list_none, isi_list_bool, isi_list_int, isi_list_str, isi_list_list, isi_list_tuple, isi_list_dict, isi_dict_none, isi_dict_bool, isi_dict_int, isi_dict_str, isi_dict_list, isi_dict_tuple, isi_dict_dict, atI0, atI1, atI2, atI3, atI4, atI5, pow1018, eqD_str, neD_str, eqD_bool, isD_none, isnD_none, isNone_none, isNone_tuple, isNone_int, isD_bool, isnD_bool, sz0, sz1, sz2, sz3, sz4, sz5, sz6, sz7, sz8, sz9, maxD_int, minD_int, sNewB_ap, sCatO_ap, sAugIx_ap, listOf_list, listOf_tuple, enumF_nil, enumF_cons, iZq_ap, iZ3_ap, iR3_ap, ag, o1, e3, w1, e2, w2, e1, lps_nx]
    · have ea : am (fG P L W G) (k + 1) = am (fG P L W G) k := by conv => lhs; unfold am; rw [if_neg z]
      rw [ea]
      rw [decide_eq_false z] at e1
      generalize am (fG P L W G) k = A at *
      unfold b_law_l2
      simp -implicitDefEqProofs only [callM, sSeq_ap, thn_nx, thn_ret, thn_ex, thn_brk, thn_cont, sNx_ap, sBrk_ap, sCont_ap, sSet_ap, sSetB_ap, sRet_ap, sRetN_ap, sDrop_ap, sIf_ap, sNew_ap, sPat_ap, sPar_ap, sRaise_ap, sFor_ap, sWhile_ap, sAug_ap, sApp_ap, ownL_ap, eN_ap, eC_ap, e1_ap, e2_ap, aL_nil, aL_cons, eT_ap, eL_ap, eB_ap, eF_ap, eIf_ap, eAnd_ap, eOr_ap, eNot_ap, eCh_ap, tV_ap, tAnd_ap, tOr_ap, tNot_ap, pN_ap, pS_ap, eSl_ap, iD_ap, iR1_ap, iR2_ap, iZ_ap, iE_ap, eNew_ap, eLc_ap, tTrue_ap, bindP_n, bindP_tt, bindP_tl, bindPs_nil, bindPs_cons, bind_ok, bind_ex, ofE_ok, ofE_ex, optE_some, truD_bool, isBool_bool, isInt_int, addD_int, subD_int, negD_int, ltD_int, leD_int, gtD_int, geD_int, intD_int, absD_int, lenD_tuple, lenD_list, tupleD_list, tupleD_tuple, itemsD_list, itemsD_tuple, eqD_int, neD_int, atD_tuple, atD_list, List.getElem?_cons_zero, List.getElem?_cons_succ, List.set_cons_zero, List.set_cons_succ, List.length_cons, List.length_nil, List.map_cons, List.map_nil, List.replicate, List.cons_append, List.nil_append, Option.bind_some, Option.bind_none, Option.map_some, Nat.reduceAdd, Nat.reduceSub, if_true, if_false, decide_true, decide_false, Bool.not_true, Bool.not_false, Bool.false_eq_true, reduceIte, Nat.reduceEqDiff, Nat.zero_add, Int.cast_ofNat_Int, Int.reduceEq, Int.reduceLT, Int.reduceLE, Int.reduceAdd, Int.reduceSub, Int.reduceMul, Int.reduceNeg, Nat.reduceLT, Nat.reduceLeDiff, Int.reduceToNat, Int.zero_add, ne_eq, isi_tuple_none, isi_tuple_bool, isi_tuple_int, isi_tuple_str, isi_tuple_list, isi_tuple_tuple, isi_tuple_dict, isi_int_none, isi_int_bool, isi_int_int, isi_int_str, isi_int_list, isi_int_tuple, isi_int_dict, isi_bool_none, isi_bool_bool, isi_bool_int, isi_bool_str, isi_bool_list, isi_bool_tuple, isi_bool_dict, isi_str_none, isi_str_bool, isi_str_int, isi_str_str, isi_str_list, isi_str_tuple, isi_str_dict, isi_list_none, isi_list_bool, isi_list_int, isi_list_str, isi_list_list, isi_list_tuple, isi_list_dict, isi_dict_none, isi_dict_bool, isi_dict_int, isi_dict_str, isi_dict_list, isi_dict_tuple, isi_dict_dict, atI0, atI1, atI2, atI3, atI4, atI5, pow1018, eqD_str, neD_str, eqD_bool, isD_none, isnD_none, isNone_none, isNone_tuple, isNone_int, isD_bool, isnD_bool, sz0, sz1, sz2, sz3, sz4, sz5, sz6, sz7, sz8, sz9, maxD_int, minD_int, sNewB_ap, sCatO_ap, sAugIx_ap, listOf_list, listOf_tuple, enumF_nil, enumF_cons, iZq_ap, iZ3_ap, iR3_ap, ag, o1, e3, w1, e2, w2, e1, lps_nx]
end
theorem c_out : catch_OutOfRange "OutOfRange" = some true := by decide +kernel
theorem m_nogust (P L W : D) : m_law_no_gust [P, L, W] = .ok (.bool true) := by
  have e : m_worst_gust [P, .tuple [], L, W] = .ex ⟨"OutOfRange", []⟩ := by
    unfold m_worst_gust b_worst_gust
    simp -implicitDefEqProofs only [callM, sSeq_ap, thn_nx, thn_ret, thn_ex, thn_brk, thn_cont, sNx_ap, sBrk_ap, sCont_ap, sSet_ap, sSetB_ap, sRet_ap, sRetN_ap, sDrop_ap, sIf_ap, sNew_ap, sPat_ap, sPar_ap, sRaise_ap, sFor_ap, sWhile_ap, sAug_ap, sApp_ap, ownL_ap, eN_ap, eC_ap, e1_ap, e2_ap, aL_nil, aL_cons, eT_ap, eL_ap, eB_ap, eF_ap, eIf_ap, eAnd_ap, eOr_ap, eNot_ap, eCh_ap, tV_ap, tAnd_ap, tOr_ap, tNot_ap, pN_ap, pS_ap, eSl_ap, iD_ap, iR1_ap, iR2_ap, iZ_ap, iE_ap, eNew_ap, eLc_ap, tTrue_ap, bindP_n, bindP_tt, bindP_tl, bindPs_nil, bindPs_cons, bind_ok, bind_ex, ofE_ok, ofE_ex, optE_some, truD_bool, isBool_bool, isInt_int, addD_int, subD_int, negD_int, ltD_int, leD_int, gtD_int, geD_int, intD_int, absD_int, lenD_tuple, lenD_list, tupleD_list, tupleD_tuple, itemsD_list, itemsD_tuple, eqD_int, neD_int, atD_tuple, atD_list, List.getElem?_cons_zero, List.getElem?_cons_succ, List.set_cons_zero, List.set_cons_succ, List.length_cons, List.length_nil, List.map_cons, List.map_nil, List.replicate, List.cons_append, List.nil_append, Option.bind_some, Option.bind_none, Option.map_some, Nat.reduceAdd, Nat.reduceSub, if_true, if_false, decide_true, decide_false, Bool.not_true, Bool.not_false, Bool.false_eq_true, reduceIte, Nat.reduceEqDiff, Nat.zero_add, Int.cast_ofNat_Int, Int.reduceEq, Int.reduceLT, Int.reduceLE, Int.reduceAdd, Int.reduceSub, Int.reduceMul, Int.reduceNeg, Nat.reduceLT, Nat.reduceLeDiff, Int.reduceToNat, Int.zero_add, ne_eq, isi_tuple_none, isi_tuple_bool, isi_tuple_int, isi_tuple_str, isi_tuple_list, isi_tuple_tuple, isi_tuple_dict, isi_int_none, isi_int_bool, isi_int_int, isi_int_str, isi_int_list, isi_int_tuple, isi_int_dict, isi_bool_none, isi_bool_bool, isi_bool_int, isi_bool_str, isi_bool_list, isi_bool_tuple, isi_bool_dict, isi_str_none, isi_str_bool, isi_str_int, isi_str_str, isi_str_list, isi_str_tuple, isi_str_dict, isi_list_none, isi_list_bool, isi_list_int, isi_list_str, isi_list_list, isi_list_tuple, isi_list_dict, isi_dict_none, isi_dict_bool, isi_dict_int, isi_dict_str, isi_dict_list, isi_dict_tuple, isi_dict_dict, atI0, atI1, atI2, atI3, atI4, atI5, pow1018, eqD_str, neD_str, eqD_bool, isD_none, isnD_none, isNone_none, isNone_tuple, isNone_int, isD_bool, isnD_bool, sz0, sz1, sz2, sz3, sz4, sz5, sz6, sz7, sz8, sz9, maxD_int, minD_int, sNewB_ap, sCatO_ap, sAugIx_ap, listOf_list, listOf_tuple, enumF_nil, enumF_cons, iZq_ap, iZ3_ap, iR3_ap]
  unfold m_law_no_gust b_law_no_gust
  simp -implicitDefEqProofs only [callM, sSeq_ap, thn_nx, thn_ret, thn_ex, thn_brk, thn_cont, sNx_ap, sBrk_ap, sCont_ap, sSet_ap, sSetB_ap, sRet_ap, sRetN_ap, sDrop_ap, sIf_ap, sNew_ap, sPat_ap, sPar_ap, sRaise_ap, sFor_ap, sWhile_ap, sAug_ap, sApp_ap, ownL_ap, eN_ap, eC_ap, e1_ap, e2_ap, aL_nil, aL_cons, eT_ap, eL_ap, eB_ap, eF_ap, eIf_ap, eAnd_ap, eOr_ap, eNot_ap, eCh_ap, tV_ap, tAnd_ap, tOr_ap, tNot_ap, pN_ap, pS_ap, eSl_ap, iD_ap, iR1_ap, iR2_ap, iZ_ap, iE_ap, eNew_ap, eLc_ap, tTrue_ap, bindP_n, bindP_tt, bindP_tl, bindPs_nil, bindPs_cons, bind_ok, bind_ex, ofE_ok, ofE_ex, optE_some, truD_bool, isBool_bool, isInt_int, addD_int, subD_int, negD_int, ltD_int, leD_int, gtD_int, geD_int, intD_int, absD_int, lenD_tuple, lenD_list, tupleD_list, tupleD_tuple, itemsD_list, itemsD_tuple, eqD_int, neD_int, atD_tuple, atD_list, List.getElem?_cons_zero, List.getElem?_cons_succ, List.set_cons_zero, List.set_cons_succ, List.length_cons, List.length_nil, List.map_cons, List.map_nil, List.replicate, List.cons_append, List.nil_append, Option.bind_some, Option.bind_none, Option.map_some, Nat.reduceAdd, Nat.reduceSub, if_true, if_false, decide_true, decide_false, Bool.not_true, Bool.not_false, Bool.false_eq_true, reduceIte, Nat.reduceEqDiff, Nat.zero_add, Int.cast_ofNat_Int, Int.reduceEq, Int.reduceLT, Int.reduceLE, Int.reduceAdd, Int.reduceSub, Int.reduceMul, Int.reduceNeg, Nat.reduceLT, Nat.reduceLeDiff, Int.reduceToNat, Int.zero_add, ne_eq, isi_tuple_none, isi_tuple_bool, isi_tuple_int, isi_tuple_str, isi_tuple_list, isi_tuple_tuple, isi_tuple_dict, isi_int_none, isi_int_bool, isi_int_int, isi_int_str, isi_int_list, isi_int_tuple, isi_int_dict, isi_bool_none, isi_bool_bool, isi_bool_int, isi_bool_str, isi_bool_list, isi_bool_tuple, isi_bool_dict, isi_str_none, isi_str_bool, isi_str_int, isi_str_str, isi_str_list, isi_str_tuple, isi_str_dict, isi_list_none, isi_list_bool, isi_list_int, isi_list_str, isi_list_list, isi_list_tuple, isi_list_dict, isi_dict_none, isi_dict_bool, isi_dict_int, isi_dict_str, isi_dict_list, isi_dict_tuple, isi_dict_dict, atI0, atI1, atI2, atI3, atI4, atI5, pow1018, eqD_str, neD_str, eqD_bool, isD_none, isnD_none, isNone_none, isNone_tuple, isNone_int, isD_bool, isnD_bool, sz0, sz1, sz2, sz3, sz4, sz5, sz6, sz7, sz8, sz9, maxD_int, minD_int, sNewB_ap, sCatO_ap, sAugIx_ap, listOf_list, listOf_tuple, enumF_nil, enumF_cons, iZq_ap, iZ3_ap, iR3_ap, sTry, e, c_out]

-- CUT
/-! ### law 25 -/
theorem lfS_1 (x0 : Option D) (ds : List D) (r : EnvD) : lfS [1] (x0 :: some (.list ds) :: r) = lfAll ds := by simp [lfS]
theorem lfS_0 (r : EnvD) : lfS [] r = true := rfl
theorem mrg_1 (x0 x1 y0 y1 : Option D) (r r' : EnvD) : mrg [1] (x0 :: x1 :: r) (y0 :: y1 :: r') = x0 :: y1 :: r := rfl
theorem mrg_0 (r r' : EnvD) : mrg [] r r' = r := rfl
theorem ix_last {n : Nat} (h : 1 ≤ n) : ixN n (-1) = some (n - 1) := by
  unfold ixN
  rw [if_neg (by decide), if_pos (by omega)]
  congr 1
  omega
theorem ix_0 {n : Nat} (h : 1 ≤ n) : ixN n 0 = some 0 := by
  unfold ixN
  rw [if_pos (by decide), if_pos (by omega)]
  rfl
theorem mem_set {α : Type} {l : List α} {i : Nat} {x : α} {Pr : α → Prop} (h : ∀ a ∈ l, Pr a) (hx : Pr x) : ∀ a ∈ l.set i x, Pr a := fun a ha => by
  rcases List.mem_or_eq_of_mem_set ha with q | q
  · exact h a q
  · rw [q]; exact hx
def q0 : Q25 := ⟨p0, 0⟩
theorem at_0 {α : Type} (f : α → D) {l : List α} (h : 1 ≤ l.length) (d : α) : atI (l.map f) 0 = some (f (l.getD 0 d)) := by
  match l, h with
  | a :: l, _ => rw [List.map_cons, atI0]; rfl
structure Sl (ps : List Q25) (W : List Int) (L : List Rat) : Prop where
  p : ∀ q ∈ ps, QOk q
  n1 : 1 ≤ ps.length
  n4 : ps.length ≤ 4
  w : ∀ x ∈ W, 0 ≤ x ∧ x < 7
  lw : W.length = ps.length
  l : ∀ x ∈ L, Sq 12 x
  ll : L.length = ps.length
theorem Sl.s {ps : List Q25} {W : List Int} {L : List Rat} (h : Sl ps W L) : SlS (ps.map Q25.a) L W := ⟨fun x hx => by
  obtain ⟨q, hq, rfl⟩ := List.mem_map.mp hx
  exact (h.p q hq).a, h.l, fun x hx => by have := h.w x hx; unfold WOk; omega, by rw [List.length_map]; exact h.ll, by rw [List.length_map]; exact h.lw, by rw [List.length_map]; have := h.n4; omega⟩
theorem law_true (ns : List Int) (_h1 : ns.length ≤ 63) (_h2 : ∀ z ∈ ns, Builtin.Int.intBits z ≤ 1048576) : m_law [.list (ns.map PyData.int)] = .ok (.bool true) := by
  obtain ⟨es, k0⟩ := m_nums ns 240 (by decide)
  have k0 : m_law_numbers [.list (ns.map PyData.int), .int 240] = .ok (.list (es.map PyData.int)) := k0
  obtain ⟨t, es1, t0, t1, k1⟩ := m_tk es (many := 4) (by decide)
  obtain ⟨t, rfl⟩ := Int.eq_ofNat_of_zero_le t0
  have rg1 : rng1D (.int (1 + (t : Int))) = some (intsD 0 (t + 1)) := by
    have := rng1D_nat (n := t + 1) (by omega)
    rw [← this]
    congr 2
    omega
  obtain ⟨es2, ps, y4, y5, y6, y7, hp, hl, k2⟩ := d25_loop (t + 1) 0 es1 [] (some (.list (ns.map PyData.int))) none none none none (by simp) (by simp; omega)
  have hl : ps.length = t + 1 := by rw [hl]; simp
  have k2 : forM' (.n 4) b_law_l1 (intsD 0 (t + 1)) [some (.list (ns.map PyData.int)), some (.list (es1.map PyData.int)), some (.list []), some (.list []), none, none, none, none, none, none, none, none, none, none, none, none, none, none, none] = .nx [some (.list (ns.map PyData.int)), some (.list (es2.map PyData.int)), some (.list (ps.map paQ)), some (.list (ps.map arQ)), y4, y5, y6, y7, none, none, none, none, none, none, none, none, none, none, none] := k2
  obtain ⟨W, es3, lW, hW, k3⟩ := lcX_all (k := 1) (p := .n 17) (vs := [17]) (m := xO m_law_take 1 [(xP (eC (.int 7)))]) PyData.int (fun x => 0 ≤ x ∧ x < 7) (fun es => [some (.list (ns.map PyData.int)), some (.list (es.map PyData.int)), some (.list (ps.map paQ)), some (.list (ps.map arQ)), y4, y5, y6, y7, none, none, none, none, none, none, none, none, none, none, none]) (ps.map paQ) (fun d hd es => by
    obtain ⟨t, eq, t0, t1, q1⟩ := m_tk es (many := 7) (by decide)
    refine ⟨[some (.list (ns.map PyData.int)), some (.list (es.map PyData.int)), some (.list (ps.map paQ)), some (.list (ps.map arQ)), y4, y5, y6, y7, none, none, none, none, none, none, none, none, none, some d, none], t, eq, [some (.list (ns.map PyData.int)), some (.list (eq.map PyData.int)), some (.list (ps.map paQ)), some (.list (ps.map arQ)), y4, y5, y6, y7, none, none, none, none, none, none, none, none, none, some d, none], rfl, ?_, rfl, ⟨t0, by omega⟩⟩
    generalize ps.map paQ = PD at *
    generalize ps.map arQ = AD at *
    generalize ns.map PyData.int = NS at *
    simp -implicitDefEqProofs only [callM, sSeq_ap, thn_nx, thn_ret, thn_ex, thn_brk, thn_cont, sNx_ap, sBrk_ap, sCont_ap, sSet_ap, sSetB_ap, sRet_ap, sRetN_ap, sDrop_ap, sIf_ap, sNew_ap, sPat_ap, sPar_ap, sRaise_ap, sFor_ap, sWhile_ap, sAug_ap, sApp_ap, ownL_ap, eN_ap, eC_ap, e1_ap, e2_ap, aL_nil, aL_cons, eT_ap, eL_ap, eB_ap, eF_ap, eIf_ap, eAnd_ap, eOr_ap, eNot_ap, eCh_ap, tV_ap, tAnd_ap, tOr_ap, tNot_ap, pN_ap, pS_ap, eSl_ap, iD_ap, iR1_ap, iR2_ap, iZ_ap, iE_ap, eNew_ap, eLc_ap, tTrue_ap, bindP_n, bindP_tt, bindP_tl, bindPs_nil, bindPs_cons, bind_ok, bind_ex, ofE_ok, ofE_ex, optE_some, truD_bool, isBool_bool, isInt_int, addD_int, subD_int, negD_int, ltD_int, leD_int, gtD_int, geD_int, intD_int, absD_int, lenD_tuple, lenD_list, tupleD_list, tupleD_tuple, itemsD_list, itemsD_tuple, eqD_int, neD_int, atD_tuple, atD_list, List.getElem?_cons_zero, List.getElem?_cons_succ, List.set_cons_zero, List.set_cons_succ, List.length_cons, List.length_nil, List.map_cons, List.map_nil, List.replicate, List.cons_append, List.nil_append, Option.bind_some, Option.bind_none, Option.map_some, Nat.reduceAdd, Nat.reduceSub, if_true, if_false, decide_true, decide_false, Bool.not_true, Bool.not_false, Bool.false_eq_true, reduceIte, Nat.reduceEqDiff, Nat.zero_add, Int.cast_ofNat_Int, Int.reduceEq, Int.reduceLT, Int.reduceLE, Int.reduceAdd, Int.reduceSub, Int.reduceMul, Int.reduceNeg, Nat.reduceLT, Nat.reduceLeDiff, Int.reduceToNat, Int.zero_add, ne_eq, isi_tuple_none, isi_tuple_bool, isi_tuple_int, isi_tuple_str, isi_tuple_list, isi_tuple_tuple, isi_tuple_dict, isi_int_none, isi_int_bool, isi_int_int, isi_int_str, isi_int_list, isi_int_tuple, isi_int_dict, isi_bool_none, isi_bool_bool, isi_bool_int, isi_bool_str, isi_bool_list, isi_bool_tuple, isi_bool_dict, isi_str_none, isi_str_bool, isi_str_int, isi_str_str, isi_str_list, isi_str_tuple, isi_str_dict, isi_list_none, isi_list_bool, isi_list_int, isi_list_str, isi_list_list, isi_list_tuple, isi_list_dict, isi_dict_none, isi_dict_bool, isi_dict_int, isi_dict_str, isi_dict_list, isi_dict_tuple, isi_dict_dict, atI0, atI1, atI2, atI3, atI4, atI5, pow1018, eqD_str, neD_str, eqD_bool, isD_none, isnD_none, isNone_none, isNone_tuple, isNone_int, isD_bool, isnD_bool, sz0, sz1, sz2, sz3, sz4, sz5, sz6, sz7, sz8, sz9, maxD_int, minD_int, sNewB_ap, sCatO_ap, sAugIx_ap, listOf_list, listOf_tuple, enumF_nil, enumF_cons, iZq_ap, iZ3_ap, iR3_ap, callMO, ofX_some, xP_ok, x1_ap, x2_ap, xL_nil, xL_cons, xTu_ap, xLi_ap, xB_ap, xF_ap, pairD_ok, xO_ap, xPop_ap, xV_ap, xAnd_ap, xOr_ap, xNot_ap, xiD_ap, xiR1_ap, xN'_ap, xnL_ap, xLc_ap, sSetX_ap, sPatX_ap, sIfX_ap, sForX_ap, sAppX_ap, sNewX_ap, sRetX_ap, sRetO_ap, sRetF_ap, xLd_ap, xnLd_ap, sSetIxX_ap, nF_ap, listE_ok, mrg_nil, mrg_cons, xP_ok, q1]) es2
  rw [List.length_map] at lW
  have ea : ps.map arQ = (ps.map Q25.r).map Rq := by rw [List.map_map]; rfl
  obtain ⟨L, es4, lL, hL, k4⟩ := m_llefts es3 (A := ps.map Q25.r) (fun r hr => by
    obtain ⟨q, hq, rfl⟩ := List.mem_map.mp hr
    exact (hp q hq).r) (by rw [List.length_map]; omega)
  rw [← ea] at k4
  rw [List.length_map] at lL
  obtain ⟨t5, es5, _, _, k5⟩ := m_tk es4 (many := 3) (by decide)
  have n1 : 1 ≤ ps.length := by omega
  have p0k := hp _ (getD_mem (L := ps) (d := q0) (k := 0) (by omega))
  have w0k := hW _ (getD_mem (L := W) (d := 0) (k := 0) (by omega))
  have l0k := hL _ (getD_mem (L := L) (d := 0) (k := 0) (by omega))
  obtain ⟨ps', W', L', hS, hB4⟩ : ∃ (ps' : List Q25) (W' : List Int) (L' : List Rat), Sl ps' W' L' ∧ (if decide (t5 = 0) = true then
      SR.nx [some (.list (ns.map PyData.int)), some (.list (es5.map PyData.int)), some (.list ((ps.map paQ).set (ps.length - 1) (paQ (ps.getD 0 q0)))), some (.list ((ps.map arQ).set (ps.length - 1) (arQ (ps.getD 0 q0)))), y4, y5, y6, y7, some (.list ((W.map PyData.int).set (ps.length - 1) (.int (W.getD 0 0)))), some (.list ((L.map Rq).set (ps.length - 1) (Rq (L.getD 0 0)))), none, none, none, none, none, none, none, none, none]
      else SR.nx [some (.list (ns.map PyData.int)), some (.list (es5.map PyData.int)), some (.list (ps.map paQ)), some (.list (ps.map arQ)), y4, y5, y6, y7, some (.list (W.map PyData.int)), some (.list (L.map Rq)), none, none, none, none, none, none, none, none, none]) =
      SR.nx [some (.list (ns.map PyData.int)), some (.list (es5.map PyData.int)), some (.list (ps'.map paQ)), some (.list (ps'.map arQ)), y4, y5, y6, y7, some (.list (W'.map PyData.int)), some (.list (L'.map Rq)), none, none, none, none, none, none, none, none, none] := by
    by_cases c : t5 = 0
    · refine ⟨ps.set (ps.length - 1) (ps.getD 0 q0), W.set (ps.length - 1) (W.getD 0 0), L.set (ps.length - 1) (L.getD 0 0), ⟨mem_set hp p0k, by rw [List.length_set]; exact n1, by rw [List.length_set]; omega, mem_set hW w0k, by rw [List.length_set, List.length_set]; exact lW, mem_set hL l0k, by rw [List.length_set, List.length_set]; exact lL⟩, ?_⟩
      rw [decide_eq_true c, if_pos rfl, List.map_set, List.map_set, List.map_set, List.map_set]
    · exact ⟨ps, W, L, ⟨hp, n1, by omega, hW, lW, hL, lL⟩, by rw [decide_eq_false c]; rfl⟩
  obtain ⟨t6, es6, t60, t61, k6⟩ := m_tk es5 (many := 4) (by decide)
  obtain ⟨t6, rfl⟩ := Int.eq_ofNat_of_zero_le t60
  have rg6 : rng1D (.int (1 + (t6 : Int))) = some (intsD 0 (t6 + 1)) := by
    have := rng1D_nat (n := t6 + 1) (by omega)
    rw [← this]
    congr 2
    omega
  obtain ⟨G, es7, lG, hG, k7⟩ := lcX_allM (M := [9, 8, 3, 2, 1]) (p := .n 4) (vs := [4]) (m := xO m_law_gust 1 []) guD GuS (fun es => [some (.list (ns.map PyData.int)), some (.list (es.map PyData.int)), some (.list (ps'.map paQ)), some (.list (ps'.map arQ)), y4, y5, y6, y7, some (.list (W'.map PyData.int)), some (.list (L'.map Rq)), none, none, none, none, none, none, none, none, none]) (intsD 0 (t6 + 1)) (fun d hd es => by
    obtain ⟨u, eq, hu, q1⟩ := m_gust es
    refine ⟨[some (.list (ns.map PyData.int)), some (.list (es.map PyData.int)), some (.list (ps'.map paQ)), some (.list (ps'.map arQ)), some d, y5, y6, y7, some (.list (W'.map PyData.int)), some (.list (L'.map Rq)), none, none, none, none, none, none, none, none, none], u, eq, [some (.list (ns.map PyData.int)), some (.list (eq.map PyData.int)), some (.list (ps'.map paQ)), some (.list (ps'.map arQ)), some d, y5, y6, y7, some (.list (W'.map PyData.int)), some (.list (L'.map Rq)), none, none, none, none, none, none, none, none, none], rfl, ?_, rfl, hu⟩
    generalize ps'.map paQ = PD at *
    generalize ps'.map arQ = AD at *
    generalize ns.map PyData.int = NS at *
    generalize W'.map PyData.int = WD at *
    generalize L'.map Rq = LD at *
    generalize guD u = UU at *
    simp -implicitDefEqProofs only [callM, sSeq_ap, thn_nx, thn_ret, thn_ex, thn_brk, thn_cont, sNx_ap, sBrk_ap, sCont_ap, sSet_ap, sSetB_ap, sRet_ap, sRetN_ap, sDrop_ap, sIf_ap, sNew_ap, sPat_ap, sPar_ap, sRaise_ap, sFor_ap, sWhile_ap, sAug_ap, sApp_ap, ownL_ap, eN_ap, eC_ap, e1_ap, e2_ap, aL_nil, aL_cons, eT_ap, eL_ap, eB_ap, eF_ap, eIf_ap, eAnd_ap, eOr_ap, eNot_ap, eCh_ap, tV_ap, tAnd_ap, tOr_ap, tNot_ap, pN_ap, pS_ap, eSl_ap, iD_ap, iR1_ap, iR2_ap, iZ_ap, iE_ap, eNew_ap, eLc_ap, tTrue_ap, bindP_n, bindP_tt, bindP_tl, bindPs_nil, bindPs_cons, bind_ok, bind_ex, ofE_ok, ofE_ex, optE_some, truD_bool, isBool_bool, isInt_int, addD_int, subD_int, negD_int, ltD_int, leD_int, gtD_int, geD_int, intD_int, absD_int, lenD_tuple, lenD_list, tupleD_list, tupleD_tuple, itemsD_list, itemsD_tuple, eqD_int, neD_int, atD_tuple, atD_list, List.getElem?_cons_zero, List.getElem?_cons_succ, List.set_cons_zero, List.set_cons_succ, List.length_cons, List.length_nil, List.map_cons, List.map_nil, List.replicate, List.cons_append, List.nil_append, Option.bind_some, Option.bind_none, Option.map_some, Nat.reduceAdd, Nat.reduceSub, if_true, if_false, decide_true, decide_false, Bool.not_true, Bool.not_false, Bool.false_eq_true, reduceIte, Nat.reduceEqDiff, Nat.zero_add, Int.cast_ofNat_Int, Int.reduceEq, Int.reduceLT, Int.reduceLE, Int.reduceAdd, Int.reduceSub, Int.reduceMul, Int.reduceNeg, Nat.reduceLT, Nat.reduceLeDiff, Int.reduceToNat, Int.zero_add, ne_eq, isi_tuple_none, isi_tuple_bool, isi_tuple_int, isi_tuple_str, isi_tuple_list, isi_tuple_tuple, isi_tuple_dict, isi_int_none, isi_int_bool, isi_int_int, isi_int_str, isi_int_list, isi_int_tuple, isi_int_dict, isi_bool_none, isi_bool_bool, isi_bool_int, isi_bool_str, isi_bool_list, isi_bool_tuple, isi_bool_dict, isi_str_none, isi_str_bool, isi_str_int, isi_str_str, isi_str_list, isi_str_tuple, isi_str_dict, isi_list_none, isi_list_bool, isi_list_int, isi_list_str, isi_list_list, isi_list_tuple, isi_list_dict, isi_dict_none, isi_dict_bool, isi_dict_int, isi_dict_str, isi_dict_list, isi_dict_tuple, isi_dict_dict, atI0, atI1, atI2, atI3, atI4, atI5, pow1018, eqD_str, neD_str, eqD_bool, isD_none, isnD_none, isNone_none, isNone_tuple, isNone_int, isD_bool, isnD_bool, sz0, sz1, sz2, sz3, sz4, sz5, sz6, sz7, sz8, sz9, maxD_int, minD_int, sNewB_ap, sCatO_ap, sAugIx_ap, listOf_list, listOf_tuple, enumF_nil, enumF_cons, iZq_ap, iZ3_ap, iR3_ap, callMO, ofX_some, xP_ok, x1_ap, x2_ap, xL_nil, xL_cons, xTu_ap, xLi_ap, xB_ap, xF_ap, pairD_ok, xO_ap, xPop_ap, xV_ap, xAnd_ap, xOr_ap, xNot_ap, xiD_ap, xiR1_ap, xN'_ap, xnL_ap, xLc_ap, sSetX_ap, sPatX_ap, sIfX_ap, sForX_ap, sAppX_ap, sNewX_ap, sRetX_ap, sRetO_ap, sRetF_ap, xLd_ap, xnLd_ap, sSetIxX_ap, nF_ap, listE_ok, mrg_nil, mrg_cons, q1]) es6
  rw [intsD_len] at lG
  obtain ⟨t8, es8, _, _, k8⟩ := m_tk es7 (many := 2) (by decide)
  obtain ⟨t9, es9, t90, t91, k9⟩ := m_tk es8 (many := 1001) (by decide)
  have g0k := hG _ (getD_mem (L := G) (d := u0) (k := 0) (by omega))
  obtain ⟨G', es10, z11, z12, z13, hG', lG', hB6⟩ : ∃ (G' : List Gu) (es10 : List Int) (z11 z12 z13 : Option D), (∀ u ∈ G', GuS u) ∧ G'.length = G.length ∧ (if decide (t8 = 0) = true then
      SR.nx [some (.list (ns.map PyData.int)), some (.list (es9.map PyData.int)), some (.list (ps'.map paQ)), some (.list (ps'.map arQ)), y4, y5, y6, y7, some (.list (W'.map PyData.int)), some (.list (L'.map Rq)), some (.list ((G.map guD).set 0 (.tuple [.tuple [.str (G.getD 0 u0).n, ipD (G.getD 0 u0).v, .int t9], Rq (G.getD 0 u0).s]))), some (.str (G.getD 0 u0).n), some (ipD (G.getD 0 u0).v), some (.int (G.getD 0 u0).q), none, none, none, none, none]
      else SR.nx [some (.list (ns.map PyData.int)), some (.list (es8.map PyData.int)), some (.list (ps'.map paQ)), some (.list (ps'.map arQ)), y4, y5, y6, y7, some (.list (W'.map PyData.int)), some (.list (L'.map Rq)), some (.list (G.map guD)), none, none, none, none, none, none, none, none]) =
      SR.nx [some (.list (ns.map PyData.int)), some (.list (es10.map PyData.int)), some (.list (ps'.map paQ)), some (.list (ps'.map arQ)), y4, y5, y6, y7, some (.list (W'.map PyData.int)), some (.list (L'.map Rq)), some (.list (G'.map guD)), z11, z12, z13, none, none, none, none, none] := by
    by_cases c : t8 = 0
    · refine ⟨G.set 0 ⟨(G.getD 0 u0).n, (G.getD 0 u0).v, t9, (G.getD 0 u0).s⟩, es9, some (.str (G.getD 0 u0).n), some (ipD (G.getD 0 u0).v), some (.int (G.getD 0 u0).q), mem_set hG ⟨g0k.v, by show Sm 10 t9; unfold Sm; omega, g0k.s⟩, by rw [List.length_set], ?_⟩
      rw [decide_eq_true c, if_pos rfl, List.map_set]
      rfl
    · exact ⟨G, es8, none, none, none, hG, rfl, by rw [decide_eq_false c]; rfl⟩
  obtain ⟨t11, es11, _, _, k11⟩ := m_tk es10 (many := 3) (by decide)
  have g0k' := hG' _ (getD_mem (L := G') (d := u0) (k := 0) (by omega))
  obtain ⟨G2, hG2, lG2, hB7⟩ : ∃ (G2 : List Gu), (∀ u ∈ G2, GuS u) ∧ G2.length = G.length ∧ (if decide (t11 = 0) = true then
      SR.nx [some (.list (ns.map PyData.int)), some (.list (es11.map PyData.int)), some (.list (ps'.map paQ)), some (.list (ps'.map arQ)), y4, y5, y6, y7, some (.list (W'.map PyData.int)), some (.list (L'.map Rq)), some (.list ((G'.map guD).set (G.length - 1) (guD (G'.getD 0 u0)))), z11, z12, z13, none, none, none, none, none]
      else SR.nx [some (.list (ns.map PyData.int)), some (.list (es11.map PyData.int)), some (.list (ps'.map paQ)), some (.list (ps'.map arQ)), y4, y5, y6, y7, some (.list (W'.map PyData.int)), some (.list (L'.map Rq)), some (.list (G'.map guD)), z11, z12, z13, none, none, none, none, none]) =
      SR.nx [some (.list (ns.map PyData.int)), some (.list (es11.map PyData.int)), some (.list (ps'.map paQ)), some (.list (ps'.map arQ)), y4, y5, y6, y7, some (.list (W'.map PyData.int)), some (.list (L'.map Rq)), some (.list (G2.map guD)), z11, z12, z13, none, none, none, none, none] := by
    by_cases c : t11 = 0
    · refine ⟨G'.set (G.length - 1) (G'.getD 0 u0), mem_set hG' g0k', by rw [List.length_set]; exact lG', ?_⟩
      rw [decide_eq_true c, if_pos rfl, List.map_set]
    · exact ⟨G', hG', lG', by rw [decide_eq_false c]; rfl⟩
  -- the checks
  have hs := hS.s
  have ep : psD (ps'.map Q25.a) = .tuple (ps'.map paQ) := by unfold psD; rw [List.map_map]; rfl
  have c1 := m_full hS.p (by have := hS.n4; omega)
  have c2 := m_nowear (ps'.map paQ) (by rw [List.length_map]; have := hS.n4; omega)
  have n1' : 1 ≤ (ps'.map Q25.a).length := by rw [List.length_map]; exact hS.n1
  have c3 := m_worst hs n1' hG2 (by omega) (by omega)
  obtain ⟨v4, c4⟩ := lw_loop2 hs n1' hG2 (by omega) (by omega) (some (.list (ns.map PyData.int))) (some (.list (es11.map PyData.int))) (some (.list (ps'.map arQ))) y5 y6 y7 z11 z12 z13 G2.length 0 y4 (by omega)
  have c4 : forM' (.n 4) b_law_l2 (intsD 0 G2.length) [some (.list (ns.map PyData.int)), some (.list (es11.map PyData.int)), some (psD (ps'.map Q25.a)), some (.list (ps'.map arQ)), y4, y5, y6, y7, some (wsD W'), some (lsD L'), some (.list (G2.map guD)), z11, z12, z13, some (.int 0), some (.list (G2.map (WR (ps'.map Q25.a) L' W'))), none, none, none] = _ := c4
  have lc := lcM_map (p := .n 18) (m := eF m_law_weakest [(eF m_law_margins [(eN 2), (eN 18), (eN 9), (eN 8)])]) (ρ0 := [some (.list (ns.map PyData.int)), some (.list (es11.map PyData.int)), some (psD (ps'.map Q25.a)), some (.list (ps'.map arQ)), y4, y5, y6, y7, some (wsD W'), some (lsD L'), some (.list (G2.map guD)), z11, z12, z13, some (.int 0), none, none, none, none]) (f := guD) (g := WR (ps'.map Q25.a) L' W') G2 (fun u hu => ⟨_, bindP_n _ _ _, by
    have e2 := l_margins hs (hG2 u hu)
    have e3 := l_weakest (mok hs n1' (hG2 u hu))
    have e3 : m_law_weakest [.list ((MT (ps'.map Q25.a) L' W' u).map Rq)] = .ok (WR (ps'.map Q25.a) L' W' u) := e3
    generalize (MT (ps'.map Q25.a) L' W' u).map Rq = MM at *
    generalize WR (ps'.map Q25.a) L' W' u = WRu at *
    generalize psD (ps'.map Q25.a) = PD at *
    generalize lsD L' = LD at *
    generalize wsD W' = WD at *
    generalize guD u = UD at *
    generalize ps'.map arQ = AD at *
    generalize ns.map PyData.int = NS at *
    generalize es11.map PyData.int = ES at *
    generalize G2.map guD = GD at *
    simp -implicitDefEqProofs only [callM, sSeq_ap, thn_nx, thn_ret, thn_ex, thn_brk, thn_cont, sNx_ap, sBrk_ap, sCont_ap, sSet_ap, sSetB_ap, sRet_ap, sRetN_ap, sDrop_ap, sIf_ap, sNew_ap, sPat_ap, sPar_ap, sRaise_ap, sFor_ap, sWhile_ap, sAug_ap, sApp_ap, ownL_ap, eN_ap, eC_ap, e1_ap, e2_ap, aL_nil, aL_cons, eT_ap, eL_ap, eB_ap, eF_ap, eIf_ap, eAnd_ap, eOr_ap, eNot_ap, eCh_ap, tV_ap, tAnd_ap, tOr_ap, tNot_ap, pN_ap, pS_ap, eSl_ap, iD_ap, iR1_ap, iR2_ap, iZ_ap, iE_ap, eNew_ap, eLc_ap, tTrue_ap, bindP_n, bindP_tt, bindP_tl, bindPs_nil, bindPs_cons, bind_ok, bind_ex, ofE_ok, ofE_ex, optE_some, truD_bool, isBool_bool, isInt_int, addD_int, subD_int, negD_int, ltD_int, leD_int, gtD_int, geD_int, intD_int, absD_int, lenD_tuple, lenD_list, tupleD_list, tupleD_tuple, itemsD_list, itemsD_tuple, eqD_int, neD_int, atD_tuple, atD_list, List.getElem?_cons_zero, List.getElem?_cons_succ, List.set_cons_zero, List.set_cons_succ, List.length_cons, List.length_nil, List.map_cons, List.map_nil, List.replicate, List.cons_append, List.nil_append, Option.bind_some, Option.bind_none, Option.map_some, Nat.reduceAdd, Nat.reduceSub, if_true, if_false, decide_true, decide_false, Bool.not_true, Bool.not_false, Bool.false_eq_true, reduceIte, Nat.reduceEqDiff, Nat.zero_add, Int.cast_ofNat_Int, Int.reduceEq, Int.reduceLT, Int.reduceLE, Int.reduceAdd, Int.reduceSub, Int.reduceMul, Int.reduceNeg, Nat.reduceLT, Nat.reduceLeDiff, Int.reduceToNat, Int.zero_add, ne_eq, isi_tuple_none, isi_tuple_bool, isi_tuple_int, isi_tuple_str, isi_tuple_list, isi_tuple_tuple, isi_tuple_dict, isi_int_none, isi_int_bool, isi_int_int, isi_int_str, isi_int_list, isi_int_tuple, isi_int_dict, isi_bool_none, isi_bool_bool, isi_bool_int, isi_bool_str, isi_bool_list, isi_bool_tuple, isi_bool_dict, isi_str_none, isi_str_bool, isi_str_int, isi_str_str, isi_str_list, isi_str_tuple, isi_str_dict, isi_list_none, isi_list_bool, isi_list_int, isi_list_str, isi_list_list, isi_list_tuple, isi_list_dict, isi_dict_none, isi_dict_bool, isi_dict_int, isi_dict_str, isi_dict_list, isi_dict_tuple, isi_dict_dict, atI0, atI1, atI2, atI3, atI4, atI5, pow1018, eqD_str, neD_str, eqD_bool, isD_none, isnD_none, isNone_none, isNone_tuple, isNone_int, isD_bool, isnD_bool, sz0, sz1, sz2, sz3, sz4, sz5, sz6, sz7, sz8, sz9, maxD_int, minD_int, sNewB_ap, sCatO_ap, sAugIx_ap, listOf_list, listOf_tuple, enumF_nil, enumF_cons, iZq_ap, iZ3_ap, iR3_ap, e2, e3]⟩)
  have hz : am (fG (ps'.map Q25.a) L' W' G2) G2.length < G2.length := am_lt _ (by omega)
  have aw := at_w (P := ps'.map Q25.a) (L := L') (W := W') hz
  have w0 := WR0 (P := ps'.map Q25.a) (L := L') (W := W') (G2.getD (am (fG (ps'.map Q25.a) L' W' G2) G2.length) u0)
  have w1 := WR1 (P := ps'.map Q25.a) (L := L') (W := W') (G2.getD (am (fG (ps'.map Q25.a) L' W' G2) G2.length) u0)
  have cdue : due (ps'.map Q25.a) L' W' G2 = .tuple [.int (am (fG (ps'.map Q25.a) L' W' G2) G2.length : Nat), .int (wk (MT (ps'.map Q25.a) L' W' (G2.getD (am (fG (ps'.map Q25.a) L' W' G2) G2.length) u0)) : Nat), Rq (wv (MT (ps'.map Q25.a) L' W' (G2.getD (am (fG (ps'.map Q25.a) L' W' G2) G2.length) u0)))] := rfl
  have s1 : m_law_same 12 [.tuple (ps'.map arQ), .tuple (ps'.map arQ)] = .ok (.bool true) := m_same 12 _ ⟨by rw [List.length_map]; have := hS.n4; omega, fun x hx => by
    obtain ⟨q, _, rfl⟩ := List.mem_map.mp hx
    exact lp_q hs n1' _⟩
  have s2 : m_law_same 12 [.tuple (zrs (ps'.map paQ).length), .tuple (zrs (ps'.map paQ).length)] = .ok (.bool true) := m_same 12 _ ⟨by unfold zrs; rw [List.length_replicate, List.length_map]; have := hS.n4; omega, fun x hx => by
    have := List.eq_of_mem_replicate hx
    rw [this]
    trivial⟩
  have s3 : m_law_same 12 [due (ps'.map Q25.a) L' W' G2, due (ps'.map Q25.a) L' W' G2] = .ok (.bool true) := m_same 12 _ ⟨by show 3 < 2 ^ 62; decide, fun x hx => by
    simp only [List.mem_cons, List.not_mem_nil, or_false] at hx
    rcases hx with rfl | rfl | rfl
    · trivial
    · trivial
    · exact lp_q hs n1' _⟩
  have lz := lc_zr (p := .n 17) (i := 17) (ρ0 := [some (.list (ns.map PyData.int)), some (.list (es11.map PyData.int)), some (psD (ps'.map Q25.a)), some (.list (ps'.map arQ)), y4, y5, y6, y7, some (wsD W'), some (lsD L'), some (.list (G2.map guD)), z11, z12, z13, none, none, none, none, none]) rfl (ps'.map paQ)
  have ng : m_law_no_gust [psD (ps'.map Q25.a), lsD L', wsD W'] = .ok (.bool true) := m_nogust _ _ _
  rw [← ep] at c1 c2
  have itP : itemsD (psD (ps'.map Q25.a)) = some (ps'.map paQ) := by rw [ep]; rfl
  have llP : (ps'.map paQ).length ≤ 1000000 := by rw [List.length_map]; have := hS.n4; omega
  have llP0 : (ps.map paQ).length ≤ 1000000 := by rw [List.length_map]; omega
  have llG : (G2.map guD).length ≤ 1000000 := by rw [List.length_map]; omega
  have llI : (intsD 0 (t6 + 1)).length ≤ 1000000 := by rw [intsD_len]; omega
  have rgG := rng1D_nat (n := G2.length) (by omega)
  have lnG : lenD [.list (G2.map guD)] = some (.int (G2.length : Int)) := by rw [lenD_list, List.length_map]
  have a2 := at_0 paQ (l := ps) (by omega) q0
  have a3 := at_0 arQ (l := ps) (by omega) q0
  have a8 := at_0 PyData.int (l := W) (by omega) 0
  have a9 := at_0 Rq (l := L) (by omega) 0
  have x2' : ixN (ps.map paQ).length (-1) = some (ps.length - 1) := by rw [List.length_map]; exact ix_last (by omega)
  have x3' : ixN (ps.map arQ).length (-1) = some (ps.length - 1) := by rw [List.length_map]; exact ix_last (by omega)
  have x8' : ixN (W.map PyData.int).length (-1) = some (ps.length - 1) := by rw [List.length_map, lW]; exact ix_last (by omega)
  have x9' : ixN (L.map Rq).length (-1) = some (ps.length - 1) := by rw [List.length_map, lL]; exact ix_last (by omega)
  have f2 : lf (paQ (ps.getD 0 q0)) = true := p0k.lfp
  have f3 : lf (arQ (ps.getD 0 q0)) = true := rfl
  have f8 : lf (.int (W.getD 0 0)) = true := rfl
  have f9 : lf (Rq (L.getD 0 0)) = true := rfl
  have a10 := at_0 guD (l := G) (by omega) u0
  have b10 := at_0 guD (l := G') (by omega) u0
  have x10 : ixN (G.map guD).length 0 = some 0 := by rw [List.length_map]; exact ix_0 (by omega)
  have x10' : ixN (G'.map guD).length (-1) = some (G.length - 1) := by rw [List.length_map, lG']; exact ix_last (by omega)
  have g0 := gu0 (G.getD 0 u0)
  have g1 := gu1 (G.getD 0 u0)
  have fg0 : lf (.tuple [.str (G.getD 0 u0).n, ipD (G.getD 0 u0).v, .int (G.getD 0 u0).q]) = true := rfl
  have fg1 : lf (.tuple [.tuple [.str (G.getD 0 u0).n, ipD (G.getD 0 u0).v, .int t9], Rq (G.getD 0 u0).s]) = true := rfl
  have fg2 : lf (guD (G'.getD 0 u0)) = true := rfl
  have bp : ∀ (x y z : D) (r : EnvD), bindP (.t [.n 11, .n 12, .n 13]) (.tuple [x, y, z]) r = some (((r.set 11 (some x)).set 12 (some y)).set 13 (some z)) := fun _ _ _ _ => rfl
  have nm1 : negD (.int 1) = some (.int (-1)) := rfl
  have fi : ∀ l : List Int, lfAll (l.map PyData.int) = true := lfA_ints
  have fr := lfA_rq L
  have fW := lfA_ints W
  have fE3 := lfA_ints es3
  have fE4 := lfA_ints es4
  have fE9 := lfA_ints es9
  have il : itemsL [.tuple (L.map Rq)] = some (L.map Rq) := rfl
  have tp2 : tupleD [.list (ps'.map paQ)] = some (psD (ps'.map Q25.a)) := by rw [ep]; rfl
  have tp8 : tupleD [.list (W'.map PyData.int)] = some (wsD W') := rfl
  have tp9 : tupleD [.list (L'.map Rq)] = some (lsD L') := rfl
  have tp3 : tupleD [.list (ps'.map arQ)] = some (.tuple (ps'.map arQ)) := rfl
  have tpG : tupleD [.list (G2.map guD)] = some (.tuple (G2.map guD)) := rfl
  clear ep hs hS hG hG' hG2 hp hW hL p0k w0k l0k g0k g0k' fi
  generalize due (ps'.map Q25.a) L' W' G2 = DU at *
  generalize WR (ps'.map Q25.a) L' W' (G2.getD (am (fG (ps'.map Q25.a) L' W' G2) G2.length) u0) = WRA at *
  generalize hWG : G2.map (WR (ps'.map Q25.a) L' W') = WL at *
  generalize Rq (wv (MT (ps'.map Q25.a) L' W' (G2.getD (am (fG (ps'.map Q25.a) L' W' G2) G2.length) u0))) = QV at *
  generalize wk (MT (ps'.map Q25.a) L' W' (G2.getD (am (fG (ps'.map Q25.a) L' W' G2) G2.length) u0)) = KV at *
  generalize am (fG (ps'.map Q25.a) L' W' G2) G2.length = AM at *
  generalize psD (ps'.map Q25.a) = PSD at *
  generalize lsD L' = LSD at *
  generalize wsD W' = WSD at *
  generalize Rq (G.getD 0 u0).s = GS0 at *
  generalize ipD (G.getD 0 u0).v = GV0 at *
  generalize guD (G.getD 0 u0) = Y0 at *
  generalize guD (G'.getD 0 u0) = Y1 at *
  generalize paQ (ps.getD 0 q0) = X2 at *
  generalize arQ (ps.getD 0 q0) = X3 at *
  generalize Rq (L.getD 0 0) = X9 at *
  generalize ps.length - 1 = N1 at *
  generalize G.length - 1 = N2 at *
  generalize intsD 0 G2.length = IG at *
  generalize intsD 0 (t + 1) = I1 at *
  generalize intsD 0 (t6 + 1) = I6 at *
  generalize hz' : zrs (ps'.map paQ).length = ZR at *
  generalize ps.map paQ = PD0 at *
  generalize ps.map arQ = AD0 at *
  generalize W.map PyData.int = WD0 at *
  generalize L.map Rq = LD0 at *
  generalize ps'.map paQ = PD1 at *
  generalize ps'.map arQ = AD1 at *
  generalize W'.map PyData.int = WD1 at *
  generalize L'.map Rq = LD1 at *
  generalize G.map guD = GD0 at *
  generalize G'.map guD = GD1 at *
  generalize G2.map guD = GD2 at *
  generalize ns.map PyData.int = NS at *
  unfold m_law b_law
  generalize b_law_l1 = B1 at *
  generalize b_law_l2 = B2 at *
  simp -implicitDefEqProofs only [callM, sSeq_ap, thn_nx, thn_ret, thn_ex, thn_brk, thn_cont, sNx_ap, sBrk_ap, sCont_ap, sSet_ap, sSetB_ap, sRet_ap, sRetN_ap, sDrop_ap, sIf_ap, sNew_ap, sPat_ap, sPar_ap, sRaise_ap, sFor_ap, sWhile_ap, sAug_ap, sApp_ap, ownL_ap, eN_ap, eC_ap, e1_ap, e2_ap, aL_nil, aL_cons, eT_ap, eL_ap, eB_ap, eF_ap, eIf_ap, eAnd_ap, eOr_ap, eNot_ap, eCh_ap, tV_ap, tAnd_ap, tOr_ap, tNot_ap, pN_ap, pS_ap, eSl_ap, iD_ap, iR1_ap, iR2_ap, iZ_ap, iE_ap, eNew_ap, eLc_ap, tTrue_ap, bindP_n, bindP_tt, bindP_tl, bindPs_nil, bindPs_cons, bind_ok, bind_ex, ofE_ok, ofE_ex, optE_some, truD_bool, isBool_bool, isInt_int, addD_int, subD_int, negD_int, ltD_int, leD_int, gtD_int, geD_int, intD_int, absD_int, lenD_tuple, lenD_list, tupleD_list, tupleD_tuple, itemsD_list, itemsD_tuple, eqD_int, neD_int, atD_tuple, atD_list, List.getElem?_cons_zero, List.getElem?_cons_succ, List.set_cons_zero, List.set_cons_succ, List.length_cons, List.length_nil, List.map_cons, List.map_nil, List.replicate, List.cons_append, List.nil_append, Option.bind_some, Option.bind_none, Option.map_some, Nat.reduceAdd, Nat.reduceSub, if_true, if_false, decide_true, decide_false, Bool.not_true, Bool.not_false, Bool.false_eq_true, reduceIte, Nat.reduceEqDiff, Nat.zero_add, Int.cast_ofNat_Int, Int.reduceEq, Int.reduceLT, Int.reduceLE, Int.reduceAdd, Int.reduceSub, Int.reduceMul, Int.reduceNeg, Nat.reduceLT, Nat.reduceLeDiff, Int.reduceToNat, Int.zero_add, ne_eq, isi_tuple_none, isi_tuple_bool, isi_tuple_int, isi_tuple_str, isi_tuple_list, isi_tuple_tuple, isi_tuple_dict, isi_int_none, isi_int_bool, isi_int_int, isi_int_str, isi_int_list, isi_int_tuple, isi_int_dict, isi_bool_none, isi_bool_bool, isi_bool_int, isi_bool_str, isi_bool_list, isi_bool_tuple, isi_bool_dict, isi_str_none, isi_str_bool, isi_str_int, isi_str_str, isi_str_list, isi_str_tuple, isi_str_dict, isi_list_none, isi_list_bool, isi_list_int, isi_list_str, isi_list_list, isi_list_tuple, isi_list_dict, isi_dict_none, isi_dict_bool, isi_dict_int, isi_dict_str, isi_dict_list, isi_dict_tuple, isi_dict_dict, atI0, atI1, atI2, atI3, atI4, atI5, pow1018, eqD_str, neD_str, eqD_bool, isD_none, isnD_none, isNone_none, isNone_tuple, isNone_int, isD_bool, isnD_bool, sz0, sz1, sz2, sz3, sz4, sz5, sz6, sz7, sz8, sz9, maxD_int, minD_int, sNewB_ap, sCatO_ap, sAugIx_ap, listOf_list, listOf_tuple, enumF_nil, enumF_cons, iZq_ap, iZ3_ap, iR3_ap, callMO, ofX_some, xP_ok, x1_ap, x2_ap, xL_nil, xL_cons, xTu_ap, xLi_ap, xB_ap, xF_ap, pairD_ok, xO_ap, xPop_ap, xV_ap, xAnd_ap, xOr_ap, xNot_ap, xiD_ap, xiR1_ap, xN'_ap, xnL_ap, xLc_ap, sSetX_ap, sPatX_ap, sIfX_ap, sForX_ap, sAppX_ap, sNewX_ap, sRetX_ap, sRetO_ap, sRetF_ap, xLd_ap, xnLd_ap, sSetIxX_ap, nF_ap, listE_ok, mrg_nil, mrg_cons, sSetIx_ap, wipeR, xP_ok, lfS_1, lfS_0, mrg_1, mrg_0, Bool.and_self, k0, k1, rg1, k2, llP0, k3, fW, fE3, k4, il, fr, fE4, k5, nm1, a2, f2, x2', a3, f3, x3', a8, f8, x8', a9, f9, x9', hB4, k6, rg6, llI, k7, k8, a10, g0, fg0, bp, k9, g1, fg1, fE9, x10, hB6, k11, b10, fg2, x10', hB7, tp2, tp8, tp9, tp3, tpG, c1, s1, itP, llP, lz, c2, s2, llG, lc, lnG, rgG, c4, aw, w0, w1, c3, ← cdue, s3, ng]

end K25

open PySem PySem.W PySem.Calls PyProof.Rows in
set_option maxHeartbeats 0 in
theorem PySem.Challenge.cw_sailloft_k25_margins_holds : PySem.Challenge.rw_sailloft_k25_margins.Holds :=
  K25.fin K25.law_true
