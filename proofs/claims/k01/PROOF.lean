import PyProof.Rows.All
import Wide.All
import OpenK.AllK
import Wide.FinOn
import HandS.Zip
import PyProof.Draws
import HandS.TupAny
import HandS.ForMost
import HandS.SortInts
import HandS.Deep
import HandS.IsInst
import HandS.Style
import HandS.RaiseMore
import HandS.NoneIn
import HandS.Conv
import HandS.Dict
import HandS.Small
import HandS.WordsDict
import HandS.More
import HandS.TupMul
import HandS.CallSlots
import HandS.Flow
import HandS.Strs
import HandS.Ends
import PySem.Challenge.RW_lapsewalk_k01_state_of_any_value
set_option Elab.async false
set_option linter.all false
set_option maxRecDepth 100000
set_option maxHeartbeats 4000000
/-! MP: enumerate of a list or a tuple. -/
namespace MP
open PySem L2 PySem.Spec PyProof.Rows
open AutoSeq1 (wpAny_loadPart')

theorem meets_enumerate_newT (l : Addr) (items : Array Value) (n : Nat) (dct : Option Addr) (sl : Array (Option Value)) :
    Meets (Builtin.«enumerate.__new__» ⟨[.type "enumerate", .ref l], []⟩) (fun _ R s => s.heap.get? l = some { cls := .type "tuple", dict := dct, data := .seq items n, slots := sl } ∧
      R (.ok (.ret (.ref (s.heap.push { cls := .type "tuple_iterator", data := .fields #[.ref l, .int 0 0] }).objs.size)))
        { s with heap := (s.heap.push { cls := .type "tuple_iterator", data := .fields #[.ref l, .int 0 0] }).push { cls := .type "enumerate", data := .fields #[.none, .bool false, .ref s.heap.objs.size, rawInt 0, .none, .none] } }) :=
  .of_wp fun prog w A R s h => by
    obtain ⟨hp, g, d, tk, os⟩ := s; obtain ⟨hl, h⟩ := h
    have hsub := sub_enumerate
    have hL : Heap.IsTuple (Shared.heap ⟨hp, g, d, tk, os⟩) l items := ⟨_, hl, rfl, n, rfl⟩
    wp_walk using wpAny_loadPart' hl
    refine wpAny_stack_any fun st => wpAny_pure ?_
    split
    · rename_i c _ _ _ _ _
      cases (c == Value.type "enumerate")
      · wp_walk using wpAny_loadPart' hl, wpAny_pyIter_tuple hL
        exact ⟨_, rfl, h⟩
      · wp_walk using wpAny_loadPart' hl, wpAny_pyIter_tuple hL
        exact ⟨_, rfl, h⟩
    · wp_walk using wpAny_loadPart' hl, wpAny_pyIter_tuple hL
      exact ⟨_, rfl, h⟩
theorem call_enumerate_tuple {prog : Program} {w : World} {A : Around} {E : Value → Shared → Prop} {s : Shared} {l : Addr} {items : Array Value} {Q : Value → Shared → Prop} (hL : s.heap.IsTuple l items)
    (h : ∀ h', IsEnum h' (s.heap.objs.size + 1) s.heap.objs.size 0 .none → h'.IsTupleIter s.heap.objs.size l 0 → h'.objs.size = s.heap.objs.size + 2 →
      (∀ b o, s.heap.get? b = some o → h'.get? b = some o) → Q (.ref (s.heap.objs.size + 1)) { s with heap := h' }) :
    wpAny (model prog w) A (call (.type "enumerate") [.ref l]) Q E s := by
  obtain ⟨⟨c, dct, dt, sl⟩, hl, hc, n, hd⟩ := hL
  replace hc : c = .type "tuple" := hc
  replace hd : dt = .seq items n := hd
  subst hc hd
  refine callType_new F.called_enumerate (by decide) (F.typeCall_enumerate_1 _) (F.newCall_enumerate_1 _) (fun obj => F.args_object_init_2 obj _) F.entry_enumerate_new
    (meets_enumerate_newT l items n dct sl) ⟨hl, ?_⟩
  have hz : (s.heap.push { cls := .type "tuple_iterator", data := .fields #[.ref l, .int 0 0] }).objs.size = s.heap.objs.size + 1 := Heap.size_push ..
  show _ ∧ _
  rw [hz]
  have he : IsEnum ((s.heap.push { cls := .type "tuple_iterator", data := .fields #[.ref l, .int 0 0] }).push
      { cls := .type "enumerate", data := .fields #[.none, .bool false, .ref s.heap.objs.size, rawInt 0, .none, .none] }) (s.heap.objs.size + 1) s.heap.objs.size 0 .none := by
    have := Heap.get?_push_size (s.heap.push { cls := .type "tuple_iterator", data := .fields #[.ref l, .int 0 0] })
      (o := { cls := .type "enumerate", data := .fields #[.none, .bool false, .ref s.heap.objs.size, rawInt 0, .none, .none] }) rfl
    rw [hz] at this; exact this
  refine ⟨⟨_, he, rfl⟩, h _ he ⟨_, Heap.get?_push_of_some _ (Heap.get?_push_size _ rfl), rfl, rfl⟩ (by rw [Heap.size_push, hz]) fun b o x => Heap.get?_push_of_some _ (Heap.get?_push_of_some _ x)⟩
theorem draws_tuple {prog : Program} {w : World} {A : Around} (hh : A.handled = none) (it t : Addr) (items : Array Value) (hne : it ≠ t) : Draws prog w A it [it, t] items.size (fun i x => items[i]? = some x) (fun i h => h.IsTupleIter it t i ∧ h.IsTuple t items) where
  live := fun i h ⟨⟨o, ho, _⟩, _⟩ => ⟨o, ho⟩
  frame := fun i h h' ⟨⟨o, ho, r⟩, ⟨o2, ho2, r2⟩⟩ k => ⟨⟨o, k it (by simp) o ho, r⟩, ⟨o2, k t (by simp) o2 ho2, r2⟩⟩
  item := fun i s Q E hi ⟨hit, hl⟩ hQ => by
    have hx : items[i]? = some items[i] := Array.getElem?_eq_getElem hi
    refine RZ.nextOf_tuple_item hit hl hx fun h' hit' sb => hQ _ h' s.toks hx ⟨hit', ?_⟩ sb
    obtain ⟨o2, ho2, r2⟩ := hl
    exact ⟨o2, (sb.2 t (Ne.symm hne)).trans ho2, r2⟩
  done := fun s Q E ⟨hit, hl⟩ hE => RZ.nextOf_tuple_end hh hit hl (Array.getElem?_eq_none (Nat.le_refl _)) hE
theorem draws_end {prog : Program} {w : World} {A : Around} (hh : A.handled = none) (it t : Addr) (items : Array Value) (n : Nat) (hn : items.size ≤ n) : Draws prog w A it [it, t] n (fun i x => False) (fun i h => i = n ∧ h.IsTupleIter it t n ∧ h.IsTuple t items) where
  live := fun i h ⟨_, ⟨o, ho, _⟩, _⟩ => ⟨o, ho⟩
  frame := fun i h h' ⟨e, ⟨o, ho, r⟩, ⟨o2, ho2, r2⟩⟩ k => ⟨e, ⟨o, k it (by simp) o ho, r⟩, ⟨o2, k t (by simp) o2 ho2, r2⟩⟩
  item := fun i s Q E hi ⟨e, hit, hl⟩ hQ => absurd hi (by omega)
  done := fun s Q E ⟨_, hit, hl⟩ hE => RZ.nextOf_tuple_end hh hit hl (Array.getElem?_eq_none hn) hE
/-- the tuple at a, each item in a new pair -/
def IteT (K : PySem.W.Frag) (a : Addr) : It :=
  ⟨fun i H => ∃ (xs : List V) (x : V), SqT K H a xs ∧ xs[i]? = some x, fun i H v H' => ∃ T x, v = .ref T ∧ H T = none ∧ H' = upd H T (.tup [.int (i : Nat), x]) ∧ ∀ xs, SqT K H a xs → xs[i]? = some x, fun i H => ∃ xs : List V, SqT K H a xs ∧ xs.length ≤ i⟩
theorem enum_apart {s : Shared} {e it a : Addr} {i : Nat} {old : Value} {items : Array Value} (he : IsEnum s.heap e it ((i : Nat) : Int) old) (hit : s.heap.IsTupleIter it a i) (ht : s.heap.IsTuple a items) : e ≠ a ∧ it ≠ a := by
  obtain ⟨o, ho, hc, _⟩ := ht
  obtain ⟨o2, ho2, hc2, _⟩ := hit
  refine ⟨fun z => ?_, fun z => ?_⟩
  · have he : s.heap.get? e = some _ := he
    rw [z, ho] at he
    cases he
    have hc : Value.type "enumerate" = Value.type "tuple" := hc
    exact absurd hc (by decide)
  · rw [z, ho] at ho2
    cases ho2
    rw [hc] at hc2
    have hc2 : Value.type "tuple" = Value.type "tuple_iterator" := hc2
    exact absurd hc2 (by decide)
theorem tup_inj {X : Cx} {pins : List (Addr × Obj)} {σ : L2.St} {H : Hp} {s : Shared} {a : Addr} {xs ys : List V} (I : Inv X pins σ H s) (h : SqT X.K H a xs) (h' : SqT X.K H a ys) : xs = ys := I.tuple_inj h h'
theorem turn_enumT {P : Program} {w : World} {K : PySem.W.Frag} {elts : List Expr} {kk : Nat} {tpos : Pos} (a e it : Addr) :
    Turn P w K (.Tuple elts kk tpos) (IteT K a) [e, it] e (fun i h => (∃ old, IsEnum h e it ((i : Nat) : Int) old) ∧ h.IsTupleIter it a i ∧ e ≠ it) where
  mem := by simp
  obj := fun i h st b hb => by
    obtain ⟨⟨old, he⟩, ⟨o, ho, hc, hd⟩, _⟩ := st
    have e' : b = e ∨ b = it := by simpa using hb
    rcases e' with z | z
    · rw [z]; exact ⟨_, he, fun v q => nomatch q⟩
    · rw [z]; exact ⟨o, ho, fun v q => by rw [hd] at q; cases q⟩
  keep := fun i h h' st k => let ⟨⟨old, he⟩, ⟨o, ho, r⟩, hne⟩ := st; ⟨⟨old, k e (by simp) _ he⟩, ⟨o, k it (by simp) o ho, r⟩, hne⟩
  item := by
    intro X hP hw hK hc i pins s σ H E I hf st hg
    subst hP hw hK
    obtain ⟨⟨old, he⟩, hit, hne⟩ := st
    obtain ⟨xs, x, hq, hx⟩ := hg
    obtain ⟨its, rv, p, hz⟩ := I.tuple hq
    obtain ⟨u, hu, ru⟩ := rv.get hx
    have p : s.heap.IsTuple a its.toArray := p
    obtain ⟨hea, hia⟩ := enum_apart he hit p
    have hel : e < s.heap.objs.size := Heap.lt_size he
    have hil : it < s.heap.objs.size := by obtain ⟨_, q, _⟩ := hit; exact Heap.lt_size q
    have hlt : i < its.toArray.size := by
      have := (List.getElem?_eq_some_iff.mp hu).1
      simpa using this
    refine wpAny_pyNext_enum_itemD (draws_tuple (A := X.A.in1) (I.ok.hd hc) it a its.toArray hia) he ⟨hit, p⟩ hlt hne (by simp [hne, hea]) fun y h' tk hy ho hst hT hsz hk => ?_
    have hy : its[i]? = some y := by simpa using hy
    rw [hu] at hy; cases hy
    refine ⟨_, rfl, wpAny_letOwnedTupleGo_enum (s := { s with heap := h', toks := tk + 1 }) ho fun h'' he' sb => ?_⟩
    have hT2 : h''.get? s.heap.objs.size = some { cls := .type "tuple", data := .seq #[.int i tk, u] } := (sb.2 _ (Nat.ne_of_gt hel)).trans hT
    have new : ObjOk X.prog X.w (upd H s.heap.objs.size (.tup [.int (i : Nat), x])) h'' s.heap.objs.size (.tup [.int (i : Nat), x]) :=
      ⟨by show 2 ≤ sizeLine; decide, [.int i tk, u], .cons ⟨_, rfl⟩ (.cons ru .nil), ⟨_, hT2, rfl, _, rfl⟩⟩
    have I1 : Inv X pins σ (upd H s.heap.objs.size (.tup [.int (i : Nat), x])) { s with heap := h'', toks := tk + 1 } :=
      I.turnedNew (ch := [e, it]) (fun b ob hb q => (sb.2 b (fun z => hb (by simp [z]))).trans (hk b ob (fun z => hb (by simp [z])) (fun z => hb (by simp [z])) q)) hf (Nat.le_refl _) new
    refine ⟨.ref s.heap.objs.size, _, I1, rfl, ⟨_, x, rfl, I.hok.fresh (Nat.le_refl _), rfl, fun ys hy => by rw [tup_inj I hy hq]; exact hx⟩, ⟨⟨u, ?_⟩, ?_, hne⟩, fun b hb => ?_⟩
    · have e1 : ((i + 1 : Nat) : Int) = (i : Int) + 1 := by omega
      rw [e1]; exact he'
    · obtain ⟨⟨o, ho2, r2⟩, _⟩ := hst
      exact ⟨o, (sb.2 it (Ne.symm hne)).trans ho2, r2⟩
    · have hb' : b < s.heap.objs.size := by
        have e' : b = e ∨ b = it := by simpa using hb
        rcases e' with z | z
        · rw [z]; exact hel
        · rw [z]; exact hil
      rw [upd_ne (Nat.ne_of_lt hb')]
      exact (hf b hb).1
  done := by
    intro X hP hw hK hc i pins s σ H E I hf st hg
    subst hP hw hK
    obtain ⟨⟨old, he⟩, hit, hne⟩ := st
    obtain ⟨xs, hq, hx⟩ := hg
    obtain ⟨its, rv, p, hz⟩ := I.tuple hq
    obtain ⟨f0, f1, f2, f3, f4, f5⟩ := hf it (by simp)
    have p : s.heap.IsTuple a its.toArray := p
    obtain ⟨hea, hia⟩ := enum_apart he hit p
    have hl := rv.length
    have e1 : its.toArray.size ≤ i := by simp; omega
    exact wpAny_pyNext_enum_endD (draws_end (A := X.A.in1) (I.ok.hd hc) it a its.toArray i e1) he ⟨rfl, hit, p⟩ fun h' eb => ⟨rfl, I.turned (t' := s.toks) (fun b o hb q => eb b o hb q) f0 f1 f3 f4 f5⟩
  self := fun A i s Q E st h => let ⟨⟨_, he⟩, _⟩ := st; wpAny_pyIter_enum he h
def iEnumA (K : PySem.W.Frag) (ta : TA) : TI := fun σ H R => ta σ H fun vs H1 => ∃ a xs, vs = [.ref a] ∧ ((SqL K H1 a xs ∧ R (Ite K a) H1) ∨ (SqT K H1 a xs ∧ R (IteT K a) H1))
theorem pi_enumA {X : Cx} {e : Expr} {ta : TA} {p pos tpos : Pos} {elts : List Expr} {kk : Nat} (hg : Gl X "enumerate") (hm : X.mg "enumerate" = none) (ha : PA X [e] ta) (hs : starEach [e] X.env = [(false, eval e X.env)]) :
    PI X (.Tuple elts kk tpos) (.Call (.Name "enumerate" p) [e] [] pos) (iEnumA X.K ta) := by
  refine ⟨fun pins s σ H R I h => ?_⟩
  refine Call_ (ld_blt I hg hm boot_enumerate (PyProof.Rows.callWith_type1 (thn (ha.run pos pins s σ H _ I h) fun us s1 ⟨vs, H1, I1, r1, q1⟩ => ?_) hs rfl))
  obtain ⟨a, xs, ex, q1⟩ := q1
  subst ex
  cases r1 with
  | cons r rr =>
    cases rr
    cases r
    have fr : ∀ b, b ∈ [s1.heap.objs.size + 1, s1.heap.objs.size] → FpOk X pins H1 b := fun b hb => by
      have e' : b = s1.heap.objs.size + 1 ∨ b = s1.heap.objs.size := by simpa using hb
      have hle : s1.heap.objs.size ≤ b := by
        rcases e' with z | z
        · rw [z]; exact Nat.le_add_right _ _
        · rw [z]; exact Nat.le_refl _
      exact I1.fpOk hle (I1.hok.fresh hle)
    rcases q1 with ⟨hq, q⟩ | ⟨hq, q⟩
    · obtain ⟨its, rv, p', hz⟩ := I1.list hq
      refine call_enumerate_list p'.isList fun h' he hit hsz hk => wpAny_pyIter_enum he ?_
      have I2 : Inv X pins σ H1 { s1 with heap := h' } := I1.kept (t' := s1.toks) hk
      exact ⟨s1.heap.objs.size + 1, [s1.heap.objs.size + 1, s1.heap.objs.size], _, _, H1, rfl, I2, turn_enum a (s1.heap.objs.size + 1) s1.heap.objs.size, ⟨⟨.none, he⟩, hit, Nat.succ_ne_self _⟩, fr, q⟩
    · obtain ⟨its, rv, p', hz⟩ := I1.tuple hq
      refine call_enumerate_tuple (show s1.heap.IsTuple a its.toArray from p') fun h' he hit hsz hk => wpAny_pyIter_enum he ?_
      have I2 : Inv X pins σ H1 { s1 with heap := h' } := I1.kept (t' := s1.toks) hk
      exact ⟨s1.heap.objs.size + 1, [s1.heap.objs.size + 1, s1.heap.objs.size], _, _, H1, rfl, I2, turn_enumT a (s1.heap.objs.size + 1) s1.heap.objs.size, ⟨⟨.none, he⟩, hit, Nat.succ_ne_self _⟩, fr, q⟩
end MP

/-! MP: min and max of a tuple of ints. -/
namespace PySem
open AutoSeq1
theorem list_extend_tupleG (l : Addr) (items : Array Value) (n : Nat) (b : Addr) (items2 : Array Value) (n2 : Nat) {dd : Option Addr} {sls : Array (Option Value)} (hs0 : ¬(!items.isEmpty && Builtin.List.listTooLong (items.size + items2.size)) = true) (hs1 : items.size ≤ sizeLine) (hs2 : items.size + items2.size ≤ sizeLine + 1) :
    Meets (Builtin.«list.extend» ⟨[.ref l, .ref b], []⟩) (fun _ R s => s.heap.get? l = some { cls := .type "list", dict := none, data := .seq items n, slots := #[] } ∧ s.heap.get? b = some { cls := .type "tuple", dict := dd, data := .seq items2 n2, slots := sls } ∧ R (.ok (.ret Value.none)) { s with heap := s.heap.update l (Obj.mapSeq fun x => x ++ items2), toks := s.toks }) :=
  .of_wp fun prog w A R s h => by
    obtain ⟨hp, g, d, tk, os⟩ := s; obtain ⟨hl, hb, h⟩ := h; have f1 := idx_int; have f2 := sub_tuple_tuple; have f3 := sub_list_list; have f4 := sub_tuple_list; have f5 := sub_list_tuple;
    have hz' : (items ++ items2).size ≤ sizeLine + 1 := by rw [Array.size_append]; exact hs2
    wp_walk using (wpAny_updateSeq hl rfl (hz := hs1) (_hz' := hz')), wpAny_loadPart' hl, wpAny_loadPart' hb; exact ⟨_, rfl, h⟩
end PySem
namespace PySem
section
variable {prog : Program} {w : World} {A : Around} {E : Value → Shared → Prop} {s : Shared} {l : Addr} {xs : Array (Int × Tok)}
theorem iter_intTuple {Q : Value → Shared → Prop} (hl : s.heap.IsTuple l (intItems xs))
    (h : ∀ s₂ : Shared, s₂ = { s with heap := s.heap.push { cls := .type "tuple_iterator", data := .fields #[.ref l, .int 0 0] } } →
      (s₂.heap.IsTupleIter s.heap.objs.size l 0 ∧ s₂.heap.IsTuple l (intItems xs)) → (∀ b ∈ [s.heap.objs.size, l], b < s₂.heap.objs.size) → l ≠ s.heap.objs.size → Q (.ref s.heap.objs.size) s₂) :
    wpAny (model prog w) A (pyIter (.ref l)) Q E s := by
  have hlt : l < s.heap.objs.size := by obtain ⟨_, e, _⟩ := hl; exact Heap.lt_size e
  refine wpAny_pyIter_tuple hl (h _ rfl ⟨⟨_, Heap.get?_push_size _ rfl, rfl, rfl⟩, hl.push _⟩ (fun b hb => ?_) (Nat.ne_of_lt hlt))
  show b < (s.heap.push _).objs.size
  rw [Heap.size_push]
  rcases List.mem_cons.mp hb with rfl | hb
  · exact Nat.lt_succ_self _
  · rcases List.mem_cons.mp hb with rfl | hb
    · exact Nat.lt_succ_of_lt hlt
    · cases hb
theorem old_keptT {h' : Heap} (hk : ∀ b o, b ∉ [s.heap.objs.size] → (s.heap.push { cls := .type "tuple_iterator", data := .fields #[.ref l, .int 0 0] }).get? b = some o → h'.get? b = some o) :
    ∀ b o, s.heap.get? b = some o → h'.get? b = some o := fun b o e => by
  refine hk b o (fun hm => ?_) (Heap.get?_push_of_some _ e)
  rcases List.mem_cons.mp hm with e1 | hm
  · exact absurd (e1 ▸ Heap.lt_size e) (Nat.lt_irrefl _)
  · cases hm
theorem max_intTuple {Q : Value → Shared → Prop} (hh : A.handled = none) (hl : s.heap.IsTuple l (intItems xs)) (hne : 0 < xs.size)
    (h : ∀ v h' tk, (intItems xs)[argBest (fun i j => decide (numAt xs i > numAt xs j)) (xs.size - 1)]? = some v → (∀ b o, s.heap.get? b = some o → h'.get? b = some o) → Q v { s with heap := h', toks := tk }) :
    wpAny (model prog w) A (call (.builtin "max") [.ref l]) Q E s := by
  refine call_max_walk (iter_intTuple hl fun s₂ e st hfp hlI => ?_)
  subst e
  refine ⟨_, _, _, _, _, _, _, rfl, Walks.tuple (A := A.in1) hh _ l hlI (intItems xs), st, hfp, by simpa [intItems] using hne, CmpOf.ints_gt (numAt xs) (fun _ _ => intItems_at), fun v h' tk hP hk => ?_⟩
  exact h v h' tk (by simpa [intItems] using hP) (old_keptT hk)
theorem min_intTuple {Q : Value → Shared → Prop} (hh : A.handled = none) (hl : s.heap.IsTuple l (intItems xs)) (hne : 0 < xs.size)
    (h : ∀ v h' tk, (intItems xs)[argBest (fun i j => decide (numAt xs i < numAt xs j)) (xs.size - 1)]? = some v → (∀ b o, s.heap.get? b = some o → h'.get? b = some o) → Q v { s with heap := h', toks := tk }) :
    wpAny (model prog w) A (call (.builtin "min") [.ref l]) Q E s := by
  refine call_min_walk (iter_intTuple hl fun s₂ e st hfp hlI => ?_)
  subst e
  refine ⟨_, _, _, _, _, _, _, rfl, Walks.tuple (A := A.in1) hh _ l hlI (intItems xs), st, hfp, by simpa [intItems] using hne, CmpOf.ints_lt (numAt xs) (fun _ _ => intItems_at), fun v h' tk hP hk => ?_⟩
  exact h v h' tk (by simpa [intItems] using hP) (old_keptT hk)
end
end PySem
namespace MP
open PySem L2 PySem.Spec PyProof.Rows
section
variable {prog : Program} {w : World} {A : Around} {E : Value → Shared → Prop} {s : Shared} {l : Addr} {its : List Value} {ns : List Int} {Q : Value → Shared → Prop}
theorem max_rawT (hh : A.handled = none) (hl : s.heap.IsTuple l its.toArray) (hi : IntsAre its ns) (hne : 0 < ns.length)
    (h : ∀ h' tk M t', (∀ b o, s.heap.get? b = some o → h'.get? b = some o) → M ∈ ns → (∀ a, a ∈ ns → a ≤ M) → Q (.int M t') { s with heap := h', toks := tk }) : wpAny (model prog w) A (call (.builtin "max") [.ref l]) Q E s := by
  obtain ⟨xs, e⟩ := hi.allInts.items
  have hn : numsOf (intItems xs).toList = ns := by rw [← e]; exact hi.numsOf
  rw [nums_intItems] at hn
  subst hn
  rw [e] at hl
  have hsz : 0 < xs.size := by simpa using hne
  refine PySem.max_intTuple hh hl hsz fun v h' tk hv hk => ?_
  obtain ⟨t, rfl⟩ := intItems_at hv
  obtain ⟨h1, h2⟩ := argBest_gt (numAt xs) (xs.size - 1)
  refine h h' tk _ t hk ?_ fun a ha => ?_
  · rw [numAt_eq]; exact PySem.getD_mem (by rw [List.length_map, Array.length_toList]; omega)
  · obtain ⟨j, hj, rfl⟩ := mem_getD ha
    rw [List.length_map, Array.length_toList] at hj
    rw [← numAt_eq]; exact h2 j (by omega)
theorem min_rawT (hh : A.handled = none) (hl : s.heap.IsTuple l its.toArray) (hi : IntsAre its ns) (hne : 0 < ns.length)
    (h : ∀ h' tk M t', (∀ b o, s.heap.get? b = some o → h'.get? b = some o) → M ∈ ns → (∀ a, a ∈ ns → M ≤ a) → Q (.int M t') { s with heap := h', toks := tk }) : wpAny (model prog w) A (call (.builtin "min") [.ref l]) Q E s := by
  obtain ⟨xs, e⟩ := hi.allInts.items
  have hn : numsOf (intItems xs).toList = ns := by rw [← e]; exact hi.numsOf
  rw [nums_intItems] at hn
  subst hn
  rw [e] at hl
  have hsz : 0 < xs.size := by simpa using hne
  refine PySem.min_intTuple hh hl hsz fun v h' tk hv hk => ?_
  obtain ⟨t, rfl⟩ := intItems_at hv
  obtain ⟨h1, h2⟩ := argBest_lt (numAt xs) (xs.size - 1)
  refine h h' tk _ t hk ?_ fun a ha => ?_
  · rw [numAt_eq]; exact PySem.getD_mem (by rw [List.length_map, Array.length_toList]; omega)
  · obtain ⟨j, hj, rfl⟩ := mem_getD ha
    rw [List.length_map, Array.length_toList] at hj
    rw [← numAt_eq]; exact h2 j (by omega)
end
section
variable {X : Cx}
def rMaxA (K : PySem.W.Frag) : List V → Hp → VK → Prop := fun vs H Q => ∃ (a : Addr) (ns : List Int), vs = [V.ref a] ∧ (SqL K H a (ns.map V.int) ∨ SqT K H a (ns.map V.int)) ∧ 0 < ns.length ∧ ∀ m, m ∈ ns → (∀ y, y ∈ ns → y ≤ m) → Q (.int m) H
def rMinA (K : PySem.W.Frag) : List V → Hp → VK → Prop := fun vs H Q => ∃ (a : Addr) (ns : List Int), vs = [V.ref a] ∧ (SqL K H a (ns.map V.int) ∨ SqT K H a (ns.map V.int)) ∧ 0 < ns.length ∧ ∀ m, m ∈ ns → (∀ y, y ∈ ns → m ≤ y) → Q (.int m) H
theorem cr_maxA (hc : X.calm = true) : CallR X (.builtin "max") (rMaxA X.K) := by
  intro pins s σ H vs us Q I r h
  obtain ⟨a, ns, rfl, hs | hs, hne, q⟩ := h
  · obtain ⟨its, rv, hl, _⟩ := I.list hs
    rw [Vals.ref1 r]
    exact max_raw (I.ok.hd hc) hl.isList rv.ints hne fun h' tk m t' hk h1 h2 => ⟨.int _, H, I.kept hk, ⟨_, rfl⟩, q m h1 h2⟩
  · obtain ⟨its, rv, hl, _⟩ := I.tuple hs
    rw [Vals.ref1 r]
    exact max_rawT (I.ok.hd hc) hl rv.ints hne fun h' tk m t' hk h1 h2 => ⟨.int _, H, I.kept hk, ⟨_, rfl⟩, q m h1 h2⟩
theorem cr_minA (hc : X.calm = true) : CallR X (.builtin "min") (rMinA X.K) := by
  intro pins s σ H vs us Q I r h
  obtain ⟨a, ns, rfl, hs | hs, hne, q⟩ := h
  · obtain ⟨its, rv, hl, _⟩ := I.list hs
    rw [Vals.ref1 r]
    exact min_raw (I.ok.hd hc) hl.isList rv.ints hne fun h' tk m t' hk h1 h2 => ⟨.int _, H, I.kept hk, ⟨_, rfl⟩, q m h1 h2⟩
  · obtain ⟨its, rv, hl, _⟩ := I.tuple hs
    rw [Vals.ref1 r]
    exact min_rawT (I.ok.hd hc) hl rv.ints hne fun h' tk m t' hk h1 h2 => ⟨.int _, H, I.kept hk, ⟨_, rfl⟩, q m h1 h2⟩
end
/-! ### tuples of which the object is known -/
section
variable {X : Cx} {pins : List (Addr × Obj)} {σ : L2.St} {H : Hp} {s : Shared}
theorem lay_tup (J : Inv X pins σ H s) {zs : List V} {ws : List Value} (hv : Vals zs ws) (hl : zs.length ≤ sizeLine) :
    Inv X pins σ (upd H s.heap.objs.size (.frz { cls := .type "tuple", data := .seq ws.toArray } (.tup zs))) { s with heap := s.heap.push { cls := .type "tuple", data := .seq ws.toArray } } :=
  J.laid (t' := s.toks) (fun _ _ e => Heap.get?_push_of_some _ e) (Nat.le_refl _) ⟨Heap.get?_push_size _ rfl, hl, ws, hv, IsTup.new _ _⟩
/-- a new tuple stands at some new place, its object known -/
def NewT (H : Hp) (Q : VK) (zs : List V) : Prop := ∀ (p : Addr) (o : Obj), H p = none → o.dict = none → Q (.ref p) (upd H p (.frz o (.tup zs)))
theorem new_at {Q : VK} (J : Inv X pins σ H s) {zs : List V} {ws : List Value} (hv : Vals zs ws) (hl : zs.length ≤ sizeLine) (q : NewT H Q zs) :
    EP X pins σ Q (.ref s.heap.objs.size) { s with heap := s.heap.push { cls := .type "tuple", data := .seq ws.toArray } } :=
  ⟨.ref s.heap.objs.size, _, lay_tup J hv hl, rfl, q _ _ (J.hok.fresh (Nat.le_refl _)) rfl⟩
theorem pe_tupX {es : List Expr} {t : TA} {k : Nat} {pos : Pos} (h : PA X es t) : PE X (.Tuple es k pos) (fun σ H Q => t σ H fun zs H1 => zs.length ≤ sizeLine ∧ NewT H1 Q zs) :=
  ⟨fun pins s σ H _ I q => wpAny_Tuple_spliced (thn (h.run pos pins s σ H _ I q) fun ws s1 ⟨zs, H1, J, rv, hl, q2⟩ => ⟨by rw [← rv.length]; exact hl, new_at J rv hl q2⟩)⟩
theorem call_tupleX : CallR X (.type "tuple") (fun us H Q => ∃ a zs, us = [V.ref a] ∧ ((SqL X.K H a zs ∧ NewT H Q zs) ∨ (SqT X.K H a zs ∧ Q (.ref a) H))) := by
  rintro pins s σ H us ws Q I rv ⟨a, zs, rfl, h⟩
  rw [Vals.ref1 rv]
  rcases h with ⟨hq, q⟩ | ⟨hq, q⟩
  · obtain ⟨its, r2, pl, hz⟩ := I.list hq
    have e := r2.length
    refine call_tuple_list pl.isList (fun h' kp => ?_) (by rw [List.size_toArray]; omega)
    exact new_at (s := { s with heap := h' }) (I.kept (t' := s.toks) kp) r2 hz q
  · obtain ⟨its, _, pl, _⟩ := I.tuple hq
    exact call_tuple_same pl ⟨.ref a, H, I, rfl, q⟩
def rCatX (K : PySem.W.Frag) : R2 := fun x y H Q => ∃ a b zs ts, x = .ref a ∧ y = .ref b ∧ SqT K H a zs ∧ SqT K H b ts ∧ zs.length + ts.length ≤ sizeLine ∧
  (zs = [] → Q (.ref b) H) ∧ (zs ≠ [] → ts = [] → Q (.ref a) H) ∧ (zs ≠ [] → ts ≠ [] → NewT H Q (zs ++ ts))
theorem op_catX : OpR X (binaryOp .Add) (rCatX X.K) := by
  rintro pins s σ H x y v u Q I rx ry ⟨a, b, zs, ts, rfl, rfl, ha, hb, hz, q0, q1, q2⟩
  cases rx
  cases ry
  obtain ⟨its, w1, p1, _⟩ := I.tuple ha
  obtain ⟨its2, w2, p2, _⟩ := I.tuple hb
  have l1 := w1.length
  have l2 := w2.length
  by_cases hx : zs = []
  · subst hx
    cases w1
    exact cat_tup0 p1 p2 ⟨.ref b, H, I, rfl, q0 rfl⟩
  · exact HT.cat_tup p1 p2 (fun z => hx (w1.nil_iff.mp z)) (fun z => ⟨.ref a, H, I, rfl, q1 hx (w2.nil_iff.mp z)⟩) (fun z => new_at I (w1.append w2) (by rw [List.length_append]; omega) (q2 hx fun k => z (w2.nil_iff.mpr k))) (by omega)
def rSlX (K : PySem.W.Frag) : V → Option Int → Option Int → Hp → VK → Prop := fun x lo hi H Q => ∃ a zs, x = .ref a ∧ SqT K H a zs ∧
  (HT.sIx zs.length 0 lo = 0 ∧ HT.sIx zs.length zs.length hi = zs.length → Q (.ref a) H) ∧ (¬ (HT.sIx zs.length 0 lo = 0 ∧ HT.sIx zs.length zs.length hi = zs.length) → NewT H Q (cutV zs lo hi))
theorem sl_tupX : SlR X (rSlX X.K) := by
  rintro pins s σ H x v vl vu lo hi sl Q I rx hs pl pu ⟨a, zs, rfl, hx, q1, q2⟩
  cases rx
  obtain ⟨its, rv, ht, hz⟩ := I.tuple hx
  have hlen : its.toArray.size = zs.length := by rw [List.size_toArray]; exact rv.length.symm
  refine ⟨"tuple", _, PyProof.Rows.slot_tuple_getitem.lookup, ht.typeIs, ?_⟩
  by_cases hw : HT.sIx zs.length 0 lo = 0 ∧ HT.sIx zs.length zs.length hi = zs.length
  · exact getItem_tuple_whole ht hs pl pu (by rw [hlen]; exact hw) ⟨.ref a, H, I, rfl, q1 hw⟩
  · refine HT.getItem_tuple_cut ht hs pl pu (by rw [hlen]; exact hw) ?_ (by rw [hlen]; exact hz)
    rw [hlen]
    exact new_at I ((rv.drop _).take _) (Nat.le_trans (cutV_length zs lo hi) hz) (q2 hw)
end
end MP

/-! MP: a small pure interpreter over data as values. -/
namespace MP
open PySem

abbrev D := PyData
abbrev Env := List (Option D)

/-! ### values -/
mutual
def same : D → D → Bool
  | .none, .none => true
  | .bool a, .bool b => a == b
  | .int i, .int j => i == j
  | .str x, .str y => decide (x = y)
  | .list xs, .list ys => sameAll xs ys
  | .tuple xs, .tuple ys => sameAll xs ys
  | .dict xs, .dict ys => sameKv xs ys
  | _, _ => false
def sameAll : List D → List D → Bool
  | [], [] => true
  | x :: xs, y :: ys => same x y && sameAll xs ys
  | _, _ => false
def sameKv : List (D × D) → List (D × D) → Bool
  | [], [] => true
  | (k, v) :: xs, (l, u) :: ys => same k l && same v u && sameKv xs ys
  | _, _ => false
end
mutual
theorem same_eq : ∀ {a b : D}, same a b = true → a = b
  | .none, b, h => by cases b <;> first | rfl | (simp [same] at h)
  | .bool x, b, h => by cases b <;> simp [same] at h; rw [h]
  | .int x, b, h => by cases b <;> simp [same] at h; rw [h]
  | .str x, b, h => by cases b <;> simp [same] at h; rw [h]
  | .list xs, b, h => by cases b <;> simp [same] at h; rw [sameAll_eq h]
  | .tuple xs, b, h => by cases b <;> simp [same] at h; rw [sameAll_eq h]
  | .dict xs, b, h => by cases b <;> simp [same] at h; rw [sameKv_eq h]
theorem sameAll_eq : ∀ {a b : List D}, sameAll a b = true → a = b
  | [], b, h => by cases b <;> first | rfl | (simp [sameAll] at h)
  | x :: xs, b, h => by
    cases b with
    | nil => simp [sameAll] at h
    | cons y ys =>
      simp [sameAll] at h
      rw [same_eq h.1, sameAll_eq h.2]
theorem sameKv_eq : ∀ {a b : List (D × D)}, sameKv a b = true → a = b
  | [], b, h => by cases b <;> first | rfl | (simp [sameKv] at h)
  | (k, v) :: xs, b, h => by
    cases b with
    | nil => simp [sameKv] at h
    | cons y ys =>
      obtain ⟨l, u⟩ := y
      simp [sameKv] at h
      rw [same_eq h.1.1, same_eq h.1.2, sameKv_eq h.2]
end
mutual
theorem same_refl : ∀ a : D, same a a = true
  | .none => by simp [same]
  | .bool _ => by simp [same]
  | .int _ => by simp [same]
  | .str _ => by simp [same]
  | .list xs => by simp [same, sameAll_refl xs]
  | .tuple xs => by simp [same, sameAll_refl xs]
  | .dict xs => by simp [same, sameKv_refl xs]
theorem sameAll_refl : ∀ a : List D, sameAll a a = true
  | [] => by simp [sameAll]
  | x :: xs => by simp [sameAll, same_refl x, sameAll_refl xs]
theorem sameKv_refl : ∀ a : List (D × D), sameKv a a = true
  | [] => by simp [sameKv]
  | (k, v) :: xs => by simp [sameKv, same_refl k, same_refl v, sameKv_refl xs]
end
mutual
def noLst : D → Bool
  | .none | .bool _ | .int _ | .str _ => true
  | .tuple xs => noLstAll xs
  | .list _ | .dict _ => false
def noLstAll : List D → Bool
  | [] => true
  | x :: xs => noLst x && noLstAll xs
end

/-! ### dicts: keys are ints and texts, values are plain -/
def keyOk : D → Bool
  | .int _ => true
  | .str _ => true
  | _ => false
def plainD : D → Bool
  | .none => true
  | .bool _ => true
  | .int _ => true
  | .str _ => true
  | _ => false
def okKv : List (D × D) → Bool
  | [] => true
  | (k, v) :: r => keyOk k && plainD v && okKv r
def getKv : List (D × D) → D → Option D
  | [], _ => none
  | (k, v) :: r, y => if same k y then some v else getKv r y
def setKv : List (D × D) → D → D → List (D × D)
  | [], _, _ => []
  | (k, v) :: r, y, x => (k, if same k y then x else v) :: setKv r y x
def putKv (kvs : List (D × D)) (y x : D) : List (D × D) := if (getKv kvs y).isSome then setKv kvs y x else kvs ++ [(y, x)]
def rows? : List D → Option (List (D × D))
  | [] => some []
  | .tuple [k, v] :: r => if keyOk k && plainD v then (rows? r).map ((k, v) :: ·) else none
  | _ => none
def flat? : List D → Option (List (D × D))
  | [] => some []
  | k :: v :: r => if keyOk k && plainD v then (flat? r).map ((k, v) :: ·) else none
  | _ => none
def mergeKv (kvs : List (D × D)) (more : List (D × D)) : List (D × D) := more.foldl (fun acc p => putKv acc p.1 p.2) kvs

def _root_.PySem.PyData.isAtom : D → Bool
  | .int _ => true
  | .str _ => true
  | _ => false

/-! ### operators -/
inductive Op where
  | add | cat | sub | mul | fdiv | mod | pow | shl | shr | band | bor | rep | neg
  | lt | le | gt | ge | eq | ne | isin | notin | isNone | notNone
  | idx | slice (fr lo hi : Bool)
  | tup | lst | len | tuple | list | sorted | min | max | min2 | max2 | sum | any | all | abs | int | str | repr
  | isi (ts : List String) (one : Bool)
  | lrng | rev (fr : Bool) | isB (b : Bool) | notB (b : Bool) | reprT
  | dnew | dof | dlit (k : Int) (v : Option Int) | eqD
  deriving DecidableEq

def orderedI : List Int → List Int
  | [] => []
  | x :: xs => ins x (orderedI xs)
where ins (x : Int) : List Int → List Int
  | [] => [x]
  | y :: ys => if x ≤ y then x :: y :: ys else y :: ins x ys

def ints? : List D → Option (List Int)
  | [] => some []
  | .int i :: r => (ints? r).map (i :: ·)
  | _ => none
def bools? : List D → Option (List Bool)
  | [] => some []
  | .bool i :: r => (bools? r).map (i :: ·)
  | _ => none
def items? : D → Option (List D)
  | .list xs => some xs
  | .tuple xs => some xs
  | _ => none
def ixD (n : Nat) (i : Int) : Option Nat := if 0 ≤ i then (if i < n then some i.toNat else none) else if -(n : Int) ≤ i then some (i + n).toNat else none
/-- a slice's bound: dflt where it is left out -/
def sIx (n dflt : Nat) : Option Int → Nat
  | none => dflt
  | some i => if i < 0 then (i + n).toNat else min i.toNat n
def cutL {α : Type} (xs : List α) (lo hi : Option Int) : List α := (xs.drop (sIx xs.length 0 lo)).take (sIx xs.length xs.length hi - sIx xs.length 0 lo)
def maxI : List Int → Option Int
  | [] => none
  | x :: xs => some (xs.foldl (fun a b => if a < b then b else a) x)
def minI : List Int → Option Int
  | [] => none
  | x :: xs => some (xs.foldl (fun a b => if b < a then b else a) x)
def tyName : D → String
  | .none => "NoneType"
  | .bool _ => "bool"
  | .int _ => "int"
  | .str _ => "str"
  | .list _ => "list"
  | .tuple _ => "tuple"
  | .dict _ => "dict"
/-- isinstance, of the built-in types that occur -/
def isiB (a b : String) : Bool := a == b || (a == "bool" && b == "int")
def isiTs : List String := ["int", "bool", "tuple", "list", "str", "dict"]

def isNon : D → Bool
  | .none => true
  | _ => false
def rangeD (lo : Int) (n : Nat) : List D := (List.range n).map fun k => .int (lo + (k : Nat))
/-- the value in a written dict {k: v} -/
def dlv : Option Int → D
  | none => .none
  | some i => .int i
/-- each entry stands in the other dict, too -/
def hitsKv (ls : List (D × D)) : List (D × D) → Bool
  | [] => true
  | p :: r => match getKv ls p.1 with
    | none => false
    | some u => PyData.eqv p.2 u && hitsKv ls r
/-- what is told of dicts -/
def Op.runD : Op → List D → Option D
  | .isin, [a, .dict kvs] => if keyOk a = true then some (.bool (getKv kvs a).isSome) else none
  | .notin, [a, .dict kvs] => if keyOk a = true then some (.bool (!(getKv kvs a).isSome)) else none
  | .isin, [a, .tuple xs] => if SeqAt.shaped a = true ∧ SeqAt.shaped (.tuple xs) = true then some (.bool (xs.any fun z => PyData.eqv z a)) else none
  | .notin, [a, .tuple xs] => if SeqAt.shaped a = true ∧ SeqAt.shaped (.tuple xs) = true then some (.bool (!xs.any fun z => PyData.eqv z a)) else none
  | .idx, [.dict kvs, k] => if keyOk k = true then getKv kvs k else none
  | .len, [.dict kvs] => some (.int kvs.length)
  | .mul, [.tuple xs, .int k] => if xs.isEmpty = false ∧ 2 ≤ k ∧ k ≤ 1000 ∧ xs.length ≤ 1000 then some (.tuple (List.replicate k.toNat xs).flatten) else none
  | .dnew, [] => some (.dict [])
  | .dlit k v, [] => some (.dict [(.int k, dlv v)])
  | .eqD, [.dict ks, .dict ls] => if okKv ks = true ∧ okKv ls = true then some (.bool (ks.length == ls.length && hitsKv ls ks)) else none
  | .dof, [.list xs] => (rows? xs).map fun ps => .dict (mergeKv [] ps)
  | _, _ => none
def Op.run : Op → List D → Option D
  | .add, [.int i, .int j] => some (.int (i + j))
  | .add, [.str x, .str y] => if x.length + y.length ≤ sizeLine then some (.str (x ++ y)) else none
  | .add, [.tuple xs, .tuple ys] => if xs.length + ys.length ≤ sizeLine then some (.tuple (xs ++ ys)) else none
  | .add, [.list xs, .list ys] => if xs.length + ys.length ≤ sizeLine then some (.list (xs ++ ys)) else none
  | .cat, [.list xs, .list ys] => if xs.length + ys.length ≤ sizeLine then some (.list (xs ++ ys)) else none
  | .sub, [.int i, .int j] => some (.int (i - j))
  | .mul, [.int i, .int j] => if (-(2 ^ 64) < i ∧ i < 2 ^ 64) ∨ (-(2 ^ 64) < j ∧ j < 2 ^ 64) then some (.int (i * j)) else none
  | .mul, [.list xs, .int k] => if -(2 ^ 63) ≤ k ∧ k < 2 ^ 63 ∧ xs.length * k.toNat ≤ sizeLine then some (.list (List.replicate k.toNat xs).flatten) else none
  | .fdiv, [.int i, .int j] => if 0 < j ∧ j < 1073741824 then some (.int (i / j)) else none
  | .mod, [.int i, .int j] => if 0 < j then some (.int (i % j)) else none
  | .pow, [.int i, .int j] => if 0 ≤ j ∧ j ≤ 1000000 ∧ i.natAbs < 2 ^ 64 then some (.int (i ^ j.toNat)) else none
  | .shl, [.int i, .int j] => if 0 ≤ j ∧ j ≤ 1000000 ∧ i.natAbs < 2 ^ 64 then some (.int (i * 2 ^ j.toNat)) else none
  | .shr, [.int i, .int j] => if 0 ≤ j then some (.int (i / 2 ^ j.toNat)) else none
  | .band, [.int i, .int j] => some (.int (Builtin.bitAnd i j))
  | .bor, [.int i, .int j] => some (.int (Builtin.bitOr i j))
  | .rep, [.list xs, .int k] => if -(2 ^ 63) ≤ k ∧ k < 2 ^ 63 ∧ xs.length * k.toNat ≤ sizeLine then some (.list (List.replicate k.toNat xs).flatten) else none
  | .neg, [.int i] => some (.int (-i))
  | .lt, [.int i, .int j] => some (.bool (decide (i < j)))
  | .le, [.int i, .int j] => some (.bool (decide (i ≤ j)))
  | .gt, [.int i, .int j] => some (.bool (decide (j < i)))
  | .ge, [.int i, .int j] => some (.bool (decide (j ≤ i)))
  | .eq, [a, b] => if SeqAt.shaped a = true ∧ SeqAt.shaped b = true then some (.bool (PyData.eqv a b)) else none
  | .ne, [a, b] => if SeqAt.shaped a = true ∧ SeqAt.shaped b = true then some (.bool (!PyData.eqv a b)) else none
  | .isin, [a, .list xs] => if SeqAt.shaped a = true ∧ SeqAt.shaped (.list xs) = true then some (.bool (xs.any fun z => PyData.eqv z a)) else none
  | .notin, [a, .list xs] => if SeqAt.shaped a = true ∧ SeqAt.shaped (.list xs) = true then some (.bool (!xs.any fun z => PyData.eqv z a)) else none
  | .isNone, [a] => some (.bool (isNon a))
  | .notNone, [a] => some (.bool (!isNon a))
  | .idx, [.list xs, .int i] => (ixD xs.length i).bind fun j => xs[j]?
  | .idx, [.tuple xs, .int i] => (ixD xs.length i).bind fun j => xs[j]?
  | .slice _ false false, [.list xs] => some (.list (cutL xs none none))
  | .slice _ true false, [.list xs, .int i] => some (.list (cutL xs (some i) none))
  | .slice _ false true, [.list xs, .int i] => some (.list (cutL xs none (some i)))
  | .slice _ true true, [.list xs, .int i, .int j] => some (.list (cutL xs (some i) (some j)))
  | .slice false true false, [.tuple xs, .int i] => some (.tuple (cutL xs (some i) none))
  | .slice false false true, [.tuple xs, .int i] => some (.tuple (cutL xs none (some i)))
  | .slice false true true, [.tuple xs, .int i, .int j] => some (.tuple (cutL xs (some i) (some j)))
  | .tup, xs => if xs.length ≤ sizeLine then some (.tuple xs) else none
  | .lst, xs => if xs.length ≤ sizeLine then some (.list xs) else none
  | .len, [.list xs] => some (.int xs.length)
  | .len, [.tuple xs] => some (.int xs.length)
  | .tuple, [.list xs] => some (.tuple xs)
  | .tuple, [.tuple xs] => some (.tuple xs)
  | .list, [.list xs] => some (.list xs)
  | .list, [.tuple xs] => some (.list xs)
  | .sorted, [.list xs] => (ints? xs).map fun ns => .list ((orderedI ns).map .int)
  | .min, [.list xs] => (ints? xs).bind fun ns => (minI ns).map .int
  | .max, [.list xs] => (ints? xs).bind fun ns => (maxI ns).map .int
  | .min, [.tuple xs] => (ints? xs).bind fun ns => (minI ns).map .int
  | .max, [.tuple xs] => (ints? xs).bind fun ns => (maxI ns).map .int
  | .min2, [.int i, .int j] => some (.int (if j < i then j else i))
  | .max2, [.int i, .int j] => some (.int (if j > i then j else i))
  | .sum, [.list xs] => (ints? xs).map fun ns => .int ns.sum
  | .any, [.list xs] => (bools? xs).map fun bs => .bool (bs.any id)
  | .all, [.list xs] => (bools? xs).map fun bs => .bool (bs.all id)
  | .abs, [.int i] => some (.int (if i < 0 then -i else i))
  | .int, [.int i] => some (.int i)
  | .int, [.bool b] => some (.int (if b then 1 else 0))
  | .str, [.int i] => if i.natAbs.log2 < 1920 then some (.str (toString i)) else none
  | .repr, [a] => if PyData.showable a = true ∧ a.depth ≤ 60 ∧ (PyData.shown a).length ≤ sizeLine then some (.str (PyData.shown a)) else none
  | .reprT, ds => if PyData.showable (.tuple ds) = true ∧ (PyData.tuple ds).depth ≤ 60 ∧ (PyData.shown (.tuple ds)).length ≤ sizeLine ∧ ds.length ≤ sizeLine then some (.str (PyData.shown (.tuple ds))) else none
  | .lrng, [.int j] => if -(2 ^ 62) ≤ j ∧ j < 2 ^ 62 ∧ j.toNat ≤ 2 ^ 24 then some (.list (rangeD 0 j.toNat)) else none
  | .rev _, [.list xs] => some (.list xs.reverse)
  | .isB b, [.bool a] => some (.bool (decide (a = b)))
  | .notB b, [.bool a] => some (.bool (!decide (a = b)))
  | .isi ts _, [a] => if ts.all (isiTs.contains ·) = true then some (.bool (ts.any fun t => isiB (tyName a) t)) else none
  | o, ds => Op.runD o ds
def Op.fresh : Op → Bool
  | .cat | .rep | .lst | .list | .sorted | .slice true _ _ | .lrng | .rev true | .dnew | .dof | .dlit _ _ => true
  | _ => false
/-- operators that change the list in an own slot -/
inductive MOp where
  | append | pop | popAt | extend | insert | reverse
  deriving DecidableEq
/-- the answer and the new list -/
def MOp.run : MOp → D → List D → Option (D × D)
  | .append, .list xs, [y] => if xs.length < sizeLine then some (.none, .list (xs ++ [y])) else none
  | .pop, .list xs, [] => (xs[xs.length - 1]?).map fun y => (y, .list xs.dropLast)
  | .popAt, .list xs, [.int i] => if 0 ≤ i ∧ i < 2 ^ 62 then (xs[i.toNat]?).map fun y => (y, .list (xs.eraseIdx i.toNat)) else none
  | .extend, .list xs, [.list ys] => if xs.length + ys.length ≤ sizeLine then some (.none, .list (xs ++ ys)) else none
  | .extend, .list xs, [.tuple ys] => if xs.length + ys.length ≤ sizeLine then some (.none, .list (xs ++ ys)) else none
  | .insert, .list xs, [.int i, y] => if xs.length < sizeLine ∧ 0 ≤ i ∧ i < 2 ^ 62 then some (.none, .list (xs.take i.toNat ++ [y] ++ xs.drop i.toNat)) else none
  | .reverse, .list xs, [] => some (.none, .list xs.reverse)
  | _, _, _ => none
/-- methods that read -/
inductive Mth where
  | get1 | get2 | index | count
  deriving DecidableEq
/-- what the receiver must be, ahead of the arguments -/
def Mth.fits : Mth → D → Bool
  | .get1, .dict _ => true
  | .get2, .dict _ => true
  | .index, .list _ => true
  | .index, .tuple _ => true
  | .count, .list _ => true
  | _, _ => false
def Mth.run : Mth → D → List D → Option D
  | .get1, .dict kvs, [k] => if keyOk k = true then some ((getKv kvs k).getD .none) else none
  | .get2, .dict kvs, [k, d] => if keyOk k = true && plainD d then some ((getKv kvs k).getD d) else none
  | .index, .list xs, [y] => if SeqAt.shaped y = true ∧ SeqAt.shaped (.list xs) = true ∧ (xs.any fun z => PyData.eqv z y) = true then some (.int (xs.findIdx fun z => PyData.eqv z y)) else none
  | .index, .tuple xs, [y] => if SeqAt.shaped y = true ∧ SeqAt.shaped (.tuple xs) = true ∧ (xs.any fun z => PyData.eqv z y) = true then some (.int (xs.findIdx fun z => PyData.eqv z y)) else none
  | .count, .list xs, [y] => if SeqAt.shaped y = true ∧ SeqAt.shaped (.list xs) = true then some (.int ((xs.filter fun z => PyData.eqv z y).length)) else none
  | _, _, _ => none
/-- what a loop walks -/
inductive IOp where
  | seq | rng1 | rng2 | enum | zip
  deriving DecidableEq
def IOp.run : IOp → List D → Option (List D)
  | .seq, [.list xs] => some xs
  | .seq, [.tuple xs] => some xs
  | .rng1, [.int j] => if -(2 ^ 62) ≤ j ∧ j < 2 ^ 62 then some (rangeD 0 j.toNat) else none
  | .rng2, [.int i, .int j] => if -(2 ^ 62) ≤ i ∧ i < 2 ^ 62 ∧ -(2 ^ 62) ≤ j ∧ j < 2 ^ 62 then some (rangeD i (j - i).toNat) else none
  | .enum, [.list xs] => some (xs.zipIdx.map fun p => .tuple [.int p.2, p.1])
  | .enum, [.tuple xs] => some (xs.zipIdx.map fun p => .tuple [.int p.2, p.1])
  | .zip, [.list xs, .list ys] => some ((xs.zip ys).map fun p => .tuple [p.1, p.2])
  | .zip, [.tuple xs, .tuple ys] => some ((xs.zip ys).map fun p => .tuple [p.1, p.2])
  | _, _ => none

/-! ### defs -/
inductive Out where
  | ok (d : D) (outs : List D)
  | exc (c : Str) (v : Option D) (outs : List D)
  | stuck
abbrev Mir := List D → Out
/-- where a parameter's value comes from: a written operand, a default -/
inductive Pk where
  | arg (j : Nat)
  | dfl (c : D)
/-- kw: the shapes of calls with keywords or defaults that are known (positional operands, keywords, the parameters) -/
structure Fn where
  name : Str
  pm : List Bool
  own : Bool
  run : Mir
  kw : List (Nat × List Str × List Pk) := []
  /-- whether all parameters may be given by position -/
  pos : Bool := true
def permEq : List Pk → List Pk → Bool
  | [], [] => true
  | .arg i :: p, .arg j :: q => i == j && permEq p q
  | .dfl c :: p, .dfl d :: q => same c d && permEq p q
  | _, _ => false
theorem permEq_eq : ∀ {p q : List Pk}, permEq p q = true → p = q
  | [], [], _ => rfl
  | [], _ :: _, h => by simp [permEq] at h
  | .arg _ :: _, [], h => by simp [permEq] at h
  | .dfl _ :: _, [], h => by simp [permEq] at h
  | .arg i :: p, .arg j :: q, h => by
    simp only [permEq, Bool.and_eq_true, beq_iff_eq] at h
    rw [h.1, permEq_eq h.2]
  | .dfl c :: p, .dfl d :: q, h => by
    simp only [permEq, Bool.and_eq_true] at h
    rw [same_eq h.1, permEq_eq h.2]
  | .arg _ :: _, .dfl _ :: _, h => by simp [permEq] at h
  | .dfl _ :: _, .arg _ :: _, h => by simp [permEq] at h
inductive Res (α : Type) where
  | ok (a : α) (env : Env)
  | exc (c : Str) (v : Option D) (env : Env)
  | stuck
def Res.bind {α β : Type} : Res α → (α → Env → Res β) → Res β
  | .ok a env, k => k a env
  | .exc c v env, _ => .exc c v env
  | .stuck, _ => .stuck

inductive T where
  | name (i : Nat)
  | two (a b : T)
  | three (a b c : T)
def T.slots : T → List Nat
  | .name i => [i]
  | .two a b => a.slots ++ b.slots
  | .three a b c => a.slots ++ b.slots ++ c.slots
def bindT : T → D → Env → Option Env
  | .name i, d, env => some (env.set i (some d))
  | .two a b, .tuple [x, y], env => (bindT a x env).bind (bindT b y)
  | .three a b c, .tuple [x, y, z], env => ((bindT a x env).bind (bindT b y)).bind (bindT c z)
  | _, _, _ => none

mutual
inductive E where
  | var (i : Nat)
  | con (c : D)
  | glb (x : Str) (c : D)
  | prim (o : Op) (as : As)
  | and (a b : E)
  | or (a b : E)
  | not (a : E)
  | ite (t a b : E)
  | orv (a b : E)
  | chain (o p : Op) (a b c : E)
  | call (f : Fn) (as : As)
  | callK (f : Fn) (as as2 : As) (kws : List Str) (perm : List Pk)
  | lc (elt : E) (t : T) (o : IOp) (as : As) (test : E)
  | lc2 (elt : E) (t : T) (o : IOp) (as : As) (t2 : T) (o2 : IOp) (as2 : As) (test : E)
  | mut (m : MOp) (i : Nat) (as : As)
  | sl2 (fr : Bool) (o : O) (l u : E)
  | mth (m : Mth) (o : O) (as : As)
  | ddv (k : Int) (i : Nat)
inductive O where
  | val (e : E)
  | own (i : Nat)
inductive As where
  | nil
  | cons (o : O) (r : As)
end

def As.toL : As → List O
  | .nil => []
  | .cons o r => o :: r.toL
def permO : List Pk → List O → Option As
  | [], _ => some .nil
  | .arg j :: p, os => (os[j]?).bind fun o => (permO p os).map (.cons o)
  | .dfl c :: p, os => (permO p os).map (.cons (.val (.con c)))
def permD : List Pk → List D → Option (List D)
  | [], _ => some []
  | .arg j :: p, ds => (ds[j]?).bind fun d => (permD p ds).map (d :: ·)
  | .dfl c :: p, ds => (permD p ds).map (c :: ·)
def getE (env : Env) (i : Nat) : Option D := (env[i]?).join
/-- own operands are read when all operands have been reckoned -/
def fixO : O → D → Env → Option D
  | .val _, d, _ => some d
  | .own i, _, env => getE env i
def fixA : As → List D → Env → Option (List D)
  | .nil, [], _ => some []
  | .cons o r, d :: ds, env => (fixO o d env).bind fun x => (fixA r ds env).map (x :: ·)
  | _, _, _ => none
def O.slot : O → Option Nat
  | .val _ => none
  | .own i => some i
def As.owns : As → List (Option Nat)
  | .nil => []
  | .cons o r => o.slot :: r.owns
def As.len : As → Nat
  | .nil => 0
  | .cons _ r => r.len + 1
def putAll (env : Env) : List Nat → List D → Option Env
  | [], [] => some env
  | i :: is, d :: ds => putAll (env.set i (some d)) is ds
  | _, _ => none
/-- the slots of the parameters that a call may change; whether a list is lent -/
def inouts : List Bool → List (Option Nat) → List Nat
  | true :: pm, some i :: os => i :: inouts pm os
  | _ :: pm, _ :: os => inouts pm os
  | _, _ => []
def lends : List Bool → List (Option Nat) → Bool
  | false :: _, some _ :: _ => true
  | _ :: pm, _ :: os => lends pm os
  | _, _ => false
def plainRes (own : Bool) (d : D) : Bool := match own, d with
  | true, .list xs => noLstAll xs
  | true, .dict _ => true
  | _, d => noLst d
def runCall (f : Fn) (os : List (Option Nat)) (ds : List D) (env : Env) : Res D :=
  match f.run ds with
  | .ok d outs => if lends f.pm os && !plainRes f.own d then .stuck else
    match putAll env (inouts f.pm os) outs with
    | some env' => .ok d env'
    | none => .stuck
  | .exc c v outs =>
    match putAll env (inouts f.pm os) outs with
    | some env' => .exc c v env'
    | none => .stuck
  | .stuck => .stuck
def wipeE (env : Env) : List Nat → Env
  | [] => env
  | v :: vs => (wipeE env vs).set v none
/-- behind a comprehension: its own slots are as they were -/
def backE (old env : Env) : List Nat → Env
  | [] => env
  | v :: vs => (backE old env vs).set v ((old[v]?).getD none)
/-- the items of a loop: where it walks an own list, that list must stand as it stood -/
def stands (o : IOp) (as : As) (env : Env) (k : Nat) (item : Option D) : Bool :=
  match o, as with
  | .seq, .cons (.own i) .nil => match getE env i with
    | some (.list cur) => (match cur[k]?, item with | some a, some b => same a b | none, none => true | _, _ => false)
    | _ => false
  | _, .cons (.own _) _ => false
  | _, .cons (.val _) (.cons (.own _) _) => false
  | _, _ => true
def accLoop (stand : Env → Nat → Option D → Bool) (turn : D → List D → Env → Res (List D)) : Nat → List D → List D → Env → Res (List D)
  | k, [], acc, env => if stand env k none then .ok acc env else .stuck
  | k, d :: ds, acc, env => if stand env k (some d) then (turn d acc env).bind fun acc' env' => accLoop stand turn (k + 1) ds acc' env' else .stuck
def Res.nox {α : Type} : Res α → Res α
  | .ok a env => .ok a env
  | _ => .stuck
def isT : Res D → Res Bool
  | .ok (.bool b) env => .ok b env
  | .ok _ _ => .stuck
  | .exc c v env => .exc c v env
  | .stuck => .stuck

mutual
def evE : E → Env → Res D
  | .var i, env => match getE env i with
    | some d => .ok d env
    | none => .stuck
  | .con c, env => .ok c env
  | .glb _ c, env => .ok c env
  | .prim o as, env => (evAs as env).bind fun ds env' => match fixA as ds env' with
    | some ds' => match o.run ds' with
      | some d => .ok d env'
      | none => .stuck
    | none => .stuck
  | .and a b, env => (isT (evE a env)).bind fun c env' => if c then evE b env' else .ok (.bool false) env'
  | .or a b, env => (isT (evE a env)).bind fun c env' => if c then .ok (.bool true) env' else evE b env'
  | .not a, env => (isT (evE a env)).bind fun c env' => .ok (.bool (!c)) env'
  | .ite t a b, env => (isT (evE t env)).bind fun c env' => if c then evE a env' else evE b env'
  | .orv a b, env => (evE a env).bind fun d env' => match d with
    | .list [] => evE b env'
    | .list (x :: xs) => .ok (.list (x :: xs)) env'
    | _ => .stuck
  | .chain o p a b c, env => (evE a env).bind fun x env1 => (evE b env1).bind fun y env2 => match o.run [x, y] with
    | some (.bool true) => (evE c env2).bind fun z env3 => match p.run [y, z] with
      | some d => .ok d env3
      | none => .stuck
    | some (.bool false) => .ok (.bool false) env2
    | _ => .stuck
  | .call f as, env => (evAs as env).bind fun ds env' => match fixA as ds env' with
    | some ds' => runCall f as.owns ds' env'
    | none => .stuck
  | .callK f as as2 _ perm, env => (evAs as env).bind fun ds env1 => (evAs as2 env1).bind fun es env2 => match permO perm (as.toL ++ as2.toL), permD perm (ds ++ es) with
    | some pa, some qs => (match fixA pa qs env2 with
      | some qs' => runCall f pa.owns qs' env2
      | none => .stuck)
    | _, _ => .stuck
  | .lc elt t o as test, env => (evAs as env).bind fun ds env1 => match fixA as ds env1 with
    | some ds' => match o.run ds' with
      | some items => (accLoop (stands o as) (fun d acc env2 => match bindT t d env2 with
          | some env3 => ((isT (evE test env3)).bind fun c env4 => if c then (evE elt env4).bind fun x env5 => .ok (x :: acc) (wipeE env5 t.slots) else .ok acc (wipeE env4 t.slots)).nox
          | none => .stuck) 0 items [] (wipeE env1 t.slots)).bind fun acc env6 => if acc.length ≤ sizeLine then .ok (.list acc.reverse) (backE env1 env6 t.slots) else .stuck
      | none => .stuck
    | none => .stuck
  | .lc2 elt t o as t2 o2 as2 test, env => (evAs as env).bind fun ds env1 => match fixA as ds env1 with
    | some ds' => match o.run ds' with
      | some items => (accLoop (stands o as) (fun d acc env2 => match bindT t d env2 with
          | some env3 => ((evAs as2 env3).bind fun es env4 => match fixA as2 es env4 with
            | some es' => match o2.run es' with
              | some items2 => (accLoop (stands o2 as2) (fun d2 acc2 env5 => match bindT t2 d2 env5 with
                  | some env6 => ((isT (evE test env6)).bind fun c env7 => if c then (evE elt env7).bind fun x env8 => .ok (x :: acc2) (wipeE env8 t2.slots) else .ok acc2 (wipeE env7 t2.slots)).nox
                  | none => .stuck) 0 items2 acc (wipeE env4 t2.slots)).bind fun acc3 env9 => .ok acc3 (wipeE env9 (t.slots ++ t2.slots))
              | none => .stuck
            | none => .stuck).nox
          | none => .stuck) 0 items [] (wipeE env1 (t.slots ++ t2.slots))).bind fun acc env6 => if acc.length ≤ sizeLine then .ok (.list acc.reverse) (backE env1 env6 (t.slots ++ t2.slots)) else .stuck
      | none => .stuck
    | none => .stuck
  | .mut m i as, env => match getE env i with
    | some (.list _) => (evAs as env).bind fun ds env' => match fixA as ds env' with
      | some ds' => match getE env' i with
        | some cur => match m.run cur ds' with
          | some (d, new) => .ok d (env'.set i (some new))
          | none => .stuck
        | none => .stuck
      | none => .stuck
    | _ => .stuck
  | .sl2 fr o l u, env => (evO o env).bind fun d env1 => (evE l env1).bind fun x env2 => match x with
    | .int i => (evE u env2).bind fun y env3 => match y with
      | .int j => match fixO o d env3 with
        | some d' => match (Op.slice fr true true).run [d', .int i, .int j] with
          | some r => .ok r env3
          | none => .stuck
        | none => .stuck
      | _ => .stuck
    | _ => .stuck
  | .ddv k i, env => match getE env i with
    | some d => .ok (.dict [(.int k, d)]) env
    | none => .stuck
  | .mth m o as, env => (evO o env).bind fun d env1 => match fixO o d env1 with
    | some cur => if m.fits cur = true then (evAs as env1).bind fun ds env2 => match fixO o d env2 with
        | some cur2 => (match fixA as ds env2 with
          | some ds' => (match m.run cur2 ds' with
            | some r => .ok r env2
            | none => .stuck)
          | none => .stuck)
        | none => .stuck
      else .stuck
    | none => .stuck
def evO : O → Env → Res D
  | .val e, env => evE e env
  | .own i, env => match getE env i with
    | some _ => .ok .none env
    | none => .stuck
def evAs : As → Env → Res (List D)
  | .nil, env => .ok [] env
  | .cons o r, env => (evO o env).bind fun d env' => (evAs r env').bind fun ds env'' => .ok (d :: ds) env''
end
def E.fresh : E → Bool
  | .prim o _ => o.fresh
  | .call f _ => f.own
  | .callK f _ _ _ _ => f.own
  | .lc _ _ _ _ _ => true
  | .lc2 _ _ _ _ _ _ _ _ => true
  | .ite _ a b => a.fresh && b.fresh
  | .orv a b => a.fresh && b.fresh
  | .sl2 fr _ _ _ => fr
  | _ => false

/-! ### statements -/
inductive SRes where
  | next (env : Env)
  | ret (d : D) (env : Env)
  | brk (env : Env)
  | cnt (env : Env)
  | exc (c : Str) (v : Option D) (env : Env)
  | stuck
def Res.go {α : Type} : Res α → (α → Env → SRes) → SRes
  | .ok a env, k => k a env
  | .exc c v env, _ => .exc c v env
  | .stuck, _ => .stuck
def SRes.go : SRes → (Env → SRes) → SRes
  | .next env, k => k env
  | .ret d env, _ => .ret d env
  | .brk env, _ => .brk env
  | .cnt env, _ => .cnt env
  | .exc c v env, _ => .exc c v env
  | .stuck, _ => .stuck
mutual
inductive S where
  | asg (t : T) (e : E)
  | asgO (i : Nat) (e : E)
  | swp (i j : Nat) (a b : E)
  | mov (i j : Nat)
  | setI (i : Nat) (k v : E)
  | aug (i : Nat) (o : Op) (e : E)
  | augO (i : Nat) (e : E)
  | exp (e : E)
  | iff (t : E) (a b : Ss)
  | whl (fuel : Env → Nat) (t : E) (b : Ss)
  | forr (t : T) (o : IOp) (as : As) (b : Ss)
  | forO (t : T) (j : Nat) (b : Ss)
  | ret (e : E)
  | retO (i : Nat)
  | retT (as : As)
  | retN
  | brk
  | cnt
  | pass
  | never
inductive Ss where
  | nil
  | cons (s : S) (r : Ss)
  | frz (j : Nat) (r : Ss)
end
/-- behind a block in which slot j was read as shared: it is forgotten -/
def thaw (j : Nat) : SRes → SRes
  | .next env => .next (env.set j none)
  | .brk env => .brk (env.set j none)
  | .cnt env => .cnt (env.set j none)
  | .ret d env => .ret d (env.set j none)
  | .exc _ _ _ => .stuck
  | .stuck => .stuck
def whLoop (test : Env → Res Bool) (body : Env → SRes) : Nat → Env → SRes
  | 0, _ => .stuck
  | n + 1, env => (test env).go fun c env' => if c then
      match body env' with
      | .next env'' => whLoop test body n env''
      | .cnt env'' => whLoop test body n env''
      | .brk env'' => .next env''
      | r => r
    else .next env'
def forLoop (stand : Env → Nat → Option D → Bool) (turn : D → Env → SRes) : Nat → List D → Env → SRes
  | k, [], env => if stand env k none then .next env else .stuck
  | k, d :: ds, env => if stand env k (some d) then
      match turn d env with
      | .next env' => forLoop stand turn (k + 1) ds env'
      | .cnt env' => forLoop stand turn (k + 1) ds env'
      | .brk env' => .next env'
      | r => r
    else .stuck
mutual
def evS : S → Env → SRes
  | .asg t e, env => (evE e env).go fun d env' => match bindT t d env' with
    | some env'' => .next env''
    | none => .stuck
  | .asgO i e, env => (evE e env).go fun d env' => .next (env'.set i (some d))
  | .swp i j a b, env => (evE a env).go fun x env1 => (evE b env1).go fun y env2 => .next ((env2.set i (some x)).set j (some y))
  | .mov i j, env => match getE env j with
    | some d => .next ((env.set j none).set i (some d))
    | none => .stuck
  | .setI i k v, env => (evE v env).go fun x env1 => match getE env1 i with
    | none => .stuck
    | some _ => (evE k env1).go fun y env2 => match getE env2 i, y with
      | some (.list xs), .int n => match ixD xs.length n with
        | some j => .next (env2.set i (some (.list (xs.set j x))))
        | none => .stuck
      | some (.dict kvs), y => if keyOk y && plainD x && decide (kvs.length < sizeLine) then .next (env2.set i (some (.dict (putKv kvs y x)))) else .stuck
      | _, _ => .stuck
  | .aug i o e, env => match getE env i with
    | some x => if x.isAtom then (evE e env).go fun y env1 => match o.run [x, y] with
      | some z => .next (env1.set i (some z))
      | none => .stuck
      else .stuck
    | none => .stuck
  | .augO i e, env => match getE env i with
    | none => .stuck
    | some _ => (evE e env).go fun y env1 => match getE env1 i, y with
      | some (.list xs), .list ys => if xs.length + ys.length ≤ sizeLine then .next (env1.set i (some (.list (xs ++ ys)))) else .stuck
      | _, _ => .stuck
  | .exp e, env => (evE e env).go fun _ env' => .next env'
  | .iff t a b, env => (isT (evE t env)).go fun c env' => if c then evSs a env' else evSs b env'
  | .whl fuel t b, env => whLoop (fun env => isT (evE t env)) (evSs b) (fuel env) env
  | .forr t o as b, env => (evAs as env).go fun ds env1 => match fixA as ds env1 with
    | some ds' => match o.run ds' with
      | some items => forLoop (stands o as) (fun d env2 => match bindT t d env2 with
          | some env3 => evSs b env3
          | none => .stuck) 0 items env1
      | none => .stuck
    | none => .stuck
  | .forO t j b, env => match getE env j with
    | some (.list items) => forLoop (fun _ _ _ => true) (fun d env2 => match bindT t d env2 with
          | some env3 => evSs b env3
          | none => .stuck) 0 items (env.set j none)
    | _ => .stuck
  | .ret e, env => (evE e env).go fun d env' => .ret d env'
  | .retT as, env => (evAs as env).go fun ds env1 => match fixA as ds env1 with
    | some es => if es.length ≤ sizeLine then .ret (.tuple es) env1 else .stuck
    | none => .stuck
  | .retO i, env => match getE env i with
    | some d => .ret d env
    | none => .stuck
  | .retN, env => .ret .none env
  | .brk, env => .brk env
  | .cnt, env => .cnt env
  | .pass, env => .next env
  | .never, _ => .stuck
def evSs : Ss → Env → SRes
  | .nil, env => .next env
  | .cons s r, env => (evS s env).go fun env' => evSs r env'
  | .frz j r, env => thaw j (evSs r env)
end

def outsOf (env : Env) : List Bool → Nat → Option (List D)
  | [], _ => some []
  | true :: pm, j => (getE env j).bind fun d => (outsOf env pm (j + 1)).map (d :: ·)
  | false :: pm, j => outsOf env pm (j + 1)
/-- a def's mirror: n slots, the parameters first -/
def runF (pm : List Bool) (own : Bool) (n : Nat) (body : Ss) : Mir := fun ds =>
  if ds.length = pm.length then
    match evSs body (ds.map some ++ List.replicate (n - ds.length) none) with
    | .ret d env => match outsOf env pm 0 with
      | some os => .ok d os
      | none => .stuck
    | .next env => if own then .stuck else match outsOf env pm 0 with
      | some os => .ok .none os
      | none => .stuck
    | .exc c v env => match outsOf env pm 0 with
      | some os => .exc c v os
      | none => .stuck
    | _ => .stuck
  else .stuck
end MP

/-! MP: what the values stand for in the heap. -/
namespace MP
open PySem L2

/-! ### data in the heap -/
def KL (K : PySem.W.Frag) (a : Addr) (xs : List V) : Prop :=
  ∃ (its : List Value) (n : Nat), K.lookup a = some { cls := .type "list", data := .seq its.toArray n } ∧ its.length ≤ sizeLine ∧ Vals xs its
/-- a list stands at a -/
def LstAt (K : PySem.W.Frag) (H : Hp) (a : Addr) (xs : List V) : Prop := Rd H a (.lst xs) ∨ KL K a xs
theorem KL.sq {K : PySem.W.Frag} {H : Hp} {a : Addr} {xs : List V} (h : KL K a xs) : SqL K H a xs := by
  obtain ⟨its, n, h1, h2, h3⟩ := h
  exact .inr ⟨_, its.toArray, n, h1, rfl, rfl, rfl, by simpa using h2, by simpa using h3⟩
theorem LstAt.sq {K : PySem.W.Frag} {H : Hp} {a : Addr} {xs : List V} (h : LstAt K H a xs) : SqL K H a xs := h.elim .inl KL.sq
theorem LstAt.at {X : Cx} {pins : List (Addr × Obj)} {σ : St} {H : Hp} {s : Shared} {a : Addr} {xs : List V} (I : Inv X pins σ H s) (h : LstAt X.K H a xs) :
    xs.length ≤ sizeLine ∧ ∃ (its : List Value) (n : Nat), Vals xs its ∧ xs.length = its.length ∧ s.heap.get? a = some { cls := .type "list", data := .seq its.toArray n } := by
  rcases h with h | ⟨its, n, h1, h2, h3⟩
  · obtain ⟨z, its, n, r, e⟩ := h.ok I.hok
    exact ⟨z, its, n, r, r.length, e⟩
  · exact ⟨by rw [h3.length]; exact h2, its, n, h3, h3.length, I.kIn _ _ h1⟩
def KT (K : PySem.W.Frag) (a : Addr) (xs : List V) : Prop :=
  ∃ (o : Obj) (its : Array Value) (n : Nat), K.lookup a = some o ∧ o.cls = .type "tuple" ∧ o.data = .seq its n ∧ its.size ≤ sizeLine ∧ Vals xs its.toList
def SL (K : PySem.W.Frag) (S : Addr → Prop) (H : Hp) (a : Addr) (xs : List V) : Prop := (¬ S a ∧ Rd H a (.lst xs)) ∨ KL K a xs
/-- a tuple of which the object is known -/
def ST (_K : PySem.W.Frag) (S : Addr → Prop) (H : Hp) (a : Addr) (xs : List V) : Prop := ¬ S a ∧ ∃ o : Obj, H a = some (.frz o (.tup xs)) ∧ o.dict = none
/-- what may stand in an own slot -/
def Lk : HO → Prop
  | .lst _ => True
  | .dK _ => True
  | _ => False
def keyOf : D → Key
  | .int i => .inl i
  | .str x => .inr x
  | _ => .inl 0
def valOf : D → V
  | .bool b => .bl b
  | .int i => .int i
  | .str x => .str x
  | _ => .non
def kvOf (p : D × D) : Key × V := (keyOf p.1, valOf p.2)
/-- the keys of a dict -/
def Keys (kvs : List (Key × V)) (kds : List (D × D)) : Prop := kvs.map (·.1) = kds.map (fun p => keyOf p.1) ∧ ∀ p ∈ kds, keyOk p.1 = true
mutual
inductive Dt (K : PySem.W.Frag) (S : Addr → Prop) (H : Hp) : V → D → Prop
  | non : Dt K S H .non .none
  | bl (b : Bool) : Dt K S H (.bl b) (.bool b)
  | int (i : Int) : Dt K S H (.int i) (.int i)
  | str (x : Str) : Dt K S H (.str x) (.str x)
  | lst {a : Addr} {xs : List V} {ds : List D} : SL K S H a xs → DtAll K S H xs ds → Dt K S H (.ref a) (.list ds)
  | tup {a : Addr} {xs : List V} {ds : List D} : ST K S H a xs → DtAll K S H xs ds → Dt K S H (.ref a) (.tuple ds)
  | dct {a : Addr} {kvs : List (Key × V)} {kds : List (D × D)} : ¬ S a → Rd H a (.dK kvs) → Keys kvs kds → DtAll K S H (kvs.map (·.2)) (kds.map (·.2)) → Dt K S H (.ref a) (.dict kds)
inductive DtAll (K : PySem.W.Frag) (S : Addr → Prop) (H : Hp) : List V → List D → Prop
  | nil : DtAll K S H [] []
  | cons {v : V} {vs : List V} {d : D} {ds : List D} : Dt K S H v d → DtAll K S H vs ds → DtAll K S H (v :: vs) (d :: ds)
end
/-- all that is to be read outside of S is so outside of S' -/
def Ext (S : Addr → Prop) (H : Hp) (S' : Addr → Prop) (H' : Hp) : Prop := ∀ a o, ¬ S a → H a = some o → ¬ S' a ∧ H' a = some o
section
variable {K : PySem.W.Frag} {S S' : Addr → Prop} {H H' : Hp}
theorem Ext.refl : Ext S H S H := fun _ _ h e => ⟨h, e⟩
theorem Ext.trans {S1 S2 S3 : Addr → Prop} {H1 H2 H3 : Hp} (x : Ext S1 H1 S2 H2) (y : Ext S2 H2 S3 H3) : Ext S1 H1 S3 H3 := fun a o h e =>
  let ⟨h2, e2⟩ := x a o h e
  y a o h2 e2
theorem Ext.rd {a : Addr} {u : HO} (x : Ext S H S' H') (h : ¬ S a) (r : Rd H a u) : ¬ S' a ∧ Rd H' a u := by
  rcases r with r | ⟨o, r⟩
  · exact ⟨(x a _ h r).1, .inl (x a _ h r).2⟩
  · exact ⟨(x a _ h r).1, .inr ⟨o, (x a _ h r).2⟩⟩
theorem SL.mono {a : Addr} {xs : List V} (x : Ext S H S' H') (h : SL K S H a xs) : SL K S' H' a xs := h.elim (fun q => .inl (x.rd q.1 q.2)) .inr
theorem ST.mono {a : Addr} {xs : List V} (x : Ext S H S' H') (h : ST K S H a xs) : ST K S' H' a xs := let ⟨h1, o, h2, h3⟩ := h; ⟨(x a _ h1 h2).1, o, (x a _ h1 h2).2, h3⟩
theorem SL.at {a : Addr} {xs : List V} (h : SL K S H a xs) : LstAt K H a xs := h.elim (fun q => .inl q.2) .inr
theorem SL.sq {a : Addr} {xs : List V} (h : SL K S H a xs) : SqL K H a xs := h.at.sq
theorem ST.sq {a : Addr} {xs : List V} (h : ST K S H a xs) : SqT K H a xs := let ⟨_, o, h2, _⟩ := h; .inl (.inr ⟨o, h2⟩)
mutual
theorem Dt.mono (x : Ext S H S' H') : ∀ {v : V} {d : D}, Dt K S H v d → Dt K S' H' v d
  | _, _, .non => .non
  | _, _, .bl b => .bl b
  | _, _, .int i => .int i
  | _, _, .str y => .str y
  | _, _, .lst h a => .lst (h.mono x) (DtAll.mono x a)
  | _, _, .tup h a => .tup (h.mono x) (DtAll.mono x a)
  | _, _, .dct n r k a => .dct (x.rd n r).1 (x.rd n r).2 k (DtAll.mono x a)
theorem DtAll.mono (x : Ext S H S' H') : ∀ {vs : List V} {ds : List D}, DtAll K S H vs ds → DtAll K S' H' vs ds
  | _, _, .nil => .nil
  | _, _, .cons h a => .cons (Dt.mono x h) (DtAll.mono x a)
end
mutual
theorem Dt.dp : ∀ {v : V} {d : D}, Dt K S H v d → d.hasDict = false → Dp K H v d
  | _, _, .non, _ => .non
  | _, _, .bl b, _ => .bl b
  | _, _, .int i, _ => .int i
  | _, _, .str y, _ => .str y
  | _, _, .lst h a, n => .lst h.sq (DtAll.dp a (by simpa only [PyData.hasDict] using n))
  | _, _, .tup h a, n => .tup h.sq (DtAll.dp a (by simpa only [PyData.hasDict] using n))
  | _, _, .dct _ _ _ _, n => by simp [PyData.hasDict] at n
theorem DtAll.dp : ∀ {vs : List V} {ds : List D}, DtAll K S H vs ds → PyData.hasDictAll ds = false → DpAll K H vs ds
  | _, _, .nil, _ => .nil
  | _, _, .cons h a, n => by
    simp only [PyData.hasDictAll, Bool.or_eq_false_iff] at n
    exact .cons (Dt.dp h n.1) (DtAll.dp a n.2)
end
mutual
theorem Dt.plain (x : ∀ a o, ¬ S a → H a = some o → S' a → Lk o) : ∀ {v : V} {d : D}, Dt K S H v d → noLst d = true → Dt K S' H v d
  | _, _, .non, _ => .non
  | _, _, .bl b, _ => .bl b
  | _, _, .int i, _ => .int i
  | _, _, .str y, _ => .str y
  | _, _, .lst h a, n => by simp [noLst] at n
  | _, _, .dct _ _ _ _, n => by simp [noLst] at n
  | _, _, .tup h a, n => by
    simp only [noLst] at n
    refine .tup ?_ (DtAll.plain x a n)
    obtain ⟨h1, o, h2, h3⟩ := h
    exact ⟨fun z => x _ _ h1 h2 z, o, h2, h3⟩
theorem DtAll.plain (x : ∀ a o, ¬ S a → H a = some o → S' a → Lk o) : ∀ {vs : List V} {ds : List D}, DtAll K S H vs ds → noLstAll ds = true → DtAll K S' H vs ds
  | _, _, .nil, _ => .nil
  | _, _, .cons h a, n => by
    simp only [noLstAll, Bool.and_eq_true] at n
    exact .cons (Dt.plain x h n.1) (DtAll.plain x a n.2)
end
theorem Dt.valOf0 {d : D} (h : plainD d = true) : Dt K S H (MP.valOf d) d := by
  cases d <;> first | (simp [plainD] at h; done) | skip
  · exact .non
  · exact .bl _
  · exact .int _
  · exact .str _
theorem keys_ok : ∀ {kds : List (D × D)}, okKv kds = true → Keys (kds.map kvOf) kds
  | [], _ => ⟨rfl, fun _ h => nomatch h⟩
  | (k, v) :: r, h => by
    simp only [okKv, Bool.and_eq_true] at h
    obtain ⟨e1, e2⟩ := keys_ok h.2
    refine ⟨by rw [List.map_cons, List.map_cons, List.map_cons, e1]; rfl, fun p hp => ?_⟩
    rcases List.mem_cons.mp hp with rfl | hp
    · exact h.1.1
    · exact e2 p hp
theorem vals_ok : ∀ {kds : List (D × D)}, okKv kds = true → DtAll K S H ((kds.map kvOf).map (·.2)) (kds.map (·.2))
  | [], _ => .nil
  | (k, v) :: r, h => by
    simp only [okKv, Bool.and_eq_true] at h
    exact .cons (Dt.valOf0 h.1.2) (vals_ok h.2)
theorem Dt.dctP {a : Addr} {kds : List (D × D)} (n : ¬ S a) (r : Rd H a (.dK (kds.map kvOf))) (o : okKv kds = true) : Dt K S H (.ref a) (.dict kds) := .dct n r (keys_ok o) (vals_ok o)
theorem DtAll.length : ∀ {vs : List V} {ds : List D}, DtAll K S H vs ds → vs.length = ds.length
  | _, _, .nil => rfl
  | _, _, .cons _ a => by simp [DtAll.length a]
theorem DtAll.get : ∀ {vs : List V} {ds : List D} {i : Nat} {d : D}, DtAll K S H vs ds → ds[i]? = some d → ∃ v, vs[i]? = some v ∧ Dt K S H v d
  | _, _, _, _, .nil, e => by simp at e
  | _, _, 0, _, .cons h _, e => by simp at e; subst e; exact ⟨_, rfl, h⟩
  | _, _, i + 1, d, .cons _ a, e => by
    obtain ⟨v, h1, h2⟩ := DtAll.get (i := i) (d := d) a (by simpa using e)
    exact ⟨v, by simpa using h1, h2⟩
theorem DtAll.getV : ∀ {vs : List V} {ds : List D} {i : Nat} {v : V}, DtAll K S H vs ds → vs[i]? = some v → ∃ d, ds[i]? = some d ∧ Dt K S H v d
  | _, _, _, _, .nil, e => by simp at e
  | _, _, 0, _, .cons h _, e => by simp at e; subst e; exact ⟨_, rfl, h⟩
  | _, _, i + 1, d, .cons _ a, e => by
    obtain ⟨v, h1, h2⟩ := DtAll.getV (i := i) (v := d) a (by simpa using e)
    exact ⟨v, by simpa using h1, h2⟩
theorem DtAll.append : ∀ {vs ws : List V} {ds es : List D}, DtAll K S H vs ds → DtAll K S H ws es → DtAll K S H (vs ++ ws) (ds ++ es)
  | _, _, _, _, .nil, s => s
  | _, _, _, _, .cons h a, s => .cons h (DtAll.append a s)
theorem DtAll.take : ∀ {vs : List V} {ds : List D} (n : Nat), DtAll K S H vs ds → DtAll K S H (vs.take n) (ds.take n)
  | _, _, 0, _ => by simp; exact .nil
  | _, _, _ + 1, .nil => by simp; exact .nil
  | _, _, n + 1, .cons h a => by simp; exact .cons h (DtAll.take n a)
theorem DtAll.drop : ∀ {vs : List V} {ds : List D} (n : Nat), DtAll K S H vs ds → DtAll K S H (vs.drop n) (ds.drop n)
  | _, _, 0, h => by simpa using h
  | _, _, _ + 1, .nil => by simp; exact .nil
  | _, _, n + 1, .cons _ a => by simp; exact DtAll.drop n a
theorem DtAll.set {v : V} {d : D} (r : Dt K S H v d) : ∀ {vs : List V} {ds : List D} (n : Nat), DtAll K S H vs ds → DtAll K S H (vs.set n v) (ds.set n d)
  | _, _, _, .nil => by simp; exact .nil
  | _, _, 0, .cons _ a => .cons r a
  | _, _, n + 1, .cons h a => .cons h (DtAll.set r n a)
theorem DtAll.eraseIdx : ∀ {vs : List V} {ds : List D} (n : Nat), DtAll K S H vs ds → DtAll K S H (vs.eraseIdx n) (ds.eraseIdx n)
  | _, _, _, .nil => by simp; exact .nil
  | _, _, 0, .cons _ a => a
  | _, _, n + 1, .cons h a => .cons h (DtAll.eraseIdx n a)
theorem DtAll.dropLast : ∀ {vs : List V} {ds : List D}, DtAll K S H vs ds → DtAll K S H vs.dropLast ds.dropLast
  | _, _, .nil => .nil
  | _, _, .cons _ .nil => .nil
  | _, _, .cons h (.cons h2 a) => .cons h (DtAll.dropLast (.cons h2 a))
theorem DtAll.reverse : ∀ {vs : List V} {ds : List D}, DtAll K S H vs ds → DtAll K S H vs.reverse ds.reverse
  | _, _, .nil => .nil
  | _, _, .cons h a => by
    rw [List.reverse_cons, List.reverse_cons]
    exact (DtAll.reverse a).append (.cons h .nil)
theorem DtAll.rep {vs : List V} {ds : List D} (h : DtAll K S H vs ds) : ∀ n : Nat, DtAll K S H (List.replicate n vs).flatten (List.replicate n ds).flatten
  | 0 => .nil
  | n + 1 => by
    rw [List.replicate_succ, List.replicate_succ, List.flatten_cons, List.flatten_cons]
    exact h.append (DtAll.rep h n)
theorem DtAll.ints : ∀ {vs : List V} {ds : List D} {ns : List Int}, DtAll K S H vs ds → ints? ds = some ns → vs = ns.map V.int
  | _, _, _, .nil, e => by simp [ints?] at e; subst e; rfl
  | _, _, ns, .cons (d := d) (ds := ds) h a, e => by
    cases h with
    | int i =>
      simp only [ints?, Option.map_eq_some_iff] at e
      obtain ⟨ms, e1, e2⟩ := e
      subst e2
      rw [DtAll.ints a e1]
      rfl
    | _ => simp [ints?] at e
theorem DtAll.of_ints : ∀ ns : List Int, DtAll K S H (ns.map V.int) (ns.map PyData.int)
  | [] => .nil
  | n :: ns => .cons (.int n) (DtAll.of_ints ns)
theorem DtAll.bools : ∀ {vs : List V} {ds : List D} {ns : List Bool}, DtAll K S H vs ds → bools? ds = some ns → vs = ns.map V.bl
  | _, _, _, .nil, e => by simp [bools?] at e; subst e; rfl
  | _, _, ns, .cons (d := d) (ds := ds) h a, e => by
    cases h with
    | bl i =>
      simp only [bools?, Option.map_eq_some_iff] at e
      obtain ⟨ms, e1, e2⟩ := e
      subst e2
      rw [DtAll.bools a e1]
      rfl
    | _ => simp [bools?] at e
theorem cut_eq {vs : List V} {ds : List D} (h : DtAll K S H vs ds) (lo hi : Option Int) : DtAll K S H (cutV vs lo hi) (cutL ds lo hi) := by
  have hs : ∀ n d (o : Option Int), sIx n d o = HT.sIx n d o := fun n d o => by
    unfold sIx HT.sIx
    cases o with
    | none => rfl
    | some i => first | rfl | (dsimp only; split <;> (try split) <;> first | rfl | omega)
  unfold cutV cutL
  simp only [hs]
  rw [← h.length]
  exact (h.drop _).take _
end

/-- data, or a tuple of data that is only taken apart -/
def Di (K : PySem.W.Frag) (S : Addr → Prop) (H : Hp) (v : V) (d : D) : Prop := Dt K S H v d ∨ ∃ a xs ds, v = .ref a ∧ d = .tuple ds ∧ SqT K H a xs ∧ DtAll K S H xs ds
theorem Di.tup {K : PySem.W.Frag} {S : Addr → Prop} {H : Hp} {v : V} {ds : List D} (h : Di K S H v (.tuple ds)) : ∃ a xs, v = .ref a ∧ SqT K H a xs ∧ DtAll K S H xs ds := by
  rcases h with h | ⟨a, xs, es, h1, h2, h3, h4⟩
  · cases h with
    | tup q qa => exact ⟨_, _, rfl, q.sq, qa⟩
  · cases h2
    exact ⟨a, xs, h1, h3, h4⟩
/-- an item as a target takes it -/
def Dit (K : PySem.W.Frag) (S : Addr → Prop) (H : Hp) : T → V → D → Prop
  | .name _, v, d => Dt K S H v d
  | _, v, d => Di K S H v d
theorem Dit.of {K : PySem.W.Frag} {S : Addr → Prop} {H : Hp} {t : T} {v : V} {d : D} (h : Dt K S H v d) : Dit K S H t v d := by
  cases t
  · exact h
  · exact .inl h
  · exact .inl h
/-- an item as a walk gives it -/
def Dio (K : PySem.W.Frag) (S : Addr → Prop) (H : Hp) : IOp → V → D → Prop
  | .enum, v, d => Di K S H v d
  | .zip, v, d => Di K S H v d
  | _, v, d => Dt K S H v d
theorem Dio.of {K : PySem.W.Frag} {S : Addr → Prop} {H : Hp} {o : IOp} {v : V} {d : D} (h : Dt K S H v d) : Dio K S H o v d := by
  cases o <;> first | exact h | exact .inl h
/-- the walk's items suit the target -/
def okIt : IOp → T → Bool
  | .enum, .name _ => false
  | .zip, .name _ => false
  | _, _ => true
theorem Dio.it {K : PySem.W.Frag} {S : Addr → Prop} {H : Hp} {o : IOp} {t : T} {v : V} {d : D} (h : Dio K S H o v d) (k : okIt o t = true) : Dit K S H t v d := by
  cases o <;> cases t <;> first | exact h | exact .inl h | (exact absurd k Bool.false_ne_true)

/-! ### own lists -/
def Cell (K : PySem.W.Frag) (S : Addr → Prop) (H : Hp) (a : Addr) (d : D) : Prop :=
  (∃ xs ds, d = .list ds ∧ H a = some (.lst xs) ∧ DtAll K S H xs ds) ∨ ∃ kds, d = .dict kds ∧ H a = some (.dK (kds.map kvOf)) ∧ okKv kds = true
theorem Cell.mono {K : PySem.W.Frag} {S S' : Addr → Prop} {H H' : Hp} {a : Addr} {d : D} (x : Ext S H S' H') (e : H' a = H a) (h : Cell K S H a d) : Cell K S' H' a d := by
  rcases h with ⟨xs, ds, e1, e2, e3⟩ | ⟨kds, e1, e2, e3⟩
  · exact .inl ⟨xs, ds, e1, by rw [e]; exact e2, e3.mono x⟩
  · exact .inr ⟨kds, e1, by rw [e]; exact e2, e3⟩
theorem Cell.list {K : PySem.W.Frag} {S : Addr → Prop} {H : Hp} {a : Addr} {ds : List D} (h : Cell K S H a (.list ds)) : ∃ xs, H a = some (.lst xs) ∧ DtAll K S H xs ds := by
  rcases h with ⟨xs, es, e, h1, h2⟩ | ⟨kds, e, _⟩
  · cases e; exact ⟨xs, h1, h2⟩
  · cases e
theorem Cell.dict {K : PySem.W.Frag} {S : Addr → Prop} {H : Hp} {a : Addr} {kds : List (D × D)} (h : Cell K S H a (.dict kds)) : H a = some (.dK (kds.map kvOf)) ∧ okKv kds = true := by
  rcases h with ⟨xs, es, e, _⟩ | ⟨es, e, h1, h2⟩
  · cases e
  · cases e; exact ⟨h1, h2⟩
theorem Cell.is {K : PySem.W.Frag} {S : Addr → Prop} {H : Hp} {a : Addr} {d : D} (h : Cell K S H a d) : ∃ o, H a = some o ∧ Lk o := by
  rcases h with ⟨xs, es, _, h1, _⟩ | ⟨kds, _, h1, _⟩
  · exact ⟨_, h1, trivial⟩
  · exact ⟨_, h1, trivial⟩
theorem Cell.step {K : PySem.W.Frag} {S S' : Addr → Prop} {H H' : Hp} {a : Addr} {d : D} (x : Ext S H S' H') (e : ∀ o, H a = some o → H' a = some o) (h : Cell K S H a d) : Cell K S' H' a d := by
  obtain ⟨o, h1, _⟩ := h.is
  exact h.mono x (by rw [e o h1, h1])
/-- an operand: data, or an own list that is only read -/
def Db (K : PySem.W.Frag) (S : Addr → Prop) (H : Hp) (v : V) (d : D) : Prop := Dt K S H v d ∨ ∃ a, v = .ref a ∧ Cell K S H a d
inductive Opds (K : PySem.W.Frag) (S : Addr → Prop) (H : Hp) : List V → List D → Prop
  | nil : Opds K S H [] []
  | cons {v : V} {vs : List V} {d : D} {ds : List D} : Db K S H v d → Opds K S H vs ds → Opds K S H (v :: vs) (d :: ds)
section
variable {K : PySem.W.Frag} {S S' : Addr → Prop} {H H' : Hp} {v : V}
theorem Db.list {ds : List D} (h : Db K S H v (.list ds)) : ∃ a xs, v = .ref a ∧ LstAt K H a xs ∧ DtAll K S H xs ds := by
  rcases h with h | ⟨a, rfl, c⟩
  · cases h with
    | lst h a => exact ⟨_, _, rfl, h.at, a⟩
  · obtain ⟨xs, h1, h2⟩ := c.list
    exact ⟨a, xs, rfl, .inl (.inl h1), h2⟩
theorem Db.dict {kds : List (D × D)} (h : Db K S H v (.dict kds)) : ∃ a kvs, v = .ref a ∧ Rd H a (.dK kvs) ∧ Keys kvs kds ∧ DtAll K S H (kvs.map (·.2)) (kds.map (·.2)) := by
  rcases h with h | ⟨a, rfl, c⟩
  · cases h with
    | dct n r k a => exact ⟨_, _, rfl, r, k, a⟩
  · exact ⟨a, _, rfl, .inl c.dict.1, keys_ok c.dict.2, vals_ok c.dict.2⟩
theorem Db.tuple {ds : List D} (h : Db K S H v (.tuple ds)) : ∃ a xs, v = .ref a ∧ SqT K H a xs ∧ DtAll K S H xs ds ∧ Dt K S H v (.tuple ds) := by
  rcases h with h | ⟨a, rfl, ⟨xs, es, e, h1, h2⟩ | ⟨kds, e, h1, h2⟩⟩
  · cases h with
    | tup h a => exact ⟨_, _, rfl, h.sq, a, .tup h a⟩
  · cases e
  · cases e
theorem Db.int {i : Int} (h : Db K S H v (.int i)) : v = .int i := by
  rcases h with h | ⟨a, rfl, ⟨xs, es, e, h1, h2⟩ | ⟨kds, e, h1, h2⟩⟩
  · cases h; rfl
  · cases e
  · cases e
theorem Db.bl {i : Bool} (h : Db K S H v (.bool i)) : v = .bl i := by
  rcases h with h | ⟨a, rfl, ⟨xs, es, e, h1, h2⟩ | ⟨kds, e, h1, h2⟩⟩
  · cases h; rfl
  · cases e
  · cases e
theorem Db.str {i : Str} (h : Db K S H v (.str i)) : v = .str i := by
  rcases h with h | ⟨a, rfl, ⟨xs, es, e, h1, h2⟩ | ⟨kds, e, h1, h2⟩⟩
  · cases h; rfl
  · cases e
  · cases e
theorem Db.dp {d : D} (h : Db K S H v d) (n : d.hasDict = false) : Dp K H v d := by
  rcases h with h | ⟨a, rfl, ⟨xs, es, e, h1, h2⟩ | ⟨kds, e, h1, h2⟩⟩
  · exact h.dp n
  · subst e
    exact .lst (SqL.of h1) (h2.dp (by simpa only [PyData.hasDict] using n))
  · subst e
    simp [PyData.hasDict] at n
theorem Db.none_iff {d : D} (h : Db K S H v d) : decide (v = .non) = isNon d := by
  rcases h with h | ⟨a, rfl, ⟨xs, es, e, h1, h2⟩ | ⟨kds, e, h1, h2⟩⟩
  · cases h <;> rfl
  · subst e
    rfl
  · subst e
    rfl
theorem Opds.one {vs : List V} {d : D} (h : Opds K S H vs [d]) : ∃ v, vs = [v] ∧ Db K S H v d := by
  cases h with
  | cons h a => cases a; exact ⟨_, rfl, h⟩
theorem Opds.two {vs : List V} {d e : D} (h : Opds K S H vs [d, e]) : ∃ v u, vs = [v, u] ∧ Db K S H v d ∧ Db K S H u e := by
  cases h with
  | cons h a =>
    cases a with
    | cons h2 a => cases a; exact ⟨_, _, rfl, h, h2⟩
/-- the result of an expression: data; where it is fresh, a new own list -/
def ResRel (fresh : Bool) (K : PySem.W.Frag) (S : Addr → Prop) (H H' : Hp) (v : V) (d : D) : Prop :=
  if fresh = true then ∃ p, v = .ref p ∧ H p = none ∧ Cell K (fun a => S a ∨ a = p) H' p d else Dt K S H' v d
theorem ResRel.dt {fresh : Bool} {d : D} (hS : ∀ a, S a → H a ≠ none) (h : ResRel fresh K S H H' v d) : Dt K S H' v d := by
  unfold ResRel at h
  split at h
  · obtain ⟨p, rfl, hp, ⟨xs, ds, rfl, h1, h2⟩ | ⟨kds, rfl, h1, h2⟩⟩ := h
    · refine .lst (.inl ⟨fun z => hS p z hp, .inl h1⟩) (h2.mono fun a o n e => ⟨fun z => n (.inl z), e⟩)
    · exact .dctP (fun z => hS p z hp) (.inl h1) h2
  · exact h
theorem ResRel.plain {fresh : Bool} {d : D} (hS : ∀ a, S a → H a ≠ none) (h : ResRel fresh K S H H' v d) : ResRel false K S H H' v d := by
  unfold ResRel
  rw [if_neg Bool.false_ne_true]
  exact h.dt hS
end
end MP

/-! MP: dicts as values; what repr reads. -/
namespace MP
open PySem L2

theorem keyOf_same {k y : D} (hk : keyOk k = true) (hy : keyOk y = true) : keyOf k = keyOf y ↔ same k y = true := by
  cases k <;> cases y <;> simp_all [keyOk, keyOf, same]
theorem kV_keyOf {k : D} (hk : keyOk k = true) : kV (keyOf k) = valOf k := by
  cases k <;> simp_all [keyOk, keyOf, valOf, kV]
theorem okKv_cons {p : D × D} {r : List (D × D)} (h : okKv (p :: r) = true) : keyOk p.1 = true ∧ plainD p.2 = true ∧ okKv r = true := by
  obtain ⟨k, v⟩ := p
  simp only [okKv, Bool.and_eq_true] at h
  exact ⟨h.1.1, h.1.2, h.2⟩
theorem valV_kv {y : D} (hy : keyOk y = true) : ∀ {kds : List (D × D)}, okKv kds = true → valV (kds.map kvOf) (keyOf y) = (getKv kds y).map valOf
  | [], _ => rfl
  | p :: r, h => by
    obtain ⟨h1, h2, h3⟩ := okKv_cons h
    obtain ⟨k, v⟩ := p
    rw [List.map_cons]
    unfold getKv
    by_cases e : same k y = true
    · rw [if_pos e]
      exact valV_pos (p := kvOf (k, v)) ((keyOf_same h1 hy).mpr e)
    · rw [if_neg e, ← valV_kv hy h3]
      exact valV_neg (p := kvOf (k, v)) fun z => e ((keyOf_same h1 hy).mp z)
theorem setK_kv {y x : D} (hy : keyOk y = true) : ∀ {kds : List (D × D)}, okKv kds = true →
    (kds.map kvOf).map (fun kv => if kv.1 = keyOf y then (kv.1, valOf x) else kv) = (setKv kds y x).map kvOf
  | [], _ => rfl
  | p :: r, h => by
    obtain ⟨h1, h2, h3⟩ := okKv_cons h
    obtain ⟨k, v⟩ := p
    rw [List.map_cons, List.map_cons]
    unfold setKv
    rw [List.map_cons, setK_kv hy h3]
    congr 1
    show (if keyOf k = keyOf y then (keyOf k, valOf x) else (keyOf k, valOf v)) = (keyOf k, valOf (if same k y = true then x else v))
    by_cases e : same k y = true
    · rw [if_pos e, if_pos ((keyOf_same h1 hy).mpr e)]
    · rw [if_neg e, if_neg fun z => e ((keyOf_same h1 hy).mp z)]
theorem putK_kv {y x : D} (hy : keyOk y = true) {kds : List (D × D)} (h : okKv kds = true) : putK (kds.map kvOf) (keyOf y) (valOf x) = (putKv kds y x).map kvOf := by
  unfold putK putKv
  rw [valV_any, valV_kv hy h, Option.isSome_map]
  by_cases e : (getKv kds y).isSome = true
  · rw [if_pos e, if_pos e]
    exact setK_kv hy h
  · rw [if_neg e, if_neg e, List.map_append]
    rfl
theorem okKv_app {q : D × D} (h1 : keyOk q.1 = true) (h2 : plainD q.2 = true) : ∀ {kds : List (D × D)}, okKv kds = true → okKv (kds ++ [q]) = true
  | [], _ => by
    obtain ⟨k, v⟩ := q
    simp only [List.nil_append, okKv, Bool.and_eq_true]
    exact ⟨⟨h1, h2⟩, trivial⟩
  | (k, v) :: r, h => by
    obtain ⟨a1, a2, a3⟩ := okKv_cons h
    simp only [List.cons_append, okKv, Bool.and_eq_true]
    exact ⟨⟨a1, a2⟩, okKv_app h1 h2 a3⟩
theorem okKv_set {y x : D} (h2 : plainD x = true) : ∀ {kds : List (D × D)}, okKv kds = true → okKv (setKv kds y x) = true
  | [], _ => rfl
  | (k, v) :: r, h => by
    obtain ⟨a1, a2, a3⟩ := okKv_cons h
    simp only [setKv, okKv, Bool.and_eq_true]
    refine ⟨⟨a1, ?_⟩, okKv_set h2 a3⟩
    split
    · exact h2
    · exact a2
theorem okKv_put {y x : D} (h1 : keyOk y = true) (h2 : plainD x = true) {kds : List (D × D)} (h : okKv kds = true) : okKv (putKv kds y x) = true := by
  unfold putKv
  split
  · exact okKv_set h2 h
  · exact okKv_app h1 h2 h
theorem getKv_plain {y v : D} : ∀ {kds : List (D × D)}, okKv kds = true → getKv kds y = some v → plainD v = true
  | [], _, e => by simp [getKv] at e
  | (k, u) :: r, h, e => by
    obtain ⟨a1, a2, a3⟩ := okKv_cons h
    unfold getKv at e
    split at e
    · cases e; exact a2
    · exact getKv_plain a3 e
theorem merge_kv : ∀ {more kds : List (D × D)}, okKv kds = true → okKv more = true → mergeK (kds.map kvOf) (more.map kvOf) = (mergeKv kds more).map kvOf ∧ okKv (mergeKv kds more) = true
  | [], kds, h, _ => ⟨rfl, h⟩
  | (k, v) :: r, kds, h, g => by
    obtain ⟨a1, a2, a3⟩ := okKv_cons g
    have := merge_kv (okKv_put a1 a2 h) a3
    refine ⟨?_, this.2⟩
    rw [← putK_kv a1 h] at this
    exact this.1
theorem rows_ok : ∀ {xs : List D} {ps : List (D × D)}, rows? xs = some ps → okKv ps = true
  | [], ps, h => by simp [rows?] at h; subst h; rfl
  | x :: xs, ps, h => by
    unfold rows? at h
    split at h
    · cases h; rfl
    · rename_i k v r e
      cases e
      split at h
      · rename_i z
        obtain ⟨qs, h1, h2⟩ := Option.map_eq_some_iff.mp h
        subst h2
        simp only [okKv, Bool.and_eq_true] at z ⊢
        exact ⟨z, rows_ok h1⟩
      · cases h
    · cases h
section
variable {K : PySem.W.Frag} {S S' : Addr → Prop} {H H' : Hp} {v : V}
theorem Dt.valOf {d : D} (h : plainD d = true) : Dt K S H (MP.valOf d) d := by
  cases d <;> first | (simp [plainD] at h; done) | skip
  · exact .non
  · exact .bl _
  · exact .int _
  · exact .str _
theorem Db.key {d : D} (r : Db K S H v d) (h : keyOk d = true) : v = kV (keyOf d) := by
  cases d <;> first | (simp [keyOk] at h; done) | skip
  · exact r.int
  · exact r.str
theorem Db.plain {d : D} (r : Db K S H v d) (h : plainD d = true) : v = MP.valOf d := by
  cases d <;> first | (simp [plainD] at h; done) | skip
  · rcases r with r | ⟨a, rfl, ⟨xs, es, e, h1, h2⟩ | ⟨kds, e, h1, h2⟩⟩
    · cases r; rfl
    · cases e
    · cases e
  · exact r.bl
  · exact r.int
  · exact r.str
theorem Dt.plainV {d : D} (r : Dt K S H v d) (h : plainD d = true) : v = MP.valOf d := Db.plain (.inl r) h
end

section
variable {K : PySem.W.Frag} {S : Addr → Prop} {H : Hp}
theorem keys_cons {kv : Key × V} {kvs : List (Key × V)} {p : D × D} {kds : List (D × D)} (h : Keys (kv :: kvs) (p :: kds)) : kv.1 = keyOf p.1 ∧ keyOk p.1 = true ∧ Keys kvs kds := by
  obtain ⟨h1, h2⟩ := h
  rw [List.map_cons, List.map_cons] at h1
  injection h1 with e1 e2
  exact ⟨e1, h2 p List.mem_cons_self, e2, fun q hq => h2 q (List.mem_cons_of_mem _ hq)⟩
theorem keys_len {kvs : List (Key × V)} {kds : List (D × D)} (h : Keys kvs kds) : kvs.length = kds.length := by
  have := congrArg List.length h.1
  simpa using this
theorem val_keys {y : D} (hy : keyOk y = true) : ∀ {kvs : List (Key × V)} {kds : List (D × D)}, Keys kvs kds → DtAll K S H (kvs.map (·.2)) (kds.map (·.2)) →
    (getKv kds y = none ∧ valV kvs (keyOf y) = none) ∨ ∃ d v, getKv kds y = some d ∧ valV kvs (keyOf y) = some v ∧ Dt K S H v d
  | [], [], _, _ => .inl ⟨rfl, rfl⟩
  | [], _ :: _, k, _ => by have := keys_len k; simp at this
  | _ :: _, [], k, _ => by have := keys_len k; simp at this
  | kv :: kvs, p :: kds, k, a => by
    obtain ⟨e1, e2, e3⟩ := keys_cons k
    obtain ⟨pk, pv⟩ := p
    cases a with
    | cons a1 a2 =>
      unfold getKv
      by_cases e : same pk y = true
      · rw [if_pos e]
        exact .inr ⟨pv, kv.2, rfl, valV_pos (e1.trans ((keyOf_same e2 hy).mpr e)), a1⟩
      · rw [if_neg e]
        have ev : valV (kv :: kvs) (keyOf y) = valV kvs (keyOf y) := valV_neg fun z => e ((keyOf_same e2 hy).mp (e1.symm.trans z))
        rw [ev]
        exact val_keys hy e3 a2
theorem keys_isSome {y : D} (hy : keyOk y = true) {kvs : List (Key × V)} {kds : List (D × D)} (ks : Keys kvs kds) (dv : DtAll K S H (kvs.map (·.2)) (kds.map (·.2))) : (valV kvs (keyOf y)).isSome = (getKv kds y).isSome := by
  rcases val_keys hy ks dv with ⟨e1, e2⟩ | ⟨_, _, e1, e2, _⟩
  · rw [e1, e2]; rfl
  · rw [e1, e2]; rfl
theorem keys_plain : ∀ {kvs : List (Key × V)} {kds : List (D × D)}, Keys kvs kds → DtAll K S H (kvs.map (·.2)) (kds.map (·.2)) → okKv kds = true → kvs = kds.map kvOf
  | [], [], _, _, _ => rfl
  | [], _ :: _, k, _, _ => by have := keys_len k; simp at this
  | _ :: _, [], k, _, _ => by have := keys_len k; simp at this
  | kv :: kvs, p :: kds, k, a, o => by
    obtain ⟨e1, e2, e3⟩ := keys_cons k
    obtain ⟨o1, o2, o3⟩ := okKv_cons o
    cases a with
    | cons a1 a2 =>
      rw [List.map_cons, ← keys_plain e3 a2 o3]
      congr 1
      exact Prod.ext e1 (a1.plainV o2)
end

/-! ### what repr reads -/
section
variable {X : Cx} {pins : List (Addr × Obj)} {σ : St} {H : Hp} {s : Shared} {S : Addr → Prop}
theorem reads_plain {hp : Heap} {d : D} (h : plainD d = true) {u : Value} (r : RelV (MP.valOf d) u) : Reads hp u d [] := by
  cases d <;> first | (simp [plainD] at h; done) | skip
  · cases r; exact .none
  · cases r; exact .bool _
  · obtain ⟨t, rfl⟩ := r; exact .int _ _
  · obtain ⟨t, rfl⟩ := r; exact .str _ _
theorem reads_key {hp : Heap} {k : D} (h : keyOk k = true) {u : Value} (r : keyIs (keyOf k) u = true) : Reads hp u k [] := by
  cases k <;> first | (simp [keyOk] at h; done) | skip
  · rcases keyIs_shape r with ⟨i, t, e1, rfl⟩ | ⟨x, t, e1, rfl⟩
    · simp only [keyOf] at e1; cases e1; exact .int _ _
    · simp only [keyOf] at e1; cases e1
  · rcases keyIs_shape r with ⟨i, t, e1, rfl⟩ | ⟨x, t, e1, rfl⟩
    · simp only [keyOf] at e1; cases e1
    · simp only [keyOf] at e1; cases e1; exact .str _ _
theorem reads_kvs {P : Program} {w : World} {h : Heap} : ∀ {es : List DictEntry} {vs : List (Key × Value)} {kds : List (D × D)}, Pairs (mixKind P w) es vs → KV (kds.map kvOf) vs → okKv kds = true →
    ReadsAll h (es.map (·.key)) (kds.map (·.1)) [] ∧ ReadsAll h (es.map (·.val)) (kds.map (·.2)) []
  | _, _, [], p, k, _ => by
    cases k
    cases p
    exact ⟨.nil, .nil⟩
  | _, _, (d, x) :: r, p, k, o => by
    obtain ⟨a1, a2, a3⟩ := okKv_cons o
    cases k with
    | cons e k =>
      cases p with
      | @cons e0 kv es0 vs0 q1 q2 p =>
        obtain ⟨i1, i2⟩ := reads_kvs (h := h) p k a3
        obtain ⟨e1, e2⟩ := e
        have k1 : keyIs (keyOf d) e0.key = true := by
          have : (kvOf (d, x)).1 = keyOf d := rfl
          rw [← this, e1]
          exact q1
        have v1 : RelV (MP.valOf x) e0.val := by
          rw [q2]
          exact e2
        exact ⟨.cons (as := []) (bs := []) (reads_key a1 k1) i1, .cons (as := []) (bs := []) (reads_plain a2 v1) i2⟩
theorem reads_dict (I : Inv X pins σ H s) {a : Addr} {kds : List (D × D)} (r : Rd H a (.dK (kds.map kvOf))) (o : okKv kds = true) : Reads s.heap (.ref a) (.dict kds) [a] ∧ a ≠ sysModules := by
  obtain ⟨z, hd, vs, rel, ob, es, ep, e1, e2, e3, e4, e5, e6⟩ := dk_rd I.hok r
  obtain ⟨i1, i2⟩ := reads_kvs (h := s.heap) e5 rel o
  exact ⟨.dict (as := []) (bs := []) e1 e2.1 e3 i1 i2, beq_eq_false_iff_ne.mp hd⟩
theorem keys_reads {P : Program} {w : World} {h : Heap} : ∀ {es : List DictEntry} {vs : List (Key × Value)} {kvs : List (Key × V)} {kds : List (D × D)}, Pairs (mixKind P w) es vs → KV kvs vs → Keys kvs kds →
    ReadsAll h (es.map (·.key)) (kds.map (·.1)) [] ∧ Vals (kvs.map (·.2)) (es.map (·.val))
  | _, _, [], [], p, k, _ => by
    cases k
    cases p
    exact ⟨.nil, .nil⟩
  | _, _, [], _ :: _, _, _, k => by have := keys_len k; simp at this
  | _, _, _ :: _, [], _, _, k => by have := keys_len k; simp at this
  | _, _, kv :: kvs, p :: kds, pp, k, o => by
    obtain ⟨a1, a2, a3⟩ := keys_cons o
    cases k with
    | cons e k =>
      cases pp with
      | @cons e0 kv0 es0 vs0 q1 q2 pp =>
        obtain ⟨i1, i2⟩ := keys_reads (h := h) pp k a3
        obtain ⟨e1, e2⟩ := e
        have k1 : keyIs (keyOf p.1) e0.key = true := by
          rw [← a1, e1]
          exact q1
        have v1 : RelV kv.2 e0.val := by
          rw [q2]
          exact e2
        exact ⟨.cons (as := []) (bs := []) (reads_key a2 k1) i1, .cons v1 i2⟩
mutual
theorem Dt.shows (I : Inv X pins σ H s) : ∀ {v : V} {d : D} {u : Value}, Dt X.K S H v d → RelV v u → d.showable = true → d.shown.length ≤ sizeLine →
    ∃ bs as, Reads s.heap u d as ∧ ReadAtMost s.heap d.depth bs ∧ ReprK X.prog X.w bs s.heap d.depth u d.shown
  | _, _, _, .non, r, hs, hz => by
    have rd : Reads s.heap _ PyData.none [] := reads_plain (d := .none) rfl r
    obtain ⟨bs, h1, h2⟩ := ReprK.of_reads (prog := X.prog) (w := X.w) rd hs (fun z => by simp [PyData.hasDict] at z) hz
    exact ⟨bs, _, rd, h1, h2⟩
  | _, _, _, .bl b, r, hs, hz => by
    have rd : Reads s.heap _ (PyData.bool b) [] := reads_plain (d := .bool b) rfl r
    obtain ⟨bs, h1, h2⟩ := ReprK.of_reads (prog := X.prog) (w := X.w) rd hs (fun z => by simp [PyData.hasDict] at z) hz
    exact ⟨bs, _, rd, h1, h2⟩
  | _, _, _, .int i, r, hs, hz => by
    have rd : Reads s.heap _ (PyData.int i) [] := reads_plain (d := .int i) rfl r
    obtain ⟨bs, h1, h2⟩ := ReprK.of_reads (prog := X.prog) (w := X.w) rd hs (fun z => by simp [PyData.hasDict] at z) hz
    exact ⟨bs, _, rd, h1, h2⟩
  | _, _, _, .str x, r, hs, hz => by
    have rd : Reads s.heap _ (PyData.str x) [] := reads_plain (d := .str x) rfl r
    obtain ⟨bs, h1, h2⟩ := ReprK.of_reads (prog := X.prog) (w := X.w) rd hs (fun z => by simp [PyData.hasDict] at z) hz
    exact ⟨bs, _, rd, h1, h2⟩
  | _, _, _, .dct (a := a) (kds := kds) n q o ha, r, hs, hz => by
    cases r
    obtain ⟨z, hsys, vs, rel, ob, es, ep, e1, e2, e3, e4, e5, e6⟩ := dk_rd I.hok q
    obtain ⟨i1, i2⟩ := keys_reads (h := s.heap) e5 rel o
    have hz' : (dictText (PyData.shownKv kds)).length ≤ sizeLine := by simpa only [PyData.shown] using hz
    obtain ⟨hs1, hs2⟩ := PyData.showableKv_split kds (by simpa [PyData.showable] using hs)
    obtain ⟨b1, hb1, k1⟩ := ReprAllK.of_readsAll (prog := X.prog) (w := X.w) i1 hs1 (fun _ hm => nomatch hm) (fun t ht => let ⟨p, hp, hl⟩ := PyData.shownKv_key_le kds t ht; Nat.le_trans hl (Nat.le_trans (dictText_mem_le hp) hz'))
    obtain ⟨b2, as2, rd2, hb2, k2⟩ := DtAll.shows I ha i2 hs2 (fun t ht => let ⟨p, hp, hl⟩ := PyData.shownKv_val_le kds t ht; Nat.le_trans hl (Nat.le_trans (dictText_mem_le hp) hz'))
    have rr : Reads s.heap (.ref a) (.dict kds) _ := .dict e1 e2.1 e3 i1 rd2
    have hb : ReadAtMost s.heap (PyData.depthKv kds) (b1 ++ b2) := (hb1.mono (PyData.depthAll_keys_le kds)).append (hb2.mono (PyData.depthAll_vals_le kds))
    have hna : a ∉ b1 ++ b2 := not_mem_of_deeper rr (by simp only [PyData.depth]; omega) hb
    refine ⟨a :: (b1 ++ b2), _, rr, ReadAtMost.cons rr (by simp only [PyData.depth]; omega) hb, ?_⟩
    simp only [PyData.depth, PyData.shown, PyData.shownKv_eq]
    exact ReprK.dict e1 e2.1 e3 hsys hna (ReprEntriesK.of_two es.toList _ _
      (k1.more_le (fun b hb => List.mem_append_left _ hb) (PyData.depthAll_keys_le kds)) (k2.more_le (fun b hb => List.mem_append_right _ hb) (PyData.depthAll_vals_le kds)))
  | _, _, _, .lst (a := a) (xs := xs) (ds := ds) hl ha, r, hs, hz => by
    cases r
    obtain ⟨its, rv, ⟨o, n, ho, hc, _, hd⟩, _⟩ := I.list hl.sq
    have hz' : (listText (PyData.shownAll ds)).length ≤ sizeLine := by simpa only [PyData.shown] using hz
    obtain ⟨bs, as, rd, hb, hk⟩ := DtAll.shows I ha rv (by simpa only [PyData.showable] using hs) (fun t ht => Nat.le_trans (listText_mem_le ht) hz')
    have rr : Reads s.heap (.ref a) (.list ds) (a :: as) := .list ho hc hd rd
    have hna : a ∉ bs := not_mem_of_deeper rr (by simp only [PyData.depth]; omega) hb
    refine ⟨a :: bs, _, rr, ReadAtMost.cons rr (by simp only [PyData.depth]; omega) hb, ?_⟩
    simp only [PyData.depth, PyData.shown]
    cases its with
    | nil =>
      cases rd
      simp only [PyData.shownAll, listText_nil]
      exact ReprK.listEmpty ho hc hd
    | cons x l => exact ReprK.list ho hc hd hna (by simpa using hk.length_eq) fun i y e => hk.item i y (by simpa using e)
  | _, _, _, .tup (a := a) (xs := xs) (ds := ds) hl ha, r, hs, hz => by
    cases r
    obtain ⟨its, rv, ⟨o, ho, hc, n, hd⟩, _⟩ := I.tuple hl.sq
    have hz' : (tupleText (PyData.shownAll ds)).length ≤ sizeLine := by simpa only [PyData.shown] using hz
    obtain ⟨bs, as, rd, hb, hk⟩ := DtAll.shows I ha rv (by simpa only [PyData.showable] using hs) (fun t ht => Nat.le_trans (tupleText_mem_le ht) hz')
    have rr : Reads s.heap (.ref a) (.tuple ds) as := .tuple ho hc hd rd
    have hna : a ∉ bs := not_mem_of_deeper rr (by simp only [PyData.depth]; omega) hb
    refine ⟨a :: bs, _, rr, ReadAtMost.cons rr (by simp only [PyData.depth]; omega) hb, ?_⟩
    simp only [PyData.depth, PyData.shown]
    exact ReprK.tuple ho hc hd hna hk
theorem DtAll.shows (I : Inv X pins σ H s) : ∀ {vs : List V} {ds : List D} {us : List Value}, DtAll X.K S H vs ds → Vals vs us → PyData.showableAll ds = true → (∀ t ∈ PyData.shownAll ds, t.length ≤ sizeLine) →
    ∃ bs as, ReadsAll s.heap us ds as ∧ ReadAtMost s.heap (PyData.depthAll ds) bs ∧ ReprAllK X.prog X.w bs s.heap (PyData.depthAll ds) us (PyData.shownAll ds)
  | _, _, _, .nil, r, _, _ => by
    cases r
    exact ⟨[], [], .nil, (fun _ h => nomatch h), by simp only [PyData.shownAll]; exact .nil⟩
  | _, _, _, .cons (d := d) (ds := ds) h1 h2, r, hs, hz => by
    cases r with
    | cons r1 r2 =>
      have hs' : d.showable = true ∧ PyData.showableAll ds = true := by simpa [PyData.showableAll] using hs
      obtain ⟨b1, a1, q1, hb1, k1⟩ := Dt.shows I h1 r1 hs'.1 (hz _ (by simp only [PyData.shownAll]; exact List.mem_cons_self ..))
      obtain ⟨b2, a2, q2, hb2, k2⟩ := DtAll.shows I h2 r2 hs'.2 fun t ht => hz t (by simp only [PyData.shownAll]; exact List.mem_cons_of_mem _ ht)
      refine ⟨b1 ++ b2, _, .cons q1 q2, ?_, ?_⟩
      · simp only [PyData.depthAll]
        exact (hb1.mono (Nat.le_max_left _ _)).append (hb2.mono (Nat.le_max_right _ _))
      · simp only [PyData.depthAll, PyData.shownAll]
        exact .cons ((k1.more fun b hb => List.mem_append_left _ hb).level_le (Nat.le_max_left _ _)) (k2.more_le (fun b hb => List.mem_append_right _ hb) (Nat.le_max_right _ _))
end
end
end MP

/-! MP: the operators are right. -/
namespace MP
open PySem L2

def rGen (K : PySem.W.Frag) (op : Op) : List V → Hp → VK → Prop := fun vs H Q => ∃ (S : Addr → Prop) (ds : List D) (d : D), (∀ a, S a → H a ≠ none) ∧ Opds K S H vs ds ∧ op.run ds = some d ∧
  ∀ v H', Same H H' → ResRel op.fresh K S H H' v d → Q v H'
section
variable {K : PySem.W.Frag} {S : Addr → Prop} {H H' : Hp} {v : V}
theorem Opds.inv1 {x : V} {ds : List D} (h : Opds K S H [x] ds) : ∃ d, ds = [d] ∧ Db K S H x d := by
  cases h with
  | cons h a => cases a; exact ⟨_, rfl, h⟩
theorem Opds.inv2 {x y : V} {ds : List D} (h : Opds K S H [x, y] ds) : ∃ d e, ds = [d, e] ∧ Db K S H x d ∧ Db K S H y e := by
  cases h with
  | cons h a =>
    obtain ⟨e, rfl, h2⟩ := a.inv1
    exact ⟨_, _, rfl, h, h2⟩
theorem Opds.inv3 {x y z : V} {ds : List D} (h : Opds K S H [x, y, z] ds) : ∃ d e f, ds = [d, e, f] ∧ Db K S H x d ∧ Db K S H y e ∧ Db K S H z f := by
  cases h with
  | cons h a =>
    obtain ⟨e, f, rfl, h2, h3⟩ := a.inv2
    exact ⟨_, _, _, rfl, h, h2, h3⟩
theorem Opds.length {vs : List V} {ds : List D} (h : Opds K S H vs ds) : vs.length = ds.length := by
  induction h with
  | nil => rfl
  | cons _ _ ih => simp [ih]
theorem same_upd {p : Addr} {o : HO} (h : H p = none) : Same H (upd H p o) := fun b u e => by rw [upd_ne (ne_of_none e h)]; exact e
theorem Ext.of_same (h : Same H H') : Ext S H S H' := fun a o n e => ⟨n, h a o e⟩
theorem res_dt {d : D} (h : Dt K S H' v d) : ResRel false K S H H' v d := by
  unfold ResRel
  rw [if_neg Bool.false_ne_true]
  exact h
theorem new_tup {p : Addr} {zs : List V} {es : List D} {o : Obj} (ho : o.dict = none) (hS : ∀ a, S a → H a ≠ none) (hp : H p = none) (h : DtAll K S H zs es) : ResRel false K S H (upd H p (.frz o (.tup zs))) (.ref p) (.tuple es) :=
  res_dt (.tup ⟨fun z => hS p z hp, o, upd_same, ho⟩ (h.mono (.of_same (same_upd hp))))
theorem new_lst {p : Addr} {zs : List V} {es : List D} (hp : H p = none) (h : DtAll K S H zs es) : ResRel true K S H (upd H p (.lst zs)) (.ref p) (.list es) := by
  unfold ResRel
  rw [if_pos rfl]
  refine ⟨p, rfl, hp, .inl ⟨zs, es, rfl, upd_same, h.mono fun a o n e => ?_⟩⟩
  have ne : a ≠ p := ne_of_none e hp
  exact ⟨fun z => z.elim n ne, by rw [upd_ne ne]; exact e⟩
theorem new_dct {p : Addr} {kds : List (D × D)} (hp : H p = none) (h : okKv kds = true) : ResRel true K S H (upd H p (.dK (kds.map kvOf))) (.ref p) (.dict kds) := by
  unfold ResRel
  rw [if_pos rfl]
  exact ⟨p, rfl, hp, .inr ⟨kds, rfl, upd_same, h⟩⟩
theorem new_lst' {p : Addr} {zs : List V} {es : List D} (b : Bool) (hS : ∀ a, S a → H a ≠ none) (hp : H p = none) (h : DtAll K S H zs es) : ResRel b K S H (upd H p (.lst zs)) (.ref p) (.list es) := by
  cases b with
  | true => exact new_lst hp h
  | false => exact (new_lst hp h).plain hS
end

/-! ### sorted lists of ints -/
theorem perm_ins (x : Int) : ∀ l : List Int, (orderedI.ins x l).Perm (x :: l)
  | [] => by simp [orderedI.ins]
  | y :: ys => by
    unfold orderedI.ins
    split
    · exact List.Perm.refl _
    · exact ((perm_ins x ys).cons y).trans (List.Perm.swap x y ys)
theorem perm_ordered : ∀ l : List Int, (orderedI l).Perm l
  | [] => by simp [orderedI]
  | x :: xs => by
    unfold orderedI
    exact (perm_ins x _).trans ((perm_ordered xs).cons x)
theorem pair_ins (x : Int) : ∀ l : List Int, l.Pairwise (· ≤ ·) → (orderedI.ins x l).Pairwise (· ≤ ·)
  | [], _ => by simp [orderedI.ins]
  | y :: ys, h => by
    obtain ⟨h1, h2⟩ := List.pairwise_cons.mp h
    unfold orderedI.ins
    split
    · rename_i hle
      refine List.pairwise_cons.mpr ⟨fun z hz => ?_, h⟩
      rcases List.mem_cons.mp hz with rfl | hz
      · exact hle
      · exact Int.le_trans hle (h1 z hz)
    · rename_i hgt
      refine List.pairwise_cons.mpr ⟨fun z hz => ?_, pair_ins x ys h2⟩
      rcases List.mem_cons.mp ((perm_ins x ys).subset hz) with rfl | hz
      · omega
      · exact h1 z hz
theorem pair_ordered : ∀ l : List Int, (orderedI l).Pairwise (· ≤ ·)
  | [] => by simp [orderedI]
  | x :: xs => by
    unfold orderedI
    exact pair_ins x _ (pair_ordered xs)
theorem ordered_of {ns ms : List Int} (p : ms.Perm ns) (h : ms.Pairwise (· ≤ ·)) : ms = orderedI ns :=
  List.Perm.eq_of_pairwise (fun x y _ _ h1 h2 => Int.le_antisymm h1 h2) h (pair_ordered ns) (p.trans (perm_ordered ns).symm)
theorem foldMax (xs : List Int) : ∀ x : Int, xs.foldl (fun a b => if a < b then b else a) x ∈ x :: xs ∧ ∀ y ∈ x :: xs, y ≤ xs.foldl (fun a b => if a < b then b else a) x := by
  induction xs with
  | nil => intro x; simp
  | cons z zs ih =>
    intro x
    rw [List.foldl_cons]
    obtain ⟨h1, h2⟩ := ih (if x < z then z else x)
    have h3 := h2 _ List.mem_cons_self
    refine ⟨?_, fun y hy => ?_⟩
    · rcases List.mem_cons.mp h1 with h | h
      · rw [h]; split <;> simp
      · exact List.mem_cons_of_mem _ (List.mem_cons_of_mem _ h)
    · rcases List.mem_cons.mp hy with rfl | hy
      · refine Int.le_trans ?_ h3
        split <;> omega
      · rcases List.mem_cons.mp hy with rfl | hy
        · refine Int.le_trans ?_ h3
          split <;> omega
        · exact h2 y (List.mem_cons_of_mem _ hy)
theorem foldMin (xs : List Int) : ∀ x : Int, xs.foldl (fun a b => if b < a then b else a) x ∈ x :: xs ∧ ∀ y ∈ x :: xs, xs.foldl (fun a b => if b < a then b else a) x ≤ y := by
  induction xs with
  | nil => intro x; simp
  | cons z zs ih =>
    intro x
    rw [List.foldl_cons]
    obtain ⟨h1, h2⟩ := ih (if z < x then z else x)
    have h3 := h2 _ List.mem_cons_self
    refine ⟨?_, fun y hy => ?_⟩
    · rcases List.mem_cons.mp h1 with h | h
      · rw [h]; split <;> simp
      · exact List.mem_cons_of_mem _ (List.mem_cons_of_mem _ h)
    · rcases List.mem_cons.mp hy with rfl | hy
      · refine Int.le_trans h3 ?_
        split <;> omega
      · rcases List.mem_cons.mp hy with rfl | hy
        · refine Int.le_trans h3 ?_
          split <;> omega
        · exact h2 y (List.mem_cons_of_mem _ hy)

/-! ### the operators, one by one -/
section
variable {X : Cx}
/-- a rule for two ints -/
theorem gen_int {op : Op} {f : Value → Value → Sem Value} {C : Int → Int → Prop} {g : Int → Int → V} (hf : op.fresh = false)
    (h : OpR X f (rI C g)) (hr : ∀ d e r, op.run [d, e] = some r → ∃ i j, d = .int i ∧ e = .int j ∧ C i j ∧ ∀ K S H, Dt K S H (g i j) r) : OpR X f (fun x y => rGen X.K op [x, y]) := by
  intro pins s σ H x y v u Q I rx ry ⟨S, ds, d, hS, ho, hrun, q⟩
  obtain ⟨d1, d2, rfl, h1, h2⟩ := ho.inv2
  obtain ⟨i, j, rfl, rfl, c, hd⟩ := hr _ _ _ hrun
  refine h pins s σ H x y v u Q I rx ry ⟨i, j, h1.int, h2.int, c, q _ _ (Same.refl H) ?_⟩
  rw [hf]
  exact res_dt (hd _ _ _)
theorem gen_int0 {op : Op} {f : Value → Value → Sem Value} {g : Int → Int → V} (hf : op.fresh = false)
    (h : OpR X f (rI0 g)) (hr : ∀ d e r, op.run [d, e] = some r → ∃ i j, d = .int i ∧ e = .int j ∧ ∀ K S H, Dt K S H (g i j) r) : OpR X f (fun x y => rGen X.K op [x, y]) := by
  intro pins s σ H x y v u Q I rx ry ⟨S, ds, d, hS, ho, hrun, q⟩
  obtain ⟨d1, d2, rfl, h1, h2⟩ := ho.inv2
  obtain ⟨i, j, rfl, rfl, hd⟩ := hr _ _ _ hrun
  refine h pins s σ H x y v u Q I rx ry ⟨i, j, h1.int, h2.int, q _ _ (Same.refl H) ?_⟩
  rw [hf]
  exact res_dt (hd _ _ _)
theorem s_sub : OpR X (binaryOp .Sub) (fun x y => rGen X.K .sub [x, y]) := gen_int0 rfl op_sub fun d e r h => by
  cases d <;> cases e <;> simp [Op.run, Op.runD] at h
  subst h; exact ⟨_, _, rfl, rfl, fun _ _ _ => .int _⟩
theorem s_fdiv : OpR X (binaryOp .FloorDiv) (fun x y => rGen X.K .fdiv [x, y]) := gen_int rfl op_fdiv fun d e r h => by
  cases d <;> cases e <;> simp only [Op.run, Op.runD] at h <;> first | (cases h; done) | skip
  split at h
  · cases h; rename_i c; exact ⟨_, _, rfl, rfl, c, fun _ _ _ => .int _⟩
  · cases h
theorem s_mod : OpR X (binaryOp .Mod) (fun x y => rGen X.K .mod [x, y]) := gen_int rfl op_mod fun d e r h => by
  cases d <;> cases e <;> simp only [Op.run, Op.runD] at h <;> first | (cases h; done) | skip
  split at h
  · cases h; rename_i c; exact ⟨_, _, rfl, rfl, c, fun _ _ _ => .int _⟩
  · cases h
theorem s_pow : OpR X (binaryOp .Pow) (fun x y => rGen X.K .pow [x, y]) := gen_int rfl op_pow fun d e r h => by
  cases d <;> cases e <;> simp only [Op.run, Op.runD] at h <;> first | (cases h; done) | skip
  split at h
  · cases h; rename_i c; exact ⟨_, _, rfl, rfl, c, fun _ _ _ => .int _⟩
  · cases h
theorem s_shl : OpR X (binaryOp .LShift) (fun x y => rGen X.K .shl [x, y]) := gen_int rfl op_shl fun d e r h => by
  cases d <;> cases e <;> simp only [Op.run, Op.runD] at h <;> first | (cases h; done) | skip
  split at h
  · cases h; rename_i c; exact ⟨_, _, rfl, rfl, c, fun _ _ _ => .int _⟩
  · cases h
theorem s_shr : OpR X (binaryOp .RShift) (fun x y => rGen X.K .shr [x, y]) := gen_int rfl op_shr fun d e r h => by
  cases d <;> cases e <;> simp only [Op.run, Op.runD] at h <;> first | (cases h; done) | skip
  split at h
  · cases h; rename_i c; exact ⟨_, _, rfl, rfl, c, fun _ _ _ => .int _⟩
  · cases h
theorem s_band : OpR X (binaryOp .BitAnd) (fun x y => rGen X.K .band [x, y]) := gen_int0 rfl op_and fun d e r h => by
  cases d <;> cases e <;> simp [Op.run, Op.runD] at h
  subst h; exact ⟨_, _, rfl, rfl, fun _ _ _ => .int _⟩
theorem s_bor : OpR X (binaryOp .BitOr) (fun x y => rGen X.K .bor [x, y]) := gen_int0 rfl op_or fun d e r h => by
  cases d <;> cases e <;> simp [Op.run, Op.runD] at h
  subst h; exact ⟨_, _, rfl, rfl, fun _ _ _ => .int _⟩
theorem s_lt : OpR X (compareOp .Lt) (fun x y => rGen X.K .lt [x, y]) := gen_int0 rfl op_lt fun d e r h => by
  cases d <;> cases e <;> simp [Op.run, Op.runD] at h
  subst h; exact ⟨_, _, rfl, rfl, fun _ _ _ => .bl _⟩
theorem s_le : OpR X (compareOp .LtE) (fun x y => rGen X.K .le [x, y]) := gen_int0 rfl op_le fun d e r h => by
  cases d <;> cases e <;> simp [Op.run, Op.runD] at h
  subst h; exact ⟨_, _, rfl, rfl, fun _ _ _ => .bl _⟩
theorem s_gt : OpR X (compareOp .Gt) (fun x y => rGen X.K .gt [x, y]) := gen_int0 rfl op_gt fun d e r h => by
  cases d <;> cases e <;> simp [Op.run, Op.runD] at h
  subst h; exact ⟨_, _, rfl, rfl, fun _ _ _ => .bl _⟩
theorem s_ge : OpR X (compareOp .GtE) (fun x y => rGen X.K .ge [x, y]) := gen_int0 rfl op_ge fun d e r h => by
  cases d <;> cases e <;> simp [Op.run, Op.runD] at h
  subst h; exact ⟨_, _, rfl, rfl, fun _ _ _ => .bl _⟩
/-- a built-in's rule on one operand -/
theorem call1 {f : Value} {op : Op} {r : List V → Hp → VK → Prop} (h : CallR X f r)
    (hr : ∀ (S : Addr → Prop) (H : Hp) (v : V) (d e : D) (Q : VK), (∀ a, S a → H a ≠ none) → Db X.K S H v d → op.run [d] = some e → (∀ w H', Same H H' → ResRel op.fresh X.K S H H' w e → Q w H') → r [v] H Q) :
    CallR X f (fun xs H Q => ∃ v, xs = [v] ∧ rGen X.K op [v] H Q) := by
  intro pins s σ H xs us Q I rv ⟨v, e, S, ds, d, hS, ho, hrun, q⟩
  subst e
  obtain ⟨d1, rfl, h1⟩ := ho.inv1
  exact h pins s σ H [v] us Q I rv (hr S H v d1 d Q hS h1 hrun q)
theorem cat_at {pins : List (Addr × Obj)} {s : Shared} {σ : St} {H : Hp} {Q : VK} {E : Value → Shared → Prop} {a b : Addr} {xs ys : List V} (I : Inv X pins σ H s) (ha : LstAt X.K H a xs) (hb : LstAt X.K H b ys) (hz : xs.length + ys.length ≤ sizeLine)
    (q : ∀ p, H p = none → Q (.ref p) (upd H p (.lst (xs ++ ys)))) : wpAny (model X.prog X.w) X.A (binaryOp .Add (.ref a) (.ref b)) (EP X pins σ Q) E s := by
  obtain ⟨z, its, n, r, hl, e⟩ := ha.at I
  obtain ⟨z2, its2, n2, r2, hl2, e2⟩ := hb.at I
  refine PySem.P.add_list e e2 ?_ (by rw [List.size_toArray, List.size_toArray]; omega)
  have ea : its.toArray ++ its2.toArray = (its ++ its2).toArray := by simp
  rw [ea]
  exact ⟨.ref _, _, I.lnew (t' := s.toks) (r.append r2) (by rw [List.length_append]; omega), rfl, q _ I.fresh⟩
theorem s_add : OpR X (binaryOp .Add) (fun x y => rGen X.K .add [x, y]) := by
  intro pins s σ H x y v u Q I rx ry ⟨S, ds, d, hS, ho, hrun, q⟩
  obtain ⟨d1, d2, rfl, h1, h2⟩ := ho.inv2
  cases d1 with
  | int i =>
    cases d2 <;> simp only [Op.run, Op.runD] at hrun <;> first | (cases hrun; done) | skip
    cases hrun
    exact op_add pins s σ H x y v u Q I rx ry ⟨_, _, h1.int, h2.int, q _ _ (Same.refl H) (res_dt (.int _))⟩
  | str i =>
    cases d2 <;> simp only [Op.run, Op.runD] at hrun <;> first | (cases hrun; done) | skip
    split at hrun
    · cases hrun
      rename_i hz
      exact op_add_str pins s σ H x y v u Q I rx ry ⟨_, _, h1.str, h2.str, hz, q _ _ (Same.refl H) (res_dt (.str _))⟩
    · cases hrun
  | tuple xs =>
    cases d2 <;> simp only [Op.run, Op.runD] at hrun <;> first | (cases hrun; done) | skip
    split at hrun
    · cases hrun
      rename_i hz
      obtain ⟨a, zs, rfl, ha, da, dt1⟩ := h1.tuple
      obtain ⟨b, ws, rfl, hb, db, dt2⟩ := h2.tuple
      have l1 := da.length
      have l2 := db.length
      refine op_catX pins s σ H _ _ v u Q I rx ry ⟨a, b, zs, ws, rfl, rfl, ha, hb, by omega, fun e => ?_, fun _ e => ?_, fun _ _ p o hp ho => ?_⟩
      · subst e; cases da
        exact q _ _ (Same.refl H) (res_dt (by simpa using dt2))
      · subst e; cases db
        exact q _ _ (Same.refl H) (res_dt (by simpa using dt1))
      · exact q _ _ (same_upd hp) (new_tup ho hS hp (da.append db))
    · cases hrun
  | list xs =>
    cases d2 <;> simp only [Op.run, Op.runD] at hrun <;> first | (cases hrun; done) | skip
    split at hrun
    · cases hrun
      rename_i hz
      obtain ⟨a, xs, rfl, ha, da⟩ := h1.list
      obtain ⟨b, ys, rfl, hb, db⟩ := h2.list
      cases rx
      cases ry
      have l1 := da.length
      have l2 := db.length
      exact cat_at I ha hb (by omega) fun p hp => q _ _ (same_upd hp) (new_lst' false hS hp (da.append db))
    · cases hrun
  | _ => simp [Op.run, Op.runD] at hrun
theorem s_cat : OpR X (binaryOp .Add) (fun x y => rGen X.K .cat [x, y]) := by
  intro pins s σ H x y v u Q I rx ry ⟨S, ds, d, hS, ho, hrun, q⟩
  obtain ⟨d1, d2, rfl, h1, h2⟩ := ho.inv2
  cases d1 <;> cases d2 <;> simp only [Op.run, Op.runD] at hrun <;> first | (cases hrun; done) | skip
  split at hrun
  · cases hrun
    rename_i hz
    obtain ⟨a, xs, rfl, ha, da⟩ := h1.list
    obtain ⟨b, ys, rfl, hb, db⟩ := h2.list
    cases rx
    cases ry
    have l1 := da.length
    have l2 := db.length
    exact cat_at I ha hb (by omega) fun p hp => q _ _ (same_upd hp) (new_lst hp (da.append db))
  · cases hrun
theorem rep_at {pins : List (Addr × Obj)} {s : Shared} {σ : St} {H : Hp} {Q : VK} {E : Value → Shared → Prop} {l : Addr} {k : Int} {t : Tok} {xs : List V} (I : Inv X pins σ H s) (hH : LstAt X.K H l xs) (h1 : -(2 ^ 63) ≤ k) (h2 : k < 2 ^ 63) (hz : xs.length * k.toNat ≤ sizeLine)
    (q : ∀ p, H p = none → Q (.ref p) (upd H p (.lst (List.replicate k.toNat xs).flatten))) : wpAny (model X.prog X.w) X.A (binaryOp .Mult (.ref l) (.int k t)) (EP X pins σ Q) E s := by
  obtain ⟨z, its, n, r, hl, e⟩ := hH.at I
  have hlen : its.toArray.size * k.toNat ≤ sizeLine := by rw [List.size_toArray, ← hl]; exact hz
  have hcap : ¬ its.toArray.size * k.toNat > (2 ^ 63 - 1) / 8 := by
    have : (sizeLine : Nat) ≤ (2 ^ 63 - 1) / 8 := by decide
    omega
  have hfit : ¬ (!Builtin.List.listFitsIndex k) = true := by
    rw [fitsIndex_both h1 h2]
    exact Bool.false_ne_true
  have hlong : ¬ Builtin.List.listTooLong (its.toArray.size * k.toNat) = true := by
    rw [notLongL hlen]
    exact Bool.false_ne_true
  have hnew : List.foldl (fun x1 x2 => x1 ++ x2) #[] (List.replicate (if its.toArray.isEmpty = true then 0 else k.toNat) its.toArray) = (List.replicate k.toNat its).flatten.toArray := by
    have f0 : ∀ m : Nat, List.foldl (fun x1 x2 => x1 ++ x2) #[] (List.replicate m its.toArray) = (List.replicate m its).flatten.toArray := fun m => by
      have := L2.foldl_rep its m []
      rw [List.nil_append] at this
      exact this
    rw [f0]
    cases its with
    | nil => simp
    | cons a r' => rw [if_neg (by simp)]
  refine wpAny_binaryOp_repeat_ref (T := "list") (U := "int") (by decide) ⟨_, e, rfl⟩ (fun s' => typeIs_int s' k t) noFill_list_mul F.fills_int_mul F.slot_int_rmul repeat_list F.slot_int_index.lookup
    (call_meets F.slot_int_rmul (typeIs_int s k t) F.entry_int_rmul (F.args_int_rmul_2 _ _) (int___rmul___int_list k t l its.toArray n)
      ⟨e, rfl, ⟨_, e, rfl⟩, call_meets F.slot_list_mul ⟨_, e, rfl⟩ F.entry_list_mul (F.args_list_mul_2 _ _) (AutoListH.list___mul___list_int_3 l its.toArray n k t hfit hcap hlong) ⟨e, ?_⟩⟩)
  rw [hnew]
  exact ⟨.ref _, _, I.lnew (t' := s.toks) (r.rep k.toNat) (by rw [PyProof.Rows.lm_len_rep_flat, Nat.mul_comm]; exact hz), rfl, q _ I.fresh⟩
/-- a known tuple of k copies -/
theorem rep_tupX {pins : List (Addr × Obj)} {σ : L2.St} {s : Shared} {l : Addr} {k : Int} {t : Tok} {xs : List V} {Q : VK} (I : Inv X pins σ H s) (hT : SqT X.K H l xs) (hne : xs.isEmpty = false) (h1 : 2 ≤ k) (h2 : k ≤ 1000) (hz : xs.length ≤ 1000)
    (q : NewT H Q (List.replicate k.toNat xs).flatten) : wpAny (model X.prog X.w) X.A (binaryOp .Mult (.ref l) (.int k t)) (EP X pins σ Q) X.xe s := by
  obtain ⟨its, r, ⟨⟨cls, dd, data, sls⟩, ho, hc, n, hd⟩, _⟩ := I.tuple hT
  simp only at hc hd
  subst hc hd
  have hlen : its.length = xs.length := r.length.symm
  have hie : its.toArray.isEmpty = false := by
    cases its with
    | nil => cases xs with
      | nil => cases hne
      | cons _ _ => simp at hlen
    | cons _ _ => rfl
  have hbound : k.toNat * xs.length ≤ 1000 * 1000 := Nat.mul_le_mul (by omega) hz
  have flat_len : ∀ {α : Type} (l : List α) (m : Nat), (List.replicate m l).flatten.length = m * l.length := fun l m => by simp
  have few : ((its.toArray.size : Nat) : Int) * k ≤ 1000000 := by
    rw [List.size_toArray, hlen]
    have : ((xs.length : Nat) : Int) * k ≤ 1000 * k := Int.mul_le_mul_of_nonneg_right (by omega) (by omega)
    omega
  have c0 : (decide (k < -(2 ^ 63)) || decide (k ≥ 2 ^ 63)) = false := by simp; omega
  have c1 : (its.toArray.isEmpty || k == 1) = false := by rw [hie]; simp; omega
  have c2 : (decide (k ≤ 0) || its.toArray.isEmpty) = false := by rw [hie]; simp; omega
  have c4 : Builtin.Tuple.tupleTooMany (((its.toArray.size : Nat) : Int) * k) = false := by
    show decide _ = false
    rw [sizeLine_eq]
    exact decide_eq_false (by omega)
  have c5 : (List.foldl (fun a b => a ++ b) #[] (List.replicate k.toNat its.toArray)) = (List.replicate k.toNat its).flatten.toArray := L2.size_rep its k.toNat
  have c6 : (List.replicate k.toNat its).flatten.length ≤ sizeLine := by rw [flat_len, hlen, sizeLine_eq]; omega
  refine wpAny_binaryOp_repeat_ref (T := "tuple") (U := "int") (by decide) ⟨_, ho, rfl⟩ (fun s' => typeIs_int s' k t) noFill_tuple_mul F.fills_int_mul F.slot_int_rmul repeat_tuple F.slot_int_index.lookup
    (call_meets F.slot_int_rmul (typeIs_int s k t) F.entry_int_rmul (F.args_int_rmul_2 _ _) (int_rmul_tuple k t l its.toArray n dd sls)
      ⟨ho, rfl, ⟨_, ho, rfl⟩, call_meets F.slot_tuple_mul ⟨_, ho, rfl⟩ F.entry_tuple_mul (F.args_tuple_mul_2 _ _) (tuple_mulW l its.toArray n dd sls k t c0 c1 c2 (by omega) c4 (by rw [c5, List.size_toArray]; exact c6)) ⟨ho, ?_⟩⟩)
  rw [c5]
  exact new_at I (r.rep k.toNat) (by rw [flat_len, sizeLine_eq]; omega) q
theorem s_mul : OpR X (binaryOp .Mult) (fun x y => rGen X.K .mul [x, y]) := by
  intro pins s σ H x y v u Q I rx ry ⟨S, ds, d, hS, ho, hrun, q⟩
  obtain ⟨d1, d2, rfl, h1, h2⟩ := ho.inv2
  cases d1 <;> cases d2 <;> simp only [Op.run, Op.runD] at hrun <;> first | (cases hrun; done) | skip
  · split at hrun
    · cases hrun
      rename_i hz
      exact op_mul pins s σ H x y v u Q I rx ry ⟨_, _, h1.int, h2.int, hz, q _ _ (Same.refl H) (res_dt (.int _))⟩
    · cases hrun
  · split at hrun
    · cases hrun
      rename_i hz
      obtain ⟨a, xs, rfl, ha, da⟩ := h1.list
      obtain rfl := h2.int
      cases rx
      obtain ⟨t, rfl⟩ := ry
      exact rep_at I ha hz.1 hz.2.1 (by rw [da.length]; exact hz.2.2) fun p hp => q _ _ (same_upd hp) (new_lst' false hS hp (da.rep _))
    · cases hrun
  · split at hrun
    · cases hrun
      rename_i hz
      obtain ⟨a, xs, rfl, ha, da, _⟩ := h1.tuple
      obtain rfl := h2.int
      cases rx
      obtain ⟨t, rfl⟩ := ry
      have hl := da.length
      refine rep_tupX I ha ?_ hz.2.1 hz.2.2.1 (by rw [hl]; exact hz.2.2.2) fun p o hp ho => q _ _ (same_upd hp) (new_tup ho hS hp (da.rep _))
      have := hz.1
      rw [List.isEmpty_eq_false_iff_exists_mem] at this
      cases xs with
      | nil => cases da; obtain ⟨_, hm⟩ := this; cases hm
      | cons _ _ => rfl
    · cases hrun
theorem s_rep : OpR X (binaryOp .Mult) (fun x y => rGen X.K .rep [x, y]) := by
  intro pins s σ H x y v u Q I rx ry ⟨S, ds, d, hS, ho, hrun, q⟩
  obtain ⟨d1, d2, rfl, h1, h2⟩ := ho.inv2
  cases d1 <;> cases d2 <;> simp only [Op.run, Op.runD] at hrun <;> first | (cases hrun; done) | skip
  split at hrun
  · cases hrun
    rename_i hz
    obtain ⟨a, xs, rfl, ha, da⟩ := h1.list
    obtain rfl := h2.int
    cases rx
    obtain ⟨t, rfl⟩ := ry
    exact rep_at I ha hz.1 hz.2.1 (by rw [da.length]; exact hz.2.2) fun p hp => q _ _ (same_upd hp) (new_lst hp (da.rep _))
  · cases hrun
theorem s_neg : UnR X (unaryOp .USub) (fun x => rGen X.K .neg [x]) := by
  intro pins s σ H x v Q I rx ⟨S, ds, d, hS, ho, hrun, q⟩
  obtain ⟨d1, rfl, h1⟩ := ho.inv1
  cases d1 <;> simp only [Op.run, Op.runD] at hrun <;> first | (cases hrun; done) | skip
  cases hrun
  exact un_neg pins s σ H x v Q I rx ⟨_, h1.int, q _ _ (Same.refl H) (res_dt (.int _))⟩
theorem shaped_nd {d : D} (h : SeqAt.shaped d = true) : d.hasDict = false := PyData.hasDict_of_canLay d (SeqAt.canLay_of_shaped h)
theorem s_eq (hu : X.A.units + 64 < cLine) : OpR X (compareOp .Eq) (fun x y => rGen X.K .eq [x, y]) := by
  intro pins s σ H x y v u Q I rx ry ⟨S, ds, d, hS, ho, hrun, q⟩
  obtain ⟨d1, d2, rfl, h1, h2⟩ := ho.inv2
  simp only [Op.run, Op.runD] at hrun
  split at hrun
  · cases hrun
    rename_i hz
    exact op_eqD hu pins s σ H x y v u Q I rx ry ⟨_, _, h1.dp (shaped_nd hz.1), h2.dp (shaped_nd hz.2), hz.1, hz.2, q _ _ (Same.refl H) (res_dt (.bl _))⟩
  · cases hrun
theorem s_ne (hu : X.A.units + 64 < cLine) : OpR X (compareOp .NotEq) (fun x y => rGen X.K .ne [x, y]) := by
  intro pins s σ H x y v u Q I rx ry ⟨S, ds, d, hS, ho, hrun, q⟩
  obtain ⟨d1, d2, rfl, h1, h2⟩ := ho.inv2
  simp only [Op.run, Op.runD] at hrun
  split at hrun
  · cases hrun
    rename_i hz
    exact op_neD hu pins s σ H x y v u Q I rx ry ⟨_, _, h1.dp (shaped_nd hz.1), h2.dp (shaped_nd hz.2), hz.1, hz.2, q _ _ (Same.refl H) (res_dt (.bl _))⟩
  · cases hrun
theorem flat_val {v : D} {x : Value} (h : plainD v = true) (r : RelV (valOf v) x) : PyProof.V.Flat x v := by
  cases v <;> first | (exact absurd h Bool.false_ne_true) | skip
  · have e : x = .none := r
    subst e; exact fun _ => .none
  · have e : x = .bool _ := r
    subst e; exact fun _ => .bool _
  · obtain ⟨t, e⟩ := r
    subst e; exact fun _ => .int _ t
  · obtain ⟨t, e⟩ := r
    subst e; exact fun _ => .str _ t
theorem hits_kv {A : Around} {s : Shared} {ls : List (D × D)} {vb : List (Key × Value)} (ok : okKv ls = true) (rb : KV (ls.map kvOf) vb) : ∀ {ks : List (D × D)} {va : List (Key × Value)}, okKv ks = true → KV (ks.map kvOf) va → PySem.W.KeqHits A s vb va (hitsKv ls ks)
  | [], va, _, ra => by
    cases ra
    exact .nil
  | p :: ks, va, h, ra => by
    obtain ⟨k1, k2, k3⟩ := okKv_cons h
    cases ra with
    | cons h1 ht =>
      rename_i q va
      obtain ⟨kq, vq⟩ := q
      obtain ⟨e1, e2⟩ := h1
      have e1 : keyOf p.1 = kq := e1
      subst e1
      have e2 : RelV (valOf p.2) vq := e2
      have rr : RelO ((getKv ls p.1).map valOf) (valueAt vb (keyOf p.1)) := by
        rw [← valV_kv k1 ok]
        exact rb.val _
      unfold hitsKv
      cases e : getKv ls p.1 with
      | none =>
        rw [e] at rr
        exact .miss rr.none_of
      | some u =>
        rw [e] at rr
        obtain ⟨y, hy, ry⟩ := rr.some_of
        exact .hit hy (PySem.W.keq_flat (flat_val k2 e2) (flat_val (getKv_plain ok e) ry)) (hits_kv ok rb k3 ht)
theorem s_eqD (hu : X.A.units < cLine) : OpR X (compareOp .Eq) (fun x y => rGen X.K .eqD [x, y]) := by
  intro pins s σ H x y v u Q I rx ry ⟨S, ds, d, hS, ho, hrun, q⟩
  obtain ⟨d1, d2, rfl, h1, h2⟩ := ho.inv2
  cases d1 <;> cases d2 <;> simp only [Op.run, Op.runD] at hrun <;> first | (cases hrun; done) | skip
  split at hrun
  case isFalse => cases hrun
  rename_i hz
  obtain ⟨oa, ob⟩ := hz
  cases hrun
  obtain ⟨a, kvs, rfl, ra, ta, da0⟩ := h1.dict
  obtain ⟨b, lvs, rfl, rb, tb, db0⟩ := h2.dict
  obtain rfl := keys_plain ta da0 oa
  obtain rfl := keys_plain tb db0 ob
  obtain rfl : v = Value.ref a := rx
  obtain rfl : u = Value.ref b := ry
  obtain ⟨_, ya, va, ka, da⟩ := dk_rd I.hok ra
  obtain ⟨_, yb, vb, kb, db⟩ := dk_rd I.hok rb
  have e1 := ka.length
  have e2 := kb.length
  rw [List.length_map] at e1 e2
  refine PySem.W.keq_eq (knd := mixKind X.prog X.w) ya yb da db hu (fun _ => hits_kv ob kb oa ka) (fin_bl I (q _ _ (Same.refl H) (res_dt (.bl _))) (by rw [e1, e2]))
theorem s_in (hu : X.A.units + 65 < cLine) : OpR X (compareOp .In) (fun x y => rGen X.K .isin [x, y]) := by
  intro pins s σ H x y v u Q I rx ry ⟨S, ds, d, hS, ho, hrun, q⟩
  obtain ⟨d1, d2, rfl, h1, h2⟩ := ho.inv2
  cases d2 <;> simp only [Op.run, Op.runD] at hrun <;> first | (cases hrun; done) | skip
  · split at hrun
    · cases hrun
      rename_i hz
      exact op_inD hu pins s σ H x y v u Q I rx ry ⟨_, _, h1.dp (shaped_nd hz.1), h2.dp (shaped_nd hz.2), hz.1, hz.2, q _ _ (Same.refl H) (res_dt (.bl _))⟩
    · cases hrun
  · split at hrun
    · cases hrun
      rename_i hz
      have hd1 := h1.dp (shaped_nd hz.1)
      have hd2 := h2.dp (shaped_nd hz.2)
      obtain ⟨as, r1⟩ := Dp.reads I _ x v hd1 rx
      obtain ⟨bs, r2⟩ := Dp.reads I _ y u hd2 ry
      exact SeqAt.in_tuple_reads r2 r1 (SeqAt.canLay_of_shaped hz.2) (SeqAt.canLay_of_shaped hz.1) (PyProof.Rows.room_in_shaped hz.1 hu) ⟨.bl _, H, I, rfl, q _ _ (Same.refl H) (res_dt (.bl _))⟩
    · cases hrun
  · split at hrun
    · cases hrun
      rename_i hk
      obtain ⟨a, kvs, rfl, r, ks, dv⟩ := h2.dict
      cases (show u = Value.ref a from ry)
      have ex := h1.key hk
      subst ex
      refine d_in (by omega) I (.inl ⟨_, _, r, rfl, rfl⟩) rx fun s' I' => ⟨.bl _, H, I', rfl, ?_⟩
      rw [keys_isSome hk ks dv]
      exact q _ _ (Same.refl H) (res_dt (.bl _))
    · cases hrun
theorem s_notin (hu : X.A.units + 65 < cLine) : OpR X (compareOp .NotIn) (fun x y => rGen X.K .notin [x, y]) := by
  intro pins s σ H x y v u Q I rx ry ⟨S, ds, d, hS, ho, hrun, q⟩
  obtain ⟨d1, d2, rfl, h1, h2⟩ := ho.inv2
  cases d2 <;> simp only [Op.run, Op.runD] at hrun <;> first | (cases hrun; done) | skip
  · split at hrun
    · cases hrun
      rename_i hz
      exact op_notInD hu pins s σ H x y v u Q I rx ry ⟨_, _, h1.dp (shaped_nd hz.1), h2.dp (shaped_nd hz.2), hz.1, hz.2, q _ _ (Same.refl H) (res_dt (.bl _))⟩
    · cases hrun
  · split at hrun
    · cases hrun
      rename_i hz
      have hd1 := h1.dp (shaped_nd hz.1)
      have hd2 := h2.dp (shaped_nd hz.2)
      obtain ⟨as, r1⟩ := Dp.reads I _ x v hd1 rx
      obtain ⟨bs, r2⟩ := Dp.reads I _ y u hd2 ry
      exact SeqAt.notIn_tuple_reads r2 r1 (SeqAt.canLay_of_shaped hz.2) (SeqAt.canLay_of_shaped hz.1) (PyProof.Rows.room_in_shaped hz.1 hu) ⟨.bl _, H, I, rfl, q _ _ (Same.refl H) (res_dt (.bl _))⟩
    · cases hrun
  · split at hrun
    · cases hrun
      rename_i hk
      obtain ⟨a, kvs, rfl, r, ks, dv⟩ := h2.dict
      cases (show u = Value.ref a from ry)
      have ex := h1.key hk
      subst ex
      refine d_notIn (by omega) I (.inl ⟨_, _, r, rfl, rfl⟩) rx fun s' I' => ⟨.bl _, H, I', rfl, ?_⟩
      rw [keys_isSome hk ks dv]
      exact q _ _ (Same.refl H) (res_dt (.bl _))
    · cases hrun
theorem s_isNone : OpR X (compareOp .Is) (fun x y H Q => y = .non ∧ rGen X.K .isNone [x] H Q) := by
  intro pins s σ H x y v u Q I rx ry ⟨ey, S, ds, d, hS, ho, hrun, q⟩
  obtain ⟨d1, rfl, h1⟩ := ho.inv1
  simp only [Op.run, Option.some.injEq] at hrun
  subst hrun
  refine op_isN pins s σ H x y v u Q I rx ry ⟨ey, ?_⟩
  rw [h1.none_iff]
  exact q _ _ (Same.refl H) (res_dt (.bl _))
theorem s_notNone : OpR X (compareOp .IsNot) (fun x y H Q => y = .non ∧ rGen X.K .notNone [x] H Q) := by
  intro pins s σ H x y v u Q I rx ry ⟨ey, S, ds, d, hS, ho, hrun, q⟩
  obtain ⟨d1, rfl, h1⟩ := ho.inv1
  simp only [Op.run, Option.some.injEq] at hrun
  subst hrun
  refine op_notN pins s σ H x y v u Q I rx ry ⟨ey, ?_⟩
  rw [h1.none_iff]
  exact q _ _ (Same.refl H) (res_dt (.bl _))
theorem s_isB {c : Bool} : OpR X (compareOp .Is) (fun x y H Q => y = .bl c ∧ rGen X.K (.isB c) [x] H Q) := by
  intro pins s σ H x y v u Q I rx ry ⟨ey, S, ds, d, hS, ho, hrun, q⟩
  obtain ⟨d1, rfl, h1⟩ := ho.inv1
  cases d1 <;> simp only [Op.run, Op.runD] at hrun <;> first | (cases hrun; done) | skip
  cases hrun
  exact op_isBl pins s σ H x y v u Q I rx ry ⟨_, _, h1.bl, ey, q _ _ (Same.refl H) (res_dt (.bl _))⟩
theorem s_notB {c : Bool} : OpR X (compareOp .IsNot) (fun x y H Q => y = .bl c ∧ rGen X.K (.notB c) [x] H Q) := by
  intro pins s σ H x y v u Q I rx ry ⟨ey, S, ds, d, hS, ho, hrun, q⟩
  obtain ⟨d1, rfl, h1⟩ := ho.inv1
  cases d1 <;> simp only [Op.run, Op.runD] at hrun <;> first | (cases hrun; done) | skip
  cases hrun
  exact op_notBl pins s σ H x y v u Q I rx ry ⟨_, _, h1.bl, ey, q _ _ (Same.refl H) (res_dt (.bl _))⟩
theorem at_eq {S : Addr → Prop} {H : Hp} {K : PySem.W.Frag} {vs : List V} {ds : List D} {i : Int} {d : D} (h : DtAll K S H vs ds) (e : ((MP.ixD ds.length i).bind fun j => ds[j]?) = some d) : ∃ v, atI vs i = some v ∧ Dt K S H v d := by
  obtain ⟨j, h1, h2⟩ := Option.bind_eq_some_iff.mp e
  obtain ⟨v, h3, h4⟩ := h.get h2
  refine ⟨v, ?_, h4⟩
  unfold atI
  have e1 : L2.ixN vs.length i = some j := by rw [h.length]; exact h1
  rw [e1]
  exact h3
theorem s_idx (hu : X.A.units + 1 < cLine) : IxR X (fun x y => rGen X.K .idx [x, y]) := by
  intro value slice pins s σ H x y v u Q I rx ry ⟨S, ds, d, hS, ho, hrun, q⟩ hs
  obtain ⟨d1, d2, rfl, h1, h2⟩ := ho.inv2
  cases d1 <;> cases d2 <;> simp only [Op.run, Op.runD] at hrun <;> first | (cases hrun; done) | skip
  · obtain ⟨a, xs, rfl, ha, da⟩ := h1.list
    obtain ⟨w, e1, e2⟩ := at_eq da hrun
    exact ix_list value slice pins s σ H _ y v u Q I rx ry ⟨a, xs, _, w, rfl, h2.int, ha.sq, e1, q _ _ (Same.refl H) (res_dt e2)⟩ hs
  · obtain ⟨a, xs, rfl, ha, da, _⟩ := h1.tuple
    obtain ⟨w, e1, e2⟩ := at_eq da hrun
    exact ix_tup value slice pins s σ H _ y v u Q I rx ry ⟨a, xs, _, w, rfl, h2.int, ha, e1, q _ _ (Same.refl H) (res_dt e2)⟩ hs
  all_goals
    split at hrun
    · rename_i hk
      obtain ⟨a, kvs, rfl, r, ks, dv⟩ := h1.dict
      cases (show v = Value.ref a from rx)
      have ex := h2.key hk
      subst ex
      rcases val_keys hk ks dv with ⟨e1, _⟩ | ⟨d', w', e1, e2, e3⟩
      · rw [hrun] at e1; cases e1
      · rw [hrun] at e1; cases e1
        have g : DGet H a (kV (keyOf _)) (some w') := .inl ⟨_, _, r, rfl, e2.symm⟩
        exact PyProof.Rows.tail_any (dict_typeIs I g) slot_dict_getitem.lookup (d_getItem hu I g ry fun w'' s' I' rw' => ⟨_, H, I', rw', q _ _ (Same.refl H) (res_dt e3)⟩) hs
    · cases hrun
/-- the bounds of a slice, as operands -/
def bnds (lo hi : Bool) (l u : Option Int) : Option (List D) := match lo, hi, l, u with
  | false, false, none, none => some []
  | true, false, some i, none => some [.int i]
  | false, true, none, some j => some [.int j]
  | true, true, some i, some j => some [.int i, .int j]
  | _, _, _, _ => none
theorem s_slice (fr lo hi : Bool) : SlR X (fun x l u H Q => ∃ (S : Addr → Prop) (d : D) (bs : List D) (e : D), (∀ a, S a → H a ≠ none) ∧ Db X.K S H x d ∧ bnds lo hi l u = some bs ∧ (Op.slice fr lo hi).run (d :: bs) = some e ∧
    ∀ v H', Same H H' → ResRel (Op.slice fr lo hi).fresh X.K S H H' v e → Q v H') := by
  intro pins s σ H x v vl vu l u sl Q I rx hs pl pu ⟨S, d, bs, e, hS, h1, hb, hrun, q⟩
  have key : (∃ xs, d = .list xs ∧ e = .list (cutL xs l u)) ∨ (∃ xs, d = .tuple xs ∧ e = .tuple (cutL xs l u) ∧ fr = false) := by
    cases lo <;> cases hi <;> cases l <;> cases u <;> simp only [bnds] at hb <;> first | (cases hb; done) | skip
    all_goals (cases hb; cases d <;> simp only [Op.run, Op.runD] at hrun <;> first | (cases hrun; done) | skip)
    all_goals first
      | (cases hrun; exact .inl ⟨_, rfl, rfl⟩)
      | (cases fr <;> simp only [Op.run, Op.runD] at hrun <;> first | (cases hrun; done) | (cases hrun; exact .inr ⟨_, rfl, rfl, rfl⟩))
  rcases key with ⟨xs, rfl, rfl⟩ | ⟨xs, rfl, rfl, rfl⟩
  · obtain ⟨a, ws, rfl, ha, da⟩ := h1.list
    exact sl_list pins s σ H _ v vl vu l u sl Q I rx hs pl pu ⟨a, ws, rfl, ha.sq, fun p hp => q _ _ (same_upd hp) (new_lst' _ hS hp (cut_eq da l u))⟩
  · obtain ⟨a, ws, rfl, ha, da, dt⟩ := h1.tuple
    refine sl_tupX pins s σ H _ v vl vu l u sl Q I rx hs pl pu ⟨a, ws, rfl, ha, fun hw => ?_, fun _ p o hp ho => q _ _ (same_upd hp) (new_tup ho hS hp (cut_eq da l u))⟩
    have ec : cutL xs l u = xs := by
      have c := cut_eq da l u
      have e1 : cutV ws l u = ws := by
        unfold cutV
        rw [hw.1, hw.2]
        simp
      have hq : ∀ {n d : Nat} {o : Option Int}, sIx n d o = HT.sIx n d o := fun {n d o} => by
        unfold sIx HT.sIx
        cases o with
        | none => rfl
        | some i => first | rfl | (dsimp only; split <;> (try split) <;> first | rfl | omega)
      unfold cutL
      rw [hq, hq, ← da.length, hw.1, hw.2]
      simp [da.length]
    refine q _ _ (Same.refl H) (res_dt ?_)
    rw [ec]
    exact dt
theorem s_len : CallR X (.builtin "len") (fun xs H Q => ∃ v, xs = [v] ∧ rGen X.K .len [v] H Q) := by
  intro pins s σ H xs us Q I rv ⟨v, e, S, ds, d, hS, ho, hrun, q⟩
  obtain ⟨d1, rfl, h⟩ := ho.inv1
  cases d1 <;> simp only [Op.run, Op.runD] at hrun <;> first | (cases hrun; done) | skip
  · cases hrun
    obtain ⟨a, xs, rfl, ha, da⟩ := h.list
    exact call_len_seq pins s σ H _ us Q I rv ⟨a, xs, e, .inl ha.sq, by rw [da.length]; exact q _ _ (Same.refl H) (res_dt (.int _))⟩
  · cases hrun
    obtain ⟨a, xs, rfl, ha, da, _⟩ := h.tuple
    exact call_len_seq pins s σ H _ us Q I rv ⟨a, xs, e, .inr ha, by rw [da.length]; exact q _ _ (Same.refl H) (res_dt (.int _))⟩
  · cases hrun
    subst e
    obtain ⟨a, kvs, rfl, r, ks, dv⟩ := h.dict
    obtain ⟨u, rfl, ru⟩ := vals1 rv
    cases ru
    refine d_len I r fun t s' I' => ⟨.int _, H, I', ⟨t, rfl⟩, ?_⟩
    rw [keys_len ks]
    exact q _ _ (Same.refl H) (res_dt (.int _))
theorem s_tuple : CallR X (.type "tuple") (fun xs H Q => ∃ v, xs = [v] ∧ rGen X.K .tuple [v] H Q) := call1 call_tupleX fun S H v d e Q hS h hr q => by
  cases d <;> simp only [Op.run, Op.runD] at hr <;> first | (cases hr; done) | skip
  · cases hr
    obtain ⟨a, xs, rfl, ha, da⟩ := h.list
    exact ⟨a, xs, rfl, .inl ⟨ha.sq, fun l o hl ho => q _ _ (same_upd hl) (new_tup ho hS hl da)⟩⟩
  · cases hr
    obtain ⟨a, xs, rfl, ha, da, dt⟩ := h.tuple
    exact ⟨a, xs, rfl, .inr ⟨ha, q _ _ (Same.refl H) (res_dt dt)⟩⟩
theorem s_list : CallR X (.type "list") (fun xs H Q => ∃ v, xs = [v] ∧ rGen X.K .list [v] H Q) := call1 call_list_of fun S H v d e Q hS h hr q => by
  cases d <;> simp only [Op.run, Op.runD] at hr <;> first | (cases hr; done) | skip
  · cases hr
    obtain ⟨a, xs, rfl, ha, da⟩ := h.list
    exact ⟨a, xs, rfl, .inl ha.sq, fun l hl => q _ _ (same_upd hl) (new_lst hl da)⟩
  · cases hr
    obtain ⟨a, xs, rfl, ha, da, dt⟩ := h.tuple
    exact ⟨a, xs, rfl, .inr ha, fun l hl => q _ _ (same_upd hl) (new_lst hl da)⟩
theorem s_sorted : CallR X (.builtin "sorted") (fun xs H Q => ∃ v, xs = [v] ∧ rGen X.K .sorted [v] H Q) := call1 cr_sortedI fun S H v d e Q hS h hr q => by
  cases d <;> simp only [Op.run, Op.runD] at hr <;> first | (cases hr; done) | skip
  obtain ⟨ns, h1, h2⟩ := Option.map_eq_some_iff.mp hr
  subst h2
  obtain ⟨a, xs, rfl, ha, da⟩ := h.list
  have e := da.ints h1
  subst e
  refine ⟨a, ns, rfl, ha.sq, fun ns' p hp ho hn => ?_⟩
  rw [ordered_of hp ho]
  exact q _ _ (same_upd hn) (new_lst hn (DtAll.of_ints _))
theorem fin_max {S : Addr → Prop} {H : Hp} {e : D} {Q : VK} {ds : List D} {a : Addr} {xs : List V} (q : ∀ v H', Same H H' → ResRel false X.K S H H' v e → Q v H') (ha : SqL X.K H a xs ∨ SqT X.K H a xs) (da : DtAll X.K S H xs ds) (hr : ((ints? ds).bind fun ns => (maxI ns).map PyData.int) = some e) : rMaxA X.K [.ref a] H Q := by
  obtain ⟨ns, h1, h2⟩ := Option.bind_eq_some_iff.mp hr
  obtain ⟨m, h3, h4⟩ := Option.map_eq_some_iff.mp h2
  subst h4
  have e := da.ints h1
  subst e
  cases ns with
  | nil => simp [maxI] at h3
  | cons x ns =>
    simp only [maxI, Option.some.injEq] at h3
    obtain ⟨k1, k2⟩ := foldMax ns x
    rw [h3] at k1 k2
    refine ⟨a, x :: ns, rfl, ha, by simp, fun m' hm hle => ?_⟩
    have em : m' = m := Int.le_antisymm (k2 m' hm) (hle m k1)
    rw [em]
    exact q _ _ (Same.refl H) (res_dt (.int _))
theorem s_max (hc : X.calm = true) : CallR X (.builtin "max") (fun xs H Q => ∃ v, xs = [v] ∧ rGen X.K .max [v] H Q) := call1 (cr_maxA hc) fun S H v d e Q hS h hr q => by
  cases d <;> simp only [Op.run, Op.runD] at hr <;> first | (cases hr; done) | skip
  · obtain ⟨a, xs, rfl, ha, da⟩ := h.list
    exact fin_max q (.inl ha.sq) da hr
  · obtain ⟨a, xs, rfl, ha, da, _⟩ := h.tuple
    exact fin_max q (.inr ha) da hr
theorem fin_min {S : Addr → Prop} {H : Hp} {e : D} {Q : VK} {ds : List D} {a : Addr} {xs : List V} (q : ∀ v H', Same H H' → ResRel false X.K S H H' v e → Q v H') (ha : SqL X.K H a xs ∨ SqT X.K H a xs) (da : DtAll X.K S H xs ds) (hr : ((ints? ds).bind fun ns => (minI ns).map PyData.int) = some e) : rMinA X.K [.ref a] H Q := by
  obtain ⟨ns, h1, h2⟩ := Option.bind_eq_some_iff.mp hr
  obtain ⟨m, h3, h4⟩ := Option.map_eq_some_iff.mp h2
  subst h4
  have e := da.ints h1
  subst e
  cases ns with
  | nil => simp [minI] at h3
  | cons x ns =>
    simp only [minI, Option.some.injEq] at h3
    obtain ⟨k1, k2⟩ := foldMin ns x
    rw [h3] at k1 k2
    refine ⟨a, x :: ns, rfl, ha, by simp, fun m' hm hle => ?_⟩
    have em : m' = m := Int.le_antisymm (hle m k1) (k2 m' hm)
    rw [em]
    exact q _ _ (Same.refl H) (res_dt (.int _))
theorem s_min (hc : X.calm = true) : CallR X (.builtin "min") (fun xs H Q => ∃ v, xs = [v] ∧ rGen X.K .min [v] H Q) := call1 (cr_minA hc) fun S H v d e Q hS h hr q => by
  cases d <;> simp only [Op.run, Op.runD] at hr <;> first | (cases hr; done) | skip
  · obtain ⟨a, xs, rfl, ha, da⟩ := h.list
    exact fin_min q (.inl ha.sq) da hr
  · obtain ⟨a, xs, rfl, ha, da, _⟩ := h.tuple
    exact fin_min q (.inr ha) da hr
theorem s_sum (hc : X.calm = true) : CallR X (.builtin "sum") (fun xs H Q => ∃ v, xs = [v] ∧ rGen X.K .sum [v] H Q) := call1 (cr_sum hc) fun S H v d e Q hS h hr q => by
  cases d <;> simp only [Op.run, Op.runD] at hr <;> first | (cases hr; done) | skip
  obtain ⟨ns, h1, h2⟩ := Option.map_eq_some_iff.mp hr
  subst h2
  obtain ⟨a, xs, rfl, ha, da⟩ := h.list
  have e := da.ints h1
  subst e
  exact ⟨a, ns, rfl, ha.sq, q _ _ (Same.refl H) (res_dt (.int _))⟩
theorem s_any (hc : X.calm = true) : CallR X (.builtin "any") (fun xs H Q => ∃ v, xs = [v] ∧ rGen X.K .any [v] H Q) := call1 (cr_any hc) fun S H v d e Q hS h hr q => by
  cases d <;> simp only [Op.run, Op.runD] at hr <;> first | (cases hr; done) | skip
  obtain ⟨ns, h1, h2⟩ := Option.map_eq_some_iff.mp hr
  subst h2
  obtain ⟨a, xs, rfl, ha, da⟩ := h.list
  have e := da.bools h1
  subst e
  exact ⟨a, ns, rfl, ha.sq, q _ _ (Same.refl H) (res_dt (.bl _))⟩
theorem s_all (hc : X.calm = true) : CallR X (.builtin "all") (fun xs H Q => ∃ v, xs = [v] ∧ rGen X.K .all [v] H Q) := call1 (cr_all hc) fun S H v d e Q hS h hr q => by
  cases d <;> simp only [Op.run, Op.runD] at hr <;> first | (cases hr; done) | skip
  obtain ⟨ns, h1, h2⟩ := Option.map_eq_some_iff.mp hr
  subst h2
  obtain ⟨a, xs, rfl, ha, da⟩ := h.list
  have e := da.bools h1
  subst e
  exact ⟨a, ns, rfl, ha.sq, q _ _ (Same.refl H) (res_dt (.bl _))⟩
theorem s_abs : CallR X (.builtin "abs") (fun xs H Q => ∃ v, xs = [v] ∧ rGen X.K .abs [v] H Q) := call1 call_abs fun S H v d e Q hS h hr q => by
  cases d <;> simp only [Op.run, Op.runD] at hr <;> first | (cases hr; done) | skip
  cases hr
  exact ⟨_, by rw [h.int], q _ _ (Same.refl H) (res_dt (.int _))⟩
theorem s_int : CallR X (.type "int") (fun xs H Q => ∃ v, xs = [v] ∧ rGen X.K .int [v] H Q) := call1 call_int1 fun S H v d e Q hS h hr q => by
  cases d <;> simp only [Op.run, Op.runD] at hr <;> first | (cases hr; done) | skip
  · cases hr
    exact .inr ⟨_, by rw [h.bl], q _ _ (Same.refl H) (res_dt (.int _))⟩
  · cases hr
    exact .inl ⟨_, by rw [h.int], q _ _ (Same.refl H) (res_dt (.int _))⟩
theorem s_str : CallR X (.type "str") (fun xs H Q => ∃ v, xs = [v] ∧ rGen X.K .str [v] H Q) := call1 call_str_int fun S H v d e Q hS h hr q => by
  cases d <;> simp only [Op.run, Op.runD] at hr <;> first | (cases hr; done) | skip
  split at hr
  · cases hr
    rename_i hz
    exact ⟨_, by rw [h.int], hz, q _ _ (Same.refl H) (res_dt (.str _))⟩
  · cases hr
theorem s_min2 (hc : X.calm = true) : CallR X (.builtin "min") (fun xs H Q => ∃ v u, xs = [v, u] ∧ rGen X.K .min2 [v, u] H Q) := by
  intro pins s σ H xs us Q I rv ⟨v, u, e, S, ds, d, hS, ho, hrun, q⟩
  obtain ⟨d1, d2, rfl, h1, h2⟩ := ho.inv2
  cases d1 <;> cases d2 <;> simp only [Op.run, Op.runD] at hrun <;> first | (cases hrun; done) | skip
  cases hrun
  exact call_min2 hc pins s σ H xs us Q I rv ⟨_, _, by rw [e, h1.int, h2.int], q _ _ (Same.refl H) (res_dt (.int _))⟩
theorem s_max2 (hc : X.calm = true) : CallR X (.builtin "max") (fun xs H Q => ∃ v u, xs = [v, u] ∧ rGen X.K .max2 [v, u] H Q) := by
  intro pins s σ H xs us Q I rv ⟨v, u, e, S, ds, d, hS, ho, hrun, q⟩
  obtain ⟨d1, d2, rfl, h1, h2⟩ := ho.inv2
  cases d1 <;> cases d2 <;> simp only [Op.run, Op.runD] at hrun <;> first | (cases hrun; done) | skip
  cases hrun
  exact call_max2 hc pins s σ H xs us Q I rv ⟨_, _, by rw [e, h1.int, h2.int], q _ _ (Same.refl H) (res_dt (.int _))⟩
theorem Db.dt0 {K : PySem.W.Frag} {S : Addr → Prop} {H : Hp} {v : V} {d : D} (h : Db K S H v d) : Dt K (fun _ => False) H v d := by
  have x : Ext S H (fun _ => False) H := fun a o _ e => ⟨id, e⟩
  rcases h with h | ⟨a, rfl, ⟨xs, es, rfl, h1, h2⟩ | ⟨kds, rfl, h1, h2⟩⟩
  · exact h.mono x
  · exact .lst (.inl ⟨id, .inl h1⟩) (h2.mono x)
  · exact .dctP id (.inl h1) h2
theorem Opds.dt0 {K : PySem.W.Frag} {S : Addr → Prop} {H : Hp} {vs : List V} {ds : List D} (h : Opds K S H vs ds) : DtAll K (fun _ => False) H vs ds := by
  induction h with
  | nil => exact .nil
  | cons h _ ih => exact .cons h.dt0 ih
theorem s_reprD (hu : X.A.units + 70 < cLine) (hg : X.A.guards = some []) : CallR X (.builtin "repr") (fun xs H Q => ∃ S v d, xs = [v] ∧ Dt X.K S H v d ∧ PyData.showable d = true ∧ d.depth ≤ 60 ∧ (PyData.shown d).length ≤ sizeLine ∧ Q (.str (PyData.shown d)) H) := by
  intro pins s σ H xs us Q I rv ⟨S, v, d, e, h1, hs, hdep, hlen, q⟩
  subst e
  obtain ⟨u, rfl, ru⟩ := vals1 rv
  have fin : ∀ (h' : Heap) (t : Tok) (tk : Nat), (∀ b o, s.heap.get? b = some o → h'.get? b = some o) → EP X pins σ Q (.str d.shown t) { s with heap := h', toks := tk } := fun h' t tk hk =>
    ⟨.str _, H, I.kept (h' := h') (t' := tk) hk, ⟨t, rfl⟩, q⟩
  have sh := h1
  cases h1 with
  | non => cases ru; exact PySem.P.repr_of_none (fin s.heap _ _ fun _ _ e => e)
  | bl b => cases ru; exact PySem.P.repr_of_bool (by cases b <;> exact fin s.heap _ _ fun _ _ e => e)
  | int i =>
    obtain ⟨t, rfl⟩ := ru
    exact PySem.P.repr_of_int (by simpa [PyData.showable] using hs) (fin s.heap _ _ fun _ _ e => e)
  | str y =>
    obtain ⟨t, rfl⟩ := ru
    exact PySem.P.repr_of_str (fin s.heap _ _ fun _ _ e => e) (hsz := by simpa [PyData.shown] using hlen)
  | @dct a kvs kds nS r0 o ha =>
    cases ru
    obtain ⟨z, hsys, vs, rel, ob, es, ep, e1, e2, e3, e4, e5, e6⟩ := dk_rd I.hok r0
    obtain ⟨i1, i2⟩ := keys_reads (h := s.heap) e5 rel o
    have hz' : (dictText (PyData.shownKv kds)).length ≤ sizeLine := by simpa only [PyData.shown] using hlen
    obtain ⟨hs1, hs2⟩ := PyData.showableKv_split kds (by simpa [PyData.showable] using hs)
    obtain ⟨b1, hb1, k1⟩ := ReprAllK.of_readsAll (prog := X.prog) (w := X.w) i1 hs1 (fun _ hm => nomatch hm) (fun t ht => let ⟨p, hp, hl⟩ := PyData.shownKv_key_le kds t ht; Nat.le_trans hl (Nat.le_trans (dictText_mem_le hp) hz'))
    obtain ⟨b2, as2, rd2, hb2, k2⟩ := DtAll.shows I ha i2 hs2 (fun t ht => let ⟨p, hp, hl⟩ := PyData.shownKv_val_le kds t ht; Nat.le_trans hl (Nat.le_trans (dictText_mem_le hp) hz'))
    have rr : Reads s.heap (.ref a) (.dict kds) _ := .dict e1 e2.1 e3 i1 rd2
    have hb : ReadAtMost s.heap (PyData.depthKv kds) (b1 ++ b2) := (hb1.mono (PyData.depthAll_keys_le kds)).append (hb2.mono (PyData.depthAll_vals_le kds))
    have hna : a ∉ b1 ++ b2 := not_mem_of_deeper rr (by simp only [PyData.depth]; omega) hb
    simp only [PyData.depth] at hdep
    simp only [PyData.shown] at fin
    refine call_repr_slot (by omega) ⟨ob, e1, e2.1⟩ F.slot_dict_repr ?_
    have hE := ReprEntriesK.of_two es.toList _ _
      (k1.more_le (fun b hb => List.mem_append_left _ hb) (PyData.depthAll_keys_le kds)) (k2.more_le (fun b hb => List.mem_append_right _ hb) (PyData.depthAll_vals_le kds))
    rw [← PyData.shownKv_eq] at hE
    exact call_dict_reprK e1 e2.1 e3 hsys hna hE hg (fun b _ => Clear.nil b) (by show X.A.units + 1 + _ < _; omega) (fun _ _ e => e) (fun h' u tk hk => ⟨_, _, rfl, fin h' u tk hk⟩) hz'
  | @lst a xs ds hl ha =>
    cases ru
    obtain ⟨its, rv, ⟨o, n, ho, hc, _, hd⟩, _⟩ := I.list hl.sq
    have hz' : (listText (PyData.shownAll ds)).length ≤ sizeLine := by simpa only [PyData.shown] using hlen
    obtain ⟨bs, as, rd, hb, hk⟩ := DtAll.shows I ha rv (by simpa only [PyData.showable] using hs) (fun t ht => Nat.le_trans (listText_mem_le ht) hz')
    have rr : Reads s.heap (.ref a) (.list ds) (a :: as) := .list ho hc hd rd
    have hna : a ∉ bs := not_mem_of_deeper rr (by simp only [PyData.depth]; omega) hb
    simp only [PyData.depth] at hdep
    simp only [PyData.shown] at fin
    refine call_repr_slot (by omega) ⟨o, ho, hc⟩ F.slot_list_repr.toG ?_
    cases its with
    | nil =>
      cases rd
      simp only [PyData.shownAll, listText_nil] at fin
      exact call_list_repr_empty ⟨o, ho, hc⟩ ho hd ⟨_, _, rfl, fin s.heap _ _ fun _ _ e => e⟩
    | cons x l =>
      exact call_list_reprK ho hc hd hna (by simpa using hk.length_eq) (fun i y e => hk.item i y (by simpa using e)) hg (fun b _ => Clear.nil b) (by show X.A.units + 1 + _ < _; omega) (fun _ _ e => e) (fun h' u tk hk => ⟨_, _, rfl, fin h' u tk hk⟩) hz'
  | @tup a xs ds hl ha =>
    cases ru
    obtain ⟨its, rv, ⟨o, ho, hc, n, hd⟩, _⟩ := I.tuple hl.sq
    have hz' : (tupleText (PyData.shownAll ds)).length ≤ sizeLine := by simpa only [PyData.shown] using hlen
    obtain ⟨bs, as, rd, hb, hk⟩ := DtAll.shows I ha rv (by simpa only [PyData.showable] using hs) (fun t ht => Nat.le_trans (tupleText_mem_le ht) hz')
    have rr : Reads s.heap (.ref a) (.tuple ds) as := .tuple ho hc hd rd
    have hna : a ∉ bs := not_mem_of_deeper rr (by simp only [PyData.depth]; omega) hb
    simp only [PyData.depth] at hdep
    simp only [PyData.shown] at fin
    refine call_repr_slot (by omega) ⟨o, ho, hc⟩ F.slot_tuple_repr ?_
    exact call_tuple_reprK ho hc hd hna hk hg (fun b _ => Clear.nil b) (by show X.A.units + 1 + _ < _; omega) (fun _ _ e => e) (fun h' u tk hk => ⟨_, _, rfl, fin h' u tk hk⟩) hz'
theorem s_repr (hu : X.A.units + 70 < cLine) (hg : X.A.guards = some []) : CallR X (.builtin "repr") (fun xs H Q => ∃ v, xs = [v] ∧ rGen X.K .repr [v] H Q) := by
  intro pins s σ H xs us Q I rv ⟨v, e, S, ds, d, hS, ho, hrun, q⟩
  obtain ⟨d1, rfl, h1⟩ := ho.inv1
  simp only [Op.run, Op.runD] at hrun
  split at hrun
  · cases hrun
    rename_i hz
    exact s_reprD hu hg pins s σ H xs us Q I rv ⟨_, v, d1, e, h1.dt0, hz.1, hz.2.1, hz.2.2, q _ _ (Same.refl H) (res_dt (.str _))⟩
  · cases hrun
theorem s_dof (hc : X.calm = true) : CallR X (.type "dict") (fun xs H Q => ∃ v, xs = [v] ∧ rGen X.K .dof [v] H Q) := by
  intro pins s σ H xs us Q I rv ⟨v, e, S, ds, d, hS, ho, hrun, q⟩
  obtain ⟨d1, rfl, h1⟩ := ho.inv1
  cases d1 <;> simp only [Op.run, Op.runD] at hrun <;> first | (cases hrun; done) | skip
  obtain ⟨ps, e1, e2⟩ := Option.map_eq_some_iff.mp hrun
  subst e2
  obtain ⟨a, ws, rfl, ha, da⟩ := h1.list
  have ok := rows_ok e1
  have key : ∀ {ws : List V} {es : List D} {ps : List (D × D)}, DtAll X.K S H ws es → rows? es = some ps → ∃ as : List Addr, ws = as.map V.ref ∧ Paired (fun p (kv : Key × V) => SqT X.K H p [kV kv.1, kv.2]) as (ps.map kvOf) := by
    intro ws es ps r
    induction es generalizing ws ps with
    | nil =>
      intro e
      cases r
      simp [rows?] at e
      subst e
      exact ⟨[], rfl, .nil⟩
    | cons x xs ih =>
      intro e
      cases r with
      | cons r1 r2 =>
        unfold rows? at e
        split at e
        · rename_i z; cases z
        · rename_i k v r z
          cases z
          split at e
          · rename_i z
            rw [Bool.and_eq_true] at z
            obtain ⟨qs, e2, e3⟩ := Option.map_eq_some_iff.mp e
            subst e3
            obtain ⟨as, h1, h2⟩ := ih r2 e2
            cases r1 with
            | tup st da =>
              cases da with
              | cons q1 da =>
                cases da with
                | cons q2 da =>
                  cases da
                  refine ⟨_ :: as, by rw [h1]; rfl, .cons ?_ h2⟩
                  have k1 := Db.key (.inl q1) z.1
                  have k2 := q2.plainV z.2
                  subst k1 k2
                  exact st.sq
          · cases e
        · cases e
  obtain ⟨as, h1, h2⟩ := key da e1
  subst h1
  refine call_dictP hc pins s σ H xs us Q I rv ⟨a, as, _, e, ha.sq, h2, fun p hp => ?_⟩
  obtain ⟨m1, m2⟩ := merge_kv (kds := []) rfl ok
  have m1' : mergeK [] (ps.map kvOf) = (mergeKv [] ps).map kvOf := m1
  rw [m1']
  exact q _ _ (same_upd hp) (new_dct hp m2)
theorem rd_same {H H' : Hp} (x : Same H H') {a : Addr} {u : HO} (h : Rd H a u) : Rd H' a u := h.imp (x _ _) fun ⟨o, e⟩ => ⟨o, x _ _ e⟩
mutual
theorem dp_same {K : PySem.W.Frag} {H H' : Hp} (x : Same H H') : ∀ {v : V} {d : D}, Dp K H v d → Dp K H' v d
  | _, _, .non => .non
  | _, _, .bl b => .bl b
  | _, _, .int i => .int i
  | _, _, .str y => .str y
  | _, _, .lst h a => .lst (h.imp (rd_same x) id) (dpAll_same x a)
  | _, _, .tup h a => .tup (h.imp (rd_same x) id) (dpAll_same x a)
theorem dpAll_same {K : PySem.W.Frag} {H H' : Hp} (x : Same H H') : ∀ {vs : List V} {ds : List D}, DpAll K H vs ds → DpAll K H' vs ds
  | _, _, .nil => .nil
  | _, _, .cons h t => .cons (dp_same x h) (dpAll_same x t)
end
end
end MP

/-! MP: environments and heaps; the readings of expressions. -/
namespace MP
open PySem L2

structure Fx where
  K : PySem.W.Frag
  S0 : Addr → Prop
  np : Nat
  vs : List V
  H0 : Hp
def OwnA (ms : List Bool) (σ : St) (a : Addr) : Prop := ∃ i : Nat, ms[i]? = some true ∧ σ[i]? = some (some (.ref a))
def InA (F : Fx) (ms : List Bool) (a : Addr) : Prop := ∃ j : Nat, j < F.np ∧ ms[j]? = some true ∧ F.vs[j]? = some (.ref a)
def Tab (F : Fx) (ms : List Bool) (σ : St) (a : Addr) : Prop := F.S0 a ∨ OwnA ms σ a
structure Rel (F : Fx) (ms : List Bool) (env : Env) (σ : St) (H : Hp) : Prop where
  len : env.length = σ.length
  shr : ∀ (i : Nat) d, getE env i = some d → ms[i]? ≠ some true → ∃ v, σ[i]? = some (some v) ∧ Dt F.K (Tab F ms σ) H v d
  own : ∀ (i : Nat) d, getE env i = some d → ms[i]? = some true → ∃ a, σ[i]? = some (some (.ref a)) ∧ Cell F.K (Tab F ms σ) H a d
  liv : ∀ (i : Nat) v, ms[i]? = some true → σ[i]? = some (some v) → ∃ d, getE env i = some d
  dis : ∀ (i j : Nat) a, ms[i]? = some true → ms[j]? = some true → σ[i]? = some (some (.ref a)) → σ[j]? = some (some (.ref a)) → i = j
  new : ∀ a, OwnA ms σ a → InA F ms a ∨ F.H0 a = none
  par : ∀ (j : Nat) v, j < F.np → ms[j]? = some true → F.vs[j]? = some v → σ[j]? = some (some v)
  trk : ∀ a, F.S0 a → H a ≠ none
  hold : ∀ a o, F.H0 a = some o → ¬ InA F ms a → H a = some o
def FrP (ms : List Bool) (σ : St) (H H' : Hp) : Prop := ∀ a o, H a = some o → ¬ OwnA ms σ a → H' a = some o
abbrev XRel := Str → Option D → (Addr → Prop) → Hp → Value → Option Addr → Prop
section
variable {F : Fx} {ms : List Bool} {env env' : Env} {σ : St} {H H' H1 H2 : Hp} {R : WX} {XR : XRel}
theorem FrP.refl : FrP ms σ H H := fun _ _ e _ => e
theorem FrP.trans (x : FrP ms σ H H1) (y : FrP ms σ H1 H2) : FrP ms σ H H2 := fun a o e n => y a o (x a o e n) n
theorem FrP.of_same (h : Same H H') : FrP ms σ H H' := fun a o e _ => h a o e
theorem FrP.ext (h : FrP ms σ H H') : Ext (Tab F ms σ) H (Tab F ms σ) H' := fun a o n e => ⟨n, h a o e fun z => n (.inr z)⟩
theorem Rel.ownT (r : Rel F ms env σ H) {a : Addr} (h : OwnA ms σ a) : ∃ o, H a = some o ∧ Lk o := by
  obtain ⟨i, h1, h2⟩ := h
  obtain ⟨d, hd⟩ := r.liv i _ h1 h2
  obtain ⟨a', e, c⟩ := r.own i d hd h1
  rw [h2] at e; cases e
  exact c.is
theorem Rel.tabT (r : Rel F ms env σ H) : ∀ a, Tab F ms σ a → H a ≠ none := fun a h => h.elim (r.trk a) fun h => by
  obtain ⟨xs, e, _⟩ := r.ownT h
  rw [e]
  exact fun z => nomatch z
theorem FrP.none_of (x : FrP ms σ H H') (r : Rel F ms env σ H') {a : Addr} (h : H' a = none) : H a = none := by
  cases q : H a with
  | none => rfl
  | some o =>
    by_cases z : OwnA ms σ a
    · obtain ⟨xs, e, _⟩ := r.ownT z
      rw [e] at h; cases h
    · rw [x a o q z] at h; cases h
theorem Rel.same (r : Rel F ms env σ H) (h : Same H H') : Rel F ms env σ H' where
  len := r.len
  shr := fun i d e m => let ⟨v, h1, h2⟩ := r.shr i d e m; ⟨v, h1, h2.mono (.of_same h)⟩
  own := fun i d e m => by
    obtain ⟨a, h1, c⟩ := r.own i d e m
    exact ⟨a, h1, c.step (.of_same h) (h a)⟩
  liv := r.liv
  dis := r.dis
  new := r.new
  par := r.par
  trk := fun a z q => by
    have := r.trk a z
    cases e : H a with
    | none => exact this e
    | some o => rw [h a o e] at q; cases q
  hold := fun a o e n => h a o (r.hold a o e n)
theorem ResRel.base {b : Bool} {v : V} {d : D} {S : Addr → Prop} {K : PySem.W.Frag} (hn : ∀ a, H1 a = none → H a = none) (h : ResRel b K S H1 H2 v d) : ResRel b K S H H2 v d := by
  unfold ResRel at h ⊢
  split at h
  · rename_i hb
    rw [if_pos hb]
    obtain ⟨p, e, hp, c⟩ := h
    exact ⟨p, e, hn p hp, c⟩
  · rename_i hb
    rw [if_neg hb]
    exact h

/-- what is wanted behind a reckoning -/
def W (F : Fx) (ms : List Bool) (R : WX) (XR : XRel) (σ : St) {α : Type} (r : Res α) (H : Hp) (k : α → Env → Hp → Prop) : Prop :=
  match r with
  | .ok a env' => ∀ H', FrP ms σ H H' → Rel F ms env' σ H' → k a env' H'
  | .exc c x env' => ∀ C dx H', FrP ms σ H H' → Rel F ms env' σ H' → XR c x (Tab F ms σ) H' C dx → R C dx σ H'
  | .stuck => False
theorem W_bind {α β : Type} {r : Res α} {f : α → Env → Res β} {k : β → Env → Hp → Prop} (h : W F ms R XR σ (r.bind f) H k) : W F ms R XR σ r H fun a env' H' => W F ms R XR σ (f a env') H' k := by
  cases r with
  | ok a env1 =>
    intro H1 f1 r1
    show W F ms R XR σ (f a env1) H1 k
    have h : W F ms R XR σ (f a env1) H k := h
    cases e : f a env1 with
    | ok b env2 =>
      rw [e] at h
      exact fun H2 f2 r2 => h H2 (f1.trans f2) r2
    | exc c x env2 =>
      rw [e] at h
      exact fun C dx H2 f2 r2 => h C dx H2 (f1.trans f2) r2
    | stuck => rw [e] at h; exact h
  | exc c x env1 => exact h
  | stuck => exact h
theorem W_mono {α : Type} {r : Res α} {k k' : α → Env → Hp → Prop} (h : W F ms R XR σ r H k) (hk : ∀ a env' H', FrP ms σ H H' → Rel F ms env' σ H' → k a env' H' → k' a env' H') : W F ms R XR σ r H k' := by
  cases r with
  | ok a env1 => exact fun H1 f1 r1 => hk _ _ _ f1 r1 (h H1 f1 r1)
  | exc c x env1 => exact h
  | stuck => exact h
theorem W_isT {r : Res D} {k : Bool → Env → Hp → Prop} (h : W F ms R XR σ (isT r) H k) : W F ms R XR σ r H fun d env' H' => ∃ c, d = .bool c ∧ k c env' H' := by
  cases r with
  | ok a env1 =>
    cases a with
    | bool c => exact fun H1 f1 r1 => ⟨c, rfl, h H1 f1 r1⟩
    | _ => exact False.elim h
  | exc c x env1 => exact h
  | stuck => exact h
theorem W_isT' {r : Res D} {k : D → Env → Hp → Prop} {k' : Bool → Env → Hp → Prop} (h : W F ms R XR σ r H k) (hb : ∀ d env', r = .ok d env' → ∃ c, d = .bool c) (hk : ∀ c env' H', k (.bool c) env' H' → k' c env' H') : W F ms R XR σ (isT r) H k' := by
  cases r with
  | ok a env1 =>
    obtain ⟨c, e⟩ := hb _ _ rfl
    subst e
    exact fun H1 f1 r1 => hk _ _ _ (h H1 f1 r1)
  | exc c x env1 => exact h
  | stuck => exact h
theorem W_ok {α : Type} {a : α} {k : α → Env → Hp → Prop} (h : W F ms R XR σ (.ok a env) H k) (r : Rel F ms env σ H) : k a env H := h H .refl r

/-- an operand -/
def ORel (F : Fx) (ms : List Bool) (σ : St) (H : Hp) : O → V → D → Prop
  | .val _, v, d => Dt F.K (Tab F ms σ) H v d
  | .own i, v, _ => ms[i]? = some true ∧ σ[i]? = some (some v)
theorem ORel.mono {o : O} {v : V} {d : D} (f : FrP ms σ H H') (h : ORel F ms σ H o v d) : ORel F ms σ H' o v d := by
  cases o with
  | val e => exact Dt.mono f.ext h
  | own i => exact h
inductive AsRel (F : Fx) (ms : List Bool) (σ : St) (H : Hp) : As → List V → List D → Prop
  | nil : AsRel F ms σ H .nil [] []
  | cons {o : O} {r : As} {v : V} {d : D} {vs : List V} {ds : List D} : ORel F ms σ H o v d → AsRel F ms σ H r vs ds → AsRel F ms σ H (.cons o r) (v :: vs) (d :: ds)
theorem opds_of (r : Rel F ms env σ H) : ∀ {as : As} {vs : List V} {ds es : List D}, AsRel F ms σ H as vs ds → fixA as ds env = some es → Opds F.K (Tab F ms σ) H vs es
  | _, _, _, _, .nil, e => by simp [fixA] at e; subst e; exact .nil
  | _, _, _, es, .cons (o := o) h t, e => by
    simp only [fixA] at e
    obtain ⟨x, e1, e2⟩ := Option.bind_eq_some_iff.mp e
    obtain ⟨xs, e3, e4⟩ := Option.map_eq_some_iff.mp e2
    subst e4
    refine .cons ?_ (opds_of r t e3)
    cases o with
    | val e =>
      simp only [fixO, Option.some.injEq] at e1
      subst e1
      exact .inl h
    | own i =>
      simp only [fixO] at e1
      obtain ⟨a, h1, c⟩ := r.own i x e1 h.1
      have h2 := h.2
      rw [h1] at h2; cases h2
      exact .inr ⟨a, rfl, c⟩
end

/-! ### a list of our own -/
section
variable {F : Fx} {ms : List Bool} {env env' : Env} {σ : St} {H H' : Hp}
def Fx.plus (F : Fx) (Dl : Addr) : Fx := { F with S0 := fun a => F.S0 a ∨ a = Dl }
theorem Rel.plusS (r : Rel F ms env σ H) {p : Addr} (h : H p = none) (s : Same H H') (h' : H' p ≠ none) : Rel (F.plus p) ms env σ H' := by
  have ne : ∀ {a : Addr} {u : HO}, H a = some u → a ≠ p := fun {a u} e z => by rw [z, h] at e; cases e
  have ex : Ext (Tab F ms σ) H (Tab (F.plus p) ms σ) H' := fun a u n e => ⟨fun z => z.elim (fun z => z.elim (fun z => n (.inl z)) fun z => ne e z) fun z => n (.inr z), s a u e⟩
  refine ⟨r.len, fun i d e m => ?_, fun i d e m => ?_, r.liv, r.dis, r.new, r.par, fun a z => ?_, fun a u e n => s _ _ (r.hold a u e n)⟩
  · obtain ⟨v, h1, h2⟩ := r.shr i d e m
    exact ⟨v, h1, h2.mono ex⟩
  · obtain ⟨a, h1, c⟩ := r.own i d e m
    exact ⟨a, h1, c.step ex (s a)⟩
  · rcases z with z | z
    · have t := r.trk a z
      cases e : H a with
      | none => exact absurd e t
      | some o => rw [s a o e]; exact fun z => nomatch z
    · rw [z]; exact h'
def ResM (b : Bool) (F : Fx) (ms : List Bool) (σ : St) (env' : Env) (H H' : Hp) (v : V) (d : D) : Prop := ResRel b F.K (Tab F ms σ) H H' v d ∧ (b = true → ∀ p, v = .ref p → Rel (F.plus p) ms env' σ H')
theorem ResM.of {b : Bool} {v : V} {d : D} {H1 H2 : Hp} (h : ResRel b F.K (Tab F ms σ) H1 H2 v d) (r : Rel F ms env σ H1) (s : Same H1 H2) (hn : ∀ a, H1 a = none → H a = none) : ResM b F ms σ env H H2 v d := by
  refine ⟨h.base hn, fun hb p e => ?_⟩
  subst hb e
  obtain ⟨p', e, hp, c⟩ := h
  cases e
  obtain ⟨o, h2, _⟩ := c.is
  exact r.plusS hp s (by rw [h2]; exact fun z => nomatch z)
theorem rm {v : V} {d : D} (h : Dt F.K (Tab F ms σ) H' v d) : ResM false F ms σ env' H H' v d := ⟨by unfold ResRel; rw [if_neg Bool.false_ne_true]; exact h, fun z => nomatch z⟩
end

/-! ### readings -/
section
variable (K : PySem.W.Frag) (ms : List Bool) (R : WX) (XR : XRel)
def tM (m : E) : TE := fun σ H Q => ∃ (F : Fx) (env : Env), F.K = K ∧ Rel F ms env σ H ∧ W F ms R XR σ (evE m env) H fun d env' H' => ∀ v, ResM m.fresh F ms σ env' H H' v d → Q v H'
def tO (o : O) : TE := fun σ H Q => ∃ (F : Fx) (env : Env), F.K = K ∧ Rel F ms env σ H ∧ W F ms R XR σ (evO o env) H fun d _ H' => ∀ v, ORel F ms σ H' o v d → Q v H'
def tT (m : E) : TT := fun σ H Q => ∃ (F : Fx) (env : Env), F.K = K ∧ Rel F ms env σ H ∧ W F ms R XR σ (isT (evE m env)) H fun c _ H' => Q c H'
end
section
variable {K : PySem.W.Frag} {F : Fx} {ms : List Bool} {env env' : Env} {σ : St} {H H' H1 H2 : Hp} {R : WX} {XR : XRel} {X : Cx}
theorem tO_of {o : O} {Q : VK} (hK : F.K = K) (r : Rel F ms env σ H) (h : W F ms R XR σ (evO o env) H fun d _ H' => ∀ v, ORel F ms σ H' o v d → Q v H') : tO K ms R XR o σ H Q := ⟨F, env, hK, r, h⟩
theorem tO_val {e : Expr} {m : E} (h : PE X e (tM K ms R XR m)) : PE X e (tO K ms R XR (.val m)) :=
  ⟨fun pins s σ H Q I ⟨F, env, hK, r, w⟩ => h.run pins s σ H Q I ⟨F, env, hK, r, W_mono w fun d env' H' _ _ q v hv => q v (ResRel.dt r.tabT hv.1)⟩⟩
theorem tO_own {i : Nat} {x : Str} {pos : Pos} (hm : ms[i]? = some true) (h : PE X (.Name x pos) (tVar i)) : PE X (.Name x pos) (tO K ms R XR (.own i)) := by
  refine ⟨fun pins s σ H Q I ⟨F, env, hK, r, w⟩ => ?_⟩
  simp only [evO] at w
  cases e : getE env i with
  | none => rw [e] at w; exact False.elim w
  | some d =>
    rw [e] at w
    obtain ⟨a, h1, _⟩ := r.own i d e hm
    exact h.run pins s σ H Q I ⟨_, h1, W_ok w r _ ⟨hm, h1⟩⟩
theorem As1 {o : O} {k : List D → Env → Hp → Prop} (h : W F ms R XR σ (evAs (.cons o .nil) env) H k) : W F ms R XR σ (evO o env) H fun d env' H' => k [d] env' H' := by
  simp only [evAs] at h
  refine W_mono (W_bind h) fun d env1 H1 f1 r1 h1 => ?_
  exact W_ok (W_bind h1 |> fun z => W_ok z r1) r1
theorem As2 {o p : O} {k : List D → Env → Hp → Prop} (h : W F ms R XR σ (evAs (.cons o (.cons p .nil)) env) H k) : W F ms R XR σ (evO o env) H fun d env1 H1 => W F ms R XR σ (evO p env1) H1 fun e env' H' => k [d, e] env' H' := by
  rw [evAs] at h
  refine W_mono (W_bind h) fun d env1 H1 f1 r1 h1 => ?_
  exact W_mono (As1 (W_bind h1)) fun e env2 H2 f2 r2 h2 => W_ok h2 r2
theorem As3 {o p q : O} {k : List D → Env → Hp → Prop} (h : W F ms R XR σ (evAs (.cons o (.cons p (.cons q .nil))) env) H k) :
    W F ms R XR σ (evO o env) H fun d env1 H1 => W F ms R XR σ (evO p env1) H1 fun e env2 H2 => W F ms R XR σ (evO q env2) H2 fun f env' H' => k [d, e, f] env' H' := by
  rw [evAs] at h
  refine W_mono (W_bind h) fun d env1 H1 f1 r1 h1 => ?_
  refine W_mono (As2 (W_bind h1)) fun e env2 H2 f2 r2 h2 => ?_
  refine W_mono h2 fun f env3 H3 f3 r3 h3 => ?_
  exact W_ok h3 r3
/-- an operator behind its operands -/
theorem prim_core {op : Op} {as : As} {Q : VK} (hK : F.K = K) (h : W F ms R XR σ (evE (.prim op as) env) H fun d env' H' => ∀ v, ResM op.fresh F ms σ env' H H' v d → Q v H') :
    W F ms R XR σ (evAs as env) H fun ds _ H' => ∀ vs, AsRel F ms σ H' as vs ds → rGen K op vs H' Q := by
  subst hK
  simp only [evE] at h
  refine W_mono (W_bind h) fun ds env1 H1 f1 r1 h1 vs hv => ?_
  cases e1 : fixA as ds env1 with
  | none => rw [e1] at h1; exact False.elim h1
  | some es =>
    rw [e1] at h1
    dsimp only at h1
    cases e2 : op.run es with
    | none => rw [e2] at h1; exact False.elim h1
    | some d =>
      rw [e2] at h1
      refine ⟨Tab F ms σ, es, d, r1.tabT, opds_of r1 hv e1, e2, fun v H2 s2 rr => ?_⟩
      exact h1 H2 (.of_same s2) (r1.same s2) v (ResM.of rr r1 s2 fun a => f1.none_of r1)
end
end MP

/-! MP: the text against the tree; operators as expressions. -/
namespace MP
open PySem L2

/-! ### the text's forms -/
def notStar : Expr → Bool
  | .Starred _ _ => false
  | _ => true
def plainIx : Expr → Bool
  | .Slice _ _ _ _ => false
  | _ => true
def plainT : Expr → Bool
  | .UnaryOp _ _ _ => false
  | .BoolOp _ _ _ => false
  | .IfExp _ _ _ _ => false
  | .Compare _ _ _ _ => false
  | _ => true
def okName (x : Str) : Bool := !(x == ("__debug__" : Str)) && !(x == ("__classdict__" : Str)) && !(x == ("__name__" : Str))
def glB (sc : Scope) (x : Str) : Bool := okName x && (match sc.names.lookup x with
  | some .globalImplicit => true
  | _ => false)
def visB (sc : Scope) (x : Str) : Bool := okName x && (match sc.names.lookup x with
  | some .local => true
  | some .cell => true
  | some .free => true
  | _ => false)
def constB : D → Const → Bool
  | .none, .none => true
  | .bool a, .bool b => a == b
  | .int a, .int b => a == b
  | .str a, .str b => decide (a = b)
  | _, _ => false
def clsB (sc : Scope) (ts : List String) (one : Bool) (c : Expr) : Bool := decide (ts.length ≤ 20) && ts.all (isiTs.contains ·) && match ts, one, c with
  | [t], true, .Name n _ => decide (n = Str.ofString t) && glB sc n
  | ts, false, .Tuple es _ _ => ts.length == es.length && (ts.zip es).all fun p => match p.2 with
    | .Name n _ => decide (n = Str.ofString p.1) && glB sc n
    | _ => false
  | _, _, _ => false
def bname : Op → Option (String × Bool)
  | .len => some ("len", false)
  | .tuple => some ("tuple", true)
  | .list => some ("list", true)
  | .dof => some ("dict", true)
  | .sorted => some ("sorted", false)
  | .min => some ("min", false)
  | .max => some ("max", false)
  | .sum => some ("sum", false)
  | .any => some ("any", false)
  | .all => some ("all", false)
  | .abs => some ("abs", false)
  | .int => some ("int", true)
  | .str => some ("str", true)
  | .repr => some ("repr", false)
  | _ => none
def binF : Op → Option Operator
  | .add => some .Add
  | .cat => some .Add
  | .sub => some .Sub
  | .mul => some .Mult
  | .rep => some .Mult
  | .fdiv => some .FloorDiv
  | .mod => some .Mod
  | .pow => some .Pow
  | .shl => some .LShift
  | .shr => some .RShift
  | .band => some .BitAnd
  | .bor => some .BitOr
  | _ => none
def cmpF : Op → Option CmpOp
  | .lt => some .Lt
  | .le => some .LtE
  | .gt => some .Gt
  | .ge => some .GtE
  | .eq => some .Eq
  | .ne => some .NotEq
  | .isin => some .In
  | .notin => some .NotIn
  | .eqD => some .Eq
  | _ => none
def noSet : Expr → Bool
  | .Set _ _ _ => false
  | _ => true
/-- the operands' texts, where the text is of the operator's form -/
def formOf (sc : Scope) (op : Op) (e : Expr) : Option (List Expr) :=
  match e with
  | .BinOp a o b _ => match binF op with
    | some o' => if o = o' then some [a, b] else none
    | none => none
  | .Compare a [o] [b] _ => match cmpF op with
    | some o' => if o = o' ∧ noSet b = true then some [a, b] else none
    | none => match op, o, b with
      | .isNone, .Is, .Constant .none _ _ => some [a]
      | .notNone, .IsNot, .Constant .none _ _ => some [a]
      | .isB c, .Is, .Constant (.bool b) _ _ => if b = c then some [a] else none
      | .notB c, .IsNot, .Constant (.bool b) _ _ => if b = c then some [a] else none
      | _, _, _ => none
  | .UnaryOp .USub a _ => if op = .neg then some [a] else none
  | .Subscript a i _ => match op, i with
    | .idx, i => if plainIx i = true then some [a, i] else none
    | .slice _ false false, .Slice none none none _ => some [a]
    | .slice _ true false, .Slice (some l) none none _ => some [a, l]
    | .slice _ false true, .Slice none (some u) none _ => some [a, u]
    | .rev _, .Slice none none (some (.UnaryOp .USub (.Constant (.int 1) _ _) _)) _ => some [a]
    | _, _ => none
  | .Tuple es _ _ => if op = .tup then some es else none
  | .List es _ => if op = .lst then some es else none
  | .Dict [] [] _ => if op = .dnew then some [] else none
  | .Dict [some (.Constant (.int i) _ _)] [.Constant c _ _] _ => match op with
    | .dlit k v => if i = k ∧ constB (dlv v) c = true then some [] else none
    | _ => none
  | .Call (.Name n _) args [] _ => if glB sc n = true then
      match op, args with
      | .lrng, [.Call (.Name m _) [a] [] _] => if n = Str.ofString "list" ∧ m = Str.ofString "range" ∧ glB sc m = true ∧ notStar a = true then some [a] else none
      | .reprT, [.Tuple es _ _] => if n = Str.ofString "repr" then some es else none
      | .isi ts one, [a, c] => if n = Str.ofString "isinstance" ∧ clsB sc ts one c = true then some [a] else none
      | .min2, [a, b] => if n = Str.ofString "min" then some [a, b] else none
      | .max2, [a, b] => if n = Str.ofString "max" then some [a, b] else none
      | op, [a] => match bname op with
        | some (nm, _) => if n = Str.ofString nm then some [a] else none
        | none => none
      | _, _ => none
    else none
  | _ => none
def As.noOwn : As → Bool
  | .nil => true
  | .cons (.val _) r => r.noOwn
  | .cons (.own _) _ => false

/-! ### the context that the rules want -/
/-- the built-in names that the operators use -/
def bltNames : List String := ["len", "tuple", "list", "sorted", "min", "max", "sum", "any", "all", "abs", "int", "str", "repr", "isinstance", "bool", "dict", "range", "enumerate", "zip"]
structure CtxOk (X : Cx) (sc : Scope) (fn : Str → Bool) (N : List Str) (R : WX) : Prop where
  hN : X.N = N
  nd : N.Nodup
  sc : X.env.scope = sc
  fn : X.fn = fn
  calm : X.calm = true
  tk : Takes X R
  gu : X.A.guards = some []
  un : X.A.units + 70 < cLine
  bl : ∀ x ∈ bltNames, X.mg (Str.ofString x) = none
section
variable {X : Cx} {sc : Scope} {fn : Str → Bool} {N : List Str} {R : WX}
theorem gl_of (C : CtxOk X sc fn N R) {x : Str} (h : glB sc x = true) : Gl X x ∧ (x == ("__debug__" : Str)) = false ∧ x ≠ "__name__" := by
  unfold glB okName at h
  simp only [Bool.and_eq_true, Bool.not_eq_true', beq_eq_false_iff_ne, ne_eq] at h
  obtain ⟨⟨⟨h1, h2⟩, h3⟩, h4⟩ := h
  refine ⟨?_, by simpa using h1, h3⟩
  show X.env.kindOf x = _
  unfold Env.kindOf
  rw [C.sc]
  split at h4
  · assumption
  · cases h4
theorem vis_of (C : CtxOk X sc fn N R) {x : Str} (h : visB sc x = true) : Vis X.env.scope x ∧ (x == ("__debug__" : Str)) = false ∧ (x == ("__classdict__" : Str)) = false := by
  unfold visB okName at h
  simp only [Bool.and_eq_true, Bool.not_eq_true', beq_eq_false_iff_ne, ne_eq] at h
  obtain ⟨⟨⟨h1, h2⟩, h3⟩, h4⟩ := h
  refine ⟨?_, by simpa using h1, by simpa using h2⟩
  rw [C.sc]
  split at h4
  · exact .inl (by assumption)
  · exact .inr (.inl (by assumption))
  · exact .inr (.inr (by assumption))
  · cases h4
end

/-! ### weakening -/
section
variable {X : Cx} {e : Expr} {es : List Expr}
theorem pe_imp {t t' : TE} (h : PE X e t) (w : ∀ σ H Q, t' σ H Q → t σ H Q) : PE X e t' := ⟨fun pins s σ H Q I q => h.run pins s σ H Q I (w σ H Q q)⟩
theorem pt_imp {t t' : TT} (h : PT X e t) (w : ∀ σ H Q, t' σ H Q → t σ H Q) : PT X e t' := ⟨fun pins s σ H Q I q => h.run pins s σ H Q I (w σ H Q q)⟩
theorem pw_imp {t t' : TT} (h : PW X e t) (w : ∀ σ H Q, t' σ H Q → t σ H Q) : PW X e t' := ⟨fun wh pins s σ H Q I q => h.run wh pins s σ H Q I (w σ H Q q)⟩
theorem pa_imp {t t' : TA} (h : PA X es t) (w : ∀ σ H Q, t' σ H Q → t σ H Q) : PA X es t' := ⟨fun pos pins s σ H Q I q => h.run pos pins s σ H Q I (w σ H Q q)⟩
theorem star1 {env : PySem.Env} (h : notStar e = true) : starEach (e :: es) env = (false, eval e env) :: starEach es env := by
  cases e <;> first | rfl | (cases h)
theorem star_plain {env : PySem.Env} {pos : Pos} : ∀ {es : List Expr}, (∀ e ∈ es, notStar e = true) → (backTo pos (starEach es env)).any (·.1) = false
  | [], _ => rfl
  | e :: es, h => by
    rw [star1 (h e List.mem_cons_self)]
    show ((false : Bool) || (backTo pos (starEach es env)).any (·.1)) = false
    rw [Bool.false_or]
    exact star_plain fun e' h' => h e' (List.mem_cons_of_mem _ h')
end

/-! ### operands -/
section
variable (X : Cx) (K : PySem.W.Frag) (ms : List Bool) (R : WX) (XR : XRel)
inductive PEs : As → List Expr → Prop
  | nil : PEs .nil []
  | cons {o : O} {r : As} {e : Expr} {es : List Expr} : PE X e (tO K ms R XR o) → notStar e = true → PEs r es → PEs (.cons o r) (e :: es)
def tA (as : As) : TA := fun σ H Q => ∃ (F : Fx) (env : Env), F.K = K ∧ Rel F ms env σ H ∧ W F ms R XR σ (evAs as env) H fun ds _ H' => ∀ vs, AsRel F ms σ H' as vs ds → Q vs H'
end
section
variable {X : Cx} {K : PySem.W.Frag} {ms : List Bool} {R : WX} {XR : XRel}
theorem PEs.stars {as : As} {es : List Expr} (h : PEs X K ms R XR as es) : ∀ e ∈ es, notStar e = true := by
  induction h with
  | nil => intro e he; cases he
  | cons _ h2 _ ih =>
    intro e he
    rcases List.mem_cons.mp he with rfl | he
    · exact h2
    · exact ih e he
theorem PEs.pa {as : As} {es : List Expr} (h : PEs X K ms R XR as es) : PA X es (tA K ms R XR as) := by
  induction h with
  | nil =>
    refine pa_imp pa_nil fun σ H Q ⟨F, env, hK, r, w⟩ => ?_
    simp only [evAs] at w
    exact W_ok w r _ .nil
  | cons h1 h2 _ ih =>
    refine pa_imp (pa_cons h1 ih (star1 h2)) fun σ H Q ⟨F, env, hK, r, w⟩ => ?_
    rw [evAs] at w
    refine ⟨F, env, hK, r, W_mono (W_bind w) fun d env1 H1 f1 r1 h1 v hv => ?_⟩
    exact ⟨F, env1, hK, r1, W_mono (W_bind h1) fun ds env2 H2 f2 r2 h2 vs hvs => W_ok h2 r2 (v :: vs) (.cons (hv.mono f2) hvs)⟩
theorem PEs.one {as : As} {a : Expr} (h : PEs X K ms R XR as [a]) : ∃ o, as = .cons o .nil ∧ PE X a (tO K ms R XR o) ∧ notStar a = true := by
  cases h with
  | cons h1 h2 h3 => cases h3; exact ⟨_, rfl, h1, h2⟩
theorem PEs.two {as : As} {a b : Expr} (h : PEs X K ms R XR as [a, b]) : ∃ o p, as = .cons o (.cons p .nil) ∧ PE X a (tO K ms R XR o) ∧ PE X b (tO K ms R XR p) := by
  cases h with
  | cons h1 h2 h3 =>
    obtain ⟨p, rfl, h4, _⟩ := h3.one
    exact ⟨_, _, rfl, h1, h4⟩
theorem PEs.three {as : As} {a b c : Expr} (h : PEs X K ms R XR as [a, b, c]) : ∃ o p q, as = .cons o (.cons p (.cons q .nil)) ∧ PE X a (tO K ms R XR o) ∧ PE X b (tO K ms R XR p) ∧ PE X c (tO K ms R XR q) := by
  cases h with
  | cons h1 h2 h3 =>
    obtain ⟨p, q, rfl, h4, h5⟩ := h3.two
    exact ⟨_, _, _, rfl, h1, h4, h5⟩
theorem AsRel.one {F : Fx} {σ : St} {H : Hp} {o : O} {vs : List V} {ds : List D} (h : AsRel F ms σ H (.cons o .nil) vs ds) : ∃ v, vs = [v] := by
  cases h with
  | cons h1 h2 => cases h2; exact ⟨_, rfl⟩
theorem AsRel.two {F : Fx} {σ : St} {H : Hp} {o p : O} {vs : List V} {ds : List D} (h : AsRel F ms σ H (.cons o (.cons p .nil)) vs ds) : ∃ v u, vs = [v, u] := by
  cases h with
  | cons h1 h2 =>
    obtain ⟨u, e⟩ := h2.one
    exact ⟨_, _, by rw [e]⟩
theorem AsRel.dts {F : Fx} {σ : St} {H : Hp} : ∀ {as : As} {vs : List V} {ds : List D}, as.noOwn = true → AsRel F ms σ H as vs ds → DtAll F.K (Tab F ms σ) H vs ds
  | .nil, _, _, _, .nil => .nil
  | .cons (.val e) r, _, _, n, .cons h t => .cons h (AsRel.dts (as := r) n t)
  | .cons (.own i) r, _, _, n, _ => by cases n
theorem fix_noOwn : ∀ {as : As} {ds es : List D} {env : Env}, as.noOwn = true → fixA as ds env = some es → es = ds
  | .nil, [], es, env, _, h => by simp [fixA] at h; exact h
  | .nil, _ :: _, es, env, _, h => by simp [fixA] at h
  | .cons _ _, [], es, env, _, h => by simp [fixA] at h
  | .cons (.own _) _, _ :: _, _, _, n, _ => by cases n
  | .cons (.val e) r, d :: ds, es, env, n, h => by
    simp only [fixA, fixO, Option.bind_some] at h
    obtain ⟨xs, e1, e2⟩ := Option.map_eq_some_iff.mp h
    subst e2
    rw [fix_noOwn (as := r) n e1]

/-! ### the forms -/
section
variable {op : Op} {a b : Expr} {o p : O} {pos : Pos}
theorem core1 {as : As} {Q : VK} {σ : St} {H : Hp} (h : tM K ms R XR (.prim op (.cons o .nil)) σ H Q) : tO K ms R XR o σ H fun x H1 => rGen K op [x] H1 Q := by
  obtain ⟨F, env, hK, r, w⟩ := h
  exact ⟨F, env, hK, r, W_mono (As1 (prim_core hK w)) fun d env1 H1 f1 r1 h1 v hv => h1 [v] (.cons hv .nil)⟩
theorem core2 {Q : VK} {σ : St} {H : Hp} (h : tM K ms R XR (.prim op (.cons o (.cons p .nil))) σ H Q) : tO K ms R XR o σ H fun x H1 => tO K ms R XR p σ H1 fun y H2 => rGen K op [x, y] H2 Q := by
  obtain ⟨F, env, hK, r, w⟩ := h
  exact ⟨F, env, hK, r, W_mono (As2 (prim_core hK w)) fun d env1 H1 f1 r1 h1 v hv => ⟨F, env1, hK, r1, W_mono h1 fun e env2 H2 f2 r2 h2 u hu => h2 [v, u] (.cons (hv.mono f2) (.cons hu .nil))⟩⟩
theorem coreA {as : As} {Q : VK} {σ : St} {H : Hp} (h : tM K ms R XR (.prim op as) σ H Q) : ∃ (F : Fx) (env : Env), F.K = K ∧ Rel F ms env σ H ∧ W F ms R XR σ (evAs as env) H fun ds _ H' => ∀ vs, AsRel F ms σ H' as vs ds → rGen K op vs H' Q := by
  obtain ⟨F, env, hK, r, w⟩ := h
  exact ⟨F, env, hK, r, prim_core hK w⟩
theorem f_bin {bo : Operator} (s : OpR X (binaryOp bo) (fun x y => rGen K op [x, y])) (ha : PE X a (tO K ms R XR o)) (hb : PE X b (tO K ms R XR p)) : PE X (.BinOp a bo b pos) (tM K ms R XR (.prim op (.cons o (.cons p .nil)))) :=
  pe_imp (pe_op s ha hb) fun _ _ _ h => core2 h
theorem f_cmp {bo : CmpOp} (s : OpR X (compareOp bo) (fun x y => rGen K op [x, y])) (ha : PE X a (tO K ms R XR o)) (hb : PE X b (tO K ms R XR p)) (hm : behindInMarks bo b = false) : PE X (.Compare a [bo] [b] pos) (tM K ms R XR (.prim op (.cons o (.cons p .nil)))) :=
  pe_imp (pe_cmpR s ha hb hm) fun _ _ _ h => core2 h
theorem f_none {bo : CmpOp} {j : Nat} {p2 : Pos} (s : OpR X (compareOp bo) (fun x y H Q => y = .non ∧ rGen K op [x] H Q)) (ha : PE X a (tO K ms R XR o)) (hm : behindInMarks bo (.Constant .none j p2) = false) : PE X (.Compare a [bo] [.Constant .none j p2] pos) (tM K ms R XR (.prim op (.cons o .nil))) :=
  pe_imp (pe_cmpR s ha pe_non hm) fun σ H Q h => by
    obtain ⟨F, env, hK, r, w⟩ := core1 (as := .nil) h
    exact ⟨F, env, hK, r, W_mono w fun d env1 H1 f1 r1 h1 v hv => ⟨rfl, h1 v hv⟩⟩
theorem f_neg (ha : PE X a (tO X.K ms R XR o)) : PE X (.UnaryOp .USub a pos) (tM X.K ms R XR (.prim .neg (.cons o .nil))) := pe_imp (pe_un s_neg ha) fun _ _ _ h => core1 (as := .nil) h
theorem f_idx (hu : X.A.units + 1 < cLine) (ha : PE X a (tO X.K ms R XR o)) (hb : PE X b (tO X.K ms R XR p)) (hi : plainIx b = true) : PE X (.Subscript a b pos) (tM X.K ms R XR (.prim .idx (.cons o (.cons p .nil)))) :=
  pe_imp (pe_ix (s_idx hu) ha hb (fun x y => by cases b <;> first | rfl | (cases hi))) fun _ _ _ h => core2 h
theorem f_tup {as : As} {es : List Expr} {k : Nat} (h : PEs X K ms R XR as es) (n : as.noOwn = true) : PE X (.Tuple es k pos) (tM K ms R XR (.prim .tup as)) :=
  pe_imp (pe_tupX h.pa) fun σ H Q ⟨F, env, hK, r, w⟩ => by
    subst hK
    simp only [evE] at w
    refine ⟨F, env, rfl, r, W_mono (W_bind w) fun ds env1 H1 f1 r1 h1 vs hv => ?_⟩
    cases e1 : fixA as ds env1 with
    | none => rw [e1] at h1; exact False.elim h1
    | some es' =>
      rw [e1] at h1
      have e2 := fix_noOwn n e1
      subst e2
      have dts := AsRel.dts n hv
      have hl := dts.length
      simp only [Op.run, Op.runD] at h1
      split at h1
      · rename_i hz
        split at hz
        · cases hz
          rename_i hz
          refine ⟨by omega, fun q ob hq ho => ?_⟩
          exact h1 _ (.of_same (same_upd hq)) (r1.same (same_upd hq)) _ (ResM.of (new_tup ho r1.tabT hq dts) r1 (same_upd hq) fun a => f1.none_of r1)
        · cases hz
      · exact False.elim h1
theorem f_lst {as : As} {es : List Expr} (h : PEs X K ms R XR as es) (n : as.noOwn = true) : PE X (.List es pos) (tM K ms R XR (.prim .lst as)) :=
  pe_imp (pe_lst h.pa) fun σ H Q ⟨F, env, hK, r, w⟩ => by
    subst hK
    simp only [evE] at w
    refine ⟨F, env, rfl, r, W_mono (W_bind w) fun ds env1 H1 f1 r1 h1 vs hv => ?_⟩
    cases e1 : fixA as ds env1 with
    | none => rw [e1] at h1; exact False.elim h1
    | some es' =>
      rw [e1] at h1
      have e2 := fix_noOwn n e1
      subst e2
      have dts := AsRel.dts n hv
      have hl := dts.length
      simp only [Op.run, Op.runD] at h1
      split at h1
      · rename_i hz
        split at hz
        · cases hz
          rename_i hz
          refine ⟨by omega, fun q hq => ?_⟩
          exact h1 _ (.of_same (same_upd hq)) (r1.same (same_upd hq)) _ (ResM.of (new_lst hq dts) r1 (same_upd hq) fun a => f1.none_of r1)
        · cases hz
      · exact False.elim h1
theorem f_dnew : PE X (.Dict [] [] pos) (tM K ms R XR (.prim .dnew .nil)) :=
  pe_imp pe_dnewK fun σ H Q q => by
    obtain ⟨F, env, hK, r, w⟩ := coreA q
    simp only [evAs] at w
    intro p hp
    obtain ⟨S, ds, d, hS, ho, hrun, q⟩ := W_ok w r [] .nil
    cases ho
    simp only [Op.run, Op.runD, Option.some.injEq] at hrun
    subst hrun
    exact q _ _ (same_upd hp) (new_dct (kds := []) hp rfl)
theorem f_dlit {i k : Int} {v : Option Int} {c : Const} {k1 k2 : Nat} {p1 p2 pos : Pos} (hi : i = k) (hc : constB (dlv v) c = true) : PE X (.Dict [some (.Constant (.int i) k1 p1)] [.Constant c k2 p2] pos) (tM K ms R XR (.prim (.dlit k v) .nil)) := by
  subst hi
  have hv : ∃ u, u = valOf (dlv v) ∧ PE X (.Constant c k2 p2) (fun _ H Q => Q u H) := by
    cases v <;> cases c <;> simp only [dlv, constB] at hc <;> first | (cases hc; done) | skip
    · exact ⟨_, rfl, pe_non⟩
    · rename_i a b
      have h : a = b := by simpa using hc
      subst h
      exact ⟨_, rfl, pe_int⟩
  obtain ⟨u, rfl, pu⟩ := hv
  refine pe_imp (pe_disp (pps_cons pe_int pu pps_nil) rfl rfl (by simp) (by simp)) fun σ H Q q => ?_
  obtain ⟨F, env, hK, r, w⟩ := coreA q
  simp only [evAs] at w
  intro p hp
  obtain ⟨S, ds, d, hS, ho, hrun, q⟩ := W_ok w r [] .nil
  cases ho
  simp only [Op.run, Op.runD, Option.some.injEq] at hrun
  subst hrun
  refine ⟨upd_same, [(.inl i, valOf (dlv v))], rfl, by simp, ?_⟩
  have hok : okKv [((.int i : D), dlv v)] = true := by cases v <;> rfl
  have e : upd (upd H p (.dK [])) p (.dK (mergeK [] [((.inl i : Key), valOf (dlv v))])) = upd H p (.dK ([((.int i : D), dlv v)].map kvOf)) := by
    funext b
    by_cases z : b = p
    · subst z; rw [upd_same, upd_same]; rfl
    · rw [upd_ne z, upd_ne z, upd_ne z]
  rw [e]
  exact q _ _ (same_upd hp) (new_dct hp hok)
theorem f_ddv {i : Nat} {k : Int} {x : Expr} {k1 : Nat} {p1 pos : Pos} (hm : ms[i]? ≠ some true) (hx : PE X x (tVar i)) : PE X (.Dict [some (.Constant (.int k) k1 p1)] [x] pos) (tM K ms R XR (.ddv k i)) := by
  refine pe_imp (pe_disp (pps_cons pe_int hx pps_nil) rfl rfl (by simp) (by simp)) fun σ H Q q => ?_
  obtain ⟨F, env, hK, r, w⟩ := q
  subst hK
  simp only [evE] at w
  cases e : getE env i with
  | none => rw [e] at w; exact False.elim w
  | some d =>
    rw [e] at w
    obtain ⟨v, h1, h2⟩ := r.shr i d e hm
    intro p hp
    refine ⟨v, h1, upd_same, [(.inl k, v)], rfl, by simp, ?_⟩
    have e2 : upd (upd H p (.dK [])) p (.dK (mergeK [] [((.inl k : Key), v)])) = upd H p (.dK [((.inl k : Key), v)]) := by
      funext b
      by_cases z : b = p
      · subst z; rw [upd_same, upd_same]; rfl
      · rw [upd_ne z, upd_ne z, upd_ne z]
    rw [e2]
    have sm : Same H (upd H p (.dK [((.inl k : Key), v)])) := same_upd hp
    have nT : ¬ Tab F ms σ p := fun z => r.tabT p z hp
    refine w _ (.of_same sm) (r.same sm) (.ref p) ?_
    exact rm (.dct nT (.inl upd_same) ⟨rfl, fun q hq => by simp only [List.mem_singleton] at hq; subst hq; rfl⟩ (.cons (h2.mono (.of_same sm)) .nil))
theorem f_callB {id : String} {x : Str} {px : Pos} (s : CallR X (.builtin id) (fun xs H Q => ∃ v, xs = [v] ∧ rGen K op [v] H Q)) (hg : Gl X x) (hm : X.mg x = none) (hv : bootBuiltins x = some (.builtin id)) (hn : x ≠ "__name__") (hd : (x == ("__debug__" : Str)) = false)
    (h : PEs X K ms R XR (.cons o .nil) [a]) : PE X (.Call (.Name x px) [a] [] pos) (tM K ms R XR (.prim op (.cons o .nil))) :=
  pe_imp (pe_callB s hg hm hv h.pa hn hd (star1 (h.stars a (by simp))) rfl) fun σ H Q q => by
    obtain ⟨F, env, hK, r, w⟩ := coreA q
    refine ⟨F, env, hK, r, W_mono w fun ds env1 H1 f1 r1 h1 vs hvs => ?_⟩
    obtain ⟨v, e⟩ := hvs.one
    subst e
    exact ⟨v, rfl, h1 _ hvs⟩
theorem f_callT {T : String} {x : Str} {px : Pos} (s : CallR X (.type T) (fun xs H Q => ∃ v, xs = [v] ∧ rGen K op [v] H Q)) (hg : Gl X x) (hm : X.mg x = none) (hv : bootBuiltins x = some (.type T)) (hn : x ≠ "__name__") (hd : (x == ("__debug__" : Str)) = false)
    (h : PEs X K ms R XR (.cons o .nil) [a]) : PE X (.Call (.Name x px) [a] [] pos) (tM K ms R XR (.prim op (.cons o .nil))) :=
  pe_imp (pe_callTy s hg hm hv h.pa hn hd (star1 (h.stars a (by simp))) rfl) fun σ H Q q => by
    obtain ⟨F, env, hK, r, w⟩ := coreA q
    refine ⟨F, env, hK, r, W_mono w fun ds env1 H1 f1 r1 h1 vs hvs => ?_⟩
    obtain ⟨v, e⟩ := hvs.one
    subst e
    exact ⟨v, rfl, h1 _ hvs⟩
theorem f_callB2 {id : String} {x : Str} {px : Pos} (s : CallR X (.builtin id) (fun xs H Q => ∃ v u, xs = [v, u] ∧ rGen K op [v, u] H Q)) (hg : Gl X x) (hm : X.mg x = none) (hv : bootBuiltins x = some (.builtin id)) (hn : x ≠ "__name__") (hd : (x == ("__debug__" : Str)) = false)
    (h : PEs X K ms R XR (.cons o (.cons p .nil)) [a, b]) : PE X (.Call (.Name x px) [a, b] [] pos) (tM K ms R XR (.prim op (.cons o (.cons p .nil)))) :=
  pe_imp (pe_callB s hg hm hv h.pa hn hd (star1 (h.stars a (by simp))) (star_plain fun e he => h.stars e (List.mem_cons_of_mem _ he))) fun σ H Q q => by
    obtain ⟨F, env, hK, r, w⟩ := coreA q
    refine ⟨F, env, hK, r, W_mono w fun ds env1 H1 f1 r1 h1 vs hvs => ?_⟩
    obtain ⟨v, u, e⟩ := hvs.two
    subst e
    exact ⟨v, u, rfl, h1 _ hvs⟩
end
end
end MP

/-! MP: isinstance, slices, all operators by their forms. -/
namespace MP
open PySem L2

section
variable {X : Cx} {K : PySem.W.Frag} {ms : List Bool} {R : WX} {XR : XRel} {S : Addr → Prop} {H : Hp} {v : V}
theorem ty_of {d : D} (h : Db K S H v d) : TyX K H v (.type (tyName d)) := by
  cases d with
  | none =>
    rcases h with h | ⟨a, rfl, ⟨xs, es, e, h1, h2⟩ | ⟨kds, e, h1, h2⟩⟩
    · cases h; exact .base .non
    · cases e
    · cases e
  | bool b => obtain rfl := h.bl; exact .base (.bl b)
  | int i => obtain rfl := h.int; exact .base (.int i)
  | str i => obtain rfl := h.str; exact .base (.str i)
  | list ds =>
    obtain ⟨a, xs, rfl, (h1 | ⟨o, h1⟩) | ⟨its, n, h1, _⟩, _⟩ := h.list
    · exact .base (.lst h1)
    · exact .base (.frz h1)
    · exact .kList h1 rfl
  | tuple ds =>
    obtain ⟨a, xs, rfl, (h1 | ⟨o, h1⟩) | ⟨o, its, n, h1, h2, _⟩, _, _⟩ := h.tuple
    · exact .base (.tup h1)
    · exact .fTuple h1
    · exact .kTuple h1 h2
  | dict kvs =>
    obtain ⟨a, _, rfl, h1 | ⟨o, h1⟩, _⟩ := h.dict
    · exact .base (.dK h1)
    · exact .fDict h1
theorem isi_one {d : D} {t : String} (h : isiTs.contains t = true) : PySem.W.kitOne K (.type (tyName d)) (.type t) = some (isiB (tyName d) t) := by
  refine kit_ty ?_
  have ht : t = "int" ∨ t = "bool" ∨ t = "tuple" ∨ t = "list" ∨ t = "str" ∨ t = "dict" := by simpa [isiTs] using h
  cases d <;> simp only [tyName] <;> rcases ht with rfl | rfl | rfl | rfl | rfl | rfl <;> decide +kernel
theorem isi_any {d : D} : ∀ {ts : List String}, ts.all (isiTs.contains ·) = true → PySem.W.kitAny K (.type (tyName d)) (ts.map .type) = some (ts.any fun t => isiB (tyName d) t)
  | [], _ => kitAny_nil
  | t :: ts, h => by
    simp only [List.all_cons, Bool.and_eq_true] at h
    refine kitAny_cons (isi_one h.1) (fun e => ?_) (fun e => ?_)
    · rw [List.any_cons, e, Bool.false_or]
      exact isi_any h.2
    · rw [List.any_cons, e, Bool.true_or]
theorem boot_ty {t : String} (h : isiTs.contains t = true) : bootBuiltins (Str.ofString t) = some (.type t) := by
  have ht : t = "int" ∨ t = "bool" ∨ t = "tuple" ∨ t = "list" ∨ t = "str" ∨ t = "dict" := by simpa [isiTs] using h
  rcases ht with rfl | rfl | rfl | rfl | rfl | rfl <;> decide +kernel
theorem isi_blt {t : String} (h : isiTs.contains t = true) : t ∈ bltNames := by
  have ht : t = "int" ∨ t = "bool" ∨ t = "tuple" ∨ t = "list" ∨ t = "str" ∨ t = "dict" := by simpa [isiTs] using h
  rcases ht with rfl | rfl | rfl | rfl | rfl | rfl <;> decide
variable {sc : Scope} {fn : Str → Bool} {N : List Str}
theorem cls_name (C : CtxOk X sc fn N R) {t : String} {x : Str} {p : Pos} (h : isiTs.contains t = true) (hx : x = Str.ofString t) (hg : glB sc x = true) : PE X (.Name x p) (tC (.ty t)) := by
  obtain ⟨g1, g2, g3⟩ := gl_of C hg
  subst hx
  exact pe_bltn g1 (C.bl t (isi_blt h)) (boot_ty h) rfl g3 g2
theorem cls_names (C : CtxOk X sc fn N R) : ∀ {ts : List String} {es : List Expr}, ts.all (isiTs.contains ·) = true → ts.length = es.length → ((ts.zip es).all fun p => match p.2 with
    | .Name n _ => decide (n = Str.ofString p.1) && glB sc n
    | _ => false) = true → PA X es (fun _ H Q => Q (ts.map V.ty) H)
  | [], [], _, _, _ => pa_imp pa_nil fun _ _ _ h => h
  | [], _ :: _, _, h, _ => by simp at h
  | _ :: _, [], _, h, _ => by simp at h
  | t :: ts, e :: es, h1, h2, h3 => by
    simp only [List.all_cons, Bool.and_eq_true, List.zip_cons_cons] at h1 h3
    cases e with
    | Name n p =>
      simp only [Bool.and_eq_true, decide_eq_true_eq] at h3
      exact pa_imp (pa_cons (cls_name C h1.1 h3.1.1 h3.1.2) (cls_names C h1.2 (by simpa using h2) h3.2)) fun _ _ _ h => h
    | _ => exact absurd h3.1 Bool.false_ne_true
theorem f_isi (C : CtxOk X sc fn N R) {ts : List String} {one : Bool} {a c : Expr} {o : O} {x : Str} {px pos : Pos} (hg : glB sc x = true) (hx : x = Str.ofString "isinstance") (hc : clsB sc ts one c = true) (ha : PE X a (tO X.K ms R XR o)) (hna : notStar a = true)
    : PE X (.Call (.Name x px) [a, c] [] pos) (tM X.K ms R XR (.prim (.isi ts one) (.cons o .nil))) := by
  obtain ⟨g1, g2, g3⟩ := gl_of C hg
  subst hx
  have hm : X.mg (Str.ofString "isinstance") = none := C.bl _ (by decide)
  have hb : bootBuiltins (Str.ofString "isinstance") = some (.builtin "isinstance") := by decide +kernel
  unfold clsB at hc
  simp only [Bool.and_eq_true, decide_eq_true_eq] at hc
  obtain ⟨⟨hlen, hts⟩, hc⟩ := hc
  cases one with
  | true =>
    match ts, hts, hc with
    | [t], hts, hc =>
      cases c with
      | Name n p =>
        simp only [Bool.and_eq_true, decide_eq_true_eq] at hc
        have ht : isiTs.contains t = true := by simpa using hts
        refine pe_imp (pe_callB call_isi g1 hm hb (pa_cons ha (pa_cons (cls_name C ht hc.1 hc.2) pa_nil) (star1 hna)) g3 g2 (star1 hna) rfl) fun σ H Q h => ?_
        obtain ⟨F, env, hK, r, w⟩ := core1 (as := .nil) h
        refine ⟨F, env, hK, r, W_mono w fun d env1 H1 f1 r1 h1 v hv => ?_⟩
        obtain ⟨S, ds, e, hS, ho, hrun, q⟩ := h1 v hv
        obtain ⟨d1, rfl, h2⟩ := ho.inv1
        simp only [Op.run, Op.runD, hts, if_true, Option.some.injEq] at hrun
        subst hrun
        refine ⟨v, .ty t, _, _, _, rfl, .ty t, ty_of h2, isi_one ht, ?_⟩
        have := q _ _ (Same.refl H1) (res_dt (.bl _))
        simpa using this
      | _ => exact absurd hc Bool.false_ne_true
    | [], _, hc => exact absurd hc Bool.false_ne_true
    | _ :: _ :: _, _, hc => exact absurd hc Bool.false_ne_true
  | false =>
    cases c with
    | Tuple es k p =>
      have hc' : (ts.length == es.length && (ts.zip es).all fun p => match p.2 with
        | .Name n _ => decide (n = Str.ofString p.1) && glB sc n
        | _ => false) = true := by
        match ts, hc with
        | [], hc => exact hc
        | [_], hc => exact hc
        | _ :: _ :: _, hc => exact hc
      simp only [Bool.and_eq_true, beq_iff_eq] at hc'
      refine pe_imp (pe_callB call_isiT g1 hm hb (pa_cons ha (pa_cons (pe_tup (cls_names C hts hc'.1 hc'.2)) pa_nil) (star1 hna)) g3 g2 (star1 hna) rfl) fun σ H Q h => ?_
      obtain ⟨F, env, hK, r, w⟩ := core1 (as := .nil) h
      refine ⟨F, env, hK, r, W_mono w fun d env1 H1 f1 r1 h1 v hv => ?_⟩
      obtain ⟨S, ds, e, hS, ho, hrun, q⟩ := h1 v hv
      obtain ⟨d1, rfl, h2⟩ := ho.inv1
      simp only [Op.run, Op.runD, hts, if_true, Option.some.injEq] at hrun
      subst hrun
      refine ⟨by rw [List.length_map]; exact Nat.le_trans hlen (by decide), fun p hp => ?_⟩
      have h3 : Db X.K S (upd H1 p (.tup (ts.map V.ty))) v d1 := by
        have sm := same_upd (o := .tup (ts.map V.ty)) hp
        rcases h2 with h2 | ⟨a, e, c⟩
        · exact .inl (h2.mono (.of_same sm))
        · exact .inr ⟨a, e, c.step (.of_same sm) (sm a)⟩
      have pc : ∀ l : List String, Paired ClsV (l.map V.ty) (l.map Value.type) := fun l => by
        induction l with
        | nil => exact .nil
        | cons t l ih => exact .cons (.ty t) ih
      exact ⟨v, p, ts.map V.ty, _, ts.map Value.type, _, rfl, upd_same, pc ts, ty_of h3, isi_any hts, q _ _ (same_upd hp) (res_dt (.bl _))⟩
    | _ => match ts, hc with
      | [], hc => exact absurd hc Bool.false_ne_true
      | [_], hc => exact absurd hc Bool.false_ne_true
      | _ :: _ :: _, hc => exact absurd hc Bool.false_ne_true

/-! ### a list of a range, a list turned about -/
theorem f_lrng (C : CtxOk X sc fn N R) {a : Expr} {o : O} {x y : Str} {px py p2 pos : Pos} (hg : glB sc x = true) (hx : x = Str.ofString "list") (hg2 : glB sc y = true) (hy : y = Str.ofString "range") (ha : PE X a (tO X.K ms R XR o)) (hna : notStar a = true)
    : PE X (.Call (.Name x px) [.Call (.Name y py) [a] [] p2] [] pos) (tM X.K ms R XR (.prim .lrng (.cons o .nil))) := by
  obtain ⟨g1, g2, g3⟩ := gl_of C hg
  obtain ⟨k1, k2, k3⟩ := gl_of C hg2
  subst hx hy
  refine pe_imp (pe_listRg C.calm g1 (C.bl _ (by decide)) (prg_1 k1 (C.bl _ (by decide)) ha (star1 hna)) rfl) fun σ H Q h => ?_
  obtain ⟨F, env, hK, r, w⟩ := core1 (as := .nil) h
  refine ⟨F, env, hK, r, W_mono w fun d env1 H1 f1 r1 h1 v hv => ?_⟩
  obtain ⟨S, ds, e, hS, ho, hrun, q⟩ := h1 v hv
  obtain ⟨d1, rfl, h2⟩ := ho.inv1
  cases d1 <;> simp only [Op.run, Op.runD] at hrun <;> first | (cases hrun; done) | skip
  split at hrun
  · rename_i hz
    cases hrun
    refine ⟨_, h2.int, ⟨by omega, by omega, hz.1, hz.2.1, by have := hz.2.2; omega⟩, fun p hp => q _ _ (same_upd hp) ?_⟩
    have e1 : rgV 0 ‹Int› = (((List.range (Int.toNat ‹Int›)).map fun k : Nat => (0 + (k : Int))).map V.int) := by
      unfold rgV
      rw [List.map_map, Int.sub_zero]
      rfl
    have e2 : rangeD 0 (Int.toNat ‹Int›) = (((List.range (Int.toNat ‹Int›)).map fun k : Nat => (0 + (k : Int))).map PyData.int) := by
      unfold rangeD
      rw [List.map_map]
      rfl
    rw [e1, e2]
    exact new_lst hp (DtAll.of_ints _)
  · cases hrun
theorem f_reprT (C : CtxOk X sc fn N R) {as : As} {es : List Expr} {x : Str} {k : Nat} {px p2 pos : Pos} (hg : glB sc x = true) (hx : x = Str.ofString "repr") (hs : PEs X X.K ms R XR as es)
    : PE X (.Call (.Name x px) [.Tuple es k p2] [] pos) (tM X.K ms R XR (.prim .reprT as)) := by
  obtain ⟨g1, g2, g3⟩ := gl_of C hg
  subst hx
  have hu := C.un
  refine pe_imp (pe_callB (s_reprD hu C.gu) g1 (C.bl _ (by decide)) (by decide +kernel) (pa_cons (pe_tupX hs.pa) pa_nil (star1 rfl)) g3 g2 (star1 rfl) rfl) fun σ H Q h => ?_
  obtain ⟨F, env, hK, r, w⟩ := coreA h
  refine ⟨F, env, hK, r, W_mono w fun ds env1 H1 f1 r1 h1 vs hv => ?_⟩
  obtain ⟨S, es', d, hS, ho, hrun, q⟩ := h1 vs hv
  simp only [Op.run, Op.runD] at hrun
  split at hrun
  · rename_i hz
    cases hrun
    have hl := ho.length
    refine ⟨by omega, fun p ob hp hob => ⟨fun _ => False, .ref p, .tuple es', rfl, ?_, hz.1, hz.2.1, hz.2.2.1, q _ _ (same_upd hp) (res_dt (.str _))⟩⟩
    exact .tup ⟨id, ob, upd_same, hob⟩ (ho.dt0.mono (.of_same (same_upd hp)))
  · cases hrun
theorem f_rev {fr : Bool} {a : Expr} {o : O} {k : Nat} {p1 p2 p3 pos : Pos} (ha : PE X a (tO X.K ms R XR o)) : PE X (.Subscript a (.Slice none none (some (.UnaryOp .USub (.Constant (.int 1) k p1) p2)) p3) pos) (tM X.K ms R XR (.prim (.rev fr) (.cons o .nil))) := by
  refine pe_imp (pe_revL ha) fun σ H Q h => ?_
  obtain ⟨F, env, hK, r, w⟩ := core1 (as := .nil) h
  refine ⟨F, env, hK, r, W_mono w fun d env1 H1 f1 r1 h1 v hv => ?_⟩
  obtain ⟨S, ds, e, hS, ho, hrun, q⟩ := h1 v hv
  obtain ⟨d1, rfl, h2⟩ := ho.inv1
  cases d1 <;> simp only [Op.run, Op.runD] at hrun <;> first | (cases hrun; done) | skip
  cases hrun
  obtain ⟨a, xs, rfl, ha, da⟩ := h2.list
  exact ⟨a, xs, rfl, ha.sq, fun p hp => q _ _ (same_upd hp) (new_lst' _ hS hp da.reverse)⟩
/-! ### slices -/
section
variable {fr : Bool} {a l u : Expr} {o p q : O} {p2 pos : Pos}
theorem f_slice0 (ha : PE X a (tO X.K ms R XR o)) : PE X (.Subscript a (.Slice none none none p2) pos) (tM X.K ms R XR (.prim (.slice fr false false) (.cons o .nil))) :=
  pe_imp (pe_slice (s_slice fr false false) ha po_none po_none) fun σ H Q h => by
    obtain ⟨F, env, hK, r, w⟩ := core1 (as := .nil) h
    refine ⟨F, env, hK, r, W_mono w fun d env1 H1 f1 r1 h1 v hv => ?_⟩
    obtain ⟨S, ds, e, hS, ho, hrun, k⟩ := h1 v hv
    obtain ⟨d1, rfl, h2⟩ := ho.inv1
    exact ⟨S, d1, [], e, hS, h2, rfl, hrun, k⟩
theorem f_sliceL (ha : PE X a (tO X.K ms R XR o)) (hl : PE X l (tO X.K ms R XR p)) : PE X (.Subscript a (.Slice (some l) none none p2) pos) (tM X.K ms R XR (.prim (.slice fr true false) (.cons o (.cons p .nil)))) :=
  pe_imp (pe_slice (s_slice fr true false) ha (po_some hl) po_none) fun σ H Q h => by
    obtain ⟨F, env, hK, r, w⟩ := core2 h
    refine ⟨F, env, hK, r, W_mono w fun d env1 H1 f1 r1 h1 v hv => ?_⟩
    obtain ⟨F', env', hK', r', w'⟩ := h1 v hv
    refine ⟨F', env', hK', r', W_mono w' fun d env2 H2 f2 r2 h2 y hy => ?_⟩
    obtain ⟨S, ds, e, hS, ho, hrun, k⟩ := h2 y hy
    obtain ⟨d1, d2, rfl, h3, h4⟩ := ho.inv2
    have : ∃ i, d2 = .int i := by
      cases d1 <;> cases d2 <;> first | exact ⟨_, rfl⟩ | (cases fr <;> simp [Op.run, Op.runD] at hrun)
    obtain ⟨i, rfl⟩ := this
    exact ⟨i, h4.int, S, d1, [.int i], e, hS, h3, rfl, hrun, k⟩
theorem f_sliceU (ha : PE X a (tO X.K ms R XR o)) (hl : PE X l (tO X.K ms R XR p)) : PE X (.Subscript a (.Slice none (some l) none p2) pos) (tM X.K ms R XR (.prim (.slice fr false true) (.cons o (.cons p .nil)))) :=
  pe_imp (pe_slice (s_slice fr false true) ha po_none (po_some hl)) fun σ H Q h => by
    obtain ⟨F, env, hK, r, w⟩ := core2 h
    refine ⟨F, env, hK, r, W_mono w fun d env1 H1 f1 r1 h1 v hv => ?_⟩
    obtain ⟨F', env', hK', r', w'⟩ := h1 v hv
    refine ⟨F', env', hK', r', W_mono w' fun d env2 H2 f2 r2 h2 y hy => ?_⟩
    obtain ⟨S, ds, e, hS, ho, hrun, k⟩ := h2 y hy
    obtain ⟨d1, d2, rfl, h3, h4⟩ := ho.inv2
    have : ∃ i, d2 = .int i := by
      cases d1 <;> cases d2 <;> first | exact ⟨_, rfl⟩ | (cases fr <;> simp [Op.run, Op.runD] at hrun)
    obtain ⟨i, rfl⟩ := this
    exact ⟨i, h4.int, S, d1, [.int i], e, hS, h3, rfl, hrun, k⟩
theorem f_sl2 {m n : E} (ha : PE X a (tO X.K ms R XR o)) (hl : PE X l (tM X.K ms R XR m)) (hu : PE X u (tM X.K ms R XR n)) : PE X (.Subscript a (.Slice (some l) (some u) none p2) pos) (tM X.K ms R XR (.sl2 fr o m n)) :=
  pe_imp (pe_slice (s_slice fr true true) ha (po_some hl) (po_some hu)) fun σ H Q h => by
    obtain ⟨F, env, hK, r, w⟩ := h
    simp only [evE] at w
    refine ⟨F, env, hK, r, W_mono (W_bind w) fun d env1 H1 f1 r1 h1 v hv => ?_⟩
    refine ⟨F, env1, hK, r1, W_mono (W_bind h1) fun x env2 H2 f2 r2 h2 y hy => ?_⟩
    cases x with
    | int i =>
      have hy := hy.1.dt r1.tabT
      cases hy
      refine ⟨i, rfl, F, env2, hK, r2, W_mono (W_bind h2) fun x3 env3 H3 f3 r3 h3 z hz => ?_⟩
      cases x3 with
      | int j =>
        have hz := hz.1.dt r2.tabT
        cases hz
        have h3 : W F ms R XR σ (match fixO o d env3 with
          | some d' => match (Op.slice fr true true).run [d', .int i, .int j] with
            | some r => .ok r env3
            | none => .stuck
          | none => .stuck) H3 _ := h3
        cases e1 : fixO o d env3 with
        | none => rw [e1] at h3; exact False.elim h3
        | some d' =>
          rw [e1] at h3
          dsimp only at h3
          cases e2 : (Op.slice fr true true).run [d', .int i, .int j] with
          | none => rw [e2] at h3; exact False.elim h3
          | some rr =>
            rw [e2] at h3
            have hd : Db F.K (Tab F ms σ) H3 v d' := by
              have q : Opds F.K (Tab F ms σ) H3 [v] [d'] := opds_of (as := .cons o .nil) (ds := [d]) r3 (.cons ((hv.mono f2).mono f3) .nil) (by simp [fixA, e1])
              obtain ⟨d2, e, q⟩ := q.inv1
              cases e; exact q
            rw [← hK]
            refine ⟨j, rfl, Tab F ms σ, d', [.int i, .int j], rr, r3.tabT, hd, rfl, e2, fun v' H' sm rres => ?_⟩
            refine h3 H' (.of_same sm) (r3.same sm) v' ?_
            have e4 : (Op.slice fr true true).fresh = fr := by cases fr <;> rfl
            rw [e4] at rres
            exact ResM.of rres r3 sm fun a => ((f1.trans f2).trans f3).none_of r3
      | _ => exact False.elim h3
    | _ => exact False.elim h2
end
end
end MP

/-! MP: calls of the text's own defs. -/
namespace MP
open PySem L2

/-- a def keeps its promise, where no repr is under way -/
structure FnG (P : Program) (w : World) (K : PySem.W.Frag) (mg : Str → Option Value) (base : Heap) (CX : CXT) (k : Nat) (f : Addr) (fd : FuncData) (ps : List Str) (sp : Sp) : Prop where
  len : ∀ vs H Q E, sp vs H Q E → vs.length = ps.length
  run : ∀ (A : Around) (outer : List PySem.Env) (s : Shared) (H : Hp) (args : Args) (us : List Value) (vs : List V) (Q : VK) (E : XK), Room k A → A.guards = some [] → Env0 P w K mg base A outer s H → BindsTo s fd args (ps.zip us) → Vals vs us → sp vs H Q E →
    codeAny (model P w) A (.call (.ref f) args) (CR CX outer P w H s Q E) s
theorem FnG.mono {P : Program} {w : World} {K : PySem.W.Frag} {mg : Str → Option Value} {base : Heap} {CX : CXT} {j k : Nat} {f : Addr} {fd : FuncData} {ps : List Str} {sp : Sp} (F : FnG P w K mg base CX j f fd ps sp) (h : j ≤ k) :
    FnG P w K mg base CX k f fd ps sp := ⟨F.len, fun A outer s H args us vs Q E hr => F.run A outer s H args us vs Q E (hr.mono h)⟩

/-- the arguments of a call, by the parameters' modes -/
inductive ArgsRel (K : PySem.W.Frag) (S : Addr → Prop) (H : Hp) : List Bool → List V → List D → Prop
  | nil : ArgsRel K S H [] [] []
  | shr {pm : List Bool} {v : V} {vs : List V} {d : D} {ds : List D} : Dt K S H v d → ArgsRel K S H pm vs ds → ArgsRel K S H (false :: pm) (v :: vs) (d :: ds)
  | own {pm : List Bool} {a : Addr} {vs : List V} {d : D} {ds : List D} : S a → Cell K S H a d → ArgsRel K S H pm vs ds → ArgsRel K S H (true :: pm) (.ref a :: vs) (d :: ds)
/-- the addresses that a call may change -/
def InP (pm : List Bool) (vs : List V) (a : Addr) : Prop := ∃ j : Nat, pm[j]? = some true ∧ vs[j]? = some (.ref a)
/-- behind a call: the changed lists -/
def OutsRel (K : PySem.W.Frag) (S : Addr → Prop) (H' : Hp) : List Bool → List V → List D → Prop
  | [], [], outs => outs = []
  | true :: pm, v :: vs, outs => ∃ a d r, v = .ref a ∧ outs = d :: r ∧ Cell K S H' a d ∧ OutsRel K S H' pm vs r
  | false :: pm, _ :: vs, outs => OutsRel K S H' pm vs outs
  | _, _, _ => False
/-- a def's promise, by its mirror -/
def spM (K : PySem.W.Frag) (XR : XRel) (f : Fn) : Sp := fun vs H Q E => ∃ (ds : List D) (S : Addr → Prop), (∀ a, S a → H a ≠ none) ∧ ArgsRel K S H f.pm vs ds ∧
  (∀ (i j : Nat) a, f.pm[i]? = some true → f.pm[j]? = some true → vs[i]? = some (V.ref a) → vs[j]? = some (V.ref a) → i = j) ∧
  match f.run ds with
  | .ok d outs => ∀ v H', (∀ a o, H a = some o → ¬ InP f.pm vs a → H' a = some o) → OutsRel K S H' f.pm vs outs → ResRel f.own K S H H' v d → Q v H'
  | .exc c x outs => ∀ C dx H', (∀ a o, H a = some o → ¬ InP f.pm vs a → H' a = some o) → OutsRel K S H' f.pm vs outs → XR c x S H' C dx → E C dx H'
  | .stuck => False
theorem ArgsRel.len {K : PySem.W.Frag} {S : Addr → Prop} {H : Hp} {pm : List Bool} {vs : List V} {ds : List D} (h : ArgsRel K S H pm vs ds) : vs.length = pm.length ∧ ds.length = pm.length := by
  induction h with
  | nil => exact ⟨rfl, rfl⟩
  | shr _ _ ih => exact ⟨by simp [ih.1], by simp [ih.2]⟩
  | own _ _ _ ih => exact ⟨by simp [ih.1], by simp [ih.2]⟩
/-- the values that the parameters get -/
inductive PermR (K : PySem.W.Frag) (all : List Value) : List Pk → List Value → Prop
  | nil : PermR K all [] []
  | arg {j : Nat} {u : Value} {p : List Pk} {qs : List Value} : all[j]? = some u → PermR K all p qs → PermR K all (.arg j :: p) (u :: qs)
  | dfl {c : D} {v : V} {u : Value} {p : List Pk} {qs : List Value} : RelV v u → (∀ S H, Dt K S H v c) → PermR K all p qs → PermR K all (.dfl c :: p) (u :: qs)
inductive PermV (K : PySem.W.Frag) (all : List V) : List Pk → List V → Prop
  | nil : PermV K all [] []
  | arg {j : Nat} {v : V} {p : List Pk} {qs : List V} : all[j]? = some v → PermV K all p qs → PermV K all (.arg j :: p) (v :: qs)
  | dfl {c : D} {v : V} {p : List Pk} {qs : List V} : (∀ S H, Dt K S H v c) → PermV K all p qs → PermV K all (.dfl c :: p) (v :: qs)
theorem valsGet : ∀ {vs : List V} {us : List Value} {j : Nat} {u : Value}, Vals vs us → us[j]? = some u → ∃ v, vs[j]? = some v ∧ RelV v u
  | _, _, _, _, .nil, e => by simp at e
  | _, _, 0, _, .cons r _, e => by simp at e; subst e; exact ⟨_, rfl, r⟩
  | _, _, j + 1, u, .cons _ t, e => by
    obtain ⟨v, h1, h2⟩ := valsGet (j := j) t (by simpa using e)
    exact ⟨v, by simpa using h1, h2⟩
theorem PermR.vals {K : PySem.W.Frag} {all : List Value} {vs : List V} (r : Vals vs all) {p : List Pk} {qs : List Value} (h : PermR K all p qs) : ∃ qv, Vals qv qs ∧ PermV K vs p qv := by
  induction h with
  | nil => exact ⟨[], .nil, .nil⟩
  | arg e _ ih =>
    obtain ⟨qv, h1, h2⟩ := ih
    obtain ⟨v, e1, e2⟩ := valsGet r e
    exact ⟨v :: qv, .cons e2 h1, .arg e1 h2⟩
  | dfl e d _ ih =>
    obtain ⟨qv, h1, h2⟩ := ih
    exact ⟨_ :: qv, .cons e h1, .dfl d h2⟩
/-- how a call of that shape binds -/
def KB (K : PySem.W.Frag) (fd : FuncData) (ps : List Str) (sh : Nat × List Str × List Pk) : Prop := ∀ (s : Shared) (us ws : List Value), K.In s.heap → us.length = sh.1 → ws.length = sh.2.1.length →
  ∃ qs, BindsTo s fd ⟨us, sh.2.1.zip ws⟩ (ps.zip qs) ∧ PermR K (us ++ ws) sh.2.2 qs
/-- what a call of f asks of its context -/
structure CallOk (X : Cx) (XR : XRel) (f : Fn) : Prop where
  ex : ∃ (k : Nat) (ad : Addr) (fd : FuncData) (ps : List Str), FnG X.prog X.w X.K X.mg X.base (L2.CX X.prog X.w) k ad fd ps (spM X.K XR f) ∧ Room k X.A ∧ X.mg f.name = some (.ref ad) ∧ PySem.W.keepIn X.K (.ref ad) = true ∧ (f.pos = true → Binds X.K fd ps []) ∧ ps.length = f.pm.length ∧ ∀ sh ∈ f.kw, KB X.K fd ps sh

section
variable {X : Cx} {k : Nat} {f : Addr} {fd : FuncData} {ps : List Str} {sp : Sp} {R : WX} {x : Str} {p pos : Pos} {e : Expr} {es : List Expr} {t : TA}
/-- the callee runs -/
theorem run_g {pins : List (Addr × Obj)} {σ : St} {H : Hp} {s : Shared} {Q : VK} {us : List Value} {vs : List V} (F : FnG X.prog X.w X.K X.mg X.base (L2.CX X.prog X.w) k f fd ps sp) (hr : Room k X.A) (hgu : X.A.guards = some []) (hb : Binds X.K fd ps []) (tk : Takes X R)
    (I : Inv X pins σ H s) (r : Vals vs us) (h : sp vs H Q (fun c d H' => R c d σ H')) : wpAny (model X.prog X.w) X.A (call (.ref f) us) (EP X pins σ Q) X.xe s := by
  have hl : (us ++ []).length = ps.length := by
    rw [List.append_nil, ← r.length]
    exact F.len _ _ _ _ h
  have hb2 := hb s us I.kIn hl
  rw [List.append_nil] at hb2
  refine wpAny_call (codeAny_mono (F.run X.A X.stack s H ⟨us, []⟩ us vs Q _ hr hgu I.env0 hb2 r h) fun r s' hq => ?_)
  cases r with
  | error e => exact tk e s' (XE.of_call I (fun cls d H' h => h) hq)
  | ok fl =>
    cases fl with
    | ret u => exact I.after hq
    | next => exact False.elim hq
    | brk => exact False.elim hq
    | cont => exact False.elim hq
theorem pe_callG (F : FnG X.prog X.w X.K X.mg X.base (L2.CX X.prog X.w) k f fd ps sp) (hr : Room k X.A) (hgu : X.A.guards = some []) (hg : Gl X x) (hm : X.mg x = some (.ref f)) (hk : PySem.W.keepIn X.K (.ref f) = true) (hb : Binds X.K fd ps []) (tk : Takes X R)
    (ha : PA X (e :: es) t) (hdb : (x == ("__debug__" : Str)) = false) (he : starEach (e :: es) X.env = (false, eval e X.env) :: starEach es X.env) (hpl : (backTo pos (starEach es X.env)).any (·.1) = false) :
    PE X (.Call (.Name x p) (e :: es) [] pos) (fun σ H Q => t σ H fun vs H1 => sp vs H1 Q (fun c d H' => R c d σ H')) := by
  refine ⟨fun pins s σ H Q I h => ?_⟩
  refine wpAny_Call_Name_kw (ld_glob I hg hm ?_ hdb)
  refine PySem.W.callWith_K (h₀ := X.base) I.ok.mod.kin hk (thn (ha.run pos pins s σ H _ I h) fun us s1 ⟨vs, H1, I1, r, q⟩ => ⟨I1.kIn, ?_⟩) he hpl
  exact run_g F hr hgu hb tk I1 r q
theorem pe_callG0 (F : FnG X.prog X.w X.K X.mg X.base (L2.CX X.prog X.w) k f fd ps sp) (hr : Room k X.A) (hgu : X.A.guards = some []) (hg : Gl X x) (hm : X.mg x = some (.ref f)) (hk : PySem.W.keepIn X.K (.ref f) = true) (hb : Binds X.K fd ps []) (tk : Takes X R)
    (hdb : (x == ("__debug__" : Str)) = false) :
    PE X (.Call (.Name x p) [] [] pos) (fun σ H Q => sp [] H Q (fun c d H' => R c d σ H')) := by
  refine ⟨fun pins s σ H Q I h => ?_⟩
  refine wpAny_Call_Name_kw (ld_glob I hg hm ?_ hdb)
  exact PySem.W.callWith_K0 I.kIn hk (run_g (us := []) F hr hgu hb tk I .nil h)
end

/-! ### a call with keywords -/
section
variable {X : Cx} {k : Nat} {f : Addr} {fd : FuncData} {ps : List Str} {sp : Sp} {R : WX} {x : Str} {p pos : Pos} {e : Expr} {es : List Expr} {kws : List Keyword} {t tk : TA} {sh : Nat × List Str × List Pk}
def tCallKG (K : PySem.W.Frag) (sh : Nat × List Str × List Pk) (sp : Sp) (R : WX) (t tk : TA) : TE := fun σ H Q => t σ H fun vs H1 => tk σ H1 fun zs H2 => vs.length = sh.1 ∧ zs.length = sh.2.1.length ∧ ∀ qv, PermV K (vs ++ zs) sh.2.2 qv → sp qv H2 Q (fun c d H' => R c d σ H')
theorem run_kg {pins : List (Addr × Obj)} {σ : St} {H : Hp} {s : Shared} {Q : VK} {us ws : List Value} {vs zs : List V} (F : FnG X.prog X.w X.K X.mg X.base (L2.CX X.prog X.w) k f fd ps sp) (hr : Room k X.A) (hgu : X.A.guards = some []) (hb : KB X.K fd ps sh) (tk : Takes X R)
    (I : Inv X pins σ H s) (r : Vals vs us) (rz : Vals zs ws) (l1 : vs.length = sh.1) (l2 : zs.length = sh.2.1.length) (h : ∀ qv, PermV X.K (vs ++ zs) sh.2.2 qv → sp qv H Q (fun c d H' => R c d σ H')) : wpAny (model X.prog X.w) X.A (call (.ref f) us (sh.2.1.zip ws)) (EP X pins σ Q) X.xe s := by
  obtain ⟨qs, hb1, hb2⟩ := hb s us ws I.kIn (r.length.symm.trans l1) (rz.length.symm.trans l2)
  obtain ⟨qv, g1, g2⟩ := hb2.vals (r.append rz)
  refine wpAny_call (codeAny_mono (F.run X.A X.stack s H ⟨us, sh.2.1.zip ws⟩ qs qv Q _ hr hgu I.env0 hb1 g1 (h qv g2)) fun r s' hq => ?_)
  cases r with
  | error e => exact tk e s' (XE.of_call I (fun cls d H' h => h) hq)
  | ok fl =>
    cases fl with
    | ret u => exact I.after hq
    | next => exact False.elim hq
    | brk => exact False.elim hq
    | cont => exact False.elim hq
theorem pe_callKG (F : FnG X.prog X.w X.K X.mg X.base (L2.CX X.prog X.w) k f fd ps sp) (hr : Room k X.A) (hgu : X.A.guards = some []) (hg : Gl X x) (hm : X.mg x = some (.ref f)) (hk : PySem.W.keepIn X.K (.ref f) = true) (hb : KB X.K fd ps sh) (tak : Takes X R)
    (ha : PA X (e :: es) t) (hkw : PK X kws tk) (hall : (backToKw pos (keywordEach kws X.env)).all (·.1.isSome) = true) (hks : (backToKw pos (keywordEach kws X.env)).filterMap (·.1) = sh.2.1) (hnn : (backToKw pos (keywordEach kws X.env)).any (·.1.isNone) = false)
    (hdb : (x == ("__debug__" : Str)) = false) (hst : ∀ e' ∈ e :: es, notStar e' = true) : PE X (.Call (.Name x p) (e :: es) kws pos) (tCallKG X.K sh sp R t tk) := by
  refine ⟨fun pins s σ H Q I h => ?_⟩
  have hpl : ((backTo pos (starEach (e :: es) X.env)).any (·.1) || (backToKw pos (keywordEach kws X.env)).any (·.1.isNone)) = false := by rw [star_plain hst, hnn]; rfl
  refine wpAny_Call_Name_kw (ld_glob I hg hm ?_ hdb)
  refine PySem.W.callWith_KW (h₀ := X.base) I.ok.mod.kin hk hall (thn (ha.run pos pins s σ H _ I h) fun us s1 ⟨vs, H1, I1, r, q⟩ => ?_) hpl (star1 (hst e List.mem_cons_self))
  refine thn (hkw.run pos pins s1 σ H1 _ I1 q) fun ws s2 ⟨zs, H2, I2, rz, l1, l2, q2⟩ => ⟨I2.kIn, ?_⟩
  rw [hks]
  exact run_kg F hr hgu hb tak I2 r rz l1 l2 q2
theorem pe_callKG0 (F : FnG X.prog X.w X.K X.mg X.base (L2.CX X.prog X.w) k f fd ps sp) (hr : Room k X.A) (hgu : X.A.guards = some []) (hg : Gl X x) (hm : X.mg x = some (.ref f)) (hk : PySem.W.keepIn X.K (.ref f) = true) (hb : KB X.K fd ps sh) (tak : Takes X R)
    (hkw : PK X kws tk) (hall : (backToKw pos (keywordEach kws X.env)).all (·.1.isSome) = true) (hks : (backToKw pos (keywordEach kws X.env)).filterMap (·.1) = sh.2.1) (hnn : (backToKw pos (keywordEach kws X.env)).any (·.1.isNone) = false)
    (hdb : (x == ("__debug__" : Str)) = false) : PE X (.Call (.Name x p) [] kws pos) (fun σ H Q => tk σ H fun zs H2 => 0 = sh.1 ∧ zs.length = sh.2.1.length ∧ ∀ qv, PermV X.K zs sh.2.2 qv → sp qv H2 Q (fun c d H' => R c d σ H')) := by
  refine ⟨fun pins s σ H Q I h => ?_⟩
  have hpl : ((backTo pos (starEach [] X.env)).any (·.1) || (backToKw pos (keywordEach kws X.env)).any (·.1.isNone)) = false := by rw [hnn]; rfl
  refine wpAny_Call_Name_kw (ld_glob I hg hm ?_ hdb)
  refine PySem.W.callWith_KW0 (h₀ := X.base) I.ok.mod.kin hk hall (thn (hkw.run pos pins s σ H _ I h) fun ws s2 ⟨zs, H2, I2, rz, l1, l2, q2⟩ => ⟨I2.kIn, ?_⟩) hpl
  rw [hks]
  exact run_kg (us := []) (vs := []) F hr hgu hb tak I2 .nil rz l1 l2 q2
end

/-! ### the arguments of a call -/
section
variable {F : Fx} {ms : List Bool} {env : Env} {σ : St} {H H' : Hp}
/-- own operands at own parameters alone change; a lent list is read -/
def modesB (ms : List Bool) : List Bool → As → Bool
  | [], .nil => true
  | false :: pm, .cons _ r => modesB ms pm r
  | true :: pm, .cons (.own _) r => modesB ms pm r
  | _, _ => false
/-- no own slot twice -/
def distB (l : List Nat) : Bool := match l with
  | [] => true
  | i :: l => !l.contains i && distB l
theorem distB_nd : ∀ {l : List Nat}, distB l = true → l.Nodup
  | [], _ => .nil
  | i :: l, h => by
    simp only [distB, Bool.and_eq_true, Bool.not_eq_true', List.contains_eq_mem, decide_eq_false_iff_not] at h
    exact List.nodup_cons.mpr ⟨h.1, distB_nd h.2⟩
/-- the addresses that the callee may neither read as data nor change: ours but those that are lent -/
def Kept (F : Fx) (ms : List Bool) (σ : St) (os : List (Option Nat)) (pm : List Bool) (a : Addr) : Prop :=
  Tab F ms σ a ∧ ¬ ∃ (j i : Nat), pm[j]? = some false ∧ os[j]? = some (some i) ∧ ms[i]? = some true ∧ σ[i]? = some (some (.ref a))
theorem owns_at : ∀ {as : As} {vs : List V} {ds : List D}, AsRel F ms σ H as vs ds → ∀ (j i : Nat), as.owns[j]? = some (some i) → ms[i]? = some true ∧ ∃ v, vs[j]? = some v ∧ σ[i]? = some (some v)
  | _, _, _, .nil, j, i, e => by simp [As.owns] at e
  | _, _, _, .cons (o := o) (v := v) h t, 0, i, e => by
    cases o with
    | val m => simp [As.owns, O.slot] at e
    | own i' =>
      simp [As.owns, O.slot] at e
      subst e
      exact ⟨h.1, v, rfl, h.2⟩
  | _, _, _, .cons h t, j + 1, i, e => by
    obtain ⟨h1, v, h2, h3⟩ := owns_at t j i (by simpa [As.owns] using e)
    exact ⟨h1, v, by simpa using h2, h3⟩
theorem owns_get : ∀ {as : As} {ds es : List D}, fixA as ds env = some es → ∀ (j i : Nat), as.owns[j]? = some (some i) → es[j]? = getE env i
  | .nil, [], es, h, j, i, e => by simp [As.owns] at e
  | .nil, _ :: _, es, h, j, i, e => by simp [fixA] at h
  | .cons _ _, [], es, h, j, i, e => by simp [fixA] at h
  | .cons o r, d :: ds, es, h, j, i, e => by
    simp only [fixA] at h
    obtain ⟨x, e1, e2⟩ := Option.bind_eq_some_iff.mp h
    obtain ⟨xs, e3, e4⟩ := Option.map_eq_some_iff.mp e2
    subst e4
    cases j with
    | zero =>
      cases o with
      | val m => simp [As.owns, O.slot] at e
      | own i' =>
        simp [As.owns, O.slot] at e
        subst e
        simp only [fixO] at e1
        rw [e1]
        rfl
    | succ j =>
      have := owns_get e3 j i (by simpa [As.owns] using e)
      simpa using this
theorem nd_owns : ∀ {l : List (Option Nat)} {j j' i : Nat}, (l.filterMap id).Nodup → l[j]? = some (some i) → l[j']? = some (some i) → j = j'
  | [], j, j', i, _, h1, _ => by simp at h1
  | none :: l, j, j', i, nd, h1, h2 => by
    cases j with
    | zero => simp at h1
    | succ j =>
      cases j' with
      | zero => simp at h2
      | succ j' => exact congrArg Nat.succ (nd_owns (l := l) (i := i) (by simpa using nd) (by simpa using h1) (by simpa using h2))
  | some x :: l, j, j', i, nd, h1, h2 => by
    simp only [List.filterMap_cons, id] at nd
    obtain ⟨n1, n2⟩ := List.nodup_cons.mp nd
    have mem : ∀ {k : Nat}, l[k]? = some (some i) → i ∈ l.filterMap id := fun {k} q => List.mem_filterMap.mpr ⟨some i, List.mem_of_getElem? q, rfl⟩
    cases j with
    | zero =>
      simp at h1
      subst h1
      cases j' with
      | zero => rfl
      | succ j' => exact absurd (mem (by simpa using h2)) n1
    | succ j =>
      cases j' with
      | zero =>
        simp at h2
        subst h2
        exact absurd (mem (by simpa using h1)) n1
      | succ j' => exact congrArg Nat.succ (nd_owns (i := i) n2 (by simpa using h1) (by simpa using h2))
/-- what the callee is handed -/
theorem args_of (r : Rel F ms env σ H) {pm0 : List Bool} {os0 : List (Option Nat)} (S : Addr → Prop) (hS : S = Kept F ms σ os0 pm0) : ∀ {pm : List Bool} {as : As} {vs : List V} {ds es : List D} (n : Nat), AsRel F ms σ H as vs ds → fixA as ds env = some es → modesB ms pm as = true →
    (∀ j : Nat, pm[j]? = pm0[n + j]?) → (∀ j : Nat, as.owns[j]? = os0[n + j]?) → (os0.filterMap id).Nodup → ArgsRel F.K S H pm vs es
  | [], .nil, _, _, _, n, .nil, e, _, _, _, _ => by simp [fixA] at e; subst e; exact .nil
  | [], .cons _ _, _, _, _, n, _, _, m, _, _, _ => by simp [modesB] at m
  | b :: pm, .nil, _, _, _, n, _, _, m, _, _, _ => by cases b <;> simp [modesB] at m
  | b :: pm, .cons o as, v :: vs, d :: ds, es, n, .cons h t, e, m, hp, ho, nd => by
    simp only [fixA] at e
    obtain ⟨x, e1, e2⟩ := Option.bind_eq_some_iff.mp e
    obtain ⟨xs, e3, e4⟩ := Option.map_eq_some_iff.mp e2
    subst e4
    have weak : Ext (Tab F ms σ) H S H := fun a o n e => ⟨fun z => n (by rw [hS] at z; exact z.1), e⟩
    have rest : modesB ms pm as = true → ArgsRel F.K S H pm vs xs := fun m' => args_of r S hS (n + 1) t e3 m' (fun j => by have := hp (j + 1); rw [Nat.add_assoc, Nat.add_comm 1 j]; simpa using this) (fun j => by have := ho (j + 1); rw [Nat.add_assoc, Nat.add_comm 1 j]; simpa [As.owns] using this) nd
    have p0 : pm0[n]? = some b := by have := hp 0; simpa using this.symm
    cases b with
    | false =>
      refine .shr ?_ (rest (by cases o <;> exact m))
      cases o with
      | val q =>
        simp only [fixO, Option.some.injEq] at e1
        subst e1
        exact Dt.mono weak h
      | own i =>
        have o0 : os0[n]? = some (some i) := by have := ho 0; simpa [As.owns, O.slot] using this.symm
        simp only [fixO] at e1
        obtain ⟨a, h1, c⟩ := r.own i x e1 h.1
        have h5 := h.2
        rw [h1] at h5; cases h5
        have nS : ¬ S a := fun z => by
          rw [hS] at z
          exact z.2 ⟨n, i, p0, o0, h.1, h1⟩
        rcases c with ⟨ys, zs, h2, h3, h4⟩ | ⟨kds, h2, h3, h4⟩
        · subst h2
          exact .lst (.inl ⟨nS, .inl h3⟩) (h4.mono weak)
        · subst h2
          exact .dctP nS (.inl h3) h4
    | true =>
      cases o with
      | val q => simp [modesB] at m
      | own i =>
        have o0 : os0[n]? = some (some i) := by have := ho 0; simpa [As.owns, O.slot] using this.symm
        simp only [fixO] at e1
        obtain ⟨a, h1, c⟩ := r.own i x e1 h.1
        have h5 := h.2
        rw [h1] at h5; cases h5
        refine .own ?_ (c.mono weak rfl) (rest m)
        rw [hS]
        refine ⟨.inr ⟨i, h.1, h1⟩, fun ⟨j', i', q1, q2, q3, q4⟩ => ?_⟩
        have ei := r.dis i i' a h.1 q3 h1 q4
        subst ei
        have ej := nd_owns nd o0 q2
        subst ej
        rw [p0] at q1; cases q1
theorem getE_set_self {env : Env} {i : Nat} {d : Option D} (h : i < env.length) : getE (env.set i d) i = d := by
  unfold getE
  rw [List.getElem?_set_self h]
  rfl
theorem getE_set_ne {env : Env} {i j : Nat} {d : Option D} (h : i ≠ j) : getE (env.set i d) j = getE env j := by
  unfold getE
  rw [List.getElem?_set_ne h]
theorem getE_lt {env : Env} {i : Nat} {d : D} (h : getE env i = some d) : i < env.length := by
  unfold getE at h
  by_cases q : i < env.length
  · exact q
  · rw [List.getElem?_eq_none (by omega)] at h
    cases h
/-- the changed lists are laid into the environment -/
theorem outs_put {K : PySem.W.Frag} {S : Addr → Prop} {Hx : Hp} : ∀ {pm : List Bool} {as : As} {vs : List V} {ds outs : List D} {env env' : Env}, AsRel F ms σ Hx as vs ds → modesB ms pm as = true → OutsRel K S H' pm vs outs → ((as.owns).filterMap id).Nodup →
    (∀ (j i : Nat), as.owns[j]? = some (some i) → i < env.length) → putAll env (inouts pm as.owns) outs = some env' →
    env'.length = env.length ∧ (∀ i : Nat, (¬ ∃ j : Nat, pm[j]? = some true ∧ as.owns[j]? = some (some i)) → getE env' i = getE env i) ∧
      ∀ (j i : Nat), pm[j]? = some true → as.owns[j]? = some (some i) → ∃ d a, getE env' i = some d ∧ vs[j]? = some (.ref a) ∧ Cell K S H' a d
  | [], .nil, _, _, outs, env, env', .nil, _, h, _, _, e => by
    simp only [OutsRel] at h
    subst h
    simp only [inouts, putAll, Option.some.injEq] at e
    subst e
    exact ⟨rfl, fun _ _ => rfl, fun j i q => by simp at q⟩
  | [], .cons _ _, _, _, _, _, _, _, m, _, _, _, _ => by simp [modesB] at m
  | b :: pm, .nil, _, _, _, _, _, _, m, _, _, _, _ => by cases b <;> simp [modesB] at m
  | false :: pm, .cons o as, v :: vs, d :: ds, outs, env, env', .cons h t, m, ho, nd, lt, e => by
    simp only [OutsRel] at ho
    have nd' : ((as.owns).filterMap id).Nodup := by
      cases o with
      | val q => simpa [As.owns, O.slot] using nd
      | own i => exact (List.nodup_cons.mp (by simpa [As.owns, O.slot] using nd)).2
    have e' : putAll env (inouts pm as.owns) outs = some env' := by
      cases o <;> simpa [As.owns, O.slot, inouts] using e
    obtain ⟨q1, q2, q3⟩ := outs_put t (by cases o <;> exact m) ho nd' (fun j i z => lt (j + 1) i (by simpa [As.owns] using z)) e'
    refine ⟨q1, fun i n => q2 i fun ⟨j, z1, z2⟩ => n ⟨j + 1, by simpa using z1, by simpa [As.owns] using z2⟩, fun j i z1 z2 => ?_⟩
    cases j with
    | zero => simp at z1
    | succ j =>
      obtain ⟨d', a, k1, k2, k3⟩ := q3 j i (by simpa using z1) (by simpa [As.owns] using z2)
      exact ⟨d', a, k1, by simpa using k2, k3⟩
  | true :: pm, .cons (.val q) as, _, _, _, _, _, _, m, _, _, _, _ => by simp [modesB] at m
  | true :: pm, .cons (.own i0) as, v :: vs, d :: ds, outs, env, env', .cons h t, m, ho, nd, lt, e => by
    simp only [OutsRel] at ho
    obtain ⟨a0, d0, r0, ev, eo, c0, ho⟩ := ho
    subst ev eo
    have nd0 : (i0 :: (as.owns).filterMap id).Nodup := by simpa [As.owns, O.slot] using nd
    obtain ⟨n1, n2⟩ := List.nodup_cons.mp nd0
    have e' : putAll (env.set i0 (some d0)) (inouts pm as.owns) r0 = some env' := by simpa [As.owns, O.slot, inouts, putAll] using e
    obtain ⟨q1, q2, q3⟩ := outs_put t m ho n2 (fun j i z => by rw [List.length_set]; exact lt (j + 1) i (by simpa [As.owns] using z)) e'
    have i0lt : i0 < env.length := lt 0 i0 (by simp [As.owns, O.slot])
    have i0no : ¬ ∃ j : Nat, pm[j]? = some true ∧ as.owns[j]? = some (some i0) := fun ⟨j, _, z2⟩ => n1 (List.mem_filterMap.mpr ⟨some i0, List.mem_of_getElem? z2, rfl⟩)
    refine ⟨by rw [q1, List.length_set], fun i n => ?_, fun j i z1 z2 => ?_⟩
    · rw [q2 i fun ⟨j, z1, z2⟩ => n ⟨j + 1, by simpa using z1, by simpa [As.owns] using z2⟩]
      exact getE_set_ne fun z => n ⟨0, rfl, by simp [As.owns, O.slot, z]⟩
    · cases j with
      | zero =>
        simp [As.owns, O.slot] at z2
        subst z2
        exact ⟨d0, a0, by rw [q2 i0 i0no]; exact getE_set_self i0lt, rfl, c0⟩
      | succ j =>
        obtain ⟨d', a, k1, k2, k3⟩ := q3 j i (by simpa using z1) (by simpa [As.owns] using z2)
        exact ⟨d', a, k1, by simpa using k2, k3⟩
theorem modes_own : ∀ {pm : List Bool} {as : As} {j : Nat}, modesB ms pm as = true → pm[j]? = some true → ∃ i, as.owns[j]? = some (some i)
  | [], _, j, _, h => by simp at h
  | b :: pm, .nil, j, m, h => by cases b <;> simp [modesB] at m
  | false :: pm, .cons o as, 0, m, h => by simp at h
  | true :: pm, .cons (.val _) as, j, m, h => by simp [modesB] at m
  | true :: pm, .cons (.own i) as, 0, m, h => ⟨i, by simp [As.owns, O.slot]⟩
  | false :: pm, .cons o as, j + 1, m, h => by
    obtain ⟨i, e⟩ := modes_own (as := as) (j := j) (by cases o <;> exact m) (by simpa using h)
    exact ⟨i, by simpa [As.owns] using e⟩
  | true :: pm, .cons (.own _) as, j + 1, m, h => by
    obtain ⟨i, e⟩ := modes_own (as := as) (j := j) m (by simpa using h)
    exact ⟨i, by simpa [As.owns] using e⟩
theorem no_lends : ∀ {pm : List Bool} {as : As} {j i : Nat}, lends pm as.owns = false → modesB ms pm as = true → pm[j]? = some false → as.owns[j]? = some (some i) → False
  | [], _, j, i, _, _, h, _ => by simp at h
  | b :: pm, .nil, j, i, _, m, h, _ => by cases b <;> simp [modesB] at m
  | false :: pm, .cons (.own i') as, j, i, l, m, h, e => by simp [As.owns, O.slot, lends] at l
  | false :: pm, .cons (.val q) as, 0, i, l, m, h, e => by simp [As.owns, O.slot] at e
  | true :: pm, .cons o as, 0, i, l, m, h, e => by simp at h
  | false :: pm, .cons (.val q) as, j + 1, i, l, m, h, e => no_lends (as := as) (j := j) (i := i) (by simpa [As.owns, O.slot, lends] using l) m (by simpa using h) (by simpa [As.owns] using e)
  | true :: pm, .cons (.val q) as, j + 1, i, l, m, h, e => by simp [modesB] at m
  | true :: pm, .cons (.own q) as, j + 1, i, l, m, h, e => no_lends (as := as) (j := j) (i := i) (by simpa [As.owns, O.slot, lends] using l) m (by simpa using h) (by simpa [As.owns] using e)
/-- the state behind a call -/
theorem rel_after {K : PySem.W.Frag} {pm : List Bool} {as : As} {vs : List V} {ds es outs : List D} {env' : Env} (hK : F.K = K) (r : Rel F ms env σ H) (h : AsRel F ms σ H as vs ds) (fx : fixA as ds env = some es) (m : modesB ms pm as = true) (nd : (as.owns.filterMap id).Nodup)
    (one : lends pm as.owns = false ∨ pm.all (!·) = true) (hf : ∀ a o, H a = some o → ¬ InP pm vs a → H' a = some o) (ho : OutsRel K (Kept F ms σ as.owns pm) H' pm vs outs) (e : putAll env (inouts pm as.owns) outs = some env') :
    FrP ms σ H H' ∧ Rel F ms env' σ H' := by
  have inp : ∀ a, InP pm vs a → ∃ i : Nat, (∃ j : Nat, pm[j]? = some true ∧ as.owns[j]? = some (some i)) ∧ ms[i]? = some true ∧ σ[i]? = some (some (.ref a)) := fun a ⟨j, z1, z2⟩ => by
    obtain ⟨i, e1⟩ := modes_own m z1
    obtain ⟨q1, v, q2, q3⟩ := owns_at h j i e1
    rw [z2] at q2; cases q2
    exact ⟨i, ⟨j, z1, e1⟩, q1, q3⟩
  have fr : FrP ms σ H H' := fun a o e n => hf a o e fun z => by
    obtain ⟨i, _, q1, q2⟩ := inp a z
    exact n ⟨i, q1, q2⟩
  have lt : ∀ (j i : Nat), as.owns[j]? = some (some i) → i < env.length := fun j i z => by
    obtain ⟨q1, v, q2, q3⟩ := owns_at h j i z
    obtain ⟨d, hd⟩ := r.liv i v q1 q3
    exact getE_lt hd
  obtain ⟨p1, p2, p3⟩ := outs_put h m ho nd lt e
  have mown : ∀ i : Nat, (∃ j : Nat, pm[j]? = some true ∧ as.owns[j]? = some (some i)) → ms[i]? = some true := fun i ⟨j, _, z⟩ => (owns_at h j i z).1
  have keptTab : pm.all (!·) = false → ∀ a, Tab F ms σ a → Kept F ms σ as.owns pm a := fun hp a ta => ⟨ta, fun ⟨j, i, z1, z2, z3, z4⟩ => by
    rcases one with l | l
    · exact no_lends l m z1 z2
    · rw [l] at hp; cases hp⟩
  refine ⟨fr, ⟨p1.trans r.len, fun i d e1 nm => ?_, fun i d e1 em => ?_, fun i v em e1 => ?_, r.dis, r.new, r.par, fun a z q => ?_, fun a o z n => ?_⟩⟩
  · rw [p2 i fun z => nm (mown i z)] at e1
    obtain ⟨v, h1, h2⟩ := r.shr i d e1 nm
    exact ⟨v, h1, h2.mono fr.ext⟩
  · by_cases z : ∃ j : Nat, pm[j]? = some true ∧ as.owns[j]? = some (some i)
    · obtain ⟨j, z1, z2⟩ := z
      obtain ⟨d', a, k1, k2, k3⟩ := p3 j i z1 z2
      rw [k1] at e1; cases e1
      obtain ⟨_, v, q2, q3⟩ := owns_at h j i z2
      rw [k2] at q2; cases q2
      have hp : pm.all (!·) = false := by
        cases q : pm.all (!·) with
        | false => rfl
        | true =>
          have := List.all_eq_true.mp q true (List.mem_of_getElem? z1)
          cases this
      subst hK
      exact ⟨a, q3, k3.mono (fun a o n e => ⟨fun ta => n (keptTab hp a ta), e⟩) rfl⟩
    · rw [p2 i z] at e1
      obtain ⟨a, h1, c⟩ := r.own i d e1 em
      refine ⟨a, h1, c.step fr.ext fun o h3 => hf a _ h3 fun q => ?_⟩
      obtain ⟨i', w1, w2, w3⟩ := inp a q
      have := r.dis i i' a em w2 h1 w3
      subst this
      exact z w1
  · obtain ⟨d, hd⟩ := r.liv i v em e1
    by_cases z : ∃ j : Nat, pm[j]? = some true ∧ as.owns[j]? = some (some i)
    · obtain ⟨j, z1, z2⟩ := z
      obtain ⟨d', a, k1, _, _⟩ := p3 j i z1 z2
      exact ⟨d', k1⟩
    · rw [p2 i z]
      exact ⟨d, hd⟩
  · have t := r.trk a z
    cases e1 : H a with
    | none => exact t e1
    | some o =>
      by_cases w : OwnA ms σ a
      · by_cases w2 : InP pm vs a
        · obtain ⟨i, ⟨j, z1, z2⟩, q1, q2⟩ := inp a w2
          obtain ⟨d', a', k1, k2, c⟩ := p3 j i z1 z2
          obtain ⟨o', k4, _⟩ := c.is
          obtain ⟨_, v, q3, q4⟩ := owns_at h j i z2
          rw [k2] at q3; cases q3
          rw [q2] at q4; cases q4
          rw [k4] at q; cases q
        · rw [hf a o e1 w2] at q; cases q
      · rw [fr a o e1 w] at q; cases q
  · have e1 := r.hold a o z n
    refine hf a o e1 fun w => ?_
    obtain ⟨i, _, q1, q2⟩ := inp a w
    rcases r.new a ⟨i, q1, q2⟩ with k | k
    · exact n k
    · rw [k] at z; cases z
/-- the result behind a call -/
theorem res_after {pm : List Bool} {as : As} {vs : List V} {ds : List D} {b : Bool} {d : D} {v : V} {K : PySem.W.Frag} (r : Rel F ms env σ H) (h : AsRel F ms σ H as vs ds) (m : modesB ms pm as = true) (hf : ∀ a o, H a = some o → ¬ InP pm vs a → H' a = some o)
    (one : lends pm as.owns = false ∨ pm.all (!·) = true) (pl : lends pm as.owns = false ∨ plainRes b d = true) (k : ResRel b K (Kept F ms σ as.owns pm) H H' v d) : ResRel b K (Tab F ms σ) H H' v d := by
  -- an address that is ours and not kept is lent: a list that stands
  have lent : ∀ a, Tab F ms σ a → ¬ Kept F ms σ as.owns pm a → lends pm as.owns = true ∧ ∃ o, Lk o ∧ H a = some o ∧ H' a = some o := fun a ta nk => by
    have : ∃ (j i : Nat), pm[j]? = some false ∧ as.owns[j]? = some (some i) ∧ ms[i]? = some true ∧ σ[i]? = some (some (.ref a)) := Classical.byContradiction fun z => nk ⟨ta, z⟩
    obtain ⟨j, i, z1, z2, z3, z4⟩ := this
    have l : lends pm as.owns = true := by
      cases q : lends pm as.owns with
      | true => rfl
      | false => exact (no_lends q m z1 z2).elim
    obtain ⟨xs, e, lk⟩ := r.ownT ⟨i, z3, z4⟩
    refine ⟨l, xs, lk, e, hf a _ e fun ⟨j', w1, w2⟩ => ?_⟩
    rcases one with o | o
    · rw [l] at o; cases o
    · have := List.all_eq_true.mp o true (List.mem_of_getElem? w1)
      cases this
  rcases pl with l | pl
  · -- nothing is lent
    have ext : Ext (Kept F ms σ as.owns pm) H' (Tab F ms σ) H' := fun a o n e => by
      refine ⟨fun ta => ?_, e⟩
      have := (lent a ta n).1
      rw [l] at this
      cases this
    unfold ResRel at k ⊢
    split at k
    · rename_i hb
      rw [if_pos hb]
      obtain ⟨p, e, hp, c⟩ := k
      refine ⟨p, e, hp, c.mono (fun a o n q => ⟨fun z => n ?_, q⟩) rfl⟩
      rcases z with z | z
      · exact .inl (Classical.byContradiction fun w => (ext a o w q).1 z)
      · exact .inr z
    · rename_i hb
      rw [if_neg hb]
      exact k.mono ext
  · have px : ∀ a o, ¬ Kept F ms σ as.owns pm a → H' a = some o → Tab F ms σ a → Lk o := fun a o n e ta => by
      obtain ⟨_, xs, lk, _, e2⟩ := lent a ta n
      rw [e] at e2
      cases e2
      exact lk
    unfold ResRel at k ⊢
    split at k
    · rename_i hb
      rw [if_pos hb]
      obtain ⟨p, e, hp, ⟨xs, zs, e1, e2, e3⟩ | ⟨kds, e1, e2, e3⟩⟩ := k
      case inr => exact ⟨p, e, hp, .inr ⟨kds, e1, e2, e3⟩⟩
      subst hb e1
      simp only [plainRes] at pl
      refine ⟨p, e, hp, .inl ⟨xs, zs, rfl, e2, DtAll.plain (S' := fun a => Tab F ms σ a ∨ a = p) (fun a o n q z => ?_) e3 pl⟩⟩
      rcases z with z | z
      · exact px a o (fun w => n (.inl w)) q z
      · exact absurd (.inr z) n
    · rename_i hb
      rw [if_neg hb]
      have pl' : noLst d = true := by
        cases b with
        | true => exact absurd rfl hb
        | false => simpa [plainRes] using pl
      exact Dt.plain px k pl'
end

/-! ### a call as an expression -/
section
variable {X : Cx} {sc : Scope} {fn : Str → Bool} {N : List Str} {R : WX} {XR : XRel} {ms : List Bool} {f : Fn} {as : As}
/-- what the text of a call must be for its mirror -/
def callB (ms : List Bool) (f : Fn) (as : As) : Bool := modesB ms f.pm as && distB (as.owns.filterMap id) && (!lends f.pm as.owns || f.pm.all (!·)) && (!f.own || f.pm.all (!·))
theorem inouts_none : ∀ {pm : List Bool} {os : List (Option Nat)}, pm.all (!·) = true → inouts pm os = []
  | [], os, _ => by cases os <;> rfl
  | true :: pm, os, h => by simp at h
  | false :: pm, [], _ => rfl
  | false :: pm, none :: os, h => by simp only [inouts]; exact inouts_none (by simpa using h)
  | false :: pm, some i :: os, h => by simp only [inouts]; exact inouts_none (by simpa using h)
theorem call_core {F : Fx} {env : Env} {σ : St} {H : Hp} {Q : VK} {vs : List V} {ds : List D} (hK : F.K = X.K) (hb : callB ms f as = true) (r : Rel F ms env σ H) (hv : AsRel F ms σ H as vs ds) {es : List D} (fx : fixA as ds env = some es)
    (w : W F ms R XR σ (runCall f as.owns es env) H fun d env' H' => ∀ v, ResM f.own F ms σ env' H H' v d → Q v H')
    (hxr2 : ∀ c x (S S' : Addr → Prop) H C dx, (∀ a o, ¬ S a → H a = some o → S' a → Lk o) → XR c x S H C dx → XR c x S' H C dx) :
    spM X.K XR f vs H Q (fun c d H' => R c d σ H') := by
  unfold callB at hb
  simp only [Bool.and_eq_true, Bool.or_eq_true, Bool.not_eq_true'] at hb
  obtain ⟨⟨⟨hm, hd⟩, one⟩, pure⟩ := hb
  have nd := distB_nd hd
  rw [← hK]
  refine ⟨es, Kept F ms σ as.owns f.pm, fun a z => r.tabT a z.1, args_of r _ rfl 0 hv fx hm (fun j => by rw [Nat.zero_add]) (fun j => by rw [Nat.zero_add]) nd, fun i j a h1 h2 h3 h4 => ?_, ?_⟩
  · obtain ⟨i1, e1⟩ := modes_own hm h1
    obtain ⟨j1, e2⟩ := modes_own hm h2
    obtain ⟨q1, v, q2, q3⟩ := owns_at hv i i1 e1
    obtain ⟨p1, u, p2, p3⟩ := owns_at hv j j1 e2
    rw [h3] at q2; cases q2
    rw [h4] at p2; cases p2
    have := r.dis i1 j1 a q1 p1 q3 p3
    subst this
    exact nd_owns nd e1 e2
  · unfold runCall at w
    cases e : f.run es with
    | ok d outs =>
      rw [e] at w
      dsimp only at w ⊢
      intro v H' hf ho hr
      split at w
      · exact False.elim w
      · rename_i hl
        cases e2 : putAll env (inouts f.pm as.owns) outs with
        | none => rw [e2] at w; exact False.elim w
        | some env' =>
          rw [e2] at w
          obtain ⟨fr, r'⟩ := rel_after rfl r hv fx hm nd one hf ho e2
          have plusR : f.own = true → ∀ p, v = .ref p → Rel (F.plus p) ms env' σ H' := fun hown p ev => by
            have ha : f.pm.all (!·) = true := by
              rcases pure with z | z
              · rw [hown] at z; cases z
              · exact z
            rw [inouts_none ha] at e2
            have e3 : env' = env := by
              cases outs with
              | nil => simp only [putAll, Option.some.injEq] at e2; exact e2.symm
              | cons _ _ => simp [putAll] at e2
            subst e3
            have sm : Same H H' := fun a o q => hf a o q fun ⟨j, z, _⟩ => by
              have := List.all_eq_true.mp ha true (List.mem_of_getElem? z)
              cases this
            unfold ResRel at hr
            rw [if_pos hown] at hr
            obtain ⟨p', e4, hp, c⟩ := hr
            obtain ⟨_, e5, _⟩ := c.is
            rw [ev] at e4; cases e4
            exact r.plusS hp sm (by rw [e5]; exact fun z => nomatch z)
          refine w H' fr r' v ⟨res_after r hv hm hf one ?_ hr, plusR⟩
          cases q : lends f.pm as.owns with
          | false => exact .inl rfl
          | true =>
            rw [q] at hl
            exact .inr (by simpa using hl)
    | exc c x outs =>
      rw [e] at w
      dsimp only at w ⊢
      intro C dx H' hf ho hx
      cases e2 : putAll env (inouts f.pm as.owns) outs with
      | none => rw [e2] at w; exact False.elim w
      | some env' =>
        rw [e2] at w
        obtain ⟨fr, r'⟩ := rel_after rfl r hv fx hm nd one hf ho e2
        refine w C dx H' fr r' (hxr2 c x _ _ H' C dx (fun a o n e ta => ?_) hx)
        have : ∃ (j i : Nat), f.pm[j]? = some false ∧ as.owns[j]? = some (some i) ∧ ms[i]? = some true ∧ σ[i]? = some (some (.ref a)) := Classical.byContradiction fun z => n ⟨ta, z⟩
        obtain ⟨j, i, z1, z2, z3, z4⟩ := this
        obtain ⟨xs, e3, lk⟩ := r.ownT ⟨i, z3, z4⟩
        have e4 := hf a _ e3 fun ⟨j', w1, w2⟩ => by
          rcases one with o | o
          · exact no_lends o hm z1 z2
          · have := List.all_eq_true.mp o true (List.mem_of_getElem? w1)
            cases this
        rw [e] at e4
        cases e4
        exact lk
    | stuck => rw [e] at w; exact False.elim w
end
end MP

/-! MP: targets, iterables, comprehensions. -/
namespace MP
open PySem L2

section
variable {F : Fx} {ms : List Bool} {env env' : Env} {σ σ' : St} {H H' : Hp}
/-- the own slots are the same -/
def SameO (ms : List Bool) (σ σ' : St) : Prop := ∀ i : Nat, ms[i]? = some true → σ'[i]? = σ[i]?
theorem SameO.owna (s : SameO ms σ σ') (a : Addr) : OwnA ms σ' a ↔ OwnA ms σ a :=
  ⟨fun ⟨i, h1, h2⟩ => ⟨i, h1, by rw [← s i h1]; exact h2⟩, fun ⟨i, h1, h2⟩ => ⟨i, h1, by rw [s i h1]; exact h2⟩⟩
theorem SameO.tab (s : SameO ms σ σ') : Tab F ms σ' = Tab F ms σ := funext fun a => propext ⟨fun h => h.imp id (s.owna a).mp, fun h => h.imp id (s.owna a).mpr⟩
theorem SameO.symm (s : SameO ms σ σ') : SameO ms σ' σ := fun i h => (s i h).symm
theorem SameO.refl : SameO ms σ σ := fun _ _ => rfl
theorem SameO.trans {σ2 : St} (s : SameO ms σ σ') (t : SameO ms σ' σ2) : SameO ms σ σ2 := fun i h => (t i h).trans (s i h)
theorem SameO.frp (s : SameO ms σ σ') (h : FrP ms σ H H') : FrP ms σ' H H' := fun a o e n => h a o e fun z => n ((s.owna a).mpr z)
/-- other slots, the own ones the same -/
theorem Rel.slots (r : Rel F ms env σ H) (s : SameO ms σ σ') (hl : env'.length = σ'.length) (he : ∀ i : Nat, ms[i]? = some true → getE env' i = getE env i)
    (hs : ∀ (i : Nat) d, getE env' i = some d → ms[i]? ≠ some true → ∃ v, σ'[i]? = some (some v) ∧ Dt F.K (Tab F ms σ) H v d) : Rel F ms env' σ' H where
  len := hl
  shr := fun i d e m => by rw [s.tab]; exact hs i d e m
  own := fun i d e m => by
    rw [he i m] at e
    obtain ⟨a, h1, h2⟩ := r.own i d e m
    exact ⟨a, by rw [s i m]; exact h1, by rw [s.tab]; exact h2⟩
  liv := fun i v m e => by
    rw [s i m] at e
    rw [he i m]
    exact r.liv i v m e
  dis := fun i j a m1 m2 e1 e2 => by
    rw [s i m1] at e1
    rw [s j m2] at e2
    exact r.dis i j a m1 m2 e1 e2
  new := fun a z => r.new a ((s.owna a).mp z)
  par := fun j v l m e => by rw [s j m]; exact r.par j v l m e
  trk := r.trk
  hold := r.hold
theorem set_same {i : Nat} {x : Option V} (h : ms[i]? ≠ some true) : SameO ms σ (σ.set i x) := fun j hj => by
  rw [List.getElem?_set_ne]
  exact fun z => h (by rw [z]; exact hj)
theorem Rel.put (r : Rel F ms env σ H) {i : Nat} {v : V} {d : D} (hi : i < σ.length) (hm : ms[i]? ≠ some true) (h : Dt F.K (Tab F ms σ) H v d) : Rel F ms (env.set i (some d)) (σ.set i (some v)) H := by
  refine r.slots (set_same hm) (by rw [List.length_set, List.length_set]; exact r.len) (fun j hj => getE_set_ne fun z => hm (by rw [z]; exact hj)) fun j e q m => ?_
  by_cases z : i = j
  · subst z
    rw [getE_set_self (by rw [r.len]; exact hi)] at q
    cases q
    exact ⟨v, List.getElem?_set_self hi, h⟩
  · rw [getE_set_ne z] at q
    obtain ⟨u, h1, h2⟩ := r.shr j e q m
    exact ⟨u, by rw [List.getElem?_set_ne z]; exact h1, h2⟩
/-- outside of vs the same -/
def Agree (vs : List Nat) (σ σ' : St) : Prop := σ'.length = σ.length ∧ ∀ i : Nat, i ∉ vs → σ'[i]? = σ[i]?
theorem Agree.refl {vs : List Nat} : Agree vs σ σ := ⟨rfl, fun _ _ => rfl⟩
theorem Agree.trans {vs : List Nat} {σ2 : St} (a : Agree vs σ σ') (b : Agree vs σ' σ2) : Agree vs σ σ2 := ⟨b.1.trans a.1, fun i h => (b.2 i h).trans (a.2 i h)⟩
theorem Agree.mono {vs ws : List Nat} (a : Agree vs σ σ') (h : ∀ i ∈ vs, i ∈ ws) : Agree ws σ σ' := ⟨a.1, fun i n => a.2 i fun z => n (h i z)⟩
theorem wipe_at (σ : St) : ∀ (vs : List Nat) (i : Nat), i < σ.length → (wipe σ vs)[i]? = if i ∈ vs then some none else σ[i]?
  | [], i, _ => by simp [wipe]
  | v :: vs, i, h => by
    unfold wipe
    have ih := wipe_at σ vs i h
    by_cases z : v = i
    · subst z
      rw [List.getElem?_set_self (by rw [wipe_length]; exact h)]
      simp
    · rw [List.getElem?_set_ne z, ih]
      have : i ∈ v :: vs ↔ i ∈ vs := by simp [Ne.symm z]
      simp only [this]
theorem wipe_lt (σ : St) (vs : List Nat) (i : Nat) (h : ¬ i < σ.length) : (wipe σ vs)[i]? = none := List.getElem?_eq_none (by rw [wipe_length]; omega)
theorem wipe_agree {vs : List Nat} (a : Agree vs σ σ') : wipe σ' vs = wipe σ vs := by
  refine List.ext_getElem? fun i => ?_
  by_cases h : i < σ.length
  · rw [wipe_at σ vs i h, wipe_at σ' vs i (by rw [a.1]; exact h)]
    by_cases z : i ∈ vs
    · rw [if_pos z, if_pos z]
    · rw [if_neg z, if_neg z, a.2 i z]
  · rw [wipe_lt σ vs i h, wipe_lt σ' vs i (by rw [a.1]; exact h)]
theorem agree_wipe {vs : List Nat} : Agree vs σ (wipe σ vs) := ⟨wipe_length σ vs, fun i n => by
  by_cases h : i < σ.length
  · rw [wipe_at σ vs i h, if_neg n]
  · rw [wipe_lt σ vs i h, List.getElem?_eq_none (by omega)]⟩
theorem wipe_wipe {vs : List Nat} : wipe (wipe σ vs) vs = wipe σ vs := wipe_agree agree_wipe
theorem wipe_same {vs : List Nat} (h : ∀ i ∈ vs, ms[i]? ≠ some true) : SameO ms σ (wipe σ vs) := fun i m => (agree_wipe (vs := vs)).2 i fun z => h i z m
theorem wipeE_length (env : Env) : ∀ vs : List Nat, (wipeE env vs).length = env.length
  | [] => rfl
  | v :: vs => by unfold wipeE; rw [List.length_set, wipeE_length env vs]
theorem wipeE_get (env : Env) : ∀ (vs : List Nat) (i : Nat), getE (wipeE env vs) i = if i ∈ vs then none else getE env i
  | [], i => by simp [wipeE]
  | v :: vs, i => by
    unfold wipeE
    have ih := wipeE_get env vs i
    by_cases z : v = i
    · subst z
      unfold getE
      rw [List.getElem?_set]
      simp
      split <;> rfl
    · rw [getE_set_ne z, ih]
      have : i ∈ v :: vs ↔ i ∈ vs := by simp [Ne.symm z]
      simp only [this]
theorem Rel.wiped (r : Rel F ms env σ H) {vs : List Nat} (h : ∀ i ∈ vs, ms[i]? ≠ some true) : Rel F ms (wipeE env vs) (wipe σ vs) H := by
  refine r.slots (wipe_same h) (by rw [wipeE_length, wipe_length]; exact r.len) (fun i m => ?_) fun i d e m => ?_
  · rw [wipeE_get, if_neg fun z => h i z m]
  · rw [wipeE_get] at e
    split at e
    · cases e
    · rename_i n
      obtain ⟨v, h1, h2⟩ := r.shr i d e m
      exact ⟨v, by rw [(agree_wipe (vs := vs)).2 i n]; exact h1, h2⟩
/-- the same, where the slots stand otherwise in vs -/
theorem Rel.wiped' (r : Rel F ms env σ' H) {vs : List Nat} (h : ∀ i ∈ vs, ms[i]? ≠ some true) (a : Agree vs σ σ') : Rel F ms (wipeE env vs) (wipe σ vs) H := by
  rw [← wipe_agree a]
  exact r.wiped h
theorem backE_length (old env : Env) : ∀ vs : List Nat, (backE old env vs).length = env.length
  | [] => rfl
  | v :: vs => by unfold backE; rw [List.length_set, backE_length old env vs]
theorem backE_get (old env : Env) (hl : old.length = env.length) : ∀ (vs : List Nat) (i : Nat), getE (backE old env vs) i = if i ∈ vs then getE old i else getE env i
  | [], i => by simp [backE]
  | v :: vs, i => by
    unfold backE
    have ih := backE_get old env hl vs i
    by_cases z : v = i
    · subst z
      by_cases h : v < env.length
      · rw [getE_set_self (by rw [backE_length]; exact h)]
        simp only [List.mem_cons, true_or, if_true]
        unfold getE
        cases old[v]? <;> rfl
      · have e1 : getE ((backE old env vs).set v ((old[v]?).getD none)) v = none := by
          unfold getE
          rw [List.getElem?_eq_none (by rw [List.length_set, backE_length]; omega)]
          rfl
        have e2 : getE old v = none := by
          unfold getE
          rw [List.getElem?_eq_none (by omega)]
          rfl
        rw [e1, e2]
        simp
    · rw [getE_set_ne z, ih]
      have : i ∈ v :: vs ↔ i ∈ vs := by simp [Ne.symm z]
      simp only [this]
/-- behind a comprehension -/
theorem Rel.back {old : Env} {vs : List Nat} (r0 : Rel F ms old σ H) (r : Rel F ms env (wipe σ vs) H') (h : ∀ i ∈ vs, ms[i]? ≠ some true) (fr : FrP ms σ H H') : Rel F ms (backE old env vs) σ H' := by
  have hl : old.length = env.length := by rw [r0.len, r.len, wipe_length]
  have so := wipe_same (σ := σ) h
  refine r.slots so.symm (by rw [backE_length, ← hl]; exact r0.len) (fun i m => ?_) fun i d e m => ?_
  · rw [backE_get old env hl, if_neg fun z => h i z m]
  · rw [so.tab]
    rw [backE_get old env hl] at e
    split at e
    · obtain ⟨v, h1, h2⟩ := r0.shr i d e m
      exact ⟨v, h1, h2.mono fr.ext⟩
    · rename_i n
      obtain ⟨v, h1, h2⟩ := r.shr i d e m
      rw [so.tab] at h2
      exact ⟨v, by rw [← (agree_wipe (vs := vs)).2 i n]; exact h1, h2⟩
end

/-! ### targets -/
section
variable {X : Cx} {sc : Scope} {fn : Str → Bool} {N : List Str} {R : WX} {XR : XRel} {ms : List Bool}
theorem pg_imp {e : Expr} {t t' : TG} (h : PG X e t) (w : ∀ v σ H Q, σ.length = X.N.length → t' v σ H Q → t v σ H Q) : PG X e t' := ⟨fun pins s σ H v u Q I r q => h.run pins s σ H v u Q I r (w v σ H Q I.len q)⟩
def locB (sc : Scope) (fn : Str → Bool) (x : Str) : Bool := okName x && (match sc.names.lookup x with
  | some .local => true
  | some .cell => fn x
  | _ => false)
theorem loc_of (C : CtxOk X sc fn N R) {x : Str} (h : locB sc fn x = true) : Loc X.env.scope x ∧ (X.fn x = true ∨ X.env.scope.names.lookup x = some .local) := by
  unfold locB at h
  simp only [Bool.and_eq_true] at h
  obtain ⟨_, h4⟩ := h
  rw [C.sc, C.fn]
  split at h4
  · rename_i e
    exact ⟨.inl e, .inr e⟩
  · rename_i e
    exact ⟨.inr e, .inl h4⟩
  · cases h4
def shrB (ms : List Bool) (i : Nat) : Bool := match ms[i]? with
  | some false => true
  | _ => false
def ownB (ms : List Bool) (i : Nat) : Bool := match ms[i]? with
  | some true => true
  | _ => false
theorem shr_ne {i : Nat} (h : shrB ms i = true) : ms[i]? ≠ some true := fun e => by
  unfold shrB at h
  rw [e] at h
  cases h
theorem own_eq {i : Nat} (h : ownB ms i = true) : ms[i]? = some true := by
  unfold ownB at h
  split at h
  · assumption
  · cases h
def nameB (N : List Str) (i : Nat) (x : Str) : Bool := match N[i]? with
  | some y => decide (y = x)
  | none => false
theorem name_eq {i : Nat} {x : Str} (h : nameB N i x = true) : N[i]? = some x := by
  unfold nameB at h
  split at h
  · rename_i e
    rw [e, of_decide_eq_true h]
  · cases h
def chkG (N : List Str) (ms : List Bool) (sc : Scope) (fn : Str → Bool) : T → Expr → Bool
  | .name i, e => match e with
    | .Name x _ => nameB N i x && locB sc fn x && shrB ms i
    | _ => false
  | .two a b, e => match e with
    | .Tuple [x, y] _ _ => chkG N ms sc fn a x && chkG N ms sc fn b y
    | _ => false
  | .three a b c, e => match e with
    | .Tuple [x, y, z] _ _ => chkG N ms sc fn a x && chkG N ms sc fn b y && chkG N ms sc fn c z
    | _ => false
theorem chkG_star {t : T} {e : Expr} (h : chkG N ms sc fn t e = true) : notStar e = true := by
  cases t <;> cases e <;> first | rfl | (simp [chkG] at h)
theorem chkG_slots : ∀ {t : T} {e : Expr}, chkG N ms sc fn t e = true → ∀ i ∈ t.slots, ms[i]? ≠ some true
  | .name i, e, h, j, hj => by
    cases e <;> simp [chkG] at h
    simp [T.slots] at hj
    subst hj
    exact shr_ne h.2
  | .two a b, e, h, j, hj => by
    cases e with
    | Tuple es k p =>
      match es, h with
      | [x, y], h =>
        simp only [chkG, Bool.and_eq_true] at h
        simp only [T.slots, List.mem_append] at hj
        exact hj.elim (chkG_slots h.1 j) (chkG_slots h.2 j)
      | [], h => simp [chkG] at h
      | [_], h => simp [chkG] at h
      | _ :: _ :: _ :: _, h => simp [chkG] at h
    | _ => simp [chkG] at h
  | .three a b c, e, h, j, hj => by
    cases e with
    | Tuple es k p =>
      match es, h with
      | [x, y, z], h =>
        simp only [chkG, Bool.and_eq_true] at h
        simp only [T.slots, List.mem_append] at hj
        exact hj.elim (fun q => q.elim (chkG_slots h.1.1 j) (chkG_slots h.1.2 j)) (chkG_slots h.2 j)
      | [], h => simp [chkG] at h
      | [_], h => simp [chkG] at h
      | [_, _], h => simp [chkG] at h
      | _ :: _ :: _ :: _ :: _, h => simp [chkG] at h
    | _ => simp [chkG] at h
theorem asg1 {e : Expr} {es : List Expr} {env : PySem.Env} (h : notStar e = true) : assignEach (e :: es) env = (false, assign e env) :: assignEach es env := by
  cases e <;> first | rfl | (cases h)
def gT (K : PySem.W.Frag) (ms : List Bool) (t : T) : TG := fun v σ H Q => ∃ (F : Fx) (env : Env) (d : D) (env' : Env), F.K = K ∧ Rel F ms env σ H ∧ Dit F.K (Tab F ms σ) H t v d ∧ bindT t d env = some env' ∧
  ∀ σ', Rel F ms env' σ' H → SameO ms σ σ' → Agree t.slots σ σ' → Q σ' H
theorem pg_T (C : CtxOk X sc fn N R) : ∀ {t : T} {e : Expr}, chkG N ms sc fn t e = true → PG X e (gT X.K ms t)
  | .name i, e, h => by
    cases e <;> simp only [chkG] at h <;> first | (cases h; done) | skip
    simp only [Bool.and_eq_true] at h
    obtain ⟨⟨h1, h2⟩, h3⟩ := h
    obtain ⟨l1, l2⟩ := loc_of C h2
    have hi := name_eq h1
    refine pg_imp (pg_name (i := i) (by rw [C.hN]; exact C.nd) (by rw [C.hN]; exact hi) l1 l2) fun v σ H Q hl ⟨F, env, d, env', hK, r, hd, hb, q⟩ => ?_
    simp only [bindT, Option.some.injEq] at hb
    subst hb
    have hlt : i < σ.length := by rw [hl, C.hN]; exact (List.getElem?_eq_some_iff.mp hi).1
    exact q _ (r.put hlt (shr_ne h3) hd) (set_same (shr_ne h3)) ⟨by simp, fun j n => List.getElem?_set_ne fun z => n (by simp [T.slots, z])⟩
  | .two a b, e, h => by
    cases e with
    | Tuple es k p =>
      match es, h with
      | [x, y], h =>
        simp only [chkG, Bool.and_eq_true] at h
        have s1 := chkG_star h.1
        have s2 := chkG_star h.2
        refine pg_imp (pg_tup (n := 2) C.calm (pgs_cons (pg_T C h.1) (pgs_cons (pg_T C h.2) pgs_nil (by rw [asg1 s2]; rfl)) (by rw [asg1 s1]; rfl)) (by rw [asg1 s1, asg1 s2]; rfl) (by rw [asg1 s1, asg1 s2]; rfl)) fun v σ H Q hl ⟨F, env, d, env', hK, r, hd, hb, q⟩ => ?_
        have hd : Di F.K (Tab F ms σ) H v d := hd
        cases d with
        | tuple ds =>
          obtain ⟨ad, xs, rfl, h1, ha⟩ := hd.tup
          cases ha with
          | nil => simp [bindT] at hb
          | cons k1 ha =>
            cases ha with
            | nil => simp [bindT] at hb
            | cons k2 ha =>
              cases ha with
              | cons _ _ => simp [bindT] at hb
              | nil =>
                simp only [bindT] at hb
                obtain ⟨env1, b1, b2⟩ := Option.bind_eq_some_iff.mp hb
                refine ⟨ad, _, rfl, by rw [← hK]; exact h1, rfl, _, _, rfl, F, env, _, env1, hK, r, .of k1, b1, fun σ1 r1 so1 ag1 => ?_⟩
                refine ⟨_, _, rfl, F, env1, _, env', hK, r1, by rw [so1.tab]; exact .of k2, b2, fun σ2 r2 so2 ag2 => ?_⟩
                exact ⟨rfl, q σ2 r2 (so1.trans so2) ((ag1.mono fun i hi => List.mem_append_left _ hi).trans (ag2.mono fun i hi => List.mem_append_right _ hi))⟩
        | _ => simp [bindT] at hb
      | [], h => simp [chkG] at h
      | [_], h => simp [chkG] at h
      | _ :: _ :: _ :: _, h => simp [chkG] at h
    | _ => simp [chkG] at h
  | .three a b c, e, h => by
    cases e with
    | Tuple es k p =>
      match es, h with
      | [x, y, z], h =>
        simp only [chkG, Bool.and_eq_true] at h
        have s1 := chkG_star h.1.1
        have s2 := chkG_star h.1.2
        have s3 := chkG_star h.2
        refine pg_imp (pg_tup (n := 3) C.calm (pgs_cons (pg_T C h.1.1) (pgs_cons (pg_T C h.1.2) (pgs_cons (pg_T C h.2) pgs_nil (by rw [asg1 s3]; rfl)) (by rw [asg1 s2]; rfl)) (by rw [asg1 s1]; rfl)) (by rw [asg1 s1, asg1 s2, asg1 s3]; rfl) (by rw [asg1 s1, asg1 s2, asg1 s3]; rfl)) fun v σ H Q hl ⟨F, env, d, env', hK, r, hd, hb, q⟩ => ?_
        have hd : Di F.K (Tab F ms σ) H v d := hd
        cases d with
        | tuple ds =>
          obtain ⟨ad, xs, rfl, h1, ha⟩ := hd.tup
          cases ha with
          | nil => simp [bindT] at hb
          | cons k1 ha =>
            cases ha with
            | nil => simp [bindT] at hb
            | cons k2 ha =>
              cases ha with
              | nil => simp [bindT] at hb
              | cons k3 ha =>
                cases ha with
                | cons _ _ => simp [bindT] at hb
                | nil =>
                  simp only [bindT] at hb
                  obtain ⟨env2, b12, b3⟩ := Option.bind_eq_some_iff.mp hb
                  obtain ⟨env1, b1, b2⟩ := Option.bind_eq_some_iff.mp b12
                  refine ⟨ad, _, rfl, by rw [← hK]; exact h1, rfl, _, _, rfl, F, env, _, env1, hK, r, .of k1, b1, fun σ1 r1 so1 ag1 => ?_⟩
                  refine ⟨_, _, rfl, F, env1, _, env2, hK, r1, by rw [so1.tab]; exact .of k2, b2, fun σ2 r2 so2 ag2 => ?_⟩
                  refine ⟨_, _, rfl, F, env2, _, env', hK, r2, by rw [so2.tab, so1.tab]; exact .of k3, b3, fun σ3 r3 so3 ag3 => ?_⟩
                  exact ⟨rfl, q σ3 r3 ((so1.trans so2).trans so3) (((ag1.mono fun i hi => by simp [T.slots, hi]).trans (ag2.mono fun i hi => by simp [T.slots, hi])).trans (ag3.mono fun i hi => by simp [T.slots, hi]))⟩
        | _ => simp [bindT] at hb
      | [], h => simp [chkG] at h
      | [_], h => simp [chkG] at h
      | [_, _], h => simp [chkG] at h
      | _ :: _ :: _ :: _ :: _, h => simp [chkG] at h
    | _ => simp [chkG] at h
end

/-! ### what is walked -/
def WalksAt (K : PySem.W.Frag) (ms : List Bool) (o : IOp) (as : As) (σ1 : St) (S1 : Addr → Prop) (H1 : Hp) (J : It) (items : List D) : Prop :=
  ∀ (k : Nat) (F : Fx) (σ : St) (env : Env) (H : Hp), F.K = K → Rel F ms env σ H → (as.noOwn = true ∨ SameO ms σ1 σ) → Ext S1 H1 (Tab F ms σ) H → stands o as env k items[k]? = true →
    (∀ d, items[k]? = some d → J.go k H ∧ ∀ x H', J.yld k H x H' → Same H H' ∧ Dio K (Tab F ms σ) H' o x d) ∧ (items[k]? = none → J.stop k H)
section
variable {X : Cx} {sc : Scope} {fn : Str → Bool} {N : List Str} {R : WX} {XR : XRel} {ms : List Bool} {K : PySem.W.Frag}
def evI (o : IOp) (as : As) (env : Env) : Res (List D) := (evAs as env).bind fun ds env1 => match fixA as ds env1 with
  | some ds' => match o.run ds' with
    | some items => .ok items env1
    | none => .stuck
  | none => .stuck
def tI (K : PySem.W.Frag) (ms : List Bool) (R : WX) (XR : XRel) (o : IOp) (as : As) : TI := fun σ H Rr => ∃ (F : Fx) (env : Env), F.K = K ∧ Rel F ms env σ H ∧ W F ms R XR σ (evI o as env) H fun items _ H1 =>
  ∀ J, WalksAt K ms o as σ (Tab F ms σ) H1 J items → Rr J H1
theorem pi_imp {tg it : Expr} {t t' : TI} (h : PI X tg it t) (w : ∀ σ H Rr, t' σ H Rr → t σ H Rr) : PI X tg it t' := ⟨fun pins s σ H Rr I q => h.run pins s σ H Rr I (w σ H Rr q)⟩
/-- a list or a tuple -/
theorem pi_any {tg l : Expr} {tl : TE} (hl : PE X l tl) : PI X tg l (fun σ H Rr => tl σ H fun x H1 => ∃ a, x = .ref a ∧ ((∃ xs, SqL X.K H1 a xs ∧ Rr (Itl X.K a) H1) ∨ ∃ xs, SqT X.K H1 a xs ∧ Rr (Itt X.K a) H1)) := by
  refine ⟨fun pins s σ H Rr I h => ?_⟩
  refine thn (hl.run pins s σ H _ I h) fun v s1 ⟨x, H1, I1, r1, q1⟩ => ?_
  obtain ⟨a, e, q⟩ := q1
  subst e
  cases r1
  rcases q with ⟨xs, hq, q⟩ | ⟨xs, hq, q⟩
  · obtain ⟨its, rv, p, hz⟩ := I1.list hq
    refine wpAny_pyIter_list p.isList ?_
    refine ⟨s1.heap.objs.size, [s1.heap.objs.size], _, _, H1, rfl, I1.kept (t' := s1.toks) fun b o e => Heap.get?_push_of_some _ e, turn_list a _, ⟨_, Heap.get?_push_size _ rfl, rfl, rfl⟩, fun b hb => ?_, q⟩
    have e : b = s1.heap.objs.size := by simpa using hb
    subst e
    exact I1.fpOk (Nat.le_refl _) (I1.hok.fresh (Nat.le_refl _))
  · obtain ⟨its, rv, p, hz⟩ := I1.tuple hq
    refine wpAny_pyIter_tuple (show s1.heap.IsTuple a its.toArray from p) ?_
    refine ⟨s1.heap.objs.size, [s1.heap.objs.size], _, _, H1, rfl, I1.kept (t' := s1.toks) fun b o e => Heap.get?_push_of_some _ e, turn_tuple a _, ⟨_, Heap.get?_push_size _ rfl, rfl, rfl⟩, fun b hb => ?_, q⟩
    have e : b = s1.heap.objs.size := by simpa using hb
    subst e
    exact I1.fpOk (Nat.le_refl _) (I1.hok.fresh (Nat.le_refl _))
theorem walk_L {a : Addr} {xs : List V} {ds : List D} {S1 : Addr → Prop} {H1 : Hp} {σ1 : St} {o : IOp} {as : As} (h1 : SL K S1 H1 a xs) (h2 : DtAll K S1 H1 xs ds) : WalksAt K ms o as σ1 S1 H1 (Itl K a) ds := by
  intro k F σ env H hK r so ex st
  have q1 := h1.mono ex
  have q2 := h2.mono ex
  refine ⟨fun d e => ?_, fun e => ⟨xs, q1.sq, by rw [q2.length]; exact List.getElem?_eq_none_iff.mp e⟩⟩
  obtain ⟨v, e1, e2⟩ := q2.get e
  refine ⟨⟨xs, v, q1.sq, e1⟩, fun x H' ⟨eH, y⟩ => ?_⟩
  subst eH
  have := y xs q1.sq
  rw [e1] at this; cases this
  exact ⟨Same.refl _, .of e2⟩
theorem walk_T {a : Addr} {xs : List V} {ds : List D} {S1 : Addr → Prop} {H1 : Hp} {σ1 : St} {o : IOp} {as : As} (h1 : ST K S1 H1 a xs) (h2 : DtAll K S1 H1 xs ds) : WalksAt K ms o as σ1 S1 H1 (Itt K a) ds := by
  intro k F σ env H hK r so ex st
  have q1 := h1.mono ex
  have q2 := h2.mono ex
  refine ⟨fun d e => ?_, fun e => ⟨xs, q1.sq, by rw [q2.length]; exact List.getElem?_eq_none_iff.mp e⟩⟩
  obtain ⟨v, e1, e2⟩ := q2.get e
  refine ⟨⟨xs, v, q1.sq, e1⟩, fun x H' ⟨eH, y⟩ => ?_⟩
  subst eH
  have := y xs q1.sq
  rw [e1] at this; cases this
  exact ⟨Same.refl _, .of e2⟩
theorem walk_O {a : Addr} {i : Nat} {ds : List D} {S1 : Addr → Prop} {H1 : Hp} {σ1 : St} (hm : ms[i]? = some true) (h1 : σ1[i]? = some (some (.ref a))) : WalksAt K ms .seq (.cons (.own i) .nil) σ1 S1 H1 (Itl K a) ds := by
  intro k F σ env H hK r so ex st
  have so : SameO ms σ1 σ := by
    rcases so with z | z
    · cases z
    · exact z
  subst hK
  simp only [stands] at st
  cases e : getE env i with
  | none => rw [e] at st; cases st
  | some c =>
    rw [e] at st
    cases c with
    | list cur =>
      dsimp only at st
      obtain ⟨a', h2, c⟩ := r.own i _ e hm
      obtain ⟨xs, h3, h4⟩ := c.list
      rw [so i hm, h1] at h2; cases h2
      refine ⟨fun d ed => ?_, fun ed => ?_⟩
      · rw [ed] at st
        cases ec : cur[k]? with
        | none => rw [ec] at st; cases st
        | some c2 =>
          rw [ec] at st
          have := same_eq st
          subst this
          obtain ⟨v, e1, e2⟩ := h4.get ec
          refine ⟨⟨xs, v, SqL.of h3, e1⟩, fun x H' ⟨eH, y⟩ => ?_⟩
          subst eH
          have := y xs (SqL.of h3)
          rw [e1] at this; cases this
          exact ⟨Same.refl _, e2⟩
      · rw [ed] at st
        cases ec : cur[k]? with
        | some c2 => rw [ec] at st; cases st
        | none => exact ⟨xs, SqL.of h3, by rw [h4.length]; exact List.getElem?_eq_none_iff.mp ec⟩
    | _ => cases st
theorem range_get (lo : Int) (n k : Nat) : (rangeD lo n)[k]? = if k < n then some (.int (lo + (k : Nat))) else none := by
  unfold rangeD
  rw [List.getElem?_map]
  by_cases h : k < n
  · rw [List.getElem?_range h, if_pos h]
    rfl
  · rw [List.getElem?_eq_none (by simpa using h), if_neg h]
    rfl
theorem walk_R {lo : Int} {n : Nat} {S1 : Addr → Prop} {H1 : Hp} {σ1 : St} {o : IOp} {as : As} : WalksAt K ms o as σ1 S1 H1 (Itr lo n) (rangeD lo n) := by
  intro k F σ env H hK r so ex st
  rw [range_get]
  refine ⟨fun d e => ?_, fun e => ?_⟩
  · split at e
    · rename_i h
      cases e
      exact ⟨h, fun x H' ⟨e1, e2⟩ => by subst e1 e2; exact ⟨Same.refl _, .of (.int _)⟩⟩
    · cases e
  · split at e
    · cases e
    · rename_i h
      exact Nat.le_of_not_lt h
theorem pair_new {S : Addr → Prop} {H : Hp} {x y : V} {d e : D} {p : Addr} (hS : ∀ a, S a → H a ≠ none) (hp : H p = none) (h1 : Dt K S H x d) (h2 : Dt K S H y e) : Di K S (upd H p (.tup [x, y])) (.ref p) (.tuple [d, e]) :=
  .inr ⟨p, _, _, rfl, rfl, SqT.of upd_same, DtAll.mono (.of_same (same_upd hp)) (.cons h1 (.cons h2 .nil))⟩
theorem walk_E {a : Addr} {xs : List V} {ds : List D} {S1 : Addr → Prop} {H1 : Hp} {σ1 : St} {as : As} (h1 : SL K S1 H1 a xs) (h2 : DtAll K S1 H1 xs ds) : WalksAt K ms .enum as σ1 S1 H1 (Ite K a) (ds.zipIdx.map fun p => .tuple [.int p.2, p.1]) := by
  intro k F σ env H hK r so ex st
  have q1 := h1.mono ex
  have q2 := h2.mono ex
  refine ⟨fun d e => ?_, fun e => ⟨xs, q1.sq, ?_⟩⟩
  · rw [List.getElem?_map, List.getElem?_zipIdx] at e
    cases e1 : ds[k]? with
    | none => rw [e1] at e; cases e
    | some d1 =>
      rw [e1] at e
      have e : PyData.tuple [.int ((0 + k : Nat) : Int), d1] = d := by simpa using e
      subst e
      obtain ⟨v, e2, e3⟩ := q2.get e1
      refine ⟨⟨xs, v, q1.sq, e2⟩, fun x H' ⟨T, y, ex1, hT, eH, z⟩ => ?_⟩
      subst ex1 eH
      have := z xs q1.sq
      rw [e2] at this; cases this
      refine ⟨same_upd hT, ?_⟩
      rw [Nat.zero_add]
      exact pair_new r.tabT hT (.int _) e3
  · rw [List.getElem?_map, List.getElem?_zipIdx] at e
    rw [q2.length]
    cases e1 : ds[k]? with
    | none => exact List.getElem?_eq_none_iff.mp e1
    | some d1 => rw [e1] at e; cases e
theorem zip_get {α β : Type} : ∀ (xs : List α) (ys : List β) (k : Nat), (xs.zip ys)[k]? = match xs[k]?, ys[k]? with | some x, some y => some (x, y) | _, _ => none
  | [], ys, k => by simp
  | x :: xs, [], k => by simp
  | x :: xs, y :: ys, 0 => rfl
  | x :: xs, y :: ys, k + 1 => by simpa using zip_get xs ys k
theorem walk_Z {a b : Addr} {xs ys : List V} {ds es : List D} {S1 : Addr → Prop} {H1 : Hp} {σ1 : St} {as : As} (h1 : SL K S1 H1 a xs) (h2 : DtAll K S1 H1 xs ds) (k1 : SL K S1 H1 b ys) (k2 : DtAll K S1 H1 ys es) :
    WalksAt K ms .zip as σ1 S1 H1 (Itz K a b) ((ds.zip es).map fun p => .tuple [p.1, p.2]) := by
  intro k F σ env H hK r so ex st
  have q1 := h1.mono ex
  have q2 := h2.mono ex
  have p1 := k1.mono ex
  have p2 := k2.mono ex
  rw [List.getElem?_map, zip_get]
  refine ⟨fun d e => ?_, fun e => ⟨xs, ys, q1.sq, p1.sq, ?_⟩⟩
  · cases e1 : ds[k]? with
    | none => rw [e1] at e; cases e
    | some d1 =>
      cases e2 : es[k]? with
      | none => rw [e1, e2] at e; cases e
      | some d2 =>
        rw [e1, e2] at e
        have e : PyData.tuple [d1, d2] = d := by simpa using e
        subst e
        obtain ⟨v, v1, v2⟩ := q2.get e1
        obtain ⟨u, u1, u2⟩ := p2.get e2
        refine ⟨⟨xs, ys, v, u, q1.sq, p1.sq, v1, u1⟩, fun x H' ⟨T, y, y', ex1, hT, eH, z, z'⟩ => ?_⟩
        subst ex1 eH
        have := z xs q1.sq
        rw [v1] at this; cases this
        have := z' ys p1.sq
        rw [u1] at this; cases this
        exact ⟨same_upd hT, pair_new r.tabT hT v2 u2⟩
  · rw [q2.length, p2.length]
    cases e1 : ds[k]? with
    | none => exact .inl (List.getElem?_eq_none_iff.mp e1)
    | some d1 =>
      cases e2 : es[k]? with
      | none => exact .inr (List.getElem?_eq_none_iff.mp e2)
      | some d2 => rw [e1, e2] at e; cases e
theorem walk_ZT {a b : Addr} {xs ys : List V} {ds es : List D} {S1 : Addr → Prop} {H1 : Hp} {σ1 : St} {as : As} (h1 : ST K S1 H1 a xs) (h2 : DtAll K S1 H1 xs ds) (k1 : ST K S1 H1 b ys) (k2 : DtAll K S1 H1 ys es) :
    WalksAt K ms .zip as σ1 S1 H1 (RZ.ItzT K a b) ((ds.zip es).map fun p => .tuple [p.1, p.2]) := by
  intro k F σ env H hK r so ex st
  have q1 := h1.mono ex
  have q2 := h2.mono ex
  have p1 := k1.mono ex
  have p2 := k2.mono ex
  rw [List.getElem?_map, zip_get]
  refine ⟨fun d e => ?_, fun e => ⟨xs, ys, q1.sq, p1.sq, ?_⟩⟩
  · cases e1 : ds[k]? with
    | none => rw [e1] at e; cases e
    | some d1 =>
      cases e2 : es[k]? with
      | none => rw [e1, e2] at e; cases e
      | some d2 =>
        rw [e1, e2] at e
        have e : PyData.tuple [d1, d2] = d := by simpa using e
        subst e
        obtain ⟨v, v1, v2⟩ := q2.get e1
        obtain ⟨u, u1, u2⟩ := p2.get e2
        refine ⟨⟨xs, ys, v, u, q1.sq, p1.sq, v1, u1⟩, fun x H' ⟨T, y, y', ex1, hT, eH, z, z'⟩ => ?_⟩
        subst ex1 eH
        have := z xs q1.sq
        rw [v1] at this; cases this
        have := z' ys p1.sq
        rw [u1] at this; cases this
        exact ⟨same_upd hT, pair_new r.tabT hT v2 u2⟩
  · rw [q2.length, p2.length]
    cases e1 : ds[k]? with
    | none => exact .inl (List.getElem?_eq_none_iff.mp e1)
    | some d1 =>
      cases e2 : es[k]? with
      | none => exact .inr (List.getElem?_eq_none_iff.mp e2)
      | some d2 => rw [e1, e2] at e; cases e
end
end MP

/-! MP: what is walked, comprehensions. -/
namespace MP
open PySem L2

section
variable {X : Cx} {sc : Scope} {fn : Str → Bool} {N : List Str} {R : WX} {XR : XRel} {ms : List Bool} {K : PySem.W.Frag} {F : Fx} {env : Env} {σ : St} {H : Hp}
theorem evI_bind {α : Type} {o : IOp} {as : As} {env : Env} {f : List D → Env → Res α} : ((evAs as env).bind fun ds env1 => match fixA as ds env1 with
    | some ds' => match o.run ds' with
      | some items => f items env1
      | none => .stuck
    | none => .stuck) = (evI o as env).bind f := by
  unfold evI
  cases evAs as env with
  | ok ds env1 =>
    simp only [Res.bind]
    cases fixA as ds env1 with
    | none => rfl
    | some ds' =>
      dsimp only
      cases o.run ds' <;> rfl
  | exc c v env1 => rfl
  | stuck => rfl
theorem evI_as {o : IOp} {as : As} {k : List D → Env → Hp → Prop} (w : W F ms R XR σ (evI o as env) H k) : W F ms R XR σ (evAs as env) H fun ds env1 H1 => ∃ es items, fixA as ds env1 = some es ∧ o.run es = some items ∧ k items env1 H1 := by
  unfold evI at w
  refine W_mono (W_bind w) fun ds env1 H1 f1 r1 h1 => ?_
  cases e1 : fixA as ds env1 with
  | none => rw [e1] at h1; exact False.elim h1
  | some es =>
    rw [e1] at h1
    dsimp only at h1
    cases e2 : o.run es with
    | none => rw [e2] at h1; exact False.elim h1
    | some items =>
      rw [e2] at h1
      exact ⟨es, items, rfl, e2, W_ok h1 r1⟩
theorem pi_seq {tg e : Expr} {o : O} (ha : PE X e (tO X.K ms R XR o)) : PI X tg e (tI X.K ms R XR .seq (.cons o .nil)) :=
  pi_imp (pi_any ha) fun σ H Rr ⟨F, env, hK, r, w⟩ => by
    rw [← hK]
    refine ⟨F, env, rfl, r, W_mono (As1 (evI_as w)) fun d env1 H1 f1 r1 ⟨es, items, e1, e2, k⟩ v hv => ?_⟩
    cases o with
    | own i =>
      simp only [fixA, fixO] at e1
      obtain ⟨x, e3, e4⟩ := Option.bind_eq_some_iff.mp e1
      simp at e4
      subst e4
      obtain ⟨a, h1, c⟩ := r1.own i x e3 hv.1
      have h5 := hv.2
      rw [h1] at h5; cases h5
      rcases c with ⟨xs, ds, h2, h3, h4⟩ | ⟨kds, h2, h3, h4⟩
      case inr => subst h2; simp [IOp.run] at e2
      subst h2
      simp only [IOp.run, Option.some.injEq] at e2
      subst e2
      exact ⟨a, rfl, .inl ⟨xs, SqL.of h3, k _ (by rw [← hK]; exact walk_O hv.1 h1)⟩⟩
    | val m =>
      have hv : Dt F.K (Tab F ms σ) H1 v d := hv
      simp [fixA, fixO] at e1
      subst e1
      cases hv with
      | lst h a =>
        simp only [IOp.run, Option.some.injEq] at e2
        subst e2
        exact ⟨_, rfl, .inl ⟨_, h.sq, k _ (by rw [← hK]; exact walk_L h a)⟩⟩
      | tup h a =>
        simp only [IOp.run, Option.some.injEq] at e2
        subst e2
        exact ⟨_, rfl, .inr ⟨_, h.sq, k _ (by rw [← hK]; exact walk_T h a)⟩⟩
      | _ => simp [IOp.run] at e2
variable {as : As} {n : Str} {a b : Expr} {tg : Expr} {p pos : Pos}
theorem pi_rng1 (C : CtxOk X sc fn N R) (hg : glB sc n = true) (hn : n = Str.ofString "range") (ha : PEs X X.K ms R XR as [a]) : PI X tg (.Call (.Name n p) [a] [] pos) (tI X.K ms R XR .rng1 as) := by
  obtain ⟨g1, g2, g3⟩ := gl_of C hg
  subst hn
  have s1 := star1 (es := []) (env := X.env) (ha.stars a List.mem_cons_self)
  refine pi_imp (pi_range1 g1 (C.bl _ (by decide)) ha.pa s1) fun σ H Rr ⟨F, env, hK, r, w⟩ => ?_
  refine ⟨F, env, hK, r, W_mono (evI_as w) fun d env1 H1 f1 r1 ⟨es, items, e1, e2, k⟩ vs hv => ?_⟩
  have op := opds_of r1 hv e1
  match es, e2 with
  | [.int j], e2 =>
    obtain ⟨v, rfl, h1⟩ := op.one
    have := h1.int
    subst this
    simp only [IOp.run] at e2
    split at e2
    · rename_i hb
      cases e2
      exact ⟨j, rfl, hb.1, hb.2, k _ (by exact walk_R)⟩
    · cases e2
theorem pi_rng2 (C : CtxOk X sc fn N R) (hg : glB sc n = true) (hn : n = Str.ofString "range") (ha : PEs X X.K ms R XR as [a, b]) : PI X tg (.Call (.Name n p) [a, b] [] pos) (tI X.K ms R XR .rng2 as) := by
  obtain ⟨g1, g2, g3⟩ := gl_of C hg
  subst hn
  have s2 := star1 (es := []) (env := X.env) (ha.stars b (by simp))
  have s1 := star1 (es := [b]) (env := X.env) (ha.stars a List.mem_cons_self)
  refine pi_imp (pi_range2 g1 (C.bl _ (by decide)) ha.pa (by rw [s1, s2]; rfl) s2) fun σ H Rr ⟨F, env, hK, r, w⟩ => ?_
  refine ⟨F, env, hK, r, W_mono (evI_as w) fun d env1 H1 f1 r1 ⟨es, items, e1, e2, k⟩ vs hv => ?_⟩
  have op := opds_of r1 hv e1
  match es, e2 with
  | [.int i, .int j], e2 =>
    obtain ⟨v, u, rfl, h1, h2⟩ := op.two
    have := h1.int
    subst this
    have := h2.int
    subst this
    simp only [IOp.run] at e2
    split at e2
    · rename_i hb
      cases e2
      exact ⟨i, j, rfl, hb, k _ (by exact walk_R)⟩
    · cases e2
theorem as_dts (r : Rel F ms env σ H) {as : As} {vs : List V} {ds es : List D} (n : as.noOwn = true) (hv : AsRel F ms σ H as vs ds) (e : fixA as ds env = some es) : DtAll F.K (Tab F ms σ) H vs es := by
  have := fix_noOwn n e
  subst this
  exact AsRel.dts n hv
theorem walk_ET {K : PySem.W.Frag} {ms : List Bool} {a : Addr} {xs : List V} {ds : List D} {S1 : Addr → Prop} {H1 : Hp} {σ1 : St} {as : As} (h1 : ST K S1 H1 a xs) (h2 : DtAll K S1 H1 xs ds) : WalksAt K ms .enum as σ1 S1 H1 (IteT K a) (ds.zipIdx.map fun p => .tuple [.int p.2, p.1]) := by
  intro k F σ env H hK r so ex st
  have q1 := h1.mono ex
  have q2 := h2.mono ex
  refine ⟨fun d e => ?_, fun e => ⟨xs, q1.sq, ?_⟩⟩
  · rw [List.getElem?_map, List.getElem?_zipIdx] at e
    cases e1 : ds[k]? with
    | none => rw [e1] at e; cases e
    | some d1 =>
      rw [e1] at e
      have e : PyData.tuple [.int ((0 + k : Nat) : Int), d1] = d := by simpa using e
      subst e
      obtain ⟨v, e2, e3⟩ := q2.get e1
      refine ⟨⟨xs, v, q1.sq, e2⟩, fun x H' ⟨T, y, ex1, hT, eH, z⟩ => ?_⟩
      subst ex1 eH
      have := z xs q1.sq
      rw [e2] at this; cases this
      refine ⟨same_upd hT, ?_⟩
      rw [Nat.zero_add]
      exact pair_new r.tabT hT (.int _) e3
  · rw [List.getElem?_map, List.getElem?_zipIdx] at e
    rw [q2.length]
    cases e1 : ds[k]? with
    | none => exact List.getElem?_eq_none_iff.mp e1
    | some d1 => rw [e1] at e; cases e
theorem pi_enumM {elts : List Expr} {kk : Nat} {tpos : Pos} (C : CtxOk X sc fn N R) (hg : glB sc n = true) (hn : n = Str.ofString "enumerate") (ha : PEs X X.K ms R XR as [a]) (no : as.noOwn = true) : PI X (.Tuple elts kk tpos) (.Call (.Name n p) [a] [] pos) (tI X.K ms R XR .enum as) := by
  obtain ⟨g1, g2, g3⟩ := gl_of C hg
  subst hn
  have s1 := star1 (es := []) (env := X.env) (ha.stars a List.mem_cons_self)
  refine pi_imp (pi_enumA g1 (C.bl _ (by decide)) ha.pa s1) fun σ H Rr ⟨F, env, hK, r, w⟩ => ?_
  refine ⟨F, env, hK, r, W_mono (evI_as w) fun d env1 H1 f1 r1 ⟨es, items, e1, e2, k⟩ vs hv => ?_⟩
  have op := as_dts r1 no hv e1
  match es, e2 with
  | [.list ds], e2 =>
    cases op with
    | cons h t =>
      cases t
      cases h with
      | lst h1 h2 =>
        simp only [IOp.run, Option.some.injEq] at e2
        subst e2
        rw [← hK]
        exact ⟨_, _, rfl, .inl ⟨h1.sq, k _ (by rw [← hK]; exact walk_E h1 h2)⟩⟩
  | [.tuple ds], e2 =>
    cases op with
    | cons h t =>
      cases t
      cases h with
      | tup h1 h2 =>
        simp only [IOp.run, Option.some.injEq] at e2
        subst e2
        rw [← hK]
        exact ⟨_, _, rfl, .inr ⟨h1.sq, k _ (by rw [← hK]; exact walk_ET h1 h2)⟩⟩
theorem pi_zipM {elts : List Expr} {kk : Nat} {tpos : Pos} (C : CtxOk X sc fn N R) (hg : glB sc n = true) (hn : n = Str.ofString "zip") (ha : PEs X X.K ms R XR as [a, b]) (no : as.noOwn = true) : PI X (.Tuple elts kk tpos) (.Call (.Name n p) [a, b] [] pos) (tI X.K ms R XR .zip as) := by
  obtain ⟨g1, g2, g3⟩ := gl_of C hg
  subst hn
  have s2 := star1 (es := []) (env := X.env) (ha.stars b (by simp))
  have s1 := star1 (es := [b]) (env := X.env) (ha.stars a List.mem_cons_self)
  refine pi_imp (RZ.pi_zipA g1 (C.bl _ (by decide)) ha.pa s1 (star_plain fun e he => ha.stars e (by simp at he; simp [he]))) fun σ H Rr ⟨F, env, hK, r, w⟩ => ?_
  refine ⟨F, env, hK, r, W_mono (evI_as w) fun d env1 H1 f1 r1 ⟨es, items, e1, e2, k⟩ vs hv => ?_⟩
  have op := as_dts r1 no hv e1
  match es, e2 with
  | [.list ds, .list es], e2 =>
    cases op with
    | cons h t =>
      cases t with
      | cons h' t =>
      cases t
      cases h with
      | lst h1 h2 =>
      cases h' with
      | lst h3 h4 =>
        simp only [IOp.run, Option.some.injEq] at e2
        subst e2
        rw [← hK]
        exact ⟨_, _, _, _, rfl, .inl ⟨h1.sq, h3.sq, k _ (by rw [← hK]; exact walk_Z h1 h2 h3 h4)⟩⟩
  | [.tuple ds, .tuple es], e2 =>
    cases op with
    | cons h t =>
      cases t with
      | cons h' t =>
      cases t
      cases h with
      | tup h1 h2 =>
      cases h' with
      | tup h3 h4 =>
        simp only [IOp.run, Option.some.injEq] at e2
        subst e2
        rw [← hK]
        exact ⟨_, _, _, _, rfl, .inr ⟨h1.sq, h3.sq, k _ (by rw [← hK]; exact walk_ZT h1 h2 h3 h4)⟩⟩
end
end MP

/-! MP: comprehensions. -/
namespace MP
open PySem L2

/-! ### the gathering loop -/
section
variable {st : Env → Nat → Option D → Bool} {turn : D → List D → Env → Res (List D)} {k : Nat} {d : D} {ds acc accf : List D} {env envf : Env}
theorem acc_end (h : accLoop st turn k [] acc env = .ok accf envf) : st env k none = true ∧ acc = accf ∧ env = envf := by
  unfold accLoop at h
  split at h
  · rename_i e
    cases h
    exact ⟨e, rfl, rfl⟩
  · cases h
theorem acc_step (h : accLoop st turn k (d :: ds) acc env = .ok accf envf) : st env k (some d) = true ∧ ∃ acc' env', turn d acc env = .ok acc' env' ∧ accLoop st turn (k + 1) ds acc' env' = .ok accf envf := by
  unfold accLoop at h
  split at h
  · rename_i e
    refine ⟨e, ?_⟩
    cases q : turn d acc env with
    | ok acc' env' => rw [q] at h; exact ⟨acc', env', rfl, h⟩
    | exc c v env' => rw [q] at h; cases h
    | stuck => rw [q] at h; cases h
  · cases h
theorem acc_mono (hm : ∀ d acc env acc' env', turn d acc env = .ok acc' env' → acc.length ≤ acc'.length) : ∀ {ds : List D} {k : Nat} {acc : List D} {env : Env}, accLoop st turn k ds acc env = .ok accf envf → acc.length ≤ accf.length
  | [], k, acc, env, h => by
    obtain ⟨_, e, _⟩ := acc_end h
    rw [e]
    exact Nat.le_refl _
  | d :: ds, k, acc, env, h => by
    obtain ⟨_, acc', env', e, h'⟩ := acc_step h
    exact Nat.le_trans (hm _ _ _ _ _ e) (acc_mono hm h')
theorem acc_nox (hm : ∀ d acc env c v env', turn d acc env ≠ .exc c v env') : ∀ {ds : List D} {k : Nat} {acc : List D} {env : Env} {c v env'}, accLoop st turn k ds acc env ≠ .exc c v env'
  | [], k, acc, env, c, v, env', h => by
    unfold accLoop at h
    split at h <;> cases h
  | d :: ds, k, acc, env, c, v, env', h => by
    unfold accLoop at h
    split at h
    · cases q : turn d acc env with
      | ok acc1 env1 => rw [q] at h; exact acc_nox hm h
      | exc c1 v1 env1 => exact hm _ _ _ _ _ _ q
      | stuck => rw [q] at h; cases h
    · cases h
end
theorem nox_ok {α : Type} {r : Res α} {a : α} {env : Env} (h : r.nox = .ok a env) : r = .ok a env := by
  cases r with
  | ok b env' => exact h
  | exc c v env' => cases h
  | stuck => cases h
theorem nox_nox {α : Type} {r : Res α} {c v env} : r.nox ≠ .exc c v env := by
  cases r <;> (intro h; cases h)
theorem bind_ok {α β : Type} {r : Res α} {f : α → Env → Res β} {b : β} {env : Env} (h : r.bind f = .ok b env) : ∃ a env', r = .ok a env' ∧ f a env' = .ok b env := by
  cases r with
  | ok a env' => exact ⟨a, env', rfl, h⟩
  | exc c v env' => cases h
  | stuck => cases h
/-- one turn of a comprehension -/
def lcTurn (elt : E) (t : T) (test : E) : D → List D → Env → Res (List D) := fun d acc env2 => match bindT t d env2 with
  | some env3 => ((isT (evE test env3)).bind fun c env4 => if c then (evE elt env4).bind fun x env5 => .ok (x :: acc) (wipeE env5 t.slots) else .ok acc (wipeE env4 t.slots)).nox
  | none => .stuck
theorem lcTurn_ok {elt test : E} {t : T} {d : D} {acc acc' : List D} {env env' : Env} (h : lcTurn elt t test d acc env = .ok acc' env') : ∃ env3, bindT t d env = some env3 ∧ ∃ c env4, isT (evE test env3) = .ok c env4 ∧
    ((c = true ∧ ∃ x env5, evE elt env4 = .ok x env5 ∧ acc' = x :: acc ∧ env' = wipeE env5 t.slots) ∨ (c = false ∧ acc' = acc ∧ env' = wipeE env4 t.slots)) := by
  unfold lcTurn at h
  cases e : bindT t d env with
  | none => rw [e] at h; cases h
  | some env3 =>
    rw [e] at h
    obtain ⟨c, env4, e1, e2⟩ := bind_ok (nox_ok h)
    refine ⟨env3, rfl, c, env4, e1, ?_⟩
    cases c with
    | true =>
      obtain ⟨x, env5, e3, e4⟩ := bind_ok (show (evE elt env4).bind _ = _ from e2)
      cases e4
      exact .inl ⟨rfl, x, env5, e3, rfl, rfl⟩
    | false =>
      have e2 : Res.ok acc (wipeE env4 t.slots) = .ok acc' env' := e2
      cases e2
      exact .inr ⟨rfl, rfl, rfl⟩
theorem lcTurn_mono {elt test : E} {t : T} : ∀ d acc env acc' env', lcTurn elt t test d acc env = .ok acc' env' → acc.length ≤ acc'.length := fun d acc env acc' env' h => by
  obtain ⟨_, _, _, _, _, h | h⟩ := lcTurn_ok h
  · obtain ⟨_, x, env5, _, e, _⟩ := h
    rw [e]
    exact Nat.le_succ _
  · rw [h.2.1]
    exact Nat.le_refl _
theorem lcTurn_nox {elt test : E} {t : T} : ∀ d acc env c v env', lcTurn elt t test d acc env ≠ .exc c v env' := fun d acc env c v env' h => by
  unfold lcTurn at h
  cases e : bindT t d env with
  | none => rw [e] at h; cases h
  | some env3 => rw [e] at h; exact nox_nox h
/-- one turn of a comprehension's first clause of two -/
def lcTurn2 (elt : E) (t : T) (t2 : T) (o2 : IOp) (as2 : As) (test : E) : D → List D → Env → Res (List D) := fun d acc env2 => match bindT t d env2 with
  | some env3 => ((evI o2 as2 env3).bind fun items2 env4 => (accLoop (stands o2 as2) (lcTurn elt t2 test) 0 items2 acc (wipeE env4 t2.slots)).bind fun acc3 env9 => .ok acc3 (wipeE env9 (t.slots ++ t2.slots))).nox
  | none => .stuck
theorem lcTurn2_ok {elt test : E} {t t2 : T} {o2 : IOp} {as2 : As} {d : D} {acc acc' : List D} {env env' : Env} (h : lcTurn2 elt t t2 o2 as2 test d acc env = .ok acc' env') : ∃ env3, bindT t d env = some env3 ∧ ∃ items2 env4, evI o2 as2 env3 = .ok items2 env4 ∧
    ∃ env9, accLoop (stands o2 as2) (lcTurn elt t2 test) 0 items2 acc (wipeE env4 t2.slots) = .ok acc' env9 ∧ env' = wipeE env9 (t.slots ++ t2.slots) := by
  unfold lcTurn2 at h
  cases e : bindT t d env with
  | none => rw [e] at h; cases h
  | some env3 =>
    rw [e] at h
    obtain ⟨items2, env4, e1, e2⟩ := bind_ok (nox_ok h)
    obtain ⟨acc3, env9, e3, e4⟩ := bind_ok e2
    cases e4
    exact ⟨env3, rfl, items2, env4, e1, env9, e3, rfl⟩
theorem lcTurn2_mono {elt test : E} {t t2 : T} {o2 : IOp} {as2 : As} : ∀ d acc env acc' env', lcTurn2 elt t t2 o2 as2 test d acc env = .ok acc' env' → acc.length ≤ acc'.length := fun d acc env acc' env' h => by
  obtain ⟨_, _, _, _, _, _, e, _⟩ := lcTurn2_ok h
  exact acc_mono lcTurn_mono e
theorem lcTurn2_nox {elt test : E} {t t2 : T} {o2 : IOp} {as2 : As} : ∀ d acc env c v env', lcTurn2 elt t t2 o2 as2 test d acc env ≠ .exc c v env' := fun d acc env c v env' h => by
  unfold lcTurn2 at h
  cases e : bindT t d env with
  | none => rw [e] at h; cases h
  | some env3 => rw [e] at h; exact nox_nox h
theorem ev_lc {elt test : E} {t : T} {o : IOp} {as : As} {env : Env} : evE (.lc elt t o as test) env = (evI o as env).bind fun items env1 =>
    (accLoop (stands o as) (lcTurn elt t test) 0 items [] (wipeE env1 t.slots)).bind fun acc env6 => if acc.length ≤ sizeLine then .ok (.list acc.reverse) (backE env1 env6 t.slots) else .stuck := by
  rw [← evI_bind]
  simp only [evE]
  rfl
theorem ev_lc2 {elt test : E} {t t2 : T} {o o2 : IOp} {as as2 : As} {env : Env} : evE (.lc2 elt t o as t2 o2 as2 test) env = (evI o as env).bind fun items env1 =>
    (accLoop (stands o as) (lcTurn2 elt t t2 o2 as2 test) 0 items [] (wipeE env1 (t.slots ++ t2.slots))).bind fun acc env6 => if acc.length ≤ sizeLine then .ok (.list acc.reverse) (backE env1 env6 (t.slots ++ t2.slots)) else .stuck := by
  rw [← evI_bind]
  simp only [evE]
  congr 1
  funext ds env1
  cases fixA as ds env1 with
  | none => rfl
  | some ds' =>
    dsimp only
    cases o.run ds' with
    | none => rfl
    | some items =>
      dsimp only
      congr 2
      funext d acc env2
      unfold lcTurn2
      cases bindT t d env2 with
      | none => rfl
      | some env3 =>
        dsimp only
        rw [← evI_bind]
        rfl

/-! ### the new list -/
section
variable {F : Fx} {ms : List Bool} {env env' : Env} {σ σ' : St} {H H' H1 : Hp} {Dl : Addr}
theorem Rel.notOwn (r : Rel F ms env σ H) (h : H Dl = none) : ¬ OwnA ms σ Dl := fun z => by
  obtain ⟨xs, e, _⟩ := r.ownT z
  rw [e] at h
  cases h
theorem InA.own (r : Rel F ms env σ H) {a : Addr} (h : InA F ms a) : OwnA ms σ a := by
  obtain ⟨j, h1, h2, h3⟩ := h
  exact ⟨j, h2, r.par j _ h1 h2 h3⟩
theorem Rel.H0none (r : Rel F ms env σ H) (h : H Dl = none) : F.H0 Dl = none := by
  cases e : F.H0 Dl with
  | none => rfl
  | some o =>
    by_cases z : InA F ms Dl
    · exact absurd (z.own r) (r.notOwn h)
    · rw [r.hold Dl o e z] at h; cases h
theorem Rel.plus (r : Rel F ms env σ H) (h : H Dl = none) {o : HO} : Rel (F.plus Dl) ms env σ (upd H Dl o) := by
  have ne : ∀ {a : Addr} {u : HO}, H a = some u → a ≠ Dl := fun {a u} e z => by rw [z, h] at e; cases e
  have ex : Ext (Tab F ms σ) H (Tab (F.plus Dl) ms σ) (upd H Dl o) := fun a u n e => ⟨fun z => z.elim (fun z => z.elim (fun z => n (.inl z)) fun z => ne e z) fun z => n (.inr z), by rw [upd_ne (ne e)]; exact e⟩
  refine ⟨r.len, fun i d e m => ?_, fun i d e m => ?_, r.liv, r.dis, r.new, r.par, fun a z => ?_, fun a u e n => ?_⟩
  · obtain ⟨v, h1, h2⟩ := r.shr i d e m
    exact ⟨v, h1, h2.mono ex⟩
  · obtain ⟨a, h1, c⟩ := r.own i d e m
    exact ⟨a, h1, c.step ex fun o e2 => by rw [upd_ne (ne e2)]; exact e2⟩
  · rcases z with z | z
    · by_cases q : a = Dl
      · rw [q, upd_same]; exact fun z => nomatch z
      · rw [upd_ne q]; exact r.trk a z
    · rw [z, upd_same]; exact fun z => nomatch z
  · have := r.hold a u e n
    rw [upd_ne (ne this)]
    exact this
/-- the list is written -/
theorem Rel.write (r : Rel F ms env σ H) (hS : F.S0 Dl) (ho : ¬ OwnA ms σ Dl) (h0 : F.H0 Dl = none) {o : HO} : Rel F ms env σ (upd H Dl o) := by
  have ex : Ext (Tab F ms σ) H (Tab F ms σ) (upd H Dl o) := fun a u n e => ⟨n, by rw [upd_ne fun z => n (by rw [z]; exact .inl hS)]; exact e⟩
  refine ⟨r.len, fun i d e m => ?_, fun i d e m => ?_, r.liv, r.dis, r.new, r.par, fun a z => ?_, fun a u e n => ?_⟩
  · obtain ⟨v, h1, h2⟩ := r.shr i d e m
    exact ⟨v, h1, h2.mono ex⟩
  · obtain ⟨a, h1, c⟩ := r.own i d e m
    exact ⟨a, h1, c.step ex fun o e2 => by rw [upd_ne fun z => ho ⟨i, m, by rw [h1, z]⟩]; exact e2⟩
  · by_cases q : a = Dl
    · rw [q, upd_same]; exact fun z => nomatch z
    · rw [upd_ne q]; exact r.trk a z
  · rw [upd_ne fun z => by rw [z, h0] at e; cases e]
    exact r.hold a u e n
theorem Rel.less (r : Rel (F.plus Dl) ms env σ H) : Rel F ms env σ H := by
  have ex : Ext (Tab (F.plus Dl) ms σ) H (Tab F ms σ) H := fun a u n e => ⟨fun z => n (z.imp .inl id), e⟩
  refine ⟨r.len, fun i d e m => ?_, fun i d e m => ?_, r.liv, r.dis, r.new, r.par, fun a z => r.trk a (.inl z), r.hold⟩
  · obtain ⟨v, h1, h2⟩ := r.shr i d e m
    exact ⟨v, h1, h2.mono ex⟩
  · obtain ⟨a, h1, c⟩ := r.own i d e m
    exact ⟨a, h1, c.mono ex rfl⟩
/-- an item has come to the new list -/
theorem item_in {R : WX} {xs : List V} {ds : List D} {y : V} {x : D} {b : Bool} (r : Rel (F.plus Dl) ms env σ H) (r' : Rel (F.plus Dl) ms env' σ H') (fr : FrP ms σ H H') (hn : ¬ OwnA ms σ Dl) (h0 : F.H0 Dl = none) (hx : H Dl = some (.lst xs)) (hd : DtAll F.K (Tab (F.plus Dl) ms σ) H xs ds)
    (hy : ResRel b F.K (Tab (F.plus Dl) ms σ) H H' y x) : H' Dl = some (.lst xs) ∧ Rel (F.plus Dl) ms env' σ (upd H' Dl (.lst (xs ++ [y]))) ∧ DtAll F.K (Tab (F.plus Dl) ms σ) (upd H' Dl (.lst (xs ++ [y]))) (xs ++ [y]) (ds ++ [x]) := by
  refine ⟨fr _ _ hx hn, r'.write (.inr rfl) hn h0, ?_⟩
  have ex : Ext (Tab (F.plus Dl) ms σ) H' (Tab (F.plus Dl) ms σ) (upd H' Dl (.lst (xs ++ [y]))) := fun a u n e => ⟨n, by rw [upd_ne fun z => n (by rw [z]; exact .inl (.inr rfl))]; exact e⟩
  exact ((hd.mono fr.ext).mono ex).append (.cons ((hy.dt r.tabT).mono ex) .nil)
end
abbrev R0 : WX := fun _ _ _ _ => False
section
variable {X : Cx} {K : PySem.W.Frag} {sc : Scope} {fn : Str → Bool} {N : List Str} {R : WX} {XR : XRel} {ms : List Bool} {o o2 : IOp} {as as2 : As} {me mt : E} {t t2 : T} {σ : St} {H : Hp} {Q : VK}
theorem lc_read (hms : ∀ i ∈ t.slots, ms[i]? ≠ some true) (hok : okIt o t = true) (h : tM K ms R XR (.lc me t o as mt) σ H Q) : tLc (tI K ms R XR o as) (gT K ms t) (tT K ms R0 XR mt) (tM K ms R0 XR me) t.slots σ H Q := by
  obtain ⟨F, env, hK, r, w⟩ := h
  rw [ev_lc] at w
  refine ⟨F, env, hK, r, W_mono (W_bind w) fun items env1 H1 f1 r1 h1 J hJ Dl hD => ?_⟩
  cases hacc : accLoop (stands o as) (lcTurn me t mt) 0 items [] (wipeE env1 t.slots) with
  | stuck => rw [hacc] at h1; exact False.elim h1
  | exc c v env' => exact absurd hacc (acc_nox lcTurn_nox)
  | ok accf envf =>
    rw [hacc] at h1
    simp only [Res.bind] at h1
    split at h1
    · rename_i hz
      have nD := r1.notOwn hD
      have n0 := r1.H0none hD
      have so := wipe_same (ms := ms) (σ := σ) hms
      have nDw : ¬ OwnA ms (wipe σ t.slots) Dl := fun z => nD ((so.owna _).mp z)
      have exF : ∀ {H' : Hp}, FrP ms σ H1 H' → Ext (Tab F ms σ) H1 (Tab (F.plus Dl) ms (wipe σ t.slots)) H' := fun {H'} fr a u n e => by
        refine ⟨fun z => ?_, fr a u e fun z => n (.inr z)⟩
        rw [so.tab] at z
        rcases z with (z | z) | z
        · exact n (.inl z)
        · rw [z, hD] at e; cases e
        · exact n (.inr z)
      refine ⟨fun i m H => m = items.length - i ∧ i ≤ items.length ∧ ∃ acc env xs, accLoop (stands o as) (lcTurn me t mt) i (items.drop i) acc env = .ok accf envf ∧ Rel (F.plus Dl) ms env (wipe σ t.slots) H ∧ FrP ms σ H1 H ∧ H Dl = some (.lst xs) ∧ DtAll F.K (Tab (F.plus Dl) ms (wipe σ t.slots)) H xs acc.reverse,
        ⟨items.length, rfl, Nat.zero_le _, [], _, [], hacc, (r1.wiped hms).plus hD, .of_same (same_upd hD), upd_same, .nil⟩, ?_⟩
      rintro i m H2 ⟨rfl, hi, acc, env2, xs, ha, r2, f2, hx, hd⟩
      by_cases hlt : i < items.length
      · rw [List.drop_eq_getElem_cons hlt] at ha
        obtain ⟨hst, acc', env', hturn, hrest⟩ := acc_step ha
        have ei : items[i]? = some items[i] := List.getElem?_eq_getElem hlt
        obtain ⟨hgo, -⟩ := hJ i (F.plus Dl) (wipe σ t.slots) env2 H2 hK r2 (.inr so) (exF f2) (by rw [ei]; exact hst)
        obtain ⟨go, yl⟩ := hgo _ ei
        refine .inr ⟨go, fun H' => ∃ m', m' = items.length - (i + 1) ∧ i + 1 ≤ items.length ∧ ∃ acc env xs, accLoop (stands o as) (lcTurn me t mt) (i + 1) (items.drop (i + 1)) acc env = .ok accf envf ∧ Rel (F.plus Dl) ms env (wipe σ t.slots) H' ∧ FrP ms σ H1 H' ∧ H' Dl = some (.lst xs) ∧ DtAll F.K (Tab (F.plus Dl) ms (wipe σ t.slots)) H' xs acc.reverse, fun H' ⟨m', e, q⟩ => ⟨m', by omega, e, q⟩, fun x H3 y => ?_⟩
        obtain ⟨s3, dt3⟩ := yl x H3 y
        obtain ⟨env3, hb, c, env4, ht, hc⟩ := lcTurn_ok hturn
        refine ⟨F.plus Dl, env2, items[i], env3, hK, r2.same s3, by rw [← hK] at dt3; exact dt3.it hok, hb, fun σ2 r3 so2 ag2 => ?_⟩
        have sow : SameO ms σ σ2 := so.trans so2
        have ew : wipe σ2 t.slots = wipe σ t.slots := by rw [wipe_agree ag2, wipe_wipe]
        have nD2 : ¬ OwnA ms σ2 Dl := fun z => nD ((sow.owna _).mp z)
        have tabs : Tab (F.plus Dl) ms σ2 = Tab (F.plus Dl) ms (wipe σ t.slots) := so2.tab
        refine ⟨ew, F.plus Dl, env3, hK, r3, ?_⟩
        rw [ht]
        intro H4 f4 r4
        have x4 : H4 Dl = some (.lst xs) := f4 _ _ (s3 _ _ hx) nD2
        have d4 : DtAll F.K (Tab (F.plus Dl) ms σ2) H4 xs acc.reverse := by
          rw [← tabs] at hd
          exact (hd.mono (.of_same s3)).mono f4.ext
        have fr4 : FrP ms σ H1 H4 := (f2.trans (.of_same s3)).trans (sow.symm.frp f4)
        have back : ∀ {env5 : Env} {H5 : Hp}, Rel (F.plus Dl) ms env5 σ2 H5 → Rel (F.plus Dl) ms (wipeE env5 t.slots) (wipe σ t.slots) H5 := fun {env5 H5} r5 => by
          rw [← ew]
          exact r5.wiped hms
        rcases hc with ⟨rfl, z, env5, he, rfl, rfl⟩ | ⟨rfl, rfl, rfl⟩
        · simp only [if_true]
          refine ⟨F.plus Dl, env4, hK, r4, ?_⟩
          rw [he]
          intro H5 f5 r5 y5 hy5
          obtain ⟨q1, q2, q3⟩ := item_in (R := R) r4 r5 f5 nD2 n0 x4 d4 hy5.1
          have hl := d4.length
          have hm := acc_mono lcTurn_mono hrest
          simp only [List.length_reverse, List.length_cons] at hl hm
          refine ⟨xs, q1, by omega, _, rfl, hlt, z :: acc, _, _, hrest, back q2, ?_, upd_same, ?_⟩
          · intro a u e n
            have ne : a ≠ Dl := fun z => by rw [z, hD] at e; cases e
            rw [upd_ne ne]
            exact (fr4.trans (sow.symm.frp f5)) a u e n
          · rw [List.reverse_cons, ← tabs]
            exact q3
        · simp only [Bool.false_eq_true, if_false]
          exact ⟨_, rfl, hlt, _, _, xs, hrest, back r4, fr4, x4, by rw [← tabs]; exact d4⟩
      · have ei : i = items.length := by omega
        subst ei
        rw [List.drop_length] at ha
        obtain ⟨hst, e1, e2⟩ := acc_end ha
        subst e1 e2
        have en : items[items.length]? = none := List.getElem?_eq_none (Nat.le_refl _)
        obtain ⟨-, hstop⟩ := hJ items.length (F.plus Dl) (wipe σ t.slots) env2 H2 hK r2 (.inr so) (exF f2) (by rw [en]; exact hst)
        refine .inl ⟨hstop en, h1 H2 f2 (r1.back r2.less hms f2) (.ref Dl) ⟨?_, fun _ p ep => ?_⟩⟩
        rotate_left
        · cases ep
          refine (r1.plus hD (o := .lst xs)).back r2 hms fun a u e n => ?_
          by_cases z : a = Dl
          · rw [z, upd_same] at e
            rw [z, hx]
            exact e
          · rw [upd_ne z] at e
            exact f2 a u e n
        unfold ResRel
        rw [if_pos (by rfl)]
        refine ⟨Dl, rfl, f1.none_of r1 hD, .inl ⟨xs, acc.reverse, rfl, hx, hd.mono fun a u n e => ⟨fun z => n ?_, e⟩⟩⟩
        rw [so.tab]
        rcases z with (z | z) | z
        · exact .inl (.inl z)
        · exact .inr z
        · exact .inl (.inr z)
    · exact False.elim h1
theorem lc2_read (hms : ∀ i ∈ t.slots ++ t2.slots, ms[i]? ≠ some true) (hok : okIt o t = true) (hok2 : okIt o2 t2 = true) (h : tM K ms R XR (.lc2 me t o as t2 o2 as2 mt) σ H Q) : tLc2 (tI K ms R XR o as) (gT K ms t) tYes (tI K ms R0 XR o2 as2) (gT K ms t2) (tT K ms R0 XR mt) (tM K ms R0 XR me) (t.slots ++ t2.slots) t2.slots σ H Q := by
  obtain ⟨F, env, hK, r, w⟩ := h
  rw [ev_lc2] at w
  refine ⟨F, env, hK, r, W_mono (W_bind w) fun items env1 H1 f1 r1 h1 J hJ Dl hD => ?_⟩
  cases hacc : accLoop (stands o as) (lcTurn2 me t t2 o2 as2 mt) 0 items [] (wipeE env1 (t.slots ++ t2.slots)) with
  | stuck => rw [hacc] at h1; exact False.elim h1
  | exc c v env' => exact absurd hacc (acc_nox lcTurn2_nox)
  | ok accf envf =>
    rw [hacc] at h1
    simp only [Res.bind] at h1
    split at h1
    · rename_i hz
      have hms1 : ∀ i ∈ t.slots, ms[i]? ≠ some true := fun i h => hms i (List.mem_append_left _ h)
      have hms2 : ∀ i ∈ t2.slots, ms[i]? ≠ some true := fun i h => hms i (List.mem_append_right _ h)
      have nD := r1.notOwn hD
      have n0 := r1.H0none hD
      have so := wipe_same (ms := ms) (σ := σ) hms
      have exF : ∀ {H' : Hp}, FrP ms σ H1 H' → Ext (Tab F ms σ) H1 (Tab (F.plus Dl) ms (wipe σ (t.slots ++ t2.slots))) H' := fun {H'} fr a u n e => by
        refine ⟨fun z => ?_, fr a u e fun z => n (.inr z)⟩
        rw [so.tab] at z
        rcases z with (z | z) | z
        · exact n (.inl z)
        · rw [z, hD] at e; cases e
        · exact n (.inr z)
      refine ⟨fun i m H => m = items.length - i ∧ i ≤ items.length ∧ ∃ acc env xs, accLoop (stands o as) (lcTurn2 me t t2 o2 as2 mt) i (items.drop i) acc env = .ok accf envf ∧ Rel (F.plus Dl) ms env (wipe σ (t.slots ++ t2.slots)) H ∧ FrP ms σ H1 H ∧ H Dl = some (.lst xs) ∧ DtAll F.K (Tab (F.plus Dl) ms (wipe σ (t.slots ++ t2.slots))) H xs acc.reverse,
        ⟨items.length, rfl, Nat.zero_le _, [], _, [], hacc, (r1.wiped hms).plus hD, .of_same (same_upd hD), upd_same, .nil⟩, ?_⟩
      rintro i m H2 ⟨rfl, hi, acc, env2, xs, ha, r2, f2, hx, hd⟩
      by_cases hlt : i < items.length
      · rw [List.drop_eq_getElem_cons hlt] at ha
        obtain ⟨hst, acc', env', hturn, hrest⟩ := acc_step ha
        have ei : items[i]? = some items[i] := List.getElem?_eq_getElem hlt
        obtain ⟨hgo, -⟩ := hJ i (F.plus Dl) (wipe σ (t.slots ++ t2.slots)) env2 H2 hK r2 (.inr so) (exF f2) (by rw [ei]; exact hst)
        obtain ⟨go, yl⟩ := hgo _ ei
        refine .inr ⟨go, fun H' => ∃ m', m' = items.length - (i + 1) ∧ i + 1 ≤ items.length ∧ ∃ acc env xs, accLoop (stands o as) (lcTurn2 me t t2 o2 as2 mt) (i + 1) (items.drop (i + 1)) acc env = .ok accf envf ∧ Rel (F.plus Dl) ms env (wipe σ (t.slots ++ t2.slots)) H' ∧ FrP ms σ H1 H' ∧ H' Dl = some (.lst xs) ∧ DtAll F.K (Tab (F.plus Dl) ms (wipe σ (t.slots ++ t2.slots))) H' xs acc.reverse, fun H' ⟨m', e, q⟩ => ⟨m', by omega, e, q⟩, fun x H3 y => ?_⟩
        obtain ⟨s3, dt3⟩ := yl x H3 y
        obtain ⟨env3, hb, items2, env4, hi2, env9, hin, rfl⟩ := lcTurn2_ok hturn
        refine ⟨F.plus Dl, env2, items[i], env3, hK, r2.same s3, by rw [← hK] at dt3; exact dt3.it hok, hb, fun σ2 r3 so2 ag2 => ?_⟩
        have sow : SameO ms σ σ2 := so.trans so2
        have ag3 : Agree (t.slots ++ t2.slots) (wipe σ (t.slots ++ t2.slots)) σ2 := ag2.mono fun i h => List.mem_append_left _ h
        have ew : wipe σ2 (t.slots ++ t2.slots) = wipe σ (t.slots ++ t2.slots) := by rw [wipe_agree ag3, wipe_wipe]
        have nD2 : ¬ OwnA ms σ2 Dl := fun z => nD ((sow.owna _).mp z)
        have tabs : Tab (F.plus Dl) ms σ2 = Tab (F.plus Dl) ms (wipe σ (t.slots ++ t2.slots)) := so2.tab
        have so4 := wipe_same (ms := ms) (σ := σ2) hms2
        have nD4 : ¬ OwnA ms (wipe σ2 t2.slots) Dl := fun z => nD2 ((so4.owna _).mp z)
        have tabs4 : Tab (F.plus Dl) ms (wipe σ2 t2.slots) = Tab (F.plus Dl) ms σ2 := so4.tab
        refine ⟨ew, ?_⟩
        simp only [tYes, if_true]
        refine ⟨F.plus Dl, env3, hK, r3, ?_⟩
        rw [hi2]
        intro H4 f4 r4 J1 hJ1
        have x4 : H4 Dl = some (.lst xs) := f4 _ _ (s3 _ _ hx) nD2
        have d4 : DtAll F.K (Tab (F.plus Dl) ms σ2) H4 xs acc.reverse := by
          rw [← tabs] at hd
          exact (hd.mono (.of_same s3)).mono f4.ext
        have fr4 : FrP ms σ H1 H4 := (f2.trans (.of_same s3)).trans (sow.symm.frp f4)
        have hmo := acc_mono lcTurn2_mono hrest
        refine ⟨fun j k H => k = items2.length - j ∧ j ≤ items2.length ∧ ∃ acc env xs, accLoop (stands o2 as2) (lcTurn me t2 mt) j (items2.drop j) acc env = .ok acc' env9 ∧ Rel (F.plus Dl) ms env (wipe σ2 t2.slots) H ∧ FrP ms σ H1 H ∧ H Dl = some (.lst xs) ∧ DtAll F.K (Tab (F.plus Dl) ms σ2) H xs acc.reverse ∧ Ext (Tab (F.plus Dl) ms σ2) H4 (Tab (F.plus Dl) ms (wipe σ2 t2.slots)) H,
          ⟨items2.length, rfl, Nat.zero_le _, acc, _, xs, hin, r4.wiped hms2, fr4, x4, d4, by rw [tabs4]; exact Ext.refl⟩, ?_⟩
        rintro j k H5 ⟨rfl, hj, acc5, env5, xs5, ha5, r5, f5, hx5, hd5, ex5⟩
        by_cases hlt5 : j < items2.length
        · rw [List.drop_eq_getElem_cons hlt5] at ha5
          obtain ⟨hst5, acc6, env6, hturn5, hrest5⟩ := acc_step ha5
          have ej : items2[j]? = some items2[j] := List.getElem?_eq_getElem hlt5
          obtain ⟨hgo5, -⟩ := hJ1 j (F.plus Dl) (wipe σ2 t2.slots) env5 H5 hK r5 (.inr so4) ex5 (by rw [ej]; exact hst5)
          obtain ⟨go5, yl5⟩ := hgo5 _ ej
          refine .inr ⟨go5, fun H' => ∃ k', k' = items2.length - (j + 1) ∧ j + 1 ≤ items2.length ∧ ∃ acc env xs, accLoop (stands o2 as2) (lcTurn me t2 mt) (j + 1) (items2.drop (j + 1)) acc env = .ok acc' env9 ∧ Rel (F.plus Dl) ms env (wipe σ2 t2.slots) H' ∧ FrP ms σ H1 H' ∧ H' Dl = some (.lst xs) ∧ DtAll F.K (Tab (F.plus Dl) ms σ2) H' xs acc.reverse ∧ Ext (Tab (F.plus Dl) ms σ2) H4 (Tab (F.plus Dl) ms (wipe σ2 t2.slots)) H', fun H' ⟨k', e, q⟩ => ⟨k', by omega, e, q⟩, fun x5 H6 y5 => ?_⟩
          obtain ⟨s6, dt6⟩ := yl5 x5 H6 y5
          obtain ⟨env7, hb7, c, env8, ht8, hc8⟩ := lcTurn_ok hturn5
          refine ⟨F.plus Dl, env5, items2[j], env7, hK, r5.same s6, by rw [← hK] at dt6; exact dt6.it hok2, hb7, fun σ3 r7 so7 ag7 => ?_⟩
          have sow7 : SameO ms σ2 σ3 := so4.trans so7
          have ew7 : wipe σ3 t2.slots = wipe σ2 t2.slots := by rw [wipe_agree ag7, wipe_wipe]
          have nD7 : ¬ OwnA ms σ3 Dl := fun z => nD2 ((sow7.owna _).mp z)
          have tabs7 : Tab (F.plus Dl) ms σ3 = Tab (F.plus Dl) ms σ2 := sow7.tab
          refine ⟨ew7, F.plus Dl, env7, hK, r7, ?_⟩
          rw [ht8]
          intro H8 f8 r8
          have x8 : H8 Dl = some (.lst xs5) := f8 _ _ (s6 _ _ hx5) nD7
          have d8 : DtAll F.K (Tab (F.plus Dl) ms σ3) H8 xs5 acc5.reverse := by
            rw [← tabs7] at hd5
            exact (hd5.mono (.of_same s6)).mono f8.ext
          have fr8 : FrP ms σ H1 H8 := (f5.trans (.of_same s6)).trans ((sow.trans sow7).symm.frp f8)
          have ex8 : Ext (Tab (F.plus Dl) ms σ2) H4 (Tab (F.plus Dl) ms (wipe σ2 t2.slots)) H8 := by
            refine ex5.trans (Ext.trans (.of_same s6) ?_)
            have q := f8.ext (F := F.plus Dl)
            rw [show Tab (F.plus Dl) ms σ3 = Tab (F.plus Dl) ms (wipe σ2 t2.slots) from so7.tab] at q
            exact q
          have back : ∀ {env : Env} {Hx : Hp}, Rel (F.plus Dl) ms env σ3 Hx → Rel (F.plus Dl) ms (wipeE env t2.slots) (wipe σ2 t2.slots) Hx := fun {env Hx} rx => by
            rw [← ew7]
            exact rx.wiped hms2
          rcases hc8 with ⟨rfl, z, env10, he, rfl, rfl⟩ | ⟨rfl, rfl, rfl⟩
          · simp only [if_true]
            refine ⟨F.plus Dl, env8, hK, r8, ?_⟩
            rw [he]
            intro H9 f9 r9 y9 hy9
            obtain ⟨q1, q2, q3⟩ := item_in (R := R) r8 r9 f9 nD7 n0 x8 d8 hy9.1
            have hl := d8.length
            have hm := acc_mono lcTurn_mono hrest5
            simp only [List.length_reverse, List.length_cons] at hl hm
            refine ⟨xs5, q1, by omega, _, rfl, hlt5, z :: acc5, _, _, hrest5, back q2, ?_, upd_same, ?_, ?_⟩
            · intro a u e n
              have ne : a ≠ Dl := fun z => by rw [z, hD] at e; cases e
              rw [upd_ne ne]
              exact (fr8.trans ((sow.trans sow7).symm.frp f9)) a u e n
            · rw [List.reverse_cons, ← tabs7]
              exact q3
            · refine ex8.trans fun a u n e => ⟨n, ?_⟩
              have nt : ¬ Tab (F.plus Dl) ms σ3 a := by rw [show Tab (F.plus Dl) ms σ3 = Tab (F.plus Dl) ms (wipe σ2 t2.slots) from so7.tab]; exact n
              rw [upd_ne fun z => nt (by rw [z]; exact .inl (.inr rfl))]
              exact f9 a u e fun z => nt (.inr z)
          · simp only [Bool.false_eq_true, if_false]
            exact ⟨_, rfl, hlt5, _, _, xs5, hrest5, back r8, fr8, x8, by rw [← tabs7]; exact d8, ex8⟩
        · have ej : j = items2.length := by omega
          subst ej
          rw [List.drop_length] at ha5
          obtain ⟨hst5, e1, e2⟩ := acc_end ha5
          subst e1 e2
          have en : items2[items2.length]? = none := List.getElem?_eq_none (Nat.le_refl _)
          obtain ⟨-, hstop⟩ := hJ1 items2.length (F.plus Dl) (wipe σ2 t2.slots) env5 H5 hK r5 (.inr so4) ex5 (by rw [en]; exact hst5)
          refine .inl ⟨hstop en, _, rfl, hlt, acc5, _, xs5, hrest, ?_, f5, hx5, by rw [← tabs]; exact hd5⟩
          have q := r5.wiped hms
          rw [wipe_agree (agree_wipe.mono fun i h => List.mem_append_right _ h), ew] at q
          exact q
      · have ei : i = items.length := by omega
        subst ei
        rw [List.drop_length] at ha
        obtain ⟨hst, e1, e2⟩ := acc_end ha
        subst e1 e2
        have en : items[items.length]? = none := List.getElem?_eq_none (Nat.le_refl _)
        obtain ⟨-, hstop⟩ := hJ items.length (F.plus Dl) (wipe σ (t.slots ++ t2.slots)) env2 H2 hK r2 (.inr so) (exF f2) (by rw [en]; exact hst)
        refine .inl ⟨hstop en, h1 H2 f2 (r1.back r2.less hms f2) (.ref Dl) ⟨?_, fun _ p ep => ?_⟩⟩
        rotate_left
        · cases ep
          refine (r1.plus hD (o := .lst xs)).back r2 hms fun a u e n => ?_
          by_cases z : a = Dl
          · rw [z, upd_same] at e
            rw [z, hx]
            exact e
          · rw [upd_ne z] at e
            exact f2 a u e n
        unfold ResRel
        rw [if_pos (by rfl)]
        refine ⟨Dl, rfl, f1.none_of r1 hD, .inl ⟨xs, acc.reverse, rfl, hx, hd.mono fun a u n e => ⟨fun z => n ?_, e⟩⟩⟩
        rw [so.tab]
        rcases z with (z | z) | z
        · exact .inl (.inl z)
        · exact .inr z
        · exact .inl (.inr z)
    · exact False.elim h1
end
end MP

/-! MP: every operator by its text. -/
namespace MP
open PySem L2

section
variable {X : Cx} {e : Expr} {b : Bool}
def PB (X : Cx) (e : Expr) (t : TE) (b : Bool) : Prop := PE X e t ∧ (b = true → PT X e (tTest t))
theorem pb_imp {t t' : TE} (h : PB X e t b) (w : ∀ σ H Q, t' σ H Q → t σ H Q) : PB X e t' b := ⟨pe_imp h.1 w, fun hb => pt_imp (h.2 hb) fun σ H Q q => w σ H _ q⟩
theorem pb_plain {t : TE} (h : PE X e t) (he : b = true → plainT e = true) : PB X e t b := ⟨h, fun hb => pt_val h (by
  have he := he hb
  intro w
  cases e <;> first | rfl | cases he)⟩
def tstB : Expr → Bool
  | .Compare _ _ _ _ => true
  | e => plainT e
end
section
variable {X : Cx} {sc : Scope} {fn : Str → Bool} {N : List Str} {R : WX} {XR : XRel} {ms : List Bool} {as : As} {es : List Expr} {b : Bool}
theorem mark_noset {op : CmpOp} {e : Expr} (h : noSet e = true) : behindInMarks op e = false := by
  cases e <;> first | rfl | cases h
theorem pb_cmp {bo : CmpOp} {op : Op} {x y : Expr} {pos : Pos} (s : OpR X (compareOp bo) (fun x y => rGen X.K op [x, y])) (hm : noSet y = true) (hs : PEs X X.K ms R XR as [x, y]) : PB X (.Compare x [bo] [y] pos) (tM X.K ms R XR (.prim op as)) b := by
  obtain ⟨o, p, rfl, ha, hb⟩ := hs.two
  exact ⟨pe_imp (pe_cmpR s ha hb (mark_noset hm)) fun _ _ _ h => core2 h, fun _ => pt_imp (pt_cmpR s ha hb (mark_noset hm)) fun σ H Q h => core2 h⟩
theorem pb_none {bo : CmpOp} {op : Op} {x : Expr} {j : Nat} {p2 pos : Pos} (s : OpR X (compareOp bo) (fun x y H Q => y = .non ∧ rGen X.K op [x] H Q)) (hs : PEs X X.K ms R XR as [x]) : PB X (.Compare x [bo] [.Constant .none j p2] pos) (tM X.K ms R XR (.prim op as)) b := by
  obtain ⟨o, rfl, ha, _⟩ := hs.one
  have w : ∀ σ H Q, tM X.K ms R XR (.prim op (.cons o .nil)) σ H Q → tOp (fun x y H Q => y = .non ∧ rGen X.K op [x] H Q) (tO X.K ms R XR o) (tC .non) σ H Q := fun σ H Q h => by
    obtain ⟨F, env, hK, r, w⟩ := core1 (as := .nil) h
    exact ⟨F, env, hK, r, W_mono w fun d env1 H1 f1 r1 h1 v hv => ⟨rfl, h1 v hv⟩⟩
  exact ⟨pe_imp (pe_cmpR s ha pe_non (mark_noset rfl)) w, fun _ => pt_imp (pt_cmpR s ha pe_non (mark_noset rfl)) fun σ H Q h => w σ H _ h⟩
theorem pb_bool {bo : CmpOp} {op : Op} {c : Bool} {x : Expr} {j : Nat} {p2 pos : Pos} (s : OpR X (compareOp bo) (fun x y H Q => y = .bl c ∧ rGen X.K op [x] H Q)) (hs : PEs X X.K ms R XR as [x]) : PB X (.Compare x [bo] [.Constant (.bool c) j p2] pos) (tM X.K ms R XR (.prim op as)) b := by
  obtain ⟨o, rfl, ha, _⟩ := hs.one
  have w : ∀ σ H Q, tM X.K ms R XR (.prim op (.cons o .nil)) σ H Q → tOp (fun x y H Q => y = .bl c ∧ rGen X.K op [x] H Q) (tO X.K ms R XR o) (tC (.bl c)) σ H Q := fun σ H Q h => by
    obtain ⟨F, env, hK, r, w⟩ := core1 (as := .nil) h
    exact ⟨F, env, hK, r, W_mono w fun d env1 H1 f1 r1 h1 v hv => ⟨rfl, h1 v hv⟩⟩
  exact ⟨pe_imp (pe_cmpR s ha pe_bl (mark_noset rfl)) w, fun _ => pt_imp (pt_cmpR s ha pe_bl (mark_noset rfl)) fun σ H Q h => w σ H _ h⟩
theorem prim_bin (C : CtxOk X sc fn N R) {op : Op} {x y : Expr} {bo : Operator} {pos : Pos} (hf : binF op = some bo) (hs : PEs X X.K ms R XR as [x, y]) : PE X (.BinOp x bo y pos) (tM X.K ms R XR (.prim op as)) := by
  obtain ⟨o, p, rfl, ha, hb⟩ := hs.two
  cases op <;> simp only [binF, Option.some.injEq, reduceCtorEq] at hf <;> subst hf
  · exact f_bin s_add ha hb
  · exact f_bin s_cat ha hb
  · exact f_bin s_sub ha hb
  · exact f_bin s_mul ha hb
  · exact f_bin s_fdiv ha hb
  · exact f_bin s_mod ha hb
  · exact f_bin s_pow ha hb
  · exact f_bin s_shl ha hb
  · exact f_bin s_shr ha hb
  · exact f_bin s_band ha hb
  · exact f_bin s_bor ha hb
  · exact f_bin s_rep ha hb
theorem op_cmp (C : CtxOk X sc fn N R) {op : Op} {bo : CmpOp} (hf : cmpF op = some bo) : OpR X (compareOp bo) (fun x y => rGen X.K op [x, y]) := by
  have hu := C.un
  cases op <;> simp only [cmpF, Option.some.injEq, reduceCtorEq] at hf <;> subst hf
  · exact s_lt
  · exact s_le
  · exact s_gt
  · exact s_ge
  · exact s_eq (by omega)
  · exact s_ne (by omega)
  · exact s_in (by omega)
  · exact s_notin (by omega)
  · exact s_eqD (by omega)
theorem prim_call1 (C : CtxOk X sc fn N R) {op : Op} {n : Str} {x : Expr} {p pos : Pos} {nm : String} {ty : Bool} (hb : bname op = some (nm, ty)) (hn : n = Str.ofString nm) (hg : glB sc n = true) (hs : PEs X X.K ms R XR as [x]) : PE X (.Call (.Name n p) [x] [] pos) (tM X.K ms R XR (.prim op as)) := by
  obtain ⟨g1, g2, g3⟩ := gl_of C hg
  obtain ⟨o, rfl, ha, _⟩ := hs.one
  have hu := C.un
  cases op <;> simp only [bname, Option.some.injEq, reduceCtorEq, Prod.mk.injEq] at hb <;> obtain ⟨rfl, rfl⟩ := hb <;> subst hn
  · exact f_callB s_len g1 (C.bl _ (by decide)) (by decide +kernel) g3 g2 hs
  · exact f_callT s_tuple g1 (C.bl _ (by decide)) (by decide +kernel) g3 g2 hs
  · exact f_callT s_list g1 (C.bl _ (by decide)) (by decide +kernel) g3 g2 hs
  · exact f_callB s_sorted g1 (C.bl _ (by decide)) (by decide +kernel) g3 g2 hs
  · exact f_callB (s_min C.calm) g1 (C.bl _ (by decide)) (by decide +kernel) g3 g2 hs
  · exact f_callB (s_max C.calm) g1 (C.bl _ (by decide)) (by decide +kernel) g3 g2 hs
  · exact f_callB (s_sum C.calm) g1 (C.bl _ (by decide)) (by decide +kernel) g3 g2 hs
  · exact f_callB (s_any C.calm) g1 (C.bl _ (by decide)) (by decide +kernel) g3 g2 hs
  · exact f_callB (s_all C.calm) g1 (C.bl _ (by decide)) (by decide +kernel) g3 g2 hs
  · exact f_callB s_abs g1 (C.bl _ (by decide)) (by decide +kernel) g3 g2 hs
  · exact f_callT s_int g1 (C.bl _ (by decide)) (by decide +kernel) g3 g2 hs
  · exact f_callT s_str g1 (C.bl _ (by decide)) (by decide +kernel) g3 g2 hs
  · exact f_callB (s_repr hu C.gu) g1 (C.bl _ (by decide)) (by decide +kernel) g3 g2 hs
  · exact f_callT (s_dof C.calm) g1 (C.bl _ (by decide)) (by decide +kernel) g3 g2 hs
theorem prim_call2 (C : CtxOk X sc fn N R) {n : Str} {x y : Expr} {p pos : Pos} (mx : Bool) (hn : n = Str.ofString (if mx then "max" else "min")) (hg : glB sc n = true) (hs : PEs X X.K ms R XR as [x, y]) : PE X (.Call (.Name n p) [x, y] [] pos) (tM X.K ms R XR (.prim (if mx then .max2 else .min2) as)) := by
  obtain ⟨g1, g2, g3⟩ := gl_of C hg
  obtain ⟨o, q, rfl, ha, hb⟩ := hs.two
  cases mx
  · simp only [Bool.false_eq_true, if_false] at hn ⊢
    subst hn
    exact f_callB2 (s_min2 C.calm) g1 (C.bl _ (by decide)) (by decide +kernel) g3 g2 hs
  · simp only [if_true] at hn ⊢
    subst hn
    exact f_callB2 (s_max2 C.calm) g1 (C.bl _ (by decide)) (by decide +kernel) g3 g2 hs
theorem prim_snd (C : CtxOk X sc fn N R) {op : Op} {e : Expr} (hf : formOf sc op e = some es) (hs : PEs X X.K ms R XR as es) (no : (op = .tup ∨ op = .lst) → as.noOwn = true) (hb : b = true → tstB e = true) : PB X e (tM X.K ms R XR (.prim op as)) b := by
  cases e with
  | BinOp x bo y pos =>
    simp only [formOf] at hf
    split at hf
    · rename_i o' e1
      split at hf
      · rename_i e2
        subst e2
        cases hf
        exact pb_plain (prim_bin C e1 hs) hb
      · cases hf
    · cases hf
  | UnaryOp uo x pos =>
    cases uo <;> simp only [formOf, reduceCtorEq] at hf
    split at hf
    · rename_i e1
      subst e1
      cases hf
      obtain ⟨o, rfl, ha, _⟩ := hs.one
      exact pb_plain (f_neg ha) hb
    · cases hf
  | Compare x ops ys pos =>
    match ops, ys, hf with
    | [bo], [y], hf =>
      simp only [formOf] at hf
      split at hf
      · rename_i o' e1
        split at hf
        · rename_i e2
          obtain ⟨e2, e3⟩ := e2
          subst e2
          cases hf
          exact pb_cmp (op_cmp C e1) e3 hs
        · cases hf
      · split at hf
        · cases hf
          exact pb_none s_isNone hs
        · cases hf
          exact pb_none s_notNone hs
        · split at hf
          · rename_i e1
            cases hf
            subst e1
            exact pb_bool s_isB hs
          · cases hf
        · split at hf
          · rename_i e1
            cases hf
            subst e1
            exact pb_bool s_notB hs
          · cases hf
        · cases hf
    | [], _, hf => simp [formOf] at hf
    | _ :: _ :: _, _, hf => simp [formOf] at hf
    | [_], [], hf => simp [formOf] at hf
    | [_], _ :: _ :: _, hf => simp [formOf] at hf
  | Subscript x i pos =>
    simp only [formOf] at hf
    split at hf
    · split at hf
      · rename_i hi
        cases hf
        obtain ⟨o, p, rfl, ha, hb'⟩ := hs.two
        exact pb_plain (f_idx (by have := C.un; omega) ha hb' hi) hb
      · cases hf
    · cases hf
      obtain ⟨o, rfl, ha, _⟩ := hs.one
      exact pb_plain (f_slice0 ha) hb
    · cases hf
      obtain ⟨o, p, rfl, ha, hb'⟩ := hs.two
      exact pb_plain (f_sliceL ha hb') hb
    · cases hf
      obtain ⟨o, p, rfl, ha, hb'⟩ := hs.two
      exact pb_plain (f_sliceU ha hb') hb
    · cases hf
      obtain ⟨o, rfl, ha, _⟩ := hs.one
      exact pb_plain (f_rev ha) hb
    · cases hf
  | Tuple xs k pos =>
    simp only [formOf] at hf
    split at hf
    · rename_i e1
      subst e1
      cases hf
      exact pb_plain (f_tup hs (no (.inl rfl))) hb
    · cases hf
  | List xs pos =>
    simp only [formOf] at hf
    split at hf
    · rename_i e1
      subst e1
      cases hf
      exact pb_plain (f_lst hs (no (.inr rfl))) hb
    · cases hf
  | Dict ks vs pos =>
    cases ks with
    | cons k1 kr =>
      unfold formOf at hf
      split at hf <;> first | (cases hf; done) | skip
      all_goals first | (rename_i he; cases he; done) | skip
      rename_i i kk pp c kk2 pp2 pos2 he
      cases he
      split at hf
      · split at hf
        · rename_i e1
          cases hf
          cases hs
          exact pb_plain (f_dlit e1.1 e1.2) hb
        · cases hf
      · cases hf
    | nil =>
      cases vs with
      | cons _ _ => simp [formOf] at hf
      | nil =>
        simp only [formOf] at hf
        split at hf
        · rename_i e1
          subst e1
          cases hf
          cases hs
          exact pb_plain f_dnew hb
        · cases hf
  | Call f xs kws pos =>
    cases f with
    | Name n p =>
      cases kws with
      | cons _ _ => simp [formOf] at hf
      | nil =>
        simp only [formOf] at hf
        split at hf
        · rename_i hg
          split at hf
          · split at hf
            · rename_i e1
              cases hf
              obtain ⟨o, rfl, ha, hna⟩ := hs.one
              exact pb_plain (f_lrng C hg e1.1 e1.2.2.1 e1.2.1 ha hna) hb
            · cases hf
          · split at hf
            · rename_i e1
              cases hf
              exact pb_plain (f_reprT C hg e1 hs) hb
            · cases hf
          · split at hf
            · rename_i e1
              cases hf
              obtain ⟨o, rfl, ha, hna⟩ := hs.one
              exact pb_plain (f_isi C hg e1.1 e1.2 ha hna) hb
            · cases hf
          · split at hf
            · rename_i e1
              cases hf
              exact pb_plain (prim_call2 C false e1 hg hs) hb
            · cases hf
          · split at hf
            · rename_i e1
              cases hf
              exact pb_plain (prim_call2 C true e1 hg hs) hb
            · cases hf
          · split at hf
            · rename_i e1
              split at hf
              · rename_i e2
                cases hf
                exact pb_plain (prim_call1 C e1 e2 hg hs) hb
              · cases hf
            · cases hf
          · cases hf
        · cases hf
    | _ => simp [formOf] at hf
  | _ => simp [formOf] at hf
end
end MP

/-! MP: the readings of expressions that are no operators. -/
namespace MP
open PySem L2

section
variable {X : Cx} {K : PySem.W.Frag} {sc : Scope} {fn : Str → Bool} {N : List Str} {R : WX} {XR : XRel} {ms : List Bool} {F : Fx} {env env' : Env} {σ : St} {H H' : Hp} {Q : VK} {a b c : E}
theorem ResRel.weaken {S : Addr → Prop} {x y : Bool} {v : V} {d : D} (hS : ∀ a, S a → H a ≠ none) (h : ResRel x K S H H' v d) (xy : y = true → x = true) : ResRel y K S H H' v d := by
  cases y with
  | true => rw [xy rfl] at h; exact h
  | false => exact h.plain hS
theorem isT_bind {α : Type} {r : Res α} {f : α → Env → Res D} : isT (r.bind f) = r.bind fun a env => isT (f a env) := by
  cases r <;> rfl
theorem bl_of {b : Bool} {c : Bool} {v : V} (hS : ∀ a, (Tab F ms σ) a → H a ≠ none) (h : ResRel b K (Tab F ms σ) H H' v (.bool c)) : v = .bl c := by
  have := h.dt hS
  cases this
  rfl
theorem rd_test {m : E} {Q : Bool → Hp → Prop} (h : tT K ms R XR m σ H Q) : tTest (tM K ms R XR m) σ H Q := by
  obtain ⟨F, env, hK, r, w⟩ := h
  refine ⟨F, env, hK, r, W_mono (W_isT w) fun d env' H' f' r' ⟨c, e, q⟩ v hv => ?_⟩
  subst e
  exact ⟨c, bl_of r.tabT hv.1, q⟩
theorem rd_and (h : tM K ms R XR (.and a b) σ H Q) : tAndV (tM K ms R XR a) (tM K ms R XR b) σ H Q := by
  obtain ⟨F, env, hK, r, w⟩ := h
  simp only [evE] at w
  refine ⟨F, env, hK, r, W_mono (W_isT (W_bind w)) fun d env1 H1 f1 r1 ⟨c, e, q⟩ v hv => ?_⟩
  subst e
  refine ⟨c, bl_of r.tabT hv.1, ?_⟩
  cases c with
  | true =>
    simp only [if_true] at q ⊢
    exact ⟨F, env1, hK, r1, W_mono q fun d env2 H2 f2 r2 q v hv => q v (rm (hv.1.dt r1.tabT))⟩
  | false =>
    simp only [Bool.false_eq_true, if_false] at q ⊢
    exact W_ok q r1 _ (rm (.bl _))
theorem rd_or (h : tM K ms R XR (.or a b) σ H Q) : tOrV (tM K ms R XR a) (tM K ms R XR b) σ H Q := by
  obtain ⟨F, env, hK, r, w⟩ := h
  simp only [evE] at w
  refine ⟨F, env, hK, r, W_mono (W_isT (W_bind w)) fun d env1 H1 f1 r1 ⟨c, e, q⟩ v hv => ?_⟩
  subst e
  refine ⟨c, bl_of r.tabT hv.1, ?_⟩
  cases c with
  | false =>
    simp only [Bool.false_eq_true, if_false] at q ⊢
    exact ⟨F, env1, hK, r1, W_mono q fun d env2 H2 f2 r2 q v hv => q v (rm (hv.1.dt r1.tabT))⟩
  | true =>
    simp only [if_true] at q ⊢
    exact W_ok q r1 _ (rm (.bl _))
theorem rd_not (h : tM K ms R XR (.not a) σ H Q) : tNotV (tM K ms R XR a) σ H Q := by
  obtain ⟨F, env, hK, r, w⟩ := h
  simp only [evE] at w
  refine ⟨F, env, hK, r, W_mono (W_isT (W_bind w)) fun d env1 H1 f1 r1 ⟨c, e, q⟩ v hv => ?_⟩
  subst e
  exact ⟨c, bl_of r.tabT hv.1, W_ok q r1 _ (rm (.bl _))⟩
theorem rt_and {Q : Bool → Hp → Prop} (h : tT K ms R XR (.and a b) σ H Q) : tAnd (tT K ms R XR a) (tT K ms R XR b) σ H Q := by
  obtain ⟨F, env, hK, r, w⟩ := h
  simp only [evE, isT_bind] at w
  refine ⟨F, env, hK, r, W_mono (W_bind w) fun c env1 H1 f1 r1 q => ?_⟩
  cases c with
  | true =>
    simp only [if_true] at q ⊢
    exact ⟨F, env1, hK, r1, q⟩
  | false =>
    simp only [Bool.false_eq_true, if_false] at q ⊢
    exact W_ok q r1
theorem rt_or {Q : Bool → Hp → Prop} (h : tT K ms R XR (.or a b) σ H Q) : tOr (tT K ms R XR a) (tT K ms R XR b) σ H Q := by
  obtain ⟨F, env, hK, r, w⟩ := h
  simp only [evE, isT_bind] at w
  refine ⟨F, env, hK, r, W_mono (W_bind w) fun c env1 H1 f1 r1 q => ?_⟩
  cases c with
  | false =>
    simp only [Bool.false_eq_true, if_false] at q ⊢
    exact ⟨F, env1, hK, r1, q⟩
  | true =>
    simp only [if_true] at q ⊢
    exact W_ok q r1
theorem rt_not {Q : Bool → Hp → Prop} (h : tT K ms R XR (.not a) σ H Q) : tNot (tT K ms R XR a) σ H Q := by
  obtain ⟨F, env, hK, r, w⟩ := h
  simp only [evE, isT_bind] at w
  exact ⟨F, env, hK, r, W_mono (W_bind w) fun c env1 H1 f1 r1 q => W_ok q r1⟩
theorem rd_ite (h : tM K ms R XR (.ite a b c) σ H Q) : tIf (tT K ms R XR a) (tM K ms R XR b) (tM K ms R XR c) σ H Q := by
  obtain ⟨F, env, hK, r, w⟩ := h
  simp only [evE] at w
  refine ⟨F, env, hK, r, W_mono (W_bind w) fun t env1 H1 f1 r1 q => ?_⟩
  cases t with
  | true =>
    simp only [if_true] at q ⊢
    refine ⟨F, env1, hK, r1, W_mono q fun d env2 H2 f2 r2 q v hv => q v ?_⟩
    have ee : (E.ite a b c).fresh = true → b.fresh = true := fun e => by
      have e : (b.fresh && c.fresh) = true := e
      simp only [Bool.and_eq_true] at e; exact e.1
    exact ⟨(hv.1.base fun a => f1.none_of r1).weaken r.tabT ee, fun e => hv.2 (ee e)⟩
  | false =>
    simp only [Bool.false_eq_true, if_false] at q ⊢
    refine ⟨F, env1, hK, r1, W_mono q fun d env2 H2 f2 r2 q v hv => q v ?_⟩
    have ee : (E.ite a b c).fresh = true → c.fresh = true := fun e => by
      have e : (b.fresh && c.fresh) = true := e
      simp only [Bool.and_eq_true] at e; exact e.2
    exact ⟨(hv.1.base fun a => f1.none_of r1).weaken r.tabT ee, fun e => hv.2 (ee e)⟩
theorem rd_orv (h : tM K ms R XR (.orv a b) σ H Q) : tOrT K (tM K ms R XR a) (tM K ms R XR b) σ H Q := by
  obtain ⟨F, env, hK, r, w⟩ := h
  simp only [evE] at w
  refine ⟨F, env, hK, r, W_mono (W_bind w) fun d env1 H1 f1 r1 q v hv => ?_⟩
  have hd := hv.1.dt r.tabT
  cases hd with
  | lst h1 h2 =>
    rename_i p vs ds
    cases h2 with
    | nil =>
      refine ⟨false, .inl ⟨[], by rw [← hK]; exact h1.sq, rfl⟩, ?_⟩
      simp only [Bool.false_eq_true, if_false]
      refine ⟨F, env1, hK, r1, W_mono q fun d env2 H2 f2 r2 q v hv => q v ?_⟩
      have ee : (E.orv a b).fresh = true → b.fresh = true := fun e => by
        have e : (a.fresh && b.fresh) = true := e
        simp only [Bool.and_eq_true] at e; exact e.2
      exact ⟨(hv.1.base fun a => f1.none_of r1).weaken r.tabT ee, fun e => hv.2 (ee e)⟩
    | cons h3 h4 =>
      refine ⟨true, .inl ⟨_, by rw [← hK]; exact h1.sq, rfl⟩, ?_⟩
      simp only [if_true]
      have ee : (E.orv a b).fresh = true → a.fresh = true := fun e => by
        have e : (a.fresh && b.fresh) = true := e
        simp only [Bool.and_eq_true] at e; exact e.1
      exact W_ok q r1 _ ⟨hv.1.weaken r.tabT ee, fun e => hv.2 (ee e)⟩
  | _ => exact absurd q id
theorem W_later {α : Type} {r : Res α} {k : α → Env → Hp → Prop} (h : W F ms R XR σ r H k) (f : FrP ms σ H H') : W F ms R XR σ r H' k := by
  cases r with
  | ok a env1 => exact fun H1 f1 r1 => h H1 (f.trans f1) r1
  | exc c x env1 => exact fun C dx H1 f1 r1 => h C dx H1 (f.trans f1) r1
  | stuck => exact h
theorem dt_opds {x y : V} {d e : D} {S : Addr → Prop} (h1 : Dt K S H x d) (h2 : Dt K S H y e) : Opds K S H [x, y] [d, e] := .cons (.inl h1) (.cons (.inl h2) .nil)
theorem rd_chain {o p : Op} (fo : o.fresh = false) (fp : p.fresh = false) (h : tM K ms R XR (.chain o p a b c) σ H Q) : tChain (fun x y => rGen K o [x, y]) (fun x y => rGen K p [x, y]) (tM K ms R XR a) (tM K ms R XR b) (tM K ms R XR c) σ H Q := by
  obtain ⟨F, env, hK, r, w⟩ := h
  subst hK
  simp only [evE] at w
  refine ⟨F, env, rfl, r, W_mono (W_bind w) fun x env1 H1 f1 r1 q v hv => ?_⟩
  have dx := hv.1.dt r.tabT
  refine ⟨F, env1, rfl, r1, W_mono (W_bind q) fun y env2 H2 f2 r2 q u hu => ?_⟩
  have dy := hu.1.dt r1.tabT
  have dx := dx.mono f2.ext
  split at q
  · rename_i e1
    refine ⟨Tab F ms σ, [x, y], .bool true, r2.tabT, dt_opds dx dy, e1, fun z H3 s3 hz => ?_⟩
    have r3 := r2.same s3
    refine ⟨true, bl_of (F := F) (ms := ms) (σ := σ) r2.tabT hz, ?_⟩
    rw [if_pos rfl]
    have q2 := W_bind q
    refine ⟨F, env2, rfl, r3, ?_⟩
    have q3 := W_later q2 (FrP.of_same s3)
    refine W_mono q3 fun z env3 H4 f4 r4 q4 t ht => ?_
    have dz := ht.1.dt r3.tabT
    cases e3 : p.run [y, z] with
    | none => rw [e3] at q4; exact False.elim q4
    | some d =>
      rw [e3] at q4
      refine ⟨Tab F ms σ, [y, z], d, r4.tabT, dt_opds ((dy.mono (.of_same s3)).mono f4.ext) dz, e3, fun v' H5 s5 hv' => ?_⟩
      rw [fp] at hv'
      exact q4 H5 (.of_same s5) (r4.same s5) v' (rm (hv'.dt r4.tabT))
  · rename_i e1
    refine ⟨Tab F ms σ, [x, y], .bool false, r2.tabT, dt_opds dx dy, e1, fun z H3 s3 hz => ?_⟩
    refine ⟨false, bl_of (F := F) (ms := ms) (σ := σ) r2.tabT hz, ?_⟩
    rw [if_neg Bool.false_ne_true]
    exact q H3 (.of_same s3) (r2.same s3) _ (rm (.bl _))
  · exact False.elim q
theorem rd_var {i : Nat} (hm : ms[i]? ≠ some true) (h : tM K ms R XR (.var i) σ H Q) : tVar i σ H Q := by
  obtain ⟨F, env, hK, r, w⟩ := h
  simp only [evE] at w
  cases e : getE env i with
  | none => rw [e] at w; exact False.elim w
  | some d =>
    rw [e] at w
    obtain ⟨v, h1, h2⟩ := r.shr i d e hm
    exact ⟨v, h1, W_ok w r v (rm h2)⟩
/-- a constant of the module -/
def GlbOk (X : Cx) (x : Str) (c : D) : Prop := ∃ v u, X.mg x = some u ∧ RelV v u ∧ ∀ S H, Dt X.K S H v c
theorem rd_glb {x : Str} {d : D} {v : V} (hd : ∀ S H, Dt K S H v d) (h : tM K ms R XR (.glb x d) σ H Q) : tC v σ H Q := by
  obtain ⟨F, env, hK, r, w⟩ := h
  simp only [evE] at w
  rw [← hK] at hd
  exact W_ok w r v (rm (hd _ _))
theorem rd_con {d : D} {v : V} (hd : ∀ S H, Dt K S H v d) (h : tM K ms R XR (.con d) σ H Q) : tC v σ H Q := by
  obtain ⟨F, env, hK, r, w⟩ := h
  simp only [evE] at w
  rw [← hK] at hd
  exact W_ok w r v (rm (hd _ _))
theorem pe_con {d : D} {c : Const} {j : Nat} {pos : Pos} (h : constB d c = true) : PE X (.Constant c j pos) (tM X.K ms R XR (.con d)) := by
  cases d <;> cases c <;> simp only [constB] at h <;> first | (cases h; done) | skip
  · exact pe_imp pe_non fun _ _ _ => rd_con fun _ _ => .non
  · rename_i a b
    have h : a = b := by simpa using h
    subst h
    exact pe_imp pe_bl fun _ _ _ => rd_con fun _ _ => .bl _
  · rename_i a b
    have h : a = b := by simpa using h
    subst h
    exact pe_imp pe_int fun _ _ _ => rd_con fun _ _ => .int _
  · rename_i a b
    have h : a = b := by simpa using h
    subst h
    exact pe_imp pe_str fun _ _ _ => rd_con fun _ _ => .str _
/-- what calls may raise -/
structure XOk (XR : XRel) : Prop where
  up : ∀ c x (S S' : Addr → Prop) H C dx, (∀ a o, ¬ S a → H a = some o → S' a → Lk o) → XR c x S H C dx → XR c x S' H C dx
  dn : ∀ c x (S S' : Addr → Prop) H C dx, (∀ a, S a → S' a) → XR c x S' H C dx → XR c x S H C dx
theorem rd_call {f : Fn} {as : As} (hx : XOk XR) (hb : callB ms f as = true) (h : tM X.K ms R XR (.call f as) σ H Q) : tA X.K ms R XR as σ H fun vs H1 => spM X.K XR f vs H1 Q (fun c d H' => R c d σ H') := by
  obtain ⟨F, env, hK, r, w⟩ := h
  simp only [evE] at w
  refine ⟨F, env, hK, r, W_mono (W_bind w) fun ds env1 H1 f1 r1 q vs hv => ?_⟩
  cases e : fixA as ds env1 with
  | none => rw [e] at q; exact False.elim q
  | some es =>
    rw [e] at q
    exact call_core hK hb r1 hv e (W_mono q fun d env2 H2 f2 r2 q v hv => q v ⟨hv.1.base fun a => f1.none_of r1, hv.2⟩) hx.up

/-! ### keywords -/
theorem kw_names {kws : List Keyword} {names : List Str} {env : PySem.Env} {pos : Pos} (h : kws.map (·.arg) = names.map some) : (backToKw pos (keywordEach kws env)).all (·.1.isSome) = true ∧ (backToKw pos (keywordEach kws env)).filterMap (·.1) = names ∧ (backToKw pos (keywordEach kws env)).any (·.1.isNone) = false := by
  induction kws generalizing names with
  | nil =>
    cases names with
    | nil => exact ⟨rfl, rfl, rfl⟩
    | cons _ _ => simp at h
  | cons kw kws ih =>
    cases names with
    | nil => simp at h
    | cons n names =>
      obtain ⟨a, v, p⟩ := kw
      simp only [List.map_cons, List.cons.injEq] at h
      obtain ⟨rfl, h2⟩ := h
      obtain ⟨i1, i2, i3⟩ := ih h2
      exact ⟨by simpa [backToKw, keywordEach] using i1, by simpa [backToKw, keywordEach] using i2, by simpa [backToKw, keywordEach] using i3⟩
theorem PEs.pk {as : As} : ∀ {kws : List Keyword} {as : As}, PEs X K ms R XR as (kws.map (·.value)) → PK X kws (tA K ms R XR as)
  | [], as, h => by
    cases h
    refine ⟨fun pos pins s σ H Q I ⟨F, env, hK, r, w⟩ => pk_nil.run pos pins s σ H Q I ?_⟩
    simp only [evAs] at w
    exact W_ok w r _ .nil
  | ⟨nm, e, kp⟩ :: kws, as, h => by
    cases h with
    | cons h1 h2 h3 =>
      have ih := PEs.pk (as := as) (kws := kws) h3
      refine ⟨fun pos pins s σ H Q I ⟨F, env, hK, r, w⟩ => (pk_cons h1 ih).run pos pins s σ H Q I ?_⟩
      rw [evAs] at w
      refine ⟨F, env, hK, r, W_mono (W_bind w) fun d env1 H1 f1 r1 h1 v hv => ?_⟩
      exact ⟨F, env1, hK, r1, W_mono (W_bind h1) fun ds env2 H2 f2 r2 h2 vs hvs => W_ok h2 r2 (v :: vs) (.cons (hv.mono f2) hvs)⟩
theorem AsRel.mono {as : As} {vs : List V} {ds : List D} (f : FrP ms σ H H') (h : AsRel F ms σ H as vs ds) : AsRel F ms σ H' as vs ds := by
  induction h with
  | nil => exact .nil
  | cons h _ ih => exact .cons (h.mono f) ih
theorem AsRel.len {as : As} {vs : List V} {ds : List D} (h : AsRel F ms σ H as vs ds) : vs.length = as.len ∧ ds.length = as.len := by
  induction h with
  | nil => exact ⟨rfl, rfl⟩
  | cons _ _ ih => exact ⟨by simp [As.len, ih.1], by simp [As.len, ih.2]⟩
/-- the operands of two lists, by place -/
def OAt (F : Fx) (ms : List Bool) (σ : St) (H : Hp) (os : List O) (vs : List V) (ds : List D) : Prop := ∀ (j : Nat) o v d, os[j]? = some o → vs[j]? = some v → ds[j]? = some d → ORel F ms σ H o v d
theorem AsRel.oat {as : As} {vs : List V} {ds : List D} (h : AsRel F ms σ H as vs ds) : OAt F ms σ H as.toL vs ds ∧ as.toL.length = vs.length ∧ vs.length = ds.length := by
  induction h with
  | nil => exact ⟨fun j o v d e => by simp [As.toL] at e, rfl, rfl⟩
  | cons h _ ih =>
    obtain ⟨i1, i2, i3⟩ := ih
    refine ⟨fun j o v d e1 e2 e3 => ?_, by simp [As.toL, i2], by simp [i3]⟩
    cases j with
    | zero =>
      simp [As.toL] at e1 e2 e3
      subst e1 e2 e3
      exact h
    | succ j => exact i1 j o v d (by simpa [As.toL] using e1) (by simpa using e2) (by simpa using e3)
theorem OAt.app {os os' : List O} {vs vs' : List V} {ds ds' : List D} (h : OAt F ms σ H os vs ds) (h' : OAt F ms σ H os' vs' ds') (l1 : os.length = vs.length) (l2 : vs.length = ds.length) : OAt F ms σ H (os ++ os') (vs ++ vs') (ds ++ ds') := fun j o v d e1 e2 e3 => by
  by_cases hj : j < os.length
  · rw [List.getElem?_append_left hj] at e1
    rw [List.getElem?_append_left (by omega)] at e2 e3
    exact h j o v d e1 e2 e3
  · rw [List.getElem?_append_right (by omega)] at e1 e2 e3
    rw [← l1] at e2
    rw [← l2, ← l1] at e3
    exact h' _ o v d e1 e2 e3
theorem perm_rel {os : List O} {vs qv : List V} {ds qs : List D} {pa : As} (h : OAt F ms σ H os vs ds) : ∀ {p : List Pk} {qv : List V} {qs : List D} {pa : As}, PermV F.K vs p qv → permO p os = some pa → permD p ds = some qs → AsRel F ms σ H pa qv qs
  | [], _, _, _, .nil, e1, e2 => by
    simp only [permO, permD, Option.some.injEq] at e1 e2
    subst e1 e2
    exact .nil
  | .arg j :: p, _, qs, pa, .arg e t, e1, e2 => by
    simp only [permO, permD] at e1 e2
    obtain ⟨o, o1, o2⟩ := Option.bind_eq_some_iff.mp e1
    obtain ⟨pa', o3, o4⟩ := Option.map_eq_some_iff.mp o2
    obtain ⟨d, d1, d2⟩ := Option.bind_eq_some_iff.mp e2
    obtain ⟨qs', d3, d4⟩ := Option.map_eq_some_iff.mp d2
    subst o4 d4
    exact .cons (h j o _ d o1 e d1) (perm_rel (qv := qv) (qs := qs) (pa := pa) h t o3 d3)
  | .dfl c :: p, _, qs, pa, .dfl e t, e1, e2 => by
    simp only [permO, permD] at e1 e2
    obtain ⟨pa', o3, o4⟩ := Option.map_eq_some_iff.mp e1
    obtain ⟨qs', d3, d4⟩ := Option.map_eq_some_iff.mp e2
    subst o4 d4
    exact .cons (e _ _) (perm_rel (qv := qv) (qs := qs) (pa := pa) h t o3 d3)
theorem rd_callK {f : Fn} {as as2 : As} {kws : List Str} {perm : List Pk} {pa : As} (hx : XOk XR) (hpa : permO perm (as.toL ++ as2.toL) = some pa) (hb : callB ms f pa = true) (h : tM X.K ms R XR (.callK f as as2 kws perm) σ H Q) :
    tA X.K ms R XR as σ H fun vs H1 => tA X.K ms R XR as2 σ H1 fun zs H2 => vs.length = as.len ∧ zs.length = as2.len ∧ ∀ qv, PermV X.K (vs ++ zs) perm qv → spM X.K XR f qv H2 Q (fun c d H' => R c d σ H') := by
  obtain ⟨F, env, hK, r, w⟩ := h
  simp only [evE] at w
  refine ⟨F, env, hK, r, W_mono (W_bind w) fun ds env1 H1 f1 r1 q vs hv => ?_⟩
  refine ⟨F, env1, hK, r1, W_mono (W_bind q) fun es env2 H2 f2 r2 q zs hz => ⟨hv.len.1, hz.len.1, fun qv pv => ?_⟩⟩
  rw [hpa] at q
  cases e1 : permD perm (ds ++ es) with
  | none => rw [e1] at q; exact False.elim q
  | some qs =>
    rw [e1] at q
    dsimp only at q
    cases e2 : fixA pa qs env2 with
    | none => rw [e2] at q; exact False.elim q
    | some qs' =>
      rw [e2] at q
      have hv2 := hv.mono f2
      obtain ⟨a1, a2, a3⟩ := hv2.oat
      obtain ⟨b1, b2, b3⟩ := hz.oat
      rw [← hK] at pv
      have ar := perm_rel (qv := qv) (qs := qs) (pa := pa) (a1.app b1 a2 a3) pv hpa e1
      exact call_core hK hb r2 ar e2 (W_mono q fun d env3 H3 f3 r3 q v hv => q v ⟨hv.1.base fun a => (f1.trans f2).none_of r2, hv.2⟩) hx.up

/-! ### methods that change an own list -/
theorem Rel.setC (r : Rel F ms env σ H) {i : Nat} {a : Addr} (hm : ms[i]? = some true) (hs : σ[i]? = some (some (.ref a))) {ho : HO} {dn : D} (hd : Cell F.K (Tab F ms σ) (upd H a ho) a dn) :
    FrP ms σ H (upd H a ho) ∧ Rel F ms (env.set i (some dn)) σ (upd H a ho) := by
  have oa : OwnA ms σ a := ⟨i, hm, hs⟩
  have ex : Ext (Tab F ms σ) H (Tab F ms σ) (upd H a ho) := fun b u n e => ⟨n, by rw [upd_ne fun z => n (by rw [z]; exact .inr oa)]; exact e⟩
  have hi : i < env.length := by rw [r.len]; exact (List.getElem?_eq_some_iff.mp hs).1
  refine ⟨fun b o e n => by rw [upd_ne fun z => n (by rw [z]; exact oa)]; exact e, ⟨by rw [List.length_set]; exact r.len, fun j d e m => ?_, fun j d e m => ?_, fun j v m e => ?_, r.dis, r.new, r.par, fun b z => ?_, fun b o e n => ?_⟩⟩
  · rw [getE_set_ne fun z => m (by rw [← z]; exact hm)] at e
    obtain ⟨v, h1, h2⟩ := r.shr j d e m
    exact ⟨v, h1, h2.mono ex⟩
  · by_cases z : i = j
    · subst z
      rw [getE_set_self hi] at e
      cases e
      exact ⟨a, hs, hd⟩
    · rw [getE_set_ne z] at e
      obtain ⟨b, h1, c⟩ := r.own j d e m
      exact ⟨b, h1, c.step ex fun o e2 => by rw [upd_ne fun q => z (r.dis i j a hm m hs (by rw [h1, q]))]; exact e2⟩
  · by_cases z : i = j
    · subst z
      exact ⟨_, getE_set_self hi⟩
    · rw [getE_set_ne z]
      exact r.liv j v m e
  · by_cases q : b = a
    · rw [q, upd_same]; exact fun z => nomatch z
    · rw [upd_ne q]; exact r.trk b z
  · have e1 := r.hold b o e n
    rw [upd_ne fun z => ?_]
    · exact e1
    · rw [z] at e n
      rcases r.new a oa with k | k
      · exact n k
      · rw [k] at e; cases e
theorem Rel.setO (r : Rel F ms env σ H) {i : Nat} {a : Addr} (hm : ms[i]? = some true) (hs : σ[i]? = some (some (.ref a))) {ys : List V} {es : List D} (hd : DtAll F.K (Tab F ms σ) H ys es) :
    FrP ms σ H (upd H a (.lst ys)) ∧ Rel F ms (env.set i (some (.list es))) σ (upd H a (.lst ys)) := by
  have oa : OwnA ms σ a := ⟨i, hm, hs⟩
  have ex : Ext (Tab F ms σ) H (Tab F ms σ) (upd H a (.lst ys)) := fun b u n e => ⟨n, by rw [upd_ne fun z => n (by rw [z]; exact .inr oa)]; exact e⟩
  exact r.setC hm hs (.inl ⟨ys, es, rfl, upd_same, hd.mono ex⟩)
theorem mop_list {m : MOp} {ds es : List D} {d new : D} (h : m.run (.list ds) es = some (d, new)) : ∃ ns, new = .list ns := by
  cases m with
  | append =>
    match es, h with
    | [y], h =>
      simp only [MOp.run] at h
      split at h <;> cases h
      exact ⟨_, rfl⟩
  | pop =>
    match es, h with
    | [], h =>
      simp only [MOp.run, Option.map_eq_some_iff] at h
      obtain ⟨y, _, e⟩ := h
      cases e
      exact ⟨_, rfl⟩
  | popAt =>
    match es, h with
    | [.int i], h =>
      simp only [MOp.run] at h
      split at h
      · rw [Option.map_eq_some_iff] at h
        obtain ⟨y, _, e⟩ := h
        cases e
        exact ⟨_, rfl⟩
      · cases h
  | extend =>
    match es, h with
    | [.list ys], h =>
      simp only [MOp.run] at h
      split at h <;> cases h
      exact ⟨_, rfl⟩
    | [.tuple ys], h =>
      simp only [MOp.run] at h
      split at h <;> cases h
      exact ⟨_, rfl⟩
  | insert =>
    match es, h with
    | [.int i, y], h =>
      simp only [MOp.run] at h
      split at h <;> cases h
      exact ⟨_, rfl⟩
  | reverse =>
    match es, h with
    | [], h =>
      simp only [MOp.run] at h
      cases h
      exact ⟨_, rfl⟩
def rMut (K : PySem.W.Frag) (m : MOp) : V → List V → Hp → VK → Prop := fun x vs H Q => ∃ (a : Addr) (xs : List V) (S : Addr → Prop) (ds : List D) (es : List D) (d : D) (new : List D), x = .ref a ∧ S a ∧ H a = some (.lst xs) ∧ DtAll K S H xs ds ∧ Opds K S H vs es ∧ (m ≠ .extend → DtAll K S H vs es) ∧ m.run (.list ds) es = some (d, .list new) ∧
  ∀ v ys, DtAll K S H ys new → (∀ H', Ext S H S H' → Dt K S H' v d) → Q v (upd H a (.lst ys))
theorem rd_mut {m : MOp} {i : Nat} {as : As} (hm : ms[i]? = some true) (no : m ≠ .extend → as.noOwn = true) (h : tM X.K ms R XR (.mut m i as) σ H Q) : tBM X.K "list" (rMut X.K m) (tVar i) (tA X.K ms R XR as) σ H Q := by
  obtain ⟨F, env, hK, r, w⟩ := h
  simp only [evE] at w
  cases e0 : getE env i with
  | none => rw [e0] at w; exact False.elim w
  | some d0 =>
    rw [e0] at w
    obtain ⟨a, ha, ⟨xs0, ds0, e1, e2, e3⟩ | ⟨kds, e1, _⟩⟩ := r.own i d0 e0 hm
    case inr => subst e1; exact False.elim w
    subst e1
    dsimp only at w
    refine ⟨_, ha, .inl ⟨rfl, xs0, .inl (.inl e2)⟩, F, env, hK, r, W_mono (W_bind w) fun ds env1 H1 f1 r1 q vs hv => ?_⟩
    cases e4 : fixA as ds env1 with
    | none => rw [e4] at q; exact False.elim q
    | some es =>
      rw [e4] at q
      dsimp only at q
      cases e5 : getE env1 i with
      | none => rw [e5] at q; exact False.elim q
      | some cur =>
        rw [e5] at q
        dsimp only at q
        obtain ⟨a', ha', ⟨xs, ds', e6, e7, e8⟩ | ⟨kds, e6, _⟩⟩ := r1.own i cur e5 hm
        case inr => subst e6; cases m <;> exact False.elim q
        rw [ha] at ha'; cases ha'
        subst e6
        cases e9 : m.run (.list ds') es with
        | none => rw [e9] at q; exact False.elim q
        | some p =>
          obtain ⟨d, new⟩ := p
          rw [e9] at q
          have hn : ∃ ns, new = .list ns := mop_list e9
          obtain ⟨ns, rfl⟩ := hn
          rw [← hK]
          refine ⟨a, xs, Tab F ms σ, ds', es, d, ns, rfl, .inr ⟨i, hm, ha⟩, e7, e8, opds_of r1 hv e4, fun hne => ?_, e9, fun v ys hys hv' => ?_⟩
          · have := fix_noOwn (no hne) e4
            subst this
            exact AsRel.dts (no hne) hv
          · obtain ⟨g1, g2⟩ := r1.setO hm ha hys
            exact q _ g1 g2 v (rm (hv' _ (g1.ext)))
theorem Opds.nil_inv {S : Addr → Prop} {vs : List V} (h : Opds K S H vs []) : vs = [] := by
  cases h
  rfl
theorem dt_out {S : Addr → Prop} {xs : List V} {ds : List D} {k : Nat} {d : D} (h : DtAll K S H xs ds) (e : ds[k]? = some d) : ∃ v, xs[k]? = some v ∧ Dt K S H v d := h.get e
def mid : MOp → String
  | .append => "list.append"
  | .pop => "list.pop"
  | .popAt => "list.pop"
  | .extend => "list.extend"
  | .insert => "list.insert"
  | .reverse => "list.reverse"
def mname : MOp → String
  | .append => "append"
  | .pop => "pop"
  | .popAt => "pop"
  | .extend => "extend"
  | .insert => "insert"
  | .reverse => "reverse"
theorem mt_mut (m : MOp) : MtR X (mid m) (rMut X.K m) := by
  intro pins s σ H x vs v us Q I rx rv ⟨a, xs, S, ds, es, d, new, ex, hS, hH, hd, ho, hop, hrun, q⟩
  subst ex
  have hxl := hd.length
  have hzl : xs.length ≤ sizeLine := by
    obtain ⟨z, _⟩ := I.lstM hH
    exact z
  cases m with
  | append =>
    match es, hrun, hop, ho with
    | [y], hrun, hop, ho =>
      simp only [MOp.run] at hrun
      split at hrun <;> cases hrun
      rename_i hz
      have hop := hop (by decide)
      cases hop with
      | cons h t =>
        cases t
        exact mt_append pins s σ H _ _ v us Q I rx rv ⟨a, xs, _, rfl, rfl, hH, by omega, q _ _ (hd.append (.cons h .nil)) fun H' _ => .non⟩
  | pop =>
    match es, hrun, ho with
    | [], hrun, ho =>
      simp only [MOp.run, Option.map_eq_some_iff] at hrun
      obtain ⟨y, hy, e⟩ := hrun
      cases e
      obtain ⟨u, hu, du⟩ := hd.get hy
      rw [← hxl] at hu
      exact mt_pop pins s σ H _ _ v us Q I rx rv ⟨a, xs, u, rfl, ho.nil_inv, hH, hu, q _ _ hd.dropLast fun H' ex => du.mono ex⟩
  | popAt =>
    match es, hrun, ho with
    | [.int i], hrun, ho =>
      simp only [MOp.run] at hrun
      split at hrun
      · rename_i hi
        rw [Option.map_eq_some_iff] at hrun
        obtain ⟨y, hy, e⟩ := hrun
        cases e
        obtain ⟨u, hu, du⟩ := hd.get hy
        obtain ⟨w, rfl, hw⟩ := ho.one
        have := hw.int
        subst this
        refine mt_popAt pins s σ H _ _ v us Q I rx rv ⟨a, xs, i, i.toNat, u, rfl, rfl, hH, by omega, by omega, ?_, hu, q _ _ (hd.eraseIdx _) fun H' ex => du.mono ex⟩
        have hlt := (List.getElem?_eq_some_iff.mp hu).1
        have n0 : ¬ i < 0 := by omega
        have z : (decide (0 ≤ i) && decide (i < (xs.length : Int))) = true := by
          rw [Bool.and_eq_true]
          exact ⟨decide_eq_true hi.1, decide_eq_true (by omega)⟩
        simp only [seqIndex?, n0, if_false]
        rw [if_pos z]
      · cases hrun
  | extend =>
    match es, hrun, ho with
    | [.list ys], hrun, ho =>
      simp only [MOp.run] at hrun
      split at hrun <;> cases hrun
      rename_i hz
      obtain ⟨w, rfl, hw⟩ := ho.one
      obtain ⟨b, zs, rfl, hb, db⟩ := hw.list
      have l2 := db.length
      cases rx
      obtain ⟨u, rfl, ru⟩ := rv.one
      cases ru
      obtain ⟨z, its, n, r, hl, e⟩ := I.lstM hH
      obtain ⟨z2, its2, n2, r2, hl2, e2⟩ := hb.at I
      have hsz : its.toArray.size + its2.toArray.size ≤ sizeLine := by rw [List.size_toArray, List.size_toArray]; omega
      have hlong : ¬ (!its.toArray.isEmpty && Builtin.List.listTooLong (its.toArray.size + its2.toArray.size)) = true := by
        rw [notLongL hsz, Bool.and_false]
        exact Bool.false_ne_true
      refine call_meets F.slot_list_extend ⟨_, e, rfl⟩ F.entry_list_extend (F.args_list_extend_2 _ _)
        (AutoSeq1.list_extend_list_list_0 a its.toArray n b its2.toArray n2 hlong (by rw [List.size_toArray]; omega) (by omega)) ⟨e, e2, ?_⟩
      refine ⟨.non, _, I.lset (its' := its ++ its2) hH e (by simp) (r.append r2) ?_, rfl, q _ _ (hd.append db) fun H' _ => .non⟩
      rw [List.length_append]
      omega
    | [.tuple ys], hrun, ho =>
      simp only [MOp.run] at hrun
      split at hrun <;> cases hrun
      rename_i hz
      obtain ⟨w, rfl, hw⟩ := ho.one
      obtain ⟨b, zs, rfl, hb, db, _⟩ := hw.tuple
      have l2 := db.length
      cases rx
      obtain ⟨u, rfl, ru⟩ := rv.one
      cases ru
      obtain ⟨z, its, n, r, hl, e⟩ := I.lstM hH
      obtain ⟨its2, r2, ⟨⟨cls, dd, data, sls⟩, e2, c2, n2, d2⟩, _⟩ := I.tuple hb
      simp only at c2 d2
      subst c2 d2
      have hl2 := r2.length
      have hsz : its.toArray.size + its2.toArray.size ≤ sizeLine := by rw [List.size_toArray, List.size_toArray]; omega
      have hlong : ¬ (!its.toArray.isEmpty && Builtin.List.listTooLong (its.toArray.size + its2.toArray.size)) = true := by
        rw [notLongL hsz, Bool.and_false]
        exact Bool.false_ne_true
      refine call_meets F.slot_list_extend ⟨_, e, rfl⟩ F.entry_list_extend (F.args_list_extend_2 _ _)
        (PySem.list_extend_tupleG a its.toArray n b its2.toArray n2 hlong (by rw [List.size_toArray]; omega) (by omega)) ⟨e, e2, ?_⟩
      refine ⟨.non, _, I.lset (its' := its ++ its2) hH e (by simp) (r.append r2) ?_, rfl, q _ _ (hd.append db) fun H' _ => .non⟩
      rw [List.length_append]
      omega
  | insert =>
    match es, hrun, hop, ho with
    | [.int i, y], hrun, hop, ho =>
      simp only [MOp.run] at hrun
      split at hrun <;> cases hrun
      rename_i hz
      have hop := hop (by decide)
      cases hop with
      | cons h t =>
        cases t with
        | cons h2 t =>
          cases t
          cases h
          exact mt_insert pins s σ H _ _ v us Q I rx rv ⟨a, xs, i, _, rfl, rfl, hH, by omega, hz.2.1, by omega, q _ _ (((hd.take _).append (.cons h2 .nil)).append (hd.drop _)) fun H' _ => .non⟩
  | reverse =>
    match es, hrun, ho with
    | [], hrun, ho =>
      simp only [MOp.run] at hrun
      cases hrun
      exact mt_reverse pins s σ H _ _ v us Q I rx rv ⟨a, xs, rfl, ho.nil_inv, hH, q _ _ hd.reverse fun H' _ => .non⟩
theorem pe_mut0 {m : MOp} {i : Nat} {x : Str} {p apos cpos : Pos} (hv : PE X (.Name x p) (tVar i)) (hm : ms[i]? = some true) (h0 : m = .pop ∨ m = .reverse) (hl : (apos.endLine == cpos.line) = true) :
    PE X (.Call (.Attribute (.Name x p) (Str.ofString (mname m)) apos) [] [] cpos) (tM X.K ms R XR (.mut m i .nil)) := by
  have w : ∀ σ H Q, tM X.K ms R XR (.mut m i .nil) σ H Q → tBM0 X.K "list" (rMut X.K m) (tVar i) σ H Q := fun σ H Q h => by
    obtain ⟨v, e, ty, F, env, hK, r, w⟩ := rd_mut hm (fun _ => rfl) h
    simp only [evAs] at w
    exact ⟨v, e, ty, W_ok w r _ .nil⟩
  rcases h0 with rfl | rfl
  · exact pe_imp (pe_bm0 PySem.F.plainAttrs_list PySem.F.slot_list_pop PySem.F.type_list_pop (mt_mut .pop) hv rfl hl) w
  · exact pe_imp (pe_bm0 PySem.F.plainAttrs_list PySem.F.slot_list_reverse PySem.F.type_list_reverse (mt_mut .reverse) hv rfl hl) w
theorem few1 {a : Expr} {cpos : Pos} {env : PySem.Env} (h : notStar a = true) : ((backTo cpos (starEach [a] env)).all (fun x => !x.1) && (backToKw cpos (keywordEach [] env)).all (fun x => x.1.isSome)
      && decide (([a] : List Expr).length + ([] : List Keyword).length + (if ([] : List Keyword).isEmpty then 0 else 1) < 30)) = true := by
  rw [star1 h]
  rfl
theorem few2 {a b : Expr} {cpos : Pos} {env : PySem.Env} (h : notStar a = true) (h2 : notStar b = true) : ((backTo cpos (starEach [a, b] env)).all (fun x => !x.1) && (backToKw cpos (keywordEach [] env)).all (fun x => x.1.isSome)
      && decide (([a, b] : List Expr).length + ([] : List Keyword).length + (if ([] : List Keyword).isEmpty then 0 else 1) < 30)) = true := by
  rw [star1 h, star1 h2]
  rfl
theorem pe_mut1 {m : MOp} {i : Nat} {x : Str} {p apos cpos : Pos} {a : Expr} {as : As} (hv : PE X (.Name x p) (tVar i)) (hm : ms[i]? = some true) (h0 : m = .append ∨ m = .popAt ∨ m = .extend) (hl : (apos.endLine == cpos.line) = true) (no : m ≠ .extend → as.noOwn = true) (ha : PEs X X.K ms R XR as [a]) :
    PE X (.Call (.Attribute (.Name x p) (Str.ofString (mname m)) apos) [a] [] cpos) (tM X.K ms R XR (.mut m i as)) := by
  have hn := ha.stars a (by simp)
  rcases h0 with rfl | rfl | rfl
  · exact pe_imp (pe_bm PySem.F.plainAttrs_list PySem.F.slot_list_append PySem.F.type_list_append (mt_mut .append) hv ha.pa rfl (few1 hn) hl (star1 hn) rfl) fun σ H Q h => rd_mut hm no h
  · exact pe_imp (pe_bm PySem.F.plainAttrs_list PySem.F.slot_list_pop PySem.F.type_list_pop (mt_mut .popAt) hv ha.pa rfl (few1 hn) hl (star1 hn) rfl) fun σ H Q h => rd_mut hm no h
  · exact pe_imp (pe_bm PySem.F.plainAttrs_list PySem.F.slot_list_extend PySem.F.type_list_extend (mt_mut .extend) hv ha.pa rfl (few1 hn) hl (star1 hn) rfl) fun σ H Q h => rd_mut hm no h
theorem pe_mut2 {i : Nat} {x : Str} {p apos cpos : Pos} {a b : Expr} {as : As} (hv : PE X (.Name x p) (tVar i)) (hm : ms[i]? = some true) (hl : (apos.endLine == cpos.line) = true) (no : as.noOwn = true) (ha : PEs X X.K ms R XR as [a, b]) :
    PE X (.Call (.Attribute (.Name x p) (Str.ofString "insert") apos) [a, b] [] cpos) (tM X.K ms R XR (.mut .insert i as)) := by
  have hn := ha.stars a (by simp)
  have hn2 := ha.stars b (by simp)
  exact pe_imp (pe_bm PySem.F.plainAttrs_list PySem.F.slot_list_insert PySem.F.type_list_insert (mt_mut .insert) hv ha.pa rfl (few2 hn hn2) hl (star1 hn) (star_plain fun e he => by simp at he; rw [he]; exact hn2)) fun σ H Q h => rd_mut hm (fun _ => no) h
end
end MP

/-! MP: methods that only read. -/
namespace MP
open PySem L2
section
variable {X : Cx} {K : PySem.W.Frag} {sc : Scope} {fn : Str → Bool} {N : List Str} {R : WX} {XR : XRel} {ms : List Bool} {σ : St} {H : Hp}
def fitV (K : PySem.W.Frag) (m : Mth) (x : V) (H : Hp) : Prop := match m with
  | .get1 => ∃ a, x = .ref a ∧ IsD H a
  | .get2 => ∃ a, x = .ref a ∧ IsD H a
  | .index => True
  | .count => tyV K "list" x H
theorem fit_of {S : Addr → Prop} {m : Mth} {x : V} {cur : D} (hd : Db K S H x cur) (hf : m.fits cur = true) : fitV K m x H := by
  cases m <;> cases cur <;> first | (exact absurd hf Bool.false_ne_true) | skip
  · obtain ⟨a, _, rfl, r, _⟩ := hd.dict
    exact ⟨a, rfl, .inl ⟨_, r⟩⟩
  · obtain ⟨a, _, rfl, r, _⟩ := hd.dict
    exact ⟨a, rfl, .inl ⟨_, r⟩⟩
  · trivial
  · trivial
  · obtain ⟨a, xs, rfl, h, _⟩ := hd.list
    exact .inl ⟨rfl, xs, h.sq⟩
def rMth (K : PySem.W.Frag) (m : Mth) : V → List V → Hp → VK → Prop := fun x vs H Q => ∃ (S : Addr → Prop) (cur : D) (ds : List D) (r : D), (∀ a, S a → H a ≠ none) ∧ Db K S H x cur ∧ Opds K S H vs ds ∧ m.run cur ds = some r ∧ ∀ v, Dt K S H v r → Q v H
theorem rd_mth {m : Mth} {o : O} {as : As} {Q : VK} (h : tM K ms R XR (.mth m o as) σ H Q) : tO K ms R XR o σ H fun x H1 => fitV K m x H1 ∧ tA K ms R XR as σ H1 fun vs H2 => rMth K m x vs H2 Q := by
  obtain ⟨F, env, hK, r, w⟩ := h
  subst hK
  simp only [evE] at w
  refine ⟨F, env, rfl, r, W_mono (W_bind w) fun d env1 H1 f1 r1 h1 v hv => ?_⟩
  cases e1 : fixO o d env1 with
  | none => rw [e1] at h1; exact False.elim h1
  | some cur =>
    rw [e1] at h1
    dsimp only at h1
    by_cases hf : m.fits cur = true
    · rw [if_pos hf] at h1
      have hd : Db F.K (Tab F ms σ) H1 v cur := by
        have q : Opds F.K (Tab F ms σ) H1 [v] [cur] := opds_of (as := .cons o .nil) (ds := [d]) r1 (.cons hv .nil) (by simp [fixA, e1])
        obtain ⟨d2, e, q⟩ := q.inv1
        cases e; exact q
      refine ⟨fit_of hd hf, F, env1, rfl, r1, W_mono (W_bind h1) fun ds env2 H2 f2 r2 h2 vs hvs => ?_⟩
      cases e2 : fixO o d env2 with
      | none => rw [e2] at h2; exact False.elim h2
      | some cur2 =>
        rw [e2] at h2
        dsimp only at h2
        cases e3 : fixA as ds env2 with
        | none => rw [e3] at h2; exact False.elim h2
        | some es =>
          rw [e3] at h2
          dsimp only at h2
          cases e4 : m.run cur2 es with
          | none => rw [e4] at h2; exact False.elim h2
          | some rr =>
            rw [e4] at h2
            have hd2 : Db F.K (Tab F ms σ) H2 v cur2 := by
              have q : Opds F.K (Tab F ms σ) H2 [v] [cur2] := opds_of (as := .cons o .nil) (ds := [d]) r2 (.cons (hv.mono f2) .nil) (by simp [fixA, e2])
              obtain ⟨d2, e, q⟩ := q.inv1
              cases e; exact q
            exact ⟨Tab F ms σ, cur2, es, rr, r2.tabT, hd2, opds_of r2 hvs e3, e4, fun v' dv => W_ok h2 r2 v' (rm dv)⟩
    · rw [if_neg hf] at h1
      exact False.elim h1
/-- the first place of an equal one, in a list or a tuple -/
def rIx (K : PySem.W.Frag) (l : Bool) : V → List V → Hp → VK → Prop := fun x vs H Q => ∃ (S : Addr → Prop) (ys : List D) (ds : List D) (r : D), (∀ a, S a → H a ≠ none) ∧ Db K S H x (if l then .list ys else .tuple ys) ∧ Opds K S H vs ds ∧ Mth.run .index (if l then .list ys else .tuple ys) ds = some r ∧ ∀ v, Dt K S H v r → Q v H
theorem cell_no {S : Addr → Prop} {a : Addr} {ds : List D} (h : Cell K S H a (.tuple ds)) : False := by
  rcases h with ⟨_, _, e, _⟩ | ⟨_, e, _⟩ <;> cases e
theorem rd_idx {o : O} {as : As} {Q : VK} (h : tM K ms R XR (.mth .index o as) σ H Q) : tO K ms R XR o σ H fun x H1 =>
    (tyV K "list" x H1 ∧ tA K ms R XR as σ H1 fun vs H2 => rIx K true x vs H2 Q) ∨ ((∃ a ob xs, x = .ref a ∧ H1 a = some (.frz ob (.tup xs)) ∧ ob.dict = none) ∧ tA K ms R XR as σ H1 fun vs H2 => rIx K false x vs H2 Q) := by
  obtain ⟨F, env, hK, r, w⟩ := h
  subst hK
  simp only [evE] at w
  refine ⟨F, env, rfl, r, W_mono (W_bind w) fun d env1 H1 f1 r1 h1 v hv => ?_⟩
  cases e1 : fixO o d env1 with
  | none => rw [e1] at h1; exact False.elim h1
  | some cur =>
    rw [e1] at h1
    dsimp only at h1
    by_cases hf : Mth.fits .index cur = true
    · rw [if_pos hf] at h1
      have hd : Db F.K (Tab F ms σ) H1 v cur := by
        have q : Opds F.K (Tab F ms σ) H1 [v] [cur] := opds_of (as := .cons o .nil) (ds := [d]) r1 (.cons hv .nil) (by simp [fixA, e1])
        obtain ⟨d2, e, q⟩ := q.inv1
        cases e; exact q
      have fin : ∀ l : Bool, (∀ (env2 : Env) (H2 : Hp) (cur2 : D) (ds : List D) (rr : D), Rel F ms env2 σ H2 → fixO o d env2 = some cur2 → Mth.run .index cur2 ds = some rr → ∃ ys, cur2 = if l then .list ys else .tuple ys) → tA F.K ms R XR as σ H1 fun vs H2 => rIx F.K l v vs H2 Q := fun l hl => by
        refine ⟨F, env1, rfl, r1, W_mono (W_bind h1) fun ds env2 H2 f2 r2 h2 vs hvs => ?_⟩
        cases e2 : fixO o d env2 with
        | none => rw [e2] at h2; exact False.elim h2
        | some cur2 =>
          rw [e2] at h2
          dsimp only at h2
          cases e3 : fixA as ds env2 with
          | none => rw [e3] at h2; exact False.elim h2
          | some es =>
            rw [e3] at h2
            dsimp only at h2
            cases e4 : Mth.run .index cur2 es with
            | none => rw [e4] at h2; exact False.elim h2
            | some rr =>
              rw [e4] at h2
              have hd2 : Db F.K (Tab F ms σ) H2 v cur2 := by
                have q : Opds F.K (Tab F ms σ) H2 [v] [cur2] := opds_of (as := .cons o .nil) (ds := [d]) r2 (.cons (hv.mono f2) .nil) (by simp [fixA, e2])
                obtain ⟨d2, e, q⟩ := q.inv1
                cases e; exact q
              obtain ⟨ys, ey⟩ := hl env2 H2 cur2 es rr r2 e2 e4
              subst ey
              exact ⟨Tab F ms σ, ys, es, rr, r2.tabT, hd2, opds_of r2 hvs e3, e4, fun v' dv => W_ok h2 r2 v' (rm dv)⟩
      have own_list : ∀ {i : Nat} {env2 : Env} {H2 : Hp} {cur2 : D} {ds : List D} {rr : D}, ms[i]? = some true → Rel F ms env2 σ H2 → getE env2 i = some cur2 → Mth.run .index cur2 ds = some rr → ∃ ys, cur2 = .list ys := fun {i env2 H2 cur2 ds rr} hm r2 e2 e4 => by
        obtain ⟨a, _, c⟩ := r2.own i cur2 e2 hm
        rcases c with ⟨_, ys, e, _⟩ | ⟨_, e, _⟩
        · exact ⟨ys, e⟩
        · subst e; cases e4
      cases cur with
      | list ys =>
        refine .inl ⟨?_, fin true fun env2 H2 cur2 ds rr r2 e2 e4 => ?_⟩
        · obtain ⟨a, xs, rfl, h, _⟩ := hd.list
          exact .inl ⟨rfl, xs, h.sq⟩
        · cases o with
          | val e =>
            simp only [fixO, Option.some.injEq] at e1 e2
            exact ⟨ys, by rw [← e2, e1]; rfl⟩
          | own i => exact own_list hv.1 r2 e2 e4
      | tuple ys =>
        cases o with
        | own i =>
          obtain ⟨a, _, c⟩ := r1.own i _ e1 hv.1
          exact (cell_no c).elim
        | val e =>
          refine .inr ⟨?_, fin false fun env2 H2 cur2 ds rr r2 e2 e4 => ?_⟩
          · obtain ⟨_, _, _, _, _, dt⟩ := hd.tuple
            cases dt with
            | tup h _ =>
              obtain ⟨_, ob, h2, h3⟩ := h
              exact ⟨_, ob, _, rfl, h2, h3⟩
          · simp only [fixO, Option.some.injEq] at e1 e2
            exact ⟨ys, by rw [← e2, e1]; rfl⟩
      | _ => exact absurd hf Bool.false_ne_true
    · rw [if_neg hf] at h1
      exact False.elim h1
theorem ix_facts {ys : List D} {y : D} (h3 : (ys.any fun z => PyData.eqv z y) = true) : ∃ h : (ys.findIdx fun z => PyData.eqv z y) < ys.length, PyData.eqv ys[ys.findIdx fun z => PyData.eqv z y] y = true ∧ ∀ (m : Nat) (z' : D), m < (ys.findIdx fun z => PyData.eqv z y) → ys[m]? = some z' → PyData.eqv z' y = false := by
  have hlt : (ys.findIdx fun z => PyData.eqv z y) < ys.length := by
    obtain ⟨z, hz1, hz2⟩ := List.any_eq_true.mp h3
    exact List.findIdx_lt_length_of_exists ⟨z, hz1, hz2⟩
  refine ⟨hlt, List.findIdx_getElem (w := hlt), fun m z' hm hz' => ?_⟩
  obtain ⟨q1, q2⟩ := List.getElem?_eq_some_iff.mp hz'
  subst q2
  have := List.not_of_lt_findIdx hm
  simpa using this
theorem ix_inv {l : Bool} {ys ds : List D} {r : D} (h : Mth.run .index (if l then .list ys else .tuple ys) ds = some r) : ∃ y, ds = [y] ∧ SeqAt.shaped y = true ∧ SeqAt.shaped (if l then .list ys else .tuple ys) = true ∧ (ys.any fun z => PyData.eqv z y) = true ∧ r = .int ((ys.findIdx fun z => PyData.eqv z y : Nat) : Int) := by
  cases l
  · match ds, h with
    | [y], h =>
      simp only [Bool.false_eq_true, if_false, Mth.run] at h
      split at h
      · rename_i hz
        cases h
        exact ⟨y, rfl, hz.1, hz.2.1, hz.2.2, rfl⟩
      · cases h
    | [], h => cases h
    | _ :: _ :: _, h => cases h
  · match ds, h with
    | [y], h =>
      simp only [if_true, Mth.run] at h
      split at h
      · rename_i hz
        cases h
        exact ⟨y, rfl, hz.1, hz.2.1, hz.2.2, rfl⟩
      · cases h
    | [], h => cases h
    | _ :: _ :: _, h => cases h
theorem mt_indexL (hu : X.A.units + 65 < cLine) : MtR X "list.index" (rIx X.K true) := by
  intro pins s σ H x xs v us Q I rx rxs ⟨S, ys, ds, r, hS, hd, ho, hrun, q⟩
  obtain ⟨y, rfl, h1, h2, h3, rfl⟩ := ix_inv hrun
  obtain ⟨u, rfl, hy⟩ := ho.one
  have hd : Db X.K S H x (.list ys) := hd
  obtain ⟨a, zs, rfl, hl, hda⟩ := hd.list
  obtain ⟨hlt, k1, k2⟩ := ix_facts h3
  exact mt_indexD hu pins s σ H _ _ v us Q I rx rxs ⟨a, u, y, ys, _, _, rfl, rfl, hd.dp (shaped_nd h2), hy.dp (shaped_nd h1), h2, h1, List.getElem?_eq_getElem hlt, k1, k2, q _ (.int _)⟩
theorem mt_indexT (hu : X.A.units + 65 < cLine) : MtR X "tuple.index" (rIx X.K false) := by
  intro pins s σ H x xs v us Q I rx rxs ⟨S, ys, ds, r, hS, hd, ho, hrun, q⟩
  obtain ⟨y, rfl, h1, h2, h3, rfl⟩ := ix_inv hrun
  obtain ⟨u, rfl, hy⟩ := ho.one
  have hd : Db X.K S H x (.tuple ys) := hd
  have h2 : SeqAt.shaped (.tuple ys) = true := h2
  obtain ⟨a, zs, rfl, hl, hda, _⟩ := hd.tuple
  obtain ⟨hlt, k1, k2⟩ := ix_facts h3
  cases rx
  obtain ⟨uy, rfl, ry⟩ := rxs.one
  obtain ⟨bs, rb⟩ := Dp.reads I y u uy (hy.dp (shaped_nd h1)) ry
  obtain ⟨its, rv, ⟨⟨cls, dd, data, sls⟩, hob, hc, n, hdt⟩, _⟩ := I.tuple hl
  simp only at hc hdt
  subst hc hdt
  have hlay : PyData.canLayAll0 ys = true := SeqAt.canLay_of_shaped h2
  have nd : PyData.hasDictAll ys = false := by simpa only [PyData.hasDict] using shaped_nd h2
  obtain ⟨as, ra⟩ := Dp.readsAll I ys zs its (hda.dp nd) rv
  have hmap := SeqAt.readsAll_map ys its as hlay ra
  have hlen : its.length = ys.length := by rw [← hmap, List.length_map]
  have rd : ∀ (m : Nat) (hm : m < its.toArray.size), SeqAt.readOf s.heap its.toArray[m] = ys[m]'(by rw [List.size_toArray] at hm; omega) := fun m hm => by
    have hm2 : m < its.length := by simpa using hm
    have hm3 : m < ys.length := by omega
    have e : (its.map (SeqAt.readOf s.heap))[m]? = ys[m]? := by rw [hmap]
    rw [List.getElem?_map, List.getElem?_eq_getElem hm2, List.getElem?_eq_getElem hm3] at e
    simpa using e
  refine call_meets PySem.F.slot_tuple_index ⟨_, hob, rfl⟩ PySem.F.entry_tuple_index (PySem.F.args_tuple_index_2 _ _)
    (TI.tuple_indexAt a its.toArray n dd sls uy (fun z => PyData.eqv (SeqAt.readOf s.heap z) y) (ys.findIdx fun z => PyData.eqv z y) (by rw [List.size_toArray]; omega) ?_ fun m hm hmj => ?_) ⟨hob, SeqAt.items_eqAt (vs := its.toArray) ra rb hlay (SeqAt.canLay_of_shaped h1) (PyProof.Rows.room_in_shaped h1 hu), ?_⟩
  · show PyData.eqv (SeqAt.readOf s.heap _) y = true
    rw [rd]; exact k1
  · show PyData.eqv (SeqAt.readOf s.heap _) y = false
    rw [rd]
    exact k2 m _ hmj (List.getElem?_eq_getElem _)
  · exact ⟨.int _, H, I.tok _, ⟨_, rfl⟩, q _ (.int _)⟩
theorem mt_countL (hu : X.A.units + 65 < cLine) : MtR X "list.count" (rMth X.K .count) := by
  intro pins s σ H x xs v us Q I rx rxs ⟨S, cur, ds, r, hS, hd, ho, hrun, q⟩
  match cur, ds, hrun with
  | .list ys, [y], hrun =>
    simp only [Mth.run] at hrun
    split at hrun
    · rename_i hz
      cases hrun
      obtain ⟨u, rfl, hy⟩ := ho.one
      have hl := hd.dp (shaped_nd hz.2)
      cases hl with
      | lst hs ha =>
        cases rx
        obtain ⟨uy, rfl, ry⟩ := rxs.one
        obtain ⟨bs, rb⟩ := Dp.reads I y u uy (hy.dp (shaped_nd hz.1)) ry
        obtain ⟨its, rv, ⟨⟨cls, dd, data, sls⟩, n, hob, hc, hdn, hdt⟩, hlen⟩ := I.list hs
        simp only at hc hdt
        subst hc hdt
        obtain ⟨as, ra⟩ := Dp.readsAll I ys _ its ha rv
        have hlay : PyData.canLayAll0 ys = true := SeqAt.canLay_of_shaped hz.2
        have hmap := SeqAt.readsAll_map ys its as hlay ra
        refine call_meets PySem.F.slot_list_count ⟨_, hob, rfl⟩ PySem.F.entry_list_count (PySem.F.args_list_count_2 _ _)
          (SeqAt.list_countAt _ its.toArray n dd sls uy (fun z => PyData.eqv (SeqAt.readOf s.heap z) y)) ⟨hob, SeqAt.items_eqAt (vs := its.toArray) ra rb hlay (SeqAt.canLay_of_shaped hz.1) (PyProof.Rows.room_in_shaped hz.1 hu), ?_⟩
        have e : ((its.toArray.toList.countP fun z => PyData.eqv (SeqAt.readOf s.heap z) y : Nat) : Int) = ((ys.filter fun z => PyData.eqv z y).length : Int) := by
          rw [← List.countP_eq_length_filter, ← hmap, List.countP_map]
          rfl
        rw [e]
        exact ⟨.int _, H, I.tok _, ⟨_, rfl⟩, q _ (.int _)⟩
    · cases hrun
  | .list ys, [], hrun => cases hrun
  | .list ys, _ :: _ :: _, hrun => cases hrun
theorem get_of {S : Addr → Prop} {x y : V} {kvs : List (D × D)} {k : D} (hd : Db K S H x (.dict kvs)) (hy : Db K S H y k) (hk : keyOk k = true) : ∃ a o, x = .ref a ∧ DGet H a y o ∧ ((getKv kvs k = none ∧ o = none) ∨ ∃ d v, getKv kvs k = some d ∧ o = some v ∧ Dt K S H v d) := by
  obtain ⟨a, lvs, rfl, r, ks, dv⟩ := hd.dict
  have ex := hy.key hk
  subst ex
  rcases val_keys hk ks dv with ⟨e1, e2⟩ | ⟨d, v, e1, e2, e3⟩
  · exact ⟨a, _, rfl, .inl ⟨_, _, r, rfl, rfl⟩, .inl ⟨e1, e2⟩⟩
  · exact ⟨a, _, rfl, .inl ⟨_, _, r, rfl, rfl⟩, .inr ⟨d, v, e1, e2, e3⟩⟩
theorem f_get1 (C : CtxOk X sc fn N R) {o p : O} {a b : Expr} {apos cpos : Pos} (hbase : ∀ x, attributeBase a x X.env (eval a X.env) = eval a X.env) (ha : PE X a (tO X.K ms R XR o)) (hb : PE X b (tO X.K ms R XR p)) (hn : notStar b = true) (hl : (apos.endLine == cpos.line) = true) :
    PE X (.Call (.Attribute a (Str.ofString "get") apos) [b] [] cpos) (tM X.K ms R XR (.mth .get1 o (.cons p .nil))) := by
  have hu : X.A.units + 1 < cLine := Nat.lt_of_le_of_lt (by omega) C.un
  refine pe_imp (pe_dget1 hu ha hb ⟨hbase _, few1 hn, hl, by rw [star1 hn]; rfl⟩) fun σ H Q h => ?_
  obtain ⟨F, env, hK, r, w⟩ := rd_mth h
  refine ⟨F, env, hK, r, W_mono w fun d env1 H1 f1 r1 h1 v hv => ?_⟩
  obtain ⟨⟨aa, rfl, hd⟩, F2, env2, hK2, r2, w2⟩ := h1 v hv
  refine ⟨aa, rfl, hd, F2, env2, hK2, r2, W_mono (As1 w2) fun d2 env3 H3 f3 r3 h3 y hy => ?_⟩
  obtain ⟨S, cur, ds, rr, hS, hdb, ho, hrun, q⟩ := h3 [y] (.cons hy .nil)
  obtain ⟨d3, rfl, hd3⟩ := ho.inv1
  match cur, hrun with
  | .dict kvs, hrun =>
    simp only [Mth.run] at hrun
    split at hrun
    · rename_i hk
      cases hrun
      obtain ⟨a', o, e, g, c⟩ := get_of hdb hd3 hk
      cases e
      refine ⟨_, g, ?_⟩
      rcases c with ⟨e2, rfl⟩ | ⟨z, v, e2, rfl, e3⟩
      · rw [e2] at q; exact q _ .non
      · rw [e2] at q
        exact q _ e3
    · cases hrun
theorem f_get2 (C : CtxOk X sc fn N R) {o p p2 : O} {a b c : Expr} {apos cpos : Pos} (hbase : ∀ x, attributeBase a x X.env (eval a X.env) = eval a X.env) (ha : PE X a (tO X.K ms R XR o)) (hb : PE X b (tO X.K ms R XR p)) (hc : PE X c (tO X.K ms R XR p2)) (hn : notStar b = true) (hn2 : notStar c = true) (hl : (apos.endLine == cpos.line) = true) :
    PE X (.Call (.Attribute a (Str.ofString "get") apos) [b, c] [] cpos) (tM X.K ms R XR (.mth .get2 o (.cons p (.cons p2 .nil)))) := by
  have hu : X.A.units + 1 < cLine := Nat.lt_of_le_of_lt (by omega) C.un
  refine pe_imp (pe_dget2 hu ha hb hc ⟨hbase _, few2 hn hn2, hl, by rw [star1 hn, star1 hn2]; rfl⟩) fun σ H Q h => ?_
  obtain ⟨F, env, hK, r, w⟩ := rd_mth h
  refine ⟨F, env, hK, r, W_mono w fun d env1 H1 f1 r1 h1 v hv => ?_⟩
  obtain ⟨⟨aa, rfl, hd⟩, F2, env2, hK2, r2, w2⟩ := h1 v hv
  refine ⟨aa, rfl, hd, F2, env2, hK2, r2, W_mono (As2 w2) fun d2 env3 H3 f3 r3 h3 y hy => ?_⟩
  refine ⟨F2, env3, hK2, r3, W_mono h3 fun d4 env4 H4 f4 r4 h4 z hz => ?_⟩
  obtain ⟨S, cur, ds, rr, hS, hdb, ho, hrun, q⟩ := h4 [y, z] (.cons (hy.mono f4) (.cons hz .nil))
  obtain ⟨d3, d5, rfl, hd3, hd5⟩ := ho.inv2
  match cur, hrun with
  | .dict kvs, hrun =>
    simp only [Mth.run] at hrun
    split at hrun
    · rename_i hk
      simp only [Bool.and_eq_true, decide_eq_true_eq] at hk
      cases hrun
      obtain ⟨a', o, e, g, c⟩ := get_of hdb hd3 hk.1
      cases e
      refine ⟨_, g, ?_⟩
      rcases c with ⟨e2, rfl⟩ | ⟨z, v, e2, rfl, e3⟩
      · rw [e2] at q
        refine q _ ?_
        rcases hd5 with h | ⟨a, rfl, ⟨xs, es, e, _⟩ | ⟨kds, e, _⟩⟩
        · exact h
        · subst e; simp [plainD] at hk
        · subst e; simp [plainD] at hk
      · rw [e2] at q
        exact q _ e3
    · cases hrun
theorem f_index (C : CtxOk X sc fn N R) {o : O} {as : As} {a b : Expr} {apos cpos : Pos} (hbase : ∀ x, attributeBase a x X.env (eval a X.env) = eval a X.env) (ha : PE X a (tO X.K ms R XR o)) (hb : PEs X X.K ms R XR as [b]) (hl : (apos.endLine == cpos.line) = true) :
    PE X (.Call (.Attribute a (Str.ofString "index") apos) [b] [] cpos) (tM X.K ms R XR (.mth .index o as)) := by
  have hn := hb.stars b (by simp)
  have hu : X.A.units + 65 < cLine := Nat.lt_of_le_of_lt (by omega) C.un
  refine ⟨fun pins s σ H Q I h => ?_⟩
  refine wpAny_Call_method_late (hbase _) (few1 hn) hl rfl (thn (ha.run pins s σ H _ I (rd_idx h)) fun v s1 ⟨x, H1, I1, r1, q⟩ => ?_)
  rcases q with ⟨ty, q1⟩ | ⟨⟨p, ob, xs, rfl, hH, hd⟩, q1⟩
  · obtain ⟨h1, h2⟩ := tyV_is I1 r1 ty
    refine ⟨"list", "list.index", PySem.F.plainAttrs_list, PySem.F.slot_list_index, PySem.F.type_list_index, h1, h2, ?_⟩
    have hA := hb.pa.run cpos pins s1 σ H1 _ I1 q1
    rw [star1 hn] at hA ⊢
    exact Calls.callWith_builtin rfl (Calls.evalArgs_plain (thn hA fun us s2 ⟨vs, H2, I2, r2, q2⟩ => mt_indexL hu pins s2 σ H2 x vs v us Q I2 r1 r2 q2))
  · cases r1
    obtain ⟨g1, _, its, _, o2, g2, g3, _⟩ := I1.hok p _ hH
    rw [g1] at g2
    cases g2
    refine ⟨"tuple", "tuple.index", PySem.F.plainAttrs_tuple, PySem.F.slot_tuple_index, PySem.F.type_tuple_index, ⟨ob, g1, g3⟩, fun b e => by cases e; exact ⟨ob, g1, hd⟩, ?_⟩
    have hA := hb.pa.run cpos pins s1 σ H1 _ I1 q1
    rw [star1 hn] at hA ⊢
    exact Calls.callWith_builtin rfl (Calls.evalArgs_plain (thn hA fun us s2 ⟨vs, H2, I2, r2, q2⟩ => mt_indexT hu pins s2 σ H2 (.ref p) vs (.ref p) us Q I2 rfl r2 q2))
theorem f_count (C : CtxOk X sc fn N R) {o : O} {as : As} {a b : Expr} {apos cpos : Pos} (hbase : ∀ x, attributeBase a x X.env (eval a X.env) = eval a X.env) (ha : PE X a (tO X.K ms R XR o)) (hb : PEs X X.K ms R XR as [b]) (hl : (apos.endLine == cpos.line) = true) :
    PE X (.Call (.Attribute a (Str.ofString "count") apos) [b] [] cpos) (tM X.K ms R XR (.mth .count o as)) := by
  have hn := hb.stars b (by simp)
  have hu : X.A.units + 65 < cLine := Nat.lt_of_le_of_lt (by omega) C.un
  refine ⟨fun pins s σ H Q I h => ?_⟩
  refine wpAny_Call_method_late (hbase _) (few1 hn) hl rfl (thn (ha.run pins s σ H _ I (rd_mth h)) fun v s1 ⟨x, H1, I1, r1, ty, q1⟩ => ?_)
  obtain ⟨h1, h2⟩ := tyV_is I1 r1 ty
  refine ⟨"list", "list.count", PySem.F.plainAttrs_list, PySem.F.slot_list_count, PySem.F.type_list_count, h1, h2, ?_⟩
  have hA := hb.pa.run cpos pins s1 σ H1 _ I1 q1
  rw [star1 hn] at hA ⊢
  exact Calls.callWith_builtin rfl (Calls.evalArgs_plain (thn hA fun us s2 ⟨vs, H2, I2, r2, q2⟩ => mt_countL hu pins s2 σ H2 x vs v us Q I2 r1 r2 q2))
end
end MP

/-! MP: the check of expressions, and that it is sound. -/
namespace MP
open PySem L2

mutual
def E.fns : E → List Fn
  | .prim _ as => as.fns
  | .and a b => a.fns ++ b.fns
  | .or a b => a.fns ++ b.fns
  | .not a => a.fns
  | .ite t a b => t.fns ++ (a.fns ++ b.fns)
  | .orv a b => a.fns ++ b.fns
  | .chain _ _ a b c => a.fns ++ (b.fns ++ c.fns)
  | .call f as => f :: as.fns
  | .callK f as as2 _ _ => f :: (as.fns ++ as2.fns)
  | .lc elt _ _ as test => as.fns ++ (elt.fns ++ test.fns)
  | .lc2 elt _ _ as _ _ as2 test => as.fns ++ (as2.fns ++ (elt.fns ++ test.fns))
  | .mut _ _ as => as.fns
  | .sl2 _ o l u => o.fns ++ (l.fns ++ u.fns)
  | .mth _ o as => o.fns ++ as.fns
  | .var _ => []
  | .con _ => []
  | .glb _ _ => []
  | .ddv _ _ => []
def O.fns : O → List Fn
  | .val e => e.fns
  | .own _ => []
def As.fns : As → List Fn
  | .nil => []
  | .cons o r => o.fns ++ r.fns
end
mutual
def E.gls : E → List (Str × D)
  | .prim _ as => as.gls
  | .and a b => a.gls ++ b.gls
  | .or a b => a.gls ++ b.gls
  | .not a => a.gls
  | .ite t a b => t.gls ++ (a.gls ++ b.gls)
  | .orv a b => a.gls ++ b.gls
  | .chain _ _ a b c => a.gls ++ (b.gls ++ c.gls)
  | .call f as => as.gls
  | .callK f as as2 _ _ => as.gls ++ as2.gls
  | .lc elt _ _ as test => as.gls ++ (elt.gls ++ test.gls)
  | .lc2 elt _ _ as _ _ as2 test => as.gls ++ (as2.gls ++ (elt.gls ++ test.gls))
  | .mut _ _ as => as.gls
  | .sl2 _ o l u => o.gls ++ (l.gls ++ u.gls)
  | .mth _ o as => o.gls ++ as.gls
  | .var _ => []
  | .con _ => []
  | .ddv _ _ => []
  | .glb x c => [(x, c)]
def O.gls : O → List (Str × D)
  | .val e => e.gls
  | .own _ => []
def As.gls : As → List (Str × D)
  | .nil => []
  | .cons o r => o.gls ++ r.gls
end

/-- the operands' texts of what is walked -/
def iterArgs (sc : Scope) (o : IOp) (as : As) (tg iter : Expr) : Option (List Expr) :=
  match o with
  | .seq => if noSet iter = true then some [iter] else none
  | .rng1 => match iter with
    | .Call (.Name n _) [a] [] _ => if n = Str.ofString "range" ∧ glB sc n = true then some [a] else none
    | _ => none
  | .rng2 => match iter with
    | .Call (.Name n _) [a, b] [] _ => if n = Str.ofString "range" ∧ glB sc n = true then some [a, b] else none
    | _ => none
  | .enum => match iter, tg with
    | .Call (.Name n _) [a] [] _, .Tuple _ _ _ => if n = Str.ofString "enumerate" ∧ glB sc n = true ∧ as.noOwn = true then some [a] else none
    | _, _ => none
  | .zip => match iter, tg with
    | .Call (.Name n _) [a, b] [] _, .Tuple _ _ _ => if n = Str.ofString "zip" ∧ glB sc n = true ∧ as.noOwn = true then some [a, b] else none
    | _, _ => none
def ownOf (N : List Str) (is : List Nat) : List (Str × Nat) := is.filterMap fun i => (N[i]?).map fun x => (x, i)
def isTrueE : E → Bool
  | .con (.bool true) => true
  | _ => false
def mutB (m : MOp) (as : As) (n : Nat) : Bool := match m with
  | .append => as.noOwn && n == 1
  | .pop => n == 0
  | .popAt => as.noOwn && n == 1
  | .extend => n == 1
  | .insert => as.noOwn && n == 2
  | .reverse => n == 0
def mthN : Mth → String
  | .get1 => "get"
  | .get2 => "get"
  | .index => "index"
  | .count => "count"
def mthB (m : Mth) (n : Nat) : Bool := match m with
  | .get1 => n == 1
  | .get2 => n == 2
  | .index => n == 1
  | .count => n == 1
def fnOf (scope : Scope) : Str → Bool := fun x => scope.names.lookup x == some .cell
/-- what a method may be asked of -/
def rcvB : Expr → Bool
  | .Name _ _ => true
  | .Subscript _ _ _ => true
  | .ListComp _ _ _ _ => true
  | _ => false
theorem rcv_base {y : Expr} {env : PySem.Env} (h : rcvB y = true) : ∀ x, attributeBase y x env (eval y env) = eval y env := by
  cases y <;> first | (cases h; done) | exact fun _ => rfl
mutual
def chkE (N : List Str) (ms : List Bool) (sc : Scope) (fn : Str → Bool) (b : Bool) : E → Expr → Bool
  | .var i, e => match e with
    | .Name x _ => nameB N i x && visB sc x && shrB ms i
    | _ => false
  | .ddv k i, e => match e with
    | .Dict [some (.Constant (.int j) _ _)] [.Name x _] _ => decide (j = k) && (nameB N i x && visB sc x && shrB ms i)
    | _ => false
  | .con c, e => match e with
    | .Constant c' _ _ => constB c c'
    | _ => false
  | .glb x _, e => match e with
    | .Name y _ => decide (x = y) && glB sc y
    | _ => false
  | .prim o as, e => (!b || tstB e) && (match o with
    | .tup => as.noOwn
    | .lst => as.noOwn
    | _ => true) && (match formOf sc o e with
    | some es => chkAs N ms sc fn as es
    | none => false)
  | .and x y, e => match e with
    | .BoolOp .And (p :: q :: rest) pos => chkE N ms sc fn b x p && (match rest with
      | [] => chkE N ms sc fn b y q
      | r :: rest => chkE N ms sc fn b y (.BoolOp .And (q :: r :: rest) pos))
    | _ => false
  | .or x y, e => match e with
    | .BoolOp .Or (p :: q :: rest) pos => chkE N ms sc fn b x p && (match rest with
      | [] => chkE N ms sc fn b y q
      | r :: rest => chkE N ms sc fn b y (.BoolOp .Or (q :: r :: rest) pos))
    | _ => false
  | .not x, e => match e with
    | .UnaryOp .Not p _ => chkE N ms sc fn b x p
    | _ => false
  | .ite t x y, e => match e with
    | .IfExp c p q _ => !b && chkE N ms sc fn true t c && chkE N ms sc fn false x p && chkE N ms sc fn false y q
    | _ => false
  | .orv x y, e => match e with
    | .BoolOp .Or [p, q] pos => !b && chkE N ms sc fn false x p && chkE N ms sc fn false y q
    | _ => false
  | .chain o p x y z, e => match e with
    | .Compare x' [c1, c2] [y', z'] _ => decide (cmpF o = some c1) && decide (cmpF p = some c2) && noSet z' && chkE N ms sc fn false x x' && chkE N ms sc fn false y y' && chkE N ms sc fn false z z'
    | _ => false
  | .call f as, e => match e with
    | .Call (.Name n _) args [] _ => decide (n = f.name) && glB sc n && (f.pos && callB ms f as) && chkAs N ms sc fn as args
    | _ => false
  | .callK f as as2 kws perm, e => match e with
    | .Call (.Name n _) args kwl _ => decide (n = f.name) && glB sc n && (f.kw.any fun sh => sh.1 == as.len && decide (sh.2.1 = kws) && permEq sh.2.2 perm) && decide (kwl.map (·.arg) = kws.map some) && (as2.len == kws.length) && (match permO perm (as.toL ++ as2.toL) with
      | some pa => callB ms f pa
      | none => false) && chkAs N ms sc fn as args && chkAs N ms sc fn as2 (kwl.map (·.value))
    | _ => false
  | .lc elt t o as test, e => match e with
    | .ListComp ex [⟨tg, iter, ifs, 0⟩] scope _ => !b && blkC N sc scope (ownOf N t.slots) && decide ((ownOf N t.slots).map (·.2) = t.slots) && chkG N ms (relS scope sc) (fnOf scope) t tg && noSet iter &&
      (match iterArgs sc o as tg iter with
        | some es => chkAs N ms sc fn as es
        | none => false) &&
      (match ifs with
        | [] => isTrueE test
        | [c] => chkE N ms (relS scope sc) (fnOf scope) true test c
        | _ => false) && chkE N ms (relS scope sc) (fnOf scope) false elt ex
    | _ => false
  | .lc2 elt t o as t2 o2 as2 test, e => match e with
    | .ListComp ex [⟨tg, iter, [], 0⟩, ⟨tg2, iter2, ifs, 0⟩] scope _ => !b && blkC N sc scope (ownOf N (t.slots ++ t2.slots)) && decide ((ownOf N (t.slots ++ t2.slots)).map (·.2) = t.slots ++ t2.slots) && chkG N ms (relS scope sc) (fnOf scope) t tg && chkG N ms (relS scope sc) (fnOf scope) t2 tg2 && noSet iter && noSet iter2 &&
      (match iterArgs sc o as tg iter with
        | some es => chkAs N ms sc fn as es
        | none => false) &&
      (match iterArgs (relS scope sc) o2 as2 tg2 iter2 with
        | some es => chkAs N ms (relS scope sc) (fnOf scope) as2 es
        | none => false) &&
      (match ifs with
        | [] => isTrueE test
        | [c] => chkE N ms (relS scope sc) (fnOf scope) true test c
        | _ => false) && chkE N ms (relS scope sc) (fnOf scope) false elt ex
    | _ => false
  | .mut m i as, e => match e with
    | .Call (.Attribute (.Name x _) meth apos) args [] cpos => nameB N i x && visB sc x && ownB ms i && decide (meth = Str.ofString (mname m)) && (apos.endLine == cpos.line) && mutB m as args.length && chkAs N ms sc fn as args
    | _ => false
  | .sl2 _ o l u, e => match e with
    | .Subscript x (.Slice (some l') (some u') none _) _ => chkO N ms sc fn o x && chkE N ms sc fn false l l' && chkE N ms sc fn false u u'
    | _ => false
  | .mth m o as, e => match e with
    | .Call (.Attribute y meth apos) args [] cpos => rcvB y && (decide (meth = Str.ofString (mthN m)) && (apos.endLine == cpos.line) && mthB m args.length && chkO N ms sc fn o y && chkAs N ms sc fn as args)
    | _ => false
def chkO (N : List Str) (ms : List Bool) (sc : Scope) (fn : Str → Bool) : O → Expr → Bool
  | .val m, e => chkE N ms sc fn false m e
  | .own i, e => match e with
    | .Name x _ => nameB N i x && visB sc x && ownB ms i
    | _ => false
def chkAs (N : List Str) (ms : List Bool) (sc : Scope) (fn : Str → Bool) : As → List Expr → Bool
  | .nil, es => match es with
    | [] => true
    | _ => false
  | .cons o r, es => match es with
    | e :: es => notStar e && chkO N ms sc fn o e && chkAs N ms sc fn r es
    | [] => false
end
def isBool : Expr → Bool
  | .BoolOp _ _ _ => true
  | _ => false
/-- what is known of the names that a text uses -/
structure Kn (X : Cx) (XR : XRel) (fs : List Fn) (gs : List (Str × D)) : Prop where
  fn : ∀ f ∈ fs, CallOk X XR f
  gl : ∀ p ∈ gs, GlbOk X p.1 p.2
theorem Kn.left {X : Cx} {XR : XRel} {fs fs' : List Fn} {gs gs' : List (Str × D)} (h : Kn X XR (fs ++ fs') (gs ++ gs')) : Kn X XR fs gs := ⟨fun f hf => h.fn f (List.mem_append_left _ hf), fun f hf => h.gl f (List.mem_append_left _ hf)⟩
theorem Kn.right {X : Cx} {XR : XRel} {fs fs' : List Fn} {gs gs' : List (Str × D)} (h : Kn X XR (fs ++ fs') (gs ++ gs')) : Kn X XR fs' gs' := ⟨fun f hf => h.fn f (List.mem_append_right _ hf), fun f hf => h.gl f (List.mem_append_right _ hf)⟩
theorem Kn.blk {X : Cx} {XR : XRel} {fs : List Fn} {gs : List (Str × D)} (h : Kn X XR fs gs) (s : Shared) (H : Hp) (scope : Scope) (cenv : PySem.Env) (fp : List Addr) : Kn (X.blk s H scope cenv fp) XR fs gs := ⟨fun f hf => ⟨(h.fn f hf).ex⟩, fun p hp => h.gl p hp⟩
section
variable {X : Cx} {sc : Scope} {fn : Str → Bool} {N : List Str} {R : WX} {XR : XRel} {ms : List Bool} {b : Bool}
theorem takesN {X : Cx} : Takes X R0 := fun _ _ x => by
  obtain ⟨_, _, _, _, _, _, _, _, _, _, _, _, _, _, _, _, z⟩ := x
  exact z.elim
theorem CtxOk.blk (C : CtxOk X sc fn N R) (s : Shared) (H : Hp) (scope : Scope) (cl : List (Str × Addr)) (Cc : Addr) (fp : List Addr) : CtxOk (X.blk s H scope (compEnvC scope cl Cc X.env) fp) (relS scope sc) (fnOf scope) N R0 where
  hN := C.hN
  nd := C.nd
  sc := by rw [← C.sc]; rfl
  fn := rfl
  calm := C.calm
  tk := takesN
  gu := C.gu
  un := C.un
  bl := C.bl
theorem iter_snd (C : CtxOk X sc fn N R) {o : IOp} {as : As} {tg iter : Expr} {es : List Expr} (h : iterArgs sc o as tg iter = some es) (ha : PEs X X.K ms R XR as es) : PI X tg iter (tI X.K ms R XR o as) := by
  cases o with
  | seq =>
    simp only [iterArgs] at h
    split at h <;> cases h
    obtain ⟨o, rfl, h1, _⟩ := ha.one
    exact pi_seq h1
  | rng1 =>
    simp only [iterArgs] at h
    split at h
    · split at h <;> cases h
      rename_i q
      exact pi_rng1 C q.2 q.1 ha
    · cases h
  | rng2 =>
    simp only [iterArgs] at h
    split at h
    · split at h <;> cases h
      rename_i q
      exact pi_rng2 C q.2 q.1 ha
    · cases h
  | enum =>
    simp only [iterArgs] at h
    split at h
    · split at h <;> cases h
      rename_i q
      exact pi_enumM C q.2.1 q.1 ha q.2.2
    · cases h
  | zip =>
    simp only [iterArgs] at h
    split at h
    · split at h <;> cases h
      rename_i q
      exact pi_zipM C q.2.1 q.1 ha q.2.2
    · cases h
theorem okIt_of {scT : Scope} {fnT : Str → Bool} {o : IOp} {t : T} {as : As} {tg iter : Expr} {es : List Expr} (h : iterArgs sc o as tg iter = some es) (g : chkG N ms scT fnT t tg = true) : okIt o t = true := by
  cases o <;> cases t <;> try rfl
  all_goals
    cases tg <;> simp only [chkG] at g <;> first | (cases g; done) | skip
    simp only [iterArgs] at h
    cases h
theorem fold_set {iter : Expr} {env : PySem.Env} (h : noSet iter = true) (x : Value) : foldedSetIterable iter env x = pure x := by
  cases iter <;> first | rfl | cases h
theorem isTrueE_eq {m : E} (h : isTrueE m = true) : m = .con (.bool true) := by
  unfold isTrueE at h
  split at h
  · rfl
  · cases h
theorem rt_true {σ : St} {H : Hp} {Q : Bool → Hp → Prop} {K : PySem.W.Frag} (h : tT K ms R XR (.con (.bool true)) σ H Q) : tYes σ H Q := by
  obtain ⟨F, env, hK, r, w⟩ := h
  simp only [evE, isT] at w
  exact W_ok w r
theorem cmp_fresh {o : Op} {c : CmpOp} (h : cmpF o = some c) : o.fresh = false := by
  cases o <;> first | rfl | (simp [cmpF] at h)
theorem pb_both {e : Expr} {m : E} (h : PB X e (tM X.K ms R XR m) b) (nb : isBool e = false) : PE X e (tM X.K ms R XR m) ∧ (b = true → PT X e (tT X.K ms R XR m) ∧ (isBool e = true → PW X e (tT X.K ms R XR m))) :=
  ⟨h.1, fun hb => ⟨pt_imp (h.2 hb) fun σ H Q => rd_test, fun z => by rw [nb] at z; cases z⟩⟩
theorem pt_of {e : Expr} {m : E} (h : PE X e (tM X.K ms R XR m) ∧ (b = true → PT X e (tT X.K ms R XR m) ∧ (isBool e = true → PW X e (tT X.K ms R XR m)))) (hb : b = true) : PT X e (tT X.K ms R XR m) := (h.2 hb).1
mutual
theorem snd_E (hx : XOk XR) : ∀ (m : E) {X : Cx} {sc : Scope} {fn : Str → Bool} {R : WX} {b : Bool} {e : Expr}, CtxOk X sc fn N R → Kn X XR m.fns m.gls → chkE N ms sc fn b m e = true →
    PE X e (tM X.K ms R XR m) ∧ (b = true → PT X e (tT X.K ms R XR m) ∧ (isBool e = true → PW X e (tT X.K ms R XR m)))
  | .var i, X, sc, fn, R, b, e, C, k, h => by
    cases e <;> simp only [chkE] at h <;> first | (cases h; done) | skip
    simp only [Bool.and_eq_true] at h
    obtain ⟨⟨h1, h2⟩, h3⟩ := h
    obtain ⟨v1, v2, v3⟩ := vis_of C h2
    refine pb_both (pb_plain (pe_imp (pe_var (i := i) (by rw [C.hN]; exact name_eq h1) v1 v2 v3) fun σ H Q => rd_var (shr_ne h3)) fun _ => rfl) rfl
  | .ddv kk i, X, sc, fn, R, b, e, C, k, h => by
    unfold chkE at h
    split at h
    · simp only [Bool.and_eq_true, decide_eq_true_eq] at h
      obtain ⟨h0, ⟨h1, h2⟩, h3⟩ := h
      subst h0
      obtain ⟨v1, v2, v3⟩ := vis_of C h2
      exact pb_both (pb_plain (f_ddv (shr_ne h3) (pe_var (i := i) (by rw [C.hN]; exact name_eq h1) v1 v2 v3)) fun _ => rfl) rfl
    · cases h
  | .con c, X, sc, fn, R, b, e, C, k, h => by
    cases e <;> simp only [chkE] at h <;> first | (cases h; done) | skip
    exact pb_both (pb_plain (pe_con h) fun _ => rfl) rfl
  | .glb x c, X, sc, fn, R, b, e, C, k, h => by
    cases e <;> simp only [chkE] at h <;> first | (cases h; done) | skip
    simp only [Bool.and_eq_true, decide_eq_true_eq] at h
    obtain ⟨e1, h2⟩ := h
    subst e1
    obtain ⟨g1, g2, g3⟩ := gl_of C h2
    obtain ⟨v, u, q1, q2, q3⟩ := k.gl (x, c) (by simp [E.gls])
    exact pb_both (pb_plain (pe_imp (pe_glob g1 q1 q2 g2) fun σ H Q => rd_glb q3) fun _ => rfl) rfl
  | .prim o as, X, sc, fn, R, b, e, C, k, h => by
    simp only [chkE, Bool.and_eq_true, Bool.or_eq_true, Bool.not_eq_true'] at h
    obtain ⟨⟨h1, h2⟩, h3⟩ := h
    cases hf : formOf sc o e with
    | none => rw [hf] at h3; cases h3
    | some es =>
      rw [hf] at h3
      have ha := snd_As hx as C k h3
      refine pb_both (prim_snd C hf ha (fun z => ?_) fun hb => ?_) ?_
      · rcases z with rfl | rfl <;> exact h2
      · rcases h1 with h1 | h1
        · rw [hb] at h1; cases h1
        · exact h1
      · cases e <;> first | rfl | (simp [formOf] at hf)
  | .and x y, X, sc, fn, R, b, e, C, k, h => by
    cases e with
    | BoolOp bo ps pos =>
      cases bo with
      | Or => simp [chkE] at h
      | And =>
      match ps, h with
      | [], h => simp [chkE] at h
      | [_], h => simp [chkE] at h
      | [p, q], h =>
        simp only [chkE, Bool.and_eq_true] at h
        have hp := snd_E hx x C k.left h.1
        have hq := snd_E hx y C k.right h.2
        refine ⟨pe_imp (pe_and hp.1 (pe_one hq.1)) fun σ H Q => rd_and, fun hb => ?_⟩
        have w : PW X (.BoolOp .And [p, q] pos) (tT X.K ms R XR (.and x y)) := pw_imp (pw_and (hp.2 hb).1 (pw_and1 (hq.2 hb).1)) fun σ H Q => rt_and
        exact ⟨w.pt, fun _ => w⟩
      | p :: q :: r :: rest, h =>
        simp only [chkE, Bool.and_eq_true] at h
        have hp := snd_E hx x C k.left h.1
        have hq := snd_E hx y C k.right h.2
        refine ⟨pe_imp (pe_and hp.1 hq.1) fun σ H Q => rd_and, fun hb => ?_⟩
        have w : PW X (.BoolOp .And (p :: q :: r :: rest) pos) (tT X.K ms R XR (.and x y)) := pw_imp (pw_and (hp.2 hb).1 ((hq.2 hb).2 rfl)) fun σ H Q => rt_and
        exact ⟨w.pt, fun _ => w⟩
    | _ => simp [chkE] at h
  | .or x y, X, sc, fn, R, b, e, C, k, h => by
    cases e with
    | BoolOp bo ps pos =>
      cases bo with
      | And => simp [chkE] at h
      | Or =>
      match ps, h with
      | [], h => simp [chkE] at h
      | [_], h => simp [chkE] at h
      | [p, q], h =>
        simp only [chkE, Bool.and_eq_true] at h
        have hp := snd_E hx x C k.left h.1
        have hq := snd_E hx y C k.right h.2
        refine ⟨pe_imp (pe_or hp.1 (pe_one hq.1)) fun σ H Q => rd_or, fun hb => ?_⟩
        have w : PW X (.BoolOp .Or [p, q] pos) (tT X.K ms R XR (.or x y)) := pw_imp (pw_or (hp.2 hb).1 (pw_or1 (hq.2 hb).1)) fun σ H Q => rt_or
        exact ⟨w.pt, fun _ => w⟩
      | p :: q :: r :: rest, h =>
        simp only [chkE, Bool.and_eq_true] at h
        have hp := snd_E hx x C k.left h.1
        have hq := snd_E hx y C k.right h.2
        refine ⟨pe_imp (pe_or hp.1 hq.1) fun σ H Q => rd_or, fun hb => ?_⟩
        have w : PW X (.BoolOp .Or (p :: q :: r :: rest) pos) (tT X.K ms R XR (.or x y)) := pw_imp (pw_or (hp.2 hb).1 ((hq.2 hb).2 rfl)) fun σ H Q => rt_or
        exact ⟨w.pt, fun _ => w⟩
    | _ => simp [chkE] at h
  | .not x, X, sc, fn, R, b, e, C, k, h => by
    cases e with
    | UnaryOp uo p pos =>
      cases uo <;> simp only [chkE] at h <;> first | (cases h; done) | skip
      have hp := snd_E hx x C k h
      exact ⟨pe_imp (pe_not hp.1) fun σ H Q => rd_not, fun hb => ⟨pt_imp (pt_not (hp.2 hb).1) fun σ H Q => rt_not, fun z => by cases z⟩⟩
    | _ => simp [chkE] at h
  | .ite t x y, X, sc, fn, R, b, e, C, k, h => by
    cases e with
    | IfExp c p q pos =>
      simp only [chkE, Bool.and_eq_true, Bool.not_eq_true'] at h
      obtain ⟨⟨⟨h0, h1⟩, h2⟩, h3⟩ := h
      have hc := snd_E hx t C k.left h1
      have hp := snd_E hx x C k.right.left h2
      have hq := snd_E hx y C k.right.right h3
      exact ⟨pe_imp (pe_ifExp (hc.2 rfl).1 hp.1 hq.1) fun σ H Q => rd_ite, fun hb => by rw [hb] at h0; cases h0⟩
    | _ => simp [chkE] at h
  | .orv x y, X, sc, fn, R, b, e, C, k, h => by
    cases e with
    | BoolOp bo ps pos =>
      cases bo with
      | And => simp [chkE] at h
      | Or =>
      match ps, h with
      | [], h => simp [chkE] at h
      | [_], h => simp [chkE] at h
      | [p, q], h =>
        simp only [chkE, Bool.and_eq_true, Bool.not_eq_true'] at h
        obtain ⟨⟨h0, h1⟩, h2⟩ := h
        have hp := snd_E hx x C k.left h1
        have hq := snd_E hx y C k.right h2
        exact ⟨pe_imp (pe_orT hp.1 (pe_one hq.1)) fun σ H Q => rd_orv, fun hb => by rw [hb] at h0; cases h0⟩
      | _ :: _ :: _ :: _, h => simp [chkE] at h
    | _ => simp [chkE] at h
  | .chain o p x y z, X, sc, fn, R, b, e, C, k, h => by
    cases e with
    | Compare x' ops ys pos =>
      match ops, ys, h with
      | [c1, c2], [y', z'], h =>
        simp only [chkE, Bool.and_eq_true, decide_eq_true_eq] at h
        obtain ⟨⟨⟨⟨⟨h1, h2⟩, h3⟩, h4⟩, h5⟩, h6⟩ := h
        have a1 := snd_E hx x C k.left h4
        have a2 := snd_E hx y C k.right.left h5
        have a3 := snd_E hx z C k.right.right h6
        have hm : lastMarks [c1, c2] [y', z'] = false := mark_noset h3
        have w : ∀ σ H Q, tM X.K ms R XR (.chain o p x y z) σ H Q → tChain (fun x y => rGen X.K o [x, y]) (fun x y => rGen X.K p [x, y]) (tM X.K ms R XR x) (tM X.K ms R XR y) (tM X.K ms R XR z) σ H Q := fun σ H Q => rd_chain (cmp_fresh h1) (cmp_fresh h2)
        exact pb_both ⟨pe_imp (pe_chain (op_cmp C h1) (op_cmp C h2) a1.1 a2.1 a3.1 hm) w, fun _ => pt_imp (pt_chain (op_cmp C h1) (op_cmp C h2) a1.1 a2.1 a3.1 hm) fun σ H Q q => w σ H _ q⟩ rfl
      | [], _, h => simp [chkE] at h
      | [_], _, h => simp [chkE] at h
      | _ :: _ :: _ :: _, _, h => simp [chkE] at h
      | [_, _], [], h => simp [chkE] at h
      | [_, _], [_], h => simp [chkE] at h
      | [_, _], _ :: _ :: _ :: _, h => simp [chkE] at h
    | _ => simp [chkE] at h
  | .call f as, X, sc, fn, R, b, e, C, k, h => by
    cases e with
    | Call g args kws pos =>
      cases g with
      | Name n p =>
        cases kws with
        | cons _ _ => simp [chkE] at h
        | nil =>
          simp only [chkE, Bool.and_eq_true, decide_eq_true_eq] at h
          obtain ⟨⟨⟨h1, h2⟩, h0, h3⟩, h4⟩ := h
          subst h1
          obtain ⟨g1, g2, g3⟩ := gl_of C h2
          obtain ⟨kk, ad, fd, ps, F, hr, hm, hk, hb0, hl, _⟩ := (k.fn f (by simp [E.fns])).ex
          have hb := hb0 h0
          have ha := snd_As hx as C ⟨fun f' hf => k.fn f' (by simp [E.fns, hf]), fun p hp => k.gl p (by simpa [E.gls] using hp)⟩ h4
          refine pb_both (pb_plain ?_ fun _ => rfl) rfl
          cases ha with
          | nil =>
            refine pe_imp (pe_callG0 F hr C.gu g1 hm hk hb C.tk g2) fun σ H Q q => ?_
            obtain ⟨F, env, hK, r, w⟩ := rd_call hx h3 q
            simp only [evAs] at w
            exact W_ok w r _ .nil
          | cons ho hn hr' =>
            have hpa := PEs.pa (.cons ho hn hr')
            exact pe_imp (pe_callG F hr C.gu g1 hm hk hb C.tk hpa g2 (star1 hn) (star_plain hr'.stars)) fun σ H Q q => rd_call hx h3 q
      | _ => simp [chkE] at h
    | _ => simp [chkE] at h
  | .callK f as as2 kws perm, X, sc, fn, R, b, e, C, k, h => by
    cases e with
    | Call g args kwl pos =>
      cases g with
      | Name n p =>
        simp only [chkE, Bool.and_eq_true, decide_eq_true_eq, beq_iff_eq] at h
        obtain ⟨⟨⟨⟨⟨⟨⟨h1, h2⟩, h3⟩, h4⟩, h5⟩, h6⟩, h7⟩, h8⟩ := h
        subst h1
        obtain ⟨g1, g2, g3⟩ := gl_of C h2
        obtain ⟨kk, ad, fd, ps, F, hr, hm, hk, hb, hl, hkb⟩ := (k.fn f (by simp [E.fns])).ex
        obtain ⟨sh, hsh, hq⟩ := List.any_eq_true.mp h3
        simp only [Bool.and_eq_true, beq_iff_eq, decide_eq_true_eq] at hq
        obtain ⟨⟨q1, q2⟩, q3⟩ := hq
        have q3 := permEq_eq q3
        have hkb := hkb sh hsh
        have kn : Kn X XR (as.fns ++ as2.fns) (as.gls ++ as2.gls) := ⟨fun f' hf => k.fn f' (by simp only [E.fns, List.mem_cons]; exact .inr hf), fun p hp => k.gl p (by simpa only [E.gls] using hp)⟩
        have ha := snd_As hx as C kn.left h7
        have ha2 := snd_As hx as2 C kn.right h8
        obtain ⟨n1, n2, n3⟩ := kw_names (env := X.env) (pos := pos) h4
        cases hp : permO perm (as.toL ++ as2.toL) with
        | none => rw [hp] at h6; cases h6
        | some pa =>
          rw [hp] at h6
          refine pb_both (pb_plain ?_ fun _ => rfl) rfl
          have hk2 := ha2.pk (as := as2)
          have st := ha.stars
          have q2' : sh.2.1.length = as2.len := by rw [q2, h5]
          cases args with
          | nil =>
            cases ha
            refine pe_imp (pe_callKG0 (sh := sh) F hr C.gu g1 hm hk hkb C.tk hk2 n1 (by rw [n2, q2]) n3 g2) fun σ H Q q => ?_
            obtain ⟨F, env, hK, r, w⟩ := rd_callK hx hp h6 q
            simp only [evAs] at w
            obtain ⟨F2, env2, hK2, r2, w2⟩ := W_ok w r [] .nil
            refine ⟨F2, env2, hK2, r2, W_mono w2 fun es env3 H3 f3 r3 z zs hz => ?_⟩
            obtain ⟨z1, z2, z3⟩ := z zs hz
            exact ⟨by rw [q1]; rfl, by rw [z2, q2'], by rw [q3]; exact z3⟩
          | cons a args =>
            refine pe_imp (pe_callKG (sh := sh) F hr C.gu g1 hm hk hkb C.tk ha.pa hk2 n1 (by rw [n2, q2]) n3 g2 st) fun σ H Q q => ?_
            obtain ⟨F, env, hK, r, w⟩ := rd_callK hx hp h6 q
            refine ⟨F, env, hK, r, W_mono w fun ds env1 H1 f1 r1 z vs hv => ?_⟩
            obtain ⟨F2, env2, hK2, r2, w2⟩ := z vs hv
            refine ⟨F2, env2, hK2, r2, W_mono w2 fun es env3 H3 f3 r3 z zs hz => ?_⟩
            obtain ⟨z1, z2, z3⟩ := z zs hz
            exact ⟨by rw [z1, q1], by rw [z2, q2'], by rw [q3]; exact z3⟩
      | _ => simp [chkE] at h
    | _ => simp [chkE] at h
  | .lc elt t o as test, X, sc, fn, R, b, e, C, k, h => by
    obtain ⟨tg, iter, ifs, scope, pos, ex, rfl, h⟩ : ∃ tg iter ifs scope pos ex, e = .ListComp ex [⟨tg, iter, ifs, 0⟩] scope pos ∧ chkE N ms sc fn b (.lc elt t o as test) (.ListComp ex [⟨tg, iter, ifs, 0⟩] scope pos) = true := by
      unfold chkE at h
      split at h
      · refine ⟨_, _, _, _, _, _, rfl, ?_⟩
        unfold chkE
        exact h
      · cases h
    simp only [chkE, Bool.and_eq_true, Bool.not_eq_true', decide_eq_true_eq] at h
    obtain ⟨⟨⟨⟨⟨⟨⟨h0, h1⟩, h2⟩, h3⟩, h4⟩, h5⟩, h6⟩, h7⟩ := h
    refine ⟨?_, fun hb => by rw [hb] at h0; cases h0⟩
    cases hi : iterArgs sc o as tg iter with
    | none => rw [hi] at h5; cases h5
    | some es =>
      rw [hi] at h5
      have ha := snd_As hx as C k.left h5
      have hpi := iter_snd C hi ha
      have hms := chkG_slots h3
      have pts : ∀ (s : Shared) (H : Hp) (Cc : Addr) (cl : List (Str × Addr)) (fp : List Addr), PTs (X.blk s H scope (compEnvC scope cl Cc X.env) fp) ifs (tT X.K ms R0 XR test) := fun s H Cc cl fp => by
        match ifs, h6 with
        | [], h6 =>
          rw [isTrueE_eq h6]
          exact ⟨fun pins s σ H Q I q => pts_nil.run pins s σ H Q I (rt_true q)⟩
        | [c], h6 => exact pts_one ((snd_E hx test (C.blk s H scope cl Cc fp) (k.right.right.blk _ _ _ _ _) h6).2 rfl).1
      refine pe_imp (pe_lc (wi := tI X.K ms R XR o as) (g := gT X.K ms t) (tt := tT X.K ms R0 XR test) (te := tM X.K ms R0 XR elt) (own := ownOf N t.slots) C.calm (by rw [C.hN]; exact C.nd) hpi (by rw [C.hN, C.sc]; exact blkOk_by h1)
        (fun s H Cc cl fp => pg_T (C.blk s H scope cl Cc fp) h3) pts (fun s H Cc cl fp => (snd_E hx elt (C.blk s H scope cl Cc fp) (k.right.left.blk _ _ _ _ _) h7).1) (fold_set h4)) fun σ H Q q => ?_
      rw [h2]
      exact lc_read hms (okIt_of hi h3) q
  | .lc2 elt t o as t2 o2 as2 test, X, sc, fn, R, b, e, C, k, h => by
    obtain ⟨tg, iter, tg2, iter2, ifs, scope, pos, ex, rfl, h⟩ : ∃ tg iter tg2 iter2 ifs scope pos ex, e = .ListComp ex [⟨tg, iter, [], 0⟩, ⟨tg2, iter2, ifs, 0⟩] scope pos ∧ chkE N ms sc fn b (.lc2 elt t o as t2 o2 as2 test) (.ListComp ex [⟨tg, iter, [], 0⟩, ⟨tg2, iter2, ifs, 0⟩] scope pos) = true := by
      unfold chkE at h
      split at h
      · refine ⟨_, _, _, _, _, _, _, _, rfl, ?_⟩
        unfold chkE
        exact h
      · cases h
    simp only [chkE, Bool.and_eq_true, Bool.not_eq_true', decide_eq_true_eq] at h
    obtain ⟨⟨⟨⟨⟨⟨⟨⟨⟨⟨h0, h1⟩, h2⟩, h3⟩, h3'⟩, h4⟩, h4'⟩, h5⟩, h5'⟩, h6⟩, h7⟩ := h
    refine ⟨?_, fun hb => by rw [hb] at h0; cases h0⟩
    cases hi : iterArgs sc o as tg iter with
    | none => rw [hi] at h5; cases h5
    | some es =>
    cases hi2 : iterArgs (relS scope sc) o2 as2 tg2 iter2 with
    | none => rw [hi2] at h5'; cases h5'
    | some es2 =>
      rw [hi] at h5
      rw [hi2] at h5'
      have ha := snd_As hx as C k.left h5
      have hpi := iter_snd C hi ha
      have hms : ∀ i ∈ t.slots ++ t2.slots, ms[i]? ≠ some true := fun i hi => (List.mem_append.mp hi).elim (chkG_slots h3 i) (chkG_slots h3' i)
      have pts : ∀ (s : Shared) (H : Hp) (Cc : Addr) (cl : List (Str × Addr)) (fp : List Addr), PTs (X.blk s H scope (compEnvC scope cl Cc X.env) fp) ifs (tT X.K ms R0 XR test) := fun s H Cc cl fp => by
        match ifs, h6 with
        | [], h6 =>
          rw [isTrueE_eq h6]
          exact ⟨fun pins s σ H Q I q => pts_nil.run pins s σ H Q I (rt_true q)⟩
        | [c], h6 => exact pts_one ((snd_E hx test (C.blk s H scope cl Cc fp) (k.right.right.right.blk _ _ _ _ _) h6).2 rfl).1
      refine pe_imp (pe_lc2 (wi := tI X.K ms R XR o as) (g := gT X.K ms t) (tt := tYes) (wi1 := tI X.K ms R0 XR o2 as2) (g1 := gT X.K ms t2) (tt1 := tT X.K ms R0 XR test) (te := tM X.K ms R0 XR elt) (own := ownOf N (t.slots ++ t2.slots)) (vs1 := t2.slots) C.calm (by rw [C.hN]; exact C.nd) hpi (by rw [C.hN, C.sc]; exact blkOk_by h1) (fun i hi => by rw [h2]; exact List.mem_append_right _ hi)
        (fun s H Cc cl fp => pg_T (C.blk s H scope cl Cc fp) h3) (fun s H Cc cl fp => pts_nil)
        (fun s H Cc cl fp => iter_snd (C.blk s H scope cl Cc fp) hi2 (snd_As hx as2 (C.blk s H scope cl Cc fp) (k.right.left.blk _ _ _ _ _) h5'))
        (fun s H Cc cl fp => pg_T (C.blk s H scope cl Cc fp) h3') pts (fun s H Cc cl fp => (snd_E hx elt (C.blk s H scope cl Cc fp) (k.right.right.left.blk _ _ _ _ _) h7).1) (fold_set h4) (fun env x => fold_set h4' x)) fun σ H Q q => ?_
      rw [h2]
      exact lc2_read hms (okIt_of hi h3) (okIt_of hi2 h3') q
  | .mut m i as, X, sc, fn, R, b, e, C, k, h => by
    cases e with
    | Call g args kws pos =>
      cases g with
      | Attribute o meth apos =>
        cases o with
        | Name x p =>
          cases kws with
          | cons _ _ => simp [chkE] at h
          | nil =>
            simp only [chkE, Bool.and_eq_true, decide_eq_true_eq] at h
            obtain ⟨⟨⟨⟨⟨⟨h1, h2⟩, h3⟩, h4⟩, h5⟩, h6⟩, h7⟩ := h
            subst h4
            obtain ⟨v1, v2, v3⟩ := vis_of C h2
            have hv : PE X (.Name x p) (tVar i) := pe_var (i := i) (by rw [C.hN]; exact name_eq h1) v1 v2 v3
            have ha := snd_As hx as C k h7
            refine pb_both (pb_plain ?_ fun _ => rfl) rfl
            unfold mutB at h6
            cases m <;> simp only [Bool.and_eq_true, beq_iff_eq] at h6
            · match args, h6, ha with
              | [a], h6, ha => exact pe_mut1 hv (own_eq h3) (.inl rfl) h5 (fun _ => h6.1) ha
            · match args, h6, ha with
              | [], h6, ha =>
                cases ha
                exact pe_mut0 hv (own_eq h3) (.inl rfl) h5
            · match args, h6, ha with
              | [a], h6, ha => exact pe_mut1 hv (own_eq h3) (.inr (.inl rfl)) h5 (fun _ => h6.1) ha
            · match args, h6, ha with
              | [a], h6, ha => exact pe_mut1 hv (own_eq h3) (.inr (.inr rfl)) h5 (fun z => absurd rfl z) ha
            · match args, h6, ha with
              | [a, b], h6, ha => exact pe_mut2 hv (own_eq h3) h5 h6.1 ha
            · match args, h6, ha with
              | [], h6, ha =>
                cases ha
                exact pe_mut0 hv (own_eq h3) (.inr rfl) h5
        | _ => simp [chkE] at h
      | _ => simp [chkE] at h
    | _ => simp [chkE] at h
  | .sl2 fr o l u, X, sc, fn, R, b, e, C, k, h => by
    obtain ⟨x, l', u', p2, pos, rfl, h⟩ : ∃ x l' u' p2 pos, e = .Subscript x (.Slice (some l') (some u') none p2) pos ∧ chkE N ms sc fn b (.sl2 fr o l u) (.Subscript x (.Slice (some l') (some u') none p2) pos) = true := by
      unfold chkE at h
      split at h
      · refine ⟨_, _, _, _, _, rfl, ?_⟩
        unfold chkE
        exact h
      · cases h
    simp only [chkE, Bool.and_eq_true] at h
    have ho := snd_O hx o C k.left h.1.1
    have hl := snd_E hx l C k.right.left h.1.2
    have hu := snd_E hx u C k.right.right h.2
    exact pb_both (pb_plain (f_sl2 ho hl.1 hu.1) fun _ => rfl) rfl
  | .mth m o as, X, sc, fn, R, b, e, C, k, h => by
    cases e with
    | Call g args kws pos =>
      cases g with
      | Attribute y meth apos =>
          cases kws with
          | cons _ _ => simp [chkE] at h
          | nil =>
            simp only [chkE, Bool.and_eq_true, decide_eq_true_eq] at h
            obtain ⟨h0, ⟨⟨⟨h1, h2⟩, h3⟩, h4⟩, h5⟩ := h
            subst h1
            have hb := rcv_base (env := X.env) h0
            have ho := snd_O hx o C k.left h4
            have ha := snd_As hx as C k.right h5
            refine pb_both (pb_plain ?_ fun _ => rfl) rfl
            unfold mthB at h3
            cases m <;> simp only [beq_iff_eq] at h3
            · match args, h3, ha with
              | [a], h3, .cons ha hn .nil => exact f_get1 C hb ho ha hn h2
            · match args, h3, ha with
              | [a, b], h3, .cons ha hn (.cons ha2 hn2 .nil) => exact f_get2 C hb ho ha ha2 hn hn2 h2
            · match args, h3, ha with
              | [a], h3, ha => exact f_index C hb ho ha h2
            · match args, h3, ha with
              | [a], h3, ha => exact f_count C hb ho ha h2
      | _ => simp [chkE] at h
    | _ => simp [chkE] at h
theorem snd_O (hx : XOk XR) : ∀ (o : O) {X : Cx} {sc : Scope} {fn : Str → Bool} {R : WX} {e : Expr}, CtxOk X sc fn N R → Kn X XR o.fns o.gls → chkO N ms sc fn o e = true → PE X e (tO X.K ms R XR o)
  | .val m, X, sc, fn, R, e, C, k, h => tO_val (snd_E hx m C k (by simpa [chkO] using h)).1
  | .own i, X, sc, fn, R, e, C, k, h => by
    cases e <;> simp only [chkO] at h <;> first | (cases h; done) | skip
    simp only [Bool.and_eq_true] at h
    obtain ⟨⟨h1, h2⟩, h3⟩ := h
    obtain ⟨v1, v2, v3⟩ := vis_of C h2
    exact tO_own (own_eq h3) (pe_var (i := i) (by rw [C.hN]; exact name_eq h1) v1 v2 v3)
theorem snd_As (hx : XOk XR) : ∀ (as : As) {X : Cx} {sc : Scope} {fn : Str → Bool} {R : WX} {es : List Expr}, CtxOk X sc fn N R → Kn X XR as.fns as.gls → chkAs N ms sc fn as es = true → PEs X X.K ms R XR as es
  | .nil, X, sc, fn, R, es, C, k, h => by
    cases es with
    | nil => exact .nil
    | cons _ _ => simp [chkAs] at h
  | .cons o r, X, sc, fn, R, es, C, k, h => by
    cases es with
    | nil => simp [chkAs] at h
    | cons e es =>
      simp only [chkAs, Bool.and_eq_true] at h
      exact .cons (snd_O hx o C k.left h.1.2) h.1.1 (snd_As hx r C k.right h.2)
end
end
end MP

/-! MP: statements: readings. -/
namespace MP
open PySem L2

section
variable {F : Fx} {ms : List Bool} {env env' : Env} {σ σ' σ1 : St} {H H' H1 : Hp} {R : WX} {XR : XRel} {own : Bool} {De : Ends} {K : PySem.W.Frag} {np : Nat}
def SX (F : Fx) (ms : List Bool) (σ : St) (H : Hp) (σ' : St) (H' : Hp) : Prop := Ext (Tab F ms σ) H (Tab F ms σ') H'
theorem SX.refl : SX F ms σ H σ H := Ext.refl
theorem SX.trans (x : SX F ms σ H σ1 H1) (y : SX F ms σ1 H1 σ' H') : SX F ms σ H σ' H' := Ext.trans x y
theorem FrP.sx (f : FrP ms σ H H') : SX F ms σ H σ H' := f.ext
theorem SameO.sx (s : SameO ms σ σ') : SX F ms σ H σ' H := by
  unfold SX
  rw [s.tab]
  exact Ext.refl
def FOk (F : Fx) : Prop := ∀ a, F.S0 a → F.H0 a ≠ none
def RetR (own : Bool) (F : Fx) (H' : Hp) (v : V) (d : D) : Prop := ResRel own F.K F.S0 F.H0 H' v d
def WS (F : Fx) (ms : List Bool) (R : WX) (XR : XRel) (own : Bool) (σ : St) (H : Hp) (r : SRes) (De : Ends) : Prop :=
  match r with
  | .next env' => ∀ σ' H', SX F ms σ H σ' H' → Rel F ms env' σ' H' → De.nx σ' H'
  | .brk env' => ∀ σ' H', SX F ms σ H σ' H' → Rel F ms env' σ' H' → De.bk σ' H'
  | .cnt env' => ∀ σ' H', SX F ms σ H σ' H' → Rel F ms env' σ' H' → De.ct σ' H'
  | .ret d env' => ∀ v σ' H', SX F ms σ H σ' H' → Rel F ms env' σ' H' → RetR own F H' v d → De.rt v H'
  | .exc c x env' => ∀ C dx σ' H', SX F ms σ H σ' H' → Rel F ms env' σ' H' → XR c x (Tab F ms σ') H' C dx → R C dx σ' H'
  | .stuck => False
theorem WS_later {r : SRes} (h : WS F ms R XR own σ H r De) (x : SX F ms σ H σ' H') : WS F ms R XR own σ' H' r De := by
  cases r with
  | next env1 => exact fun σ2 H2 x2 r2 => h σ2 H2 (x.trans x2) r2
  | brk env1 => exact fun σ2 H2 x2 r2 => h σ2 H2 (x.trans x2) r2
  | cnt env1 => exact fun σ2 H2 x2 r2 => h σ2 H2 (x.trans x2) r2
  | ret d env1 => exact fun v σ2 H2 x2 r2 => h v σ2 H2 (x.trans x2) r2
  | exc c y env1 => exact fun C dx σ2 H2 x2 r2 => h C dx σ2 H2 (x.trans x2) r2
  | stuck => exact h
theorem WS_go {α : Type} {r : Res α} {f : α → Env → SRes} (h : WS F ms R XR own σ H (r.go f) De) : W F ms R XR σ r H fun a env' H' => WS F ms R XR own σ H' (f a env') De := by
  cases r with
  | ok a env1 => exact fun H1 f1 r1 => WS_later (show WS F ms R XR own σ H (f a env1) De from h) f1.sx
  | exc c x env1 => exact fun C dx H1 f1 r1 hx => h C dx σ H1 f1.sx r1 hx
  | stuck => exact h
/-- a statement's reading -/
def tS (K : PySem.W.Frag) (ms : List Bool) (R : WX) (XR : XRel) (own : Bool) (np : Nat) (s : S) : TS := fun De σ H => ∃ (F : Fx) (env : Env), F.K = K ∧ FOk F ∧ F.np = np ∧ Rel F ms env σ H ∧ WS F ms R XR own σ H (evS s env) De
def tSs (K : PySem.W.Frag) (ms : List Bool) (R : WX) (XR : XRel) (own : Bool) (np : Nat) (s : Ss) : TS := fun De σ H => ∃ (F : Fx) (env : Env), F.K = K ∧ FOk F ∧ F.np = np ∧ Rel F ms env σ H ∧ WS F ms R XR own σ H (evSs s env) De
theorem ret_of {b : Bool} {v : V} {d : D} (r0 : Rel F ms env σ H) (hS : own = true → b = true) (h : ResRel b F.K (Tab F ms σ) H H' v d) : RetR own F H' v d := by
  unfold RetR
  have h2 := h.weaken r0.tabT hS
  cases own with
  | true =>
    obtain ⟨p, e, hp, c⟩ := h2
    exact ⟨p, e, r0.H0none hp, c.mono (fun a o n q => ⟨fun z => n (z.imp .inl id), q⟩) rfl⟩
  | false =>
    have := h2.dt r0.tabT
    exact res_dt (this.mono fun a o n q => ⟨fun z => n (.inl z), q⟩)

/-! ### own lists come and go -/
theorem Rel.newO {p : Addr} {i : Nat} {d : D} (r0 : Rel F ms env σ H) (fr : FrP ms σ H H') (r : Rel (F.plus p) ms env' σ H') (hp : H p = none) (c : Cell F.K (fun a => Tab F ms σ a ∨ a = p) H' p d) (hm : ms[i]? = some true) (hi : i < σ.length) (hnp : F.np ≤ i) :
    Rel F ms (env'.set i (some d)) (σ.set i (some (.ref p))) H' ∧ SX F ms σ H (σ.set i (some (.ref p))) H' := by
  have nO := r0.notOwn hp
  have own' : ∀ a, OwnA ms (σ.set i (some (.ref p))) a → a = p ∨ OwnA ms σ a := fun a ⟨j, h1, h2⟩ => by
    by_cases z : i = j
    · subst z
      rw [List.getElem?_set_self hi] at h2
      cases h2
      exact .inl rfl
    · rw [List.getElem?_set_ne z] at h2
      exact .inr ⟨j, h1, h2⟩
  have tab' : ∀ a, Tab F ms (σ.set i (some (.ref p))) a → Tab (F.plus p) ms σ a := fun a z => z.elim (fun z => .inl (.inl z)) fun z => (own' a z).elim (fun z => .inl (.inr z)) .inr
  have ex : Ext (Tab (F.plus p) ms σ) H' (Tab F ms (σ.set i (some (.ref p)))) H' := fun a o n e => ⟨fun z => n (tab' a z), e⟩
  have hie : i < env'.length := by rw [r.len]; exact hi
  refine ⟨⟨by rw [List.length_set, List.length_set]; exact r.len, fun j d' e m => ?_, fun j d' e m => ?_, fun j v m e => ?_, fun j k a m1 m2 e1 e2 => ?_, fun a z => ?_, fun j v l m e => ?_, fun a z => r.trk a (.inl z), r.hold⟩, fun a o n e => ⟨fun z => ?_, ?_⟩⟩
  · have ne : i ≠ j := fun z => m (by rw [← z]; exact hm)
    rw [getE_set_ne ne] at e
    obtain ⟨v, h1, h2⟩ := r.shr j d' e m
    exact ⟨v, by rw [List.getElem?_set_ne ne]; exact h1, h2.mono ex⟩
  · by_cases z : i = j
    · subst z
      rw [getE_set_self hie] at e
      cases e
      refine ⟨p, List.getElem?_set_self hi, c.mono (fun a o n q => ⟨fun z => n ?_, q⟩) rfl⟩
      rcases tab' a z with (z | z) | z
      · exact .inl (.inl z)
      · exact .inr z
      · exact .inl (.inr z)
    · rw [getE_set_ne z] at e
      obtain ⟨a, h1, c⟩ := r.own j d' e m
      exact ⟨a, by rw [List.getElem?_set_ne z]; exact h1, c.mono ex rfl⟩
  · by_cases z : i = j
    · subst z
      exact ⟨d, getE_set_self hie⟩
    · rw [List.getElem?_set_ne z] at e
      rw [getE_set_ne z]
      exact r.liv j v m e
  · by_cases z : i = j
    · by_cases y : i = k
      · rw [← z, ← y]
      · subst z
        rw [List.getElem?_set_self hi] at e1
        cases e1
        rw [List.getElem?_set_ne y] at e2
        exact absurd ⟨k, m2, e2⟩ nO
    · rw [List.getElem?_set_ne z] at e1
      by_cases y : i = k
      · subst y
        rw [List.getElem?_set_self hi] at e2
        cases e2
        exact absurd ⟨j, m1, e1⟩ nO
      · rw [List.getElem?_set_ne y] at e2
        exact r.dis j k a m1 m2 e1 e2
  · rcases own' a z with z | z
    · rw [z]; exact .inr (r0.H0none hp)
    · exact r0.new a z
  · have l : j < F.np := l
    rw [List.getElem?_set_ne (by omega)]
    exact r.par j v l m e
  · rcases tab' a z with (z | z) | z
    · exact n (.inl z)
    · rw [z, hp] at e; cases e
    · exact n (.inr z)
  · exact fr a o e fun z => n (.inr z)
/-- an own list becomes shared: its slot is forgotten -/
theorem Rel.moved {i j : Nat} {d : D} (hF : FOk F) (r : Rel F ms env σ H) (hj : ms[j]? = some true) (hi : ms[i]? ≠ some true) (hil : i < σ.length) (hnp : F.np ≤ j) (e : getE env j = some d) :
    ∃ a, σ[j]? = some (some (.ref a)) ∧ Rel F ms ((env.set j none).set i (some d)) ((σ.set i (some (.ref a))).set j none) H ∧ SX F ms σ H ((σ.set i (some (.ref a))).set j none) H := by
  obtain ⟨a, ha, cl⟩ := r.own j d e hj
  have hjl : j < σ.length := (List.getElem?_eq_some_iff.mp ha).1
  have hij : i ≠ j := fun z => hi (by rw [z]; exact hj)
  refine ⟨a, ha, ?_⟩
  have at' : ∀ k : Nat, k ≠ i → k ≠ j → ((σ.set i (some (.ref a))).set j none)[k]? = σ[k]? := fun k h1 h2 => by rw [List.getElem?_set_ne (Ne.symm h2), List.getElem?_set_ne (Ne.symm h1)]
  have at_i : ((σ.set i (some (.ref a))).set j none)[i]? = some (some (.ref a)) := by rw [List.getElem?_set_ne (Ne.symm hij), List.getElem?_set_self hil]
  have at_j : ((σ.set i (some (.ref a))).set j none)[j]? = some none := List.getElem?_set_self (by rw [List.length_set]; exact hjl)
  have own' : ∀ b, OwnA ms ((σ.set i (some (.ref a))).set j none) b → OwnA ms σ b ∧ b ≠ a := fun b ⟨k, h1, h2⟩ => by
    have k1 : k ≠ i := fun z => hi (by rw [← z]; exact h1)
    have k2 : k ≠ j := fun z => by rw [z, at_j] at h2; cases h2
    rw [at' k k1 k2] at h2
    exact ⟨⟨k, h1, h2⟩, fun z => k2 (r.dis k j a h1 hj (by rw [← z]; exact h2) ha)⟩
  have ex : SX F ms σ H ((σ.set i (some (.ref a))).set j none) H := fun b o n e => ⟨fun z => n (z.imp id fun z => (own' b z).1), e⟩
  have nS : ¬ F.S0 a := fun z => by
    rcases r.new a ⟨j, hj, ha⟩ with ⟨k, k1, k2, k3⟩ | k
    · have := r.dis k j a k2 hj (r.par k _ k1 k2 k3) ha
      omega
    · exact hF a z k
  have gi : getE ((env.set j none).set i (some d)) i = some d := getE_set_self (by rw [List.length_set, r.len]; exact hil)
  have gj : getE ((env.set j none).set i (some d)) j = none := by
    rw [getE_set_ne hij]
    unfold getE
    rw [List.getElem?_set_self (by rw [r.len]; exact hjl)]
    rfl
  have gk : ∀ k, k ≠ i → k ≠ j → getE ((env.set j none).set i (some d)) k = getE env k := fun k h1 h2 => by rw [getE_set_ne (Ne.symm h1), getE_set_ne (Ne.symm h2)]
  have nT : ¬ Tab F ms ((σ.set i (some (.ref a))).set j none) a := fun z => z.elim nS fun z => (own' a z).2 rfl
  refine ⟨⟨by simp only [List.length_set]; exact r.len, fun k d' q m => ?_, fun k d' q m => ?_, fun k v m q => ?_, fun k l b m1 m2 q1 q2 => ?_, fun b z => r.new b (own' b z).1, fun k v l m q => ?_, r.trk, r.hold⟩, ex⟩
  · by_cases ki : k = i
    · subst ki
      rw [gi] at q; cases q
      refine ⟨_, at_i, ?_⟩
      rcases cl with ⟨xs, ds, e1, e2, e3⟩ | ⟨kds, e1, e2, e3⟩
      · subst e1
        exact .lst (.inl ⟨nT, .inl e2⟩) (e3.mono ex)
      · subst e1
        exact .dctP nT (.inl e2) e3
    · have kj : k ≠ j := fun z => m (by rw [z]; exact hj)
      rw [gk k ki kj] at q
      obtain ⟨v, h1, h2⟩ := r.shr k d' q m
      exact ⟨v, by rw [at' k ki kj]; exact h1, h2.mono ex⟩
  · have ki : k ≠ i := fun z => hi (by rw [← z]; exact m)
    have kj : k ≠ j := fun z => by rw [z, gj] at q; cases q
    rw [gk k ki kj] at q
    obtain ⟨b, h1, c⟩ := r.own k d' q m
    exact ⟨b, by rw [at' k ki kj]; exact h1, c.mono ex rfl⟩
  · have ki : k ≠ i := fun z => hi (by rw [← z]; exact m)
    have kj : k ≠ j := fun z => by rw [z, at_j] at q; cases q
    rw [at' k ki kj] at q
    rw [gk k ki kj]
    exact r.liv k v m q
  · have ki : k ≠ i := fun z => hi (by rw [← z]; exact m1)
    have kj : k ≠ j := fun z => by rw [z, at_j] at q1; cases q1
    have li : l ≠ i := fun z => hi (by rw [← z]; exact m2)
    have lj : l ≠ j := fun z => by rw [z, at_j] at q2; cases q2
    rw [at' k ki kj] at q1
    rw [at' l li lj] at q2
    exact r.dis k l b m1 m2 q1 q2
  · have kj : k ≠ j := by omega
    have ki : k ≠ i := fun z => hi (by rw [← z]; exact m)
    rw [at' k ki kj]
    exact r.par k v l m q
/-- an own list is forgotten: what it held stands as shared -/
theorem Rel.frozen {j : Nat} {d : D} (hF : FOk F) (r : Rel F ms env σ H) (hj : ms[j]? = some true) (hnp : F.np ≤ j) (e : getE env j = some d) :
    ∃ a, σ[j]? = some (some (.ref a)) ∧ Rel F ms (env.set j none) (σ.set j none) H ∧ SX F ms σ H (σ.set j none) H ∧ ¬ Tab F ms (σ.set j none) a ∧ Cell F.K (Tab F ms (σ.set j none)) H a d := by
  obtain ⟨a, ha, cl⟩ := r.own j d e hj
  have hjl : j < σ.length := (List.getElem?_eq_some_iff.mp ha).1
  refine ⟨a, ha, ?_⟩
  have at' : ∀ k : Nat, k ≠ j → (σ.set j none)[k]? = σ[k]? := fun k h2 => by rw [List.getElem?_set_ne (Ne.symm h2)]
  have at_j : (σ.set j none)[j]? = some none := List.getElem?_set_self hjl
  have own' : ∀ b, OwnA ms (σ.set j none) b → OwnA ms σ b ∧ b ≠ a := fun b ⟨k, h1, h2⟩ => by
    have k2 : k ≠ j := fun z => by rw [z, at_j] at h2; cases h2
    rw [at' k k2] at h2
    exact ⟨⟨k, h1, h2⟩, fun z => k2 (r.dis k j a h1 hj (by rw [← z]; exact h2) ha)⟩
  have ex : SX F ms σ H (σ.set j none) H := fun b o n e => ⟨fun z => n (z.imp id fun z => (own' b z).1), e⟩
  have nS : ¬ F.S0 a := fun z => by
    rcases r.new a ⟨j, hj, ha⟩ with ⟨k, k1, k2, k3⟩ | k
    · have := r.dis k j a k2 hj (r.par k _ k1 k2 k3) ha
      omega
    · exact hF a z k
  have gj : getE (env.set j none) j = none := by
    unfold getE
    rw [List.getElem?_set_self (by rw [r.len]; exact hjl)]
    rfl
  have gk : ∀ k, k ≠ j → getE (env.set j none) k = getE env k := fun k h2 => by rw [getE_set_ne (Ne.symm h2)]
  have nT : ¬ Tab F ms (σ.set j none) a := fun z => z.elim nS fun z => (own' a z).2 rfl
  refine ⟨⟨by simp only [List.length_set]; exact r.len, fun k d' q m => ?_, fun k d' q m => ?_, fun k v m q => ?_, fun k l b m1 m2 q1 q2 => ?_, fun b z => r.new b (own' b z).1, fun k v l m q => ?_, fun b z => ?_, r.hold⟩, ex, nT, cl.mono ex rfl⟩
  · have kj : k ≠ j := fun z => m (by rw [z]; exact hj)
    rw [gk k kj] at q
    obtain ⟨v, h1, h2⟩ := r.shr k d' q m
    exact ⟨v, by rw [at' k kj]; exact h1, h2.mono ex⟩
  · have kj : k ≠ j := fun z => by rw [z, gj] at q; cases q
    rw [gk k kj] at q
    obtain ⟨b, h1, c⟩ := r.own k d' q m
    exact ⟨b, by rw [at' k kj]; exact h1, c.mono ex rfl⟩
  · have kj : k ≠ j := fun z => by rw [z, at_j] at q; cases q
    rw [at' k kj] at q
    rw [gk k kj]
    exact r.liv k v m q
  · have kj : k ≠ j := fun z => by rw [z, at_j] at q1; cases q1
    have lj : l ≠ j := fun z => by rw [z, at_j] at q2; cases q2
    rw [at' k kj] at q1
    rw [at' l lj] at q2
    exact r.dis k l b m1 m2 q1 q2
  · have kj : k ≠ j := by omega
    rw [at' k kj]
    exact r.par k v l m q
  · exact r.trk b z
/-- an own list is read as shared from now on -/
theorem frz_get {j k : Nat} : (ms.set j false)[k]? = some true ↔ ms[k]? = some true ∧ k ≠ j := by
  by_cases z : j = k
  · subst z
    by_cases hl : j < ms.length
    · rw [List.getElem?_set_self hl]; simp
    · rw [List.getElem?_eq_none (by rw [List.length_set]; omega)]; simp
  · rw [List.getElem?_set_ne z]
    exact ⟨fun h => ⟨h, fun q => z q.symm⟩, fun h => h.1⟩
theorem Rel.freeze {j : Nat} (hF : FOk F) (r : Rel F ms env σ H) (hj : ms[j]? = some true) (hnp : F.np ≤ j) :
    Rel F (ms.set j false) env σ H ∧ Ext (Tab F ms σ) H (Tab F (ms.set j false) σ) H := by
  have own' : ∀ b, OwnA (ms.set j false) σ b → OwnA ms σ b := fun b ⟨k, h1, h2⟩ => ⟨k, (frz_get.mp h1).1, h2⟩
  have ex : Ext (Tab F ms σ) H (Tab F (ms.set j false) σ) H := fun b o n e => ⟨fun z => n (z.imp id (own' b)), e⟩
  have inA : ∀ b, InA F ms b ↔ InA F (ms.set j false) b := fun b => ⟨fun ⟨k, h1, h2, h3⟩ => ⟨k, h1, frz_get.mpr ⟨h2, by omega⟩, h3⟩, fun ⟨k, h1, h2, h3⟩ => ⟨k, h1, (frz_get.mp h2).1, h3⟩⟩
  refine ⟨⟨r.len, fun k d e m => ?_, fun k d e m => ?_, fun k v m e => r.liv k v (frz_get.mp m).1 e, fun k l b m1 m2 => r.dis k l b (frz_get.mp m1).1 (frz_get.mp m2).1, fun b z => (r.new b (own' b z)).imp (inA b).mp id, fun k v l m => r.par k v l (frz_get.mp m).1, r.trk, fun b o e n => r.hold b o e fun z => n ((inA b).mp z)⟩, ex⟩
  · by_cases z : k = j
    · subst z
      obtain ⟨a, ha, cl⟩ := r.own k d e hj
      have nS : ¬ F.S0 a := fun z => by
        rcases r.new a ⟨k, hj, ha⟩ with ⟨l, k1, k2, k3⟩ | q
        · have := r.dis l k a k2 hj (r.par l _ k1 k2 k3) ha
          omega
        · exact hF a z q
      have nT : ¬ Tab F (ms.set k false) σ a := fun z => z.elim nS fun ⟨l, h1, h2⟩ => (frz_get.mp h1).2 (r.dis l k a (frz_get.mp h1).1 hj h2 ha)
      refine ⟨_, ha, ?_⟩
      rcases cl with ⟨xs, ds, e1, e2, e3⟩ | ⟨kds, e1, e2, e3⟩
      · subst e1
        exact .lst (.inl ⟨nT, .inl e2⟩) (e3.mono ex)
      · subst e1
        exact .dctP nT (.inl e2) e3
    · obtain ⟨v, h1, h2⟩ := r.shr k d e fun q => m (frz_get.mpr ⟨q, z⟩)
      exact ⟨v, h1, h2.mono ex⟩
  · obtain ⟨a, h1, c⟩ := r.own k d e (frz_get.mp m).1
    exact ⟨a, h1, c.mono ex rfl⟩
/-- at the end of the block it is forgotten -/
theorem Rel.thawed {j : Nat} (r : Rel F (ms.set j false) env σ H) (hnp : F.np ≤ j) :
    Rel F ms (env.set j none) (σ.set j none) H ∧ Ext (Tab F (ms.set j false) σ) H (Tab F ms (σ.set j none)) H := by
  have at' : ∀ k : Nat, k ≠ j → (σ.set j none)[k]? = σ[k]? := fun k h => by rw [List.getElem?_set_ne (Ne.symm h)]
  have at_j : ∀ v, (σ.set j none)[j]? ≠ some (some v) := fun v h => by
    by_cases hl : j < σ.length
    · rw [List.getElem?_set_self hl] at h; cases h
    · rw [List.getElem?_eq_none (by rw [List.length_set]; omega)] at h; cases h
  have gj : getE (env.set j none) j = none := by
    unfold getE
    by_cases hl : j < env.length
    · rw [List.getElem?_set_self hl]; rfl
    · rw [List.getElem?_eq_none (by rw [List.length_set]; omega)]; rfl
  have gk : ∀ k, k ≠ j → getE (env.set j none) k = getE env k := fun k h => by rw [getE_set_ne (Ne.symm h)]
  have own' : ∀ b, OwnA ms (σ.set j none) b → OwnA (ms.set j false) σ b := fun b ⟨k, h1, h2⟩ => by
    have z : k ≠ j := fun z => by rw [z] at h2; exact at_j _ h2
    rw [at' k z] at h2
    exact ⟨k, frz_get.mpr ⟨h1, z⟩, h2⟩
  have ex : Ext (Tab F (ms.set j false) σ) H (Tab F ms (σ.set j none)) H := fun b o n e => ⟨fun z => n (z.imp id (own' b)), e⟩
  have inA : ∀ b, InA F (ms.set j false) b → InA F ms b := fun b ⟨k, h1, h2, h3⟩ => ⟨k, h1, (frz_get.mp h2).1, h3⟩
  refine ⟨⟨by simp only [List.length_set]; exact r.len, fun k d e m => ?_, fun k d e m => ?_, fun k v m e => ?_, fun k l b m1 m2 e1 e2 => ?_, fun b z => (r.new b (own' b z)).imp (inA b) id, fun k v l m e => ?_, r.trk, fun b o e n => r.hold b o e fun z => n (inA b z)⟩, ex⟩
  · have z : k ≠ j := fun z => by rw [z, gj] at e; cases e
    rw [gk k z] at e
    obtain ⟨v, h1, h2⟩ := r.shr k d e fun q => m (frz_get.mp q).1
    exact ⟨v, by rw [at' k z]; exact h1, h2.mono ex⟩
  · have z : k ≠ j := fun z => by rw [z, gj] at e; cases e
    rw [gk k z] at e
    obtain ⟨a, h1, c⟩ := r.own k d e (frz_get.mpr ⟨m, z⟩)
    exact ⟨a, by rw [at' k z]; exact h1, c.mono ex rfl⟩
  · have z : k ≠ j := fun z => by rw [z] at e; exact at_j _ e
    rw [at' k z] at e
    rw [gk k z]
    exact r.liv k v (frz_get.mpr ⟨m, z⟩) e
  · have z1 : k ≠ j := fun z => by rw [z] at e1; exact at_j _ e1
    have z2 : l ≠ j := fun z => by rw [z] at e2; exact at_j _ e2
    rw [at' k z1] at e1
    rw [at' l z2] at e2
    exact r.dis k l b (frz_get.mpr ⟨m1, z1⟩) (frz_get.mpr ⟨m2, z2⟩) e1 e2
  · have z : k ≠ j := by omega
    rw [at' k z]
    exact r.par k v l (frz_get.mpr ⟨m, z⟩) e
/-- an own list is handed out -/
theorem ret_own {i : Nat} {d : D} (hF : FOk F) (r : Rel F ms env σ H) (hm : ms[i]? = some true) (hnp : F.np ≤ i) (e : getE env i = some d) : ∃ a, σ[i]? = some (some (.ref a)) ∧ RetR own F H (.ref a) d := by
  obtain ⟨a, ha, cl⟩ := r.own i d e hm
  have h0 : F.H0 a = none := by
    rcases r.new a ⟨i, hm, ha⟩ with ⟨k, k1, k2, k3⟩ | k
    · have := r.dis k i a k2 hm (r.par k _ k1 k2 k3) ha
      omega
    · exact k
  refine ⟨a, ha, ?_⟩
  have rr : ResRel true F.K F.S0 F.H0 H (.ref a) d := by
    unfold ResRel
    rw [if_pos rfl]
    refine ⟨a, rfl, h0, cl.mono (fun b o n q => ⟨fun z => ?_, q⟩) rfl⟩
    rcases z with z | z
    · exact n (.inl z)
    · exact n (by rw [z]; exact .inr ⟨i, hm, ha⟩)
  cases own with
  | true => exact rr
  | false => exact rr.plain hF

/-! ### statements' readings into the rules' -/
variable {s : S} {rest : Ss}
theorem rs_seq (h : tSs K ms R XR own np (.cons s rest) De σ H) : tSeq (tS K ms R XR own np s) (tSs K ms R XR own np rest) De σ H := by
  obtain ⟨F, env, hK, hF, hn, r, w⟩ := h
  refine ⟨F, env, hK, hF, hn, r, ?_⟩
  simp only [evSs] at w
  cases e : evS s env with
  | next env1 =>
    rw [e] at w
    exact fun σ1 H1 x1 r1 => ⟨F, env1, hK, hF, hn, r1, WS_later (show WS F ms R XR own σ H (evSs rest env1) De from w) x1⟩
  | brk env1 => rw [e] at w; exact w
  | cnt env1 => rw [e] at w; exact w
  | ret d env1 => rw [e] at w; exact w
  | exc c y env1 => rw [e] at w; exact w
  | stuck => rw [e] at w; exact w
theorem rs_nil (h : tSs K ms R XR own np .nil De σ H) : tNext De σ H := by
  obtain ⟨F, env, hK, hF, hn, r, w⟩ := h
  exact w σ H .refl r
theorem rs_setN {i : Nat} {e : E} (hm : ms[i]? ≠ some true) (hl : i < σ.length) (h : tS K ms R XR own np (.asg (.name i) e) De σ H) : tAsg (tM K ms R XR e) (gName i) De σ H := by
  obtain ⟨F, env, hK, hF, hn, r, w⟩ := h
  simp only [evS] at w
  refine ⟨F, env, hK, r, W_mono (WS_go w) fun d env1 H1 f1 r1 q v hv => ?_⟩
  exact q _ H1 (set_same hm).sx (r1.put hl hm (hv.1.dt r.tabT))
theorem rs_setT {t : T} {e : E} (h : tS K ms R XR own np (.asg t e) De σ H) : tAsg (tM K ms R XR e) (gT K ms t) De σ H := by
  obtain ⟨F, env, hK, hF, hn, r, w⟩ := h
  simp only [evS] at w
  refine ⟨F, env, hK, r, W_mono (WS_go w) fun d env1 H1 f1 r1 q v hv => ?_⟩
  have q : WS F ms R XR own σ H1 (match bindT t d env1 with
    | some env'' => .next env''
    | none => .stuck) De := q
  cases e : bindT t d env1 with
  | none => rw [e] at q; exact False.elim q
  | some env2 =>
    rw [e] at q
    exact ⟨F, env1, d, env2, hK, r1, .of (hv.1.dt r.tabT), e, fun σ2 r2 so ag => q σ2 H1 so.sx r2⟩
theorem rs_setO {i : Nat} {e : E} (hm : ms[i]? = some true) (hf : e.fresh = true) (hnp : np ≤ i) (hl : i < σ.length) (h : tS K ms R XR own np (.asgO i e) De σ H) : tAsg (tM K ms R XR e) (gName i) De σ H := by
  obtain ⟨F, env, hK, hF, hn, r, w⟩ := h
  simp only [evS] at w
  refine ⟨F, env, hK, r, ?_⟩
  cases ee : evE e env with
  | stuck => rw [ee] at w; exact w
  | exc c y env1 => rw [ee] at w; exact fun C dx H1 f1 r1 hx => w C dx σ H1 f1.sx r1 hx
  | ok d env1 =>
    rw [ee] at w
    intro H1 f1 r1 v hv
    obtain ⟨hr, hp⟩ := hv
    rw [hf] at hr
    obtain ⟨p, ev, hp0, c⟩ := hr
    subst ev
    obtain ⟨g1, g2⟩ := r.newO f1 (hp hf p rfl) hp0 c hm hl (by rw [hn]; exact hnp)
    exact w _ H1 g2 g1
end
end MP

/-! MP: statements: more readings; the check. -/
namespace MP
open PySem L2

section
variable {X : Cx} {F : Fx} {ms : List Bool} {env env' : Env} {σ σ' σ1 : St} {H H' H1 : Hp} {R : WX} {XR : XRel} {own : Bool} {De : Ends} {K : PySem.W.Frag} {np : Nat}
/-- forgetting slots behind a statement -/
theorem ps_forget {st : Stmt} {t t' : TS} (h : PS X st t) (w : ∀ De σ H, σ.length = X.N.length → t' De σ H → t { De with nx := fun σ1 H1 => ∃ σ2 : St, σ2.length = σ1.length ∧ (∀ (k : Nat) v, σ2[k]? = some (some v) → σ1[k]? = some (some v)) ∧ De.nx σ2 H1 } σ H) : PS X st t' := by
  refine ⟨fun pins s σ H De I hw => ?_⟩
  refine thn (h.run pins s σ H _ I (w De σ H I.len hw)) fun f s1 q => ?_
  cases f with
  | next =>
    obtain ⟨σ1, H1, I1, σ2, hl, hk, q⟩ := q
    exact ⟨σ2, H1, I1.weak hl hk, q⟩
  | ret v => exact q
  | brk => exact q
  | cont => exact q
theorem ps_impL {st : Stmt} {t t' : TS} (h : PS X st t) (w : ∀ De σ H, σ.length = X.N.length → t' De σ H → t De σ H) : PS X st t' := ⟨fun pins s σ H De I q => h.run pins s σ H De I (w De σ H I.len q)⟩
theorem ps_imp {st : Stmt} {t t' : TS} (h : PS X st t) (w : ∀ De σ H, t' De σ H → t De σ H) : PS X st t' := ⟨fun pins s σ H De I q => h.run pins s σ H De I (w De σ H q)⟩
theorem pss_imp {st : List Stmt} {t t' : TS} (h : PSs X st t) (w : ∀ De σ H, t' De σ H → t De σ H) : PSs X st t' := ⟨fun pins s σ H De I q => h.run pins s σ H De I (w De σ H q)⟩
def tMov (i j : Nat) : TS := fun De σ H => ∃ v, σ[j]? = some (some v) ∧ De.nx ((σ.set i (some v)).set j none) H
theorem ps_mov {i j : Nat} {x y : Str} {px py pos : Pos} (hN : X.N.Nodup) (hi : X.N[i]? = some x) (hx : Loc X.env.scope x) (hy : PE X (.Name y py) (tVar j)) (hf : X.fn x = true ∨ X.env.scope.names.lookup x = some .local) : PS X (.Assign [.Name x px] (.Name y py) pos) (tMov i j) := by
  refine ps_forget (ps_set (i := i) hN hi hx hy rfl hf) fun De σ H hl ⟨v, e, q⟩ => ?_
  refine ⟨v, e, _, by rw [List.length_set], fun k u h => ?_, q⟩
  by_cases z : j = k
  · subst z
    by_cases hj : j < (σ.set i (some v)).length
    · rw [List.getElem?_set_self hj] at h; cases h
    · rw [List.getElem?_eq_none (by rw [List.length_set]; omega)] at h; cases h
  · rw [List.getElem?_set_ne z] at h
    exact h
theorem rs_mov {i j : Nat} (hj : ms[j]? = some true) (hi : ms[i]? ≠ some true) (hnp : np ≤ j) (hl : i < σ.length) (h : tS K ms R XR own np (.mov i j) De σ H) : tMov i j De σ H := by
  obtain ⟨F, env, hK, hF, hn, r, w⟩ := h
  simp only [evS] at w
  cases e : getE env j with
  | none => rw [e] at w; exact False.elim w
  | some d =>
    rw [e] at w
    obtain ⟨a, ha, g1, g2⟩ := r.moved hF hj hi hl (by rw [hn]; exact hnp) e
    exact ⟨_, ha, w _ H g2 g1⟩
/-- a[k] = v for an own list or an own dict -/
def rSet2 : TSet := fun o i v H Q => rSetL o i v H Q ∨ rSetD o i v H Q
theorem set_two {X : Cx} (hu : X.A.units + 1 < cLine) : PSet X rSet2 := fun pins s σ H o i v ov iv u Q I ro ri rv h =>
  h.elim (fun h => set_list pins s σ H o i v ov iv u Q I ro ri rv h) (fun h => set_dict hu pins s σ H o i v ov iv u Q I ro ri rv h)
theorem rs_setI {i : Nat} {k v : E} (hm : ms[i]? = some true) (h : tS K ms R XR own np (.setI i k v) De σ H) : tAsg (tM K ms R XR v) (gSub (tVar i) (tM K ms R XR k) rSet2) De σ H := by
  obtain ⟨F, env, hK, hF, hn, r, w⟩ := h
  simp only [evS] at w
  refine ⟨F, env, hK, r, W_mono (WS_go w) fun x env1 H1 f1 r1 q u hu => ?_⟩
  have du := hu.1.dt r.tabT
  have q : WS F ms R XR own σ H1 (match getE env1 i with
    | none => .stuck
    | some _ => (evE k env1).go fun y env2 => match getE env2 i, y with
      | some (.list xs), .int n => match ixD xs.length n with
        | some j => .next (env2.set i (some (.list (xs.set j x))))
        | none => .stuck
      | some (.dict kvs), y => if keyOk y && plainD x && decide (kvs.length < sizeLine) then .next (env2.set i (some (.dict (putKv kvs y x)))) else .stuck
      | _, _ => .stuck) De := q
  cases e1 : getE env1 i with
  | none => rw [e1] at q; exact False.elim q
  | some d1 =>
    rw [e1] at q
    obtain ⟨a, ha, _⟩ := r1.own i d1 e1 hm
    refine ⟨_, ha, F, env1, hK, r1, W_mono (WS_go q) fun y env2 H2 f2 r2 q z hz => ?_⟩
    have dz := hz.1.dt r1.tabT
    split at q
    · rename_i xs n e2
      cases dz
      cases e3 : ixD xs.length n with
      | none => rw [e3] at q; exact False.elim q
      | some j =>
        rw [e3] at q
        obtain ⟨a', ha', c⟩ := r2.own i _ e2 hm
        obtain ⟨ys, e5, e6⟩ := c.list
        rw [ha] at ha'; cases ha'
        obtain ⟨g1, g2⟩ := r2.setO hm ha (e6.set (du.mono f2.ext) j)
        exact .inl ⟨a, ys, n, j, rfl, rfl, e5, by rw [e6.length]; exact e3, q σ _ g1.sx g2⟩
    · rename_i y a3 a4 kvs e2
      split at q
      · rename_i hz
        simp only [Bool.and_eq_true, decide_eq_true_eq] at hz
        obtain ⟨a', ha', c⟩ := r2.own i _ e2 hm
        obtain ⟨e5, e6⟩ := c.dict
        rw [ha] at ha'; cases ha'
        have hk := Db.key (.inl dz) hz.1.1
        have hv := (du.mono f2.ext).plainV hz.1.2
        have hp : putK (kvs.map kvOf) (keyOf y) u = (putKv kvs y x).map kvOf := by rw [hv]; exact putK_kv hz.1.1 e6
        have hc : Cell F.K (Tab F ms σ) (upd H2 a (.dK ((putKv kvs y x).map kvOf))) a (.dict (putKv kvs y x)) := .inr ⟨_, rfl, upd_same, okKv_put hz.1.1 hz.1.2 e6⟩
        obtain ⟨g1, g2⟩ := r2.setC hm ha hc
        refine .inr ⟨a, _, rfl, .inl ⟨_, keyOf y, e5, hk, by rw [List.length_map]; exact hz.2, rfl⟩, ?_⟩
        rw [hp]
        exact q σ _ g1.sx g2
      · exact False.elim q
    · exact False.elim q
/-! ### op= -/
def augF : Op → Option Operator
  | .add => some .Add
  | .sub => some .Sub
  | .mul => some .Mult
  | .fdiv => some .FloorDiv
  | .mod => some .Mod
  | .shl => some .LShift
  | .shr => some .RShift
  | .band => some .BitAnd
  | .bor => some .BitOr
  | _ => none
def rAug (K : PySem.W.Frag) (o : Op) : TIp := fun x y H Q => ∃ (S : Addr → Prop) (d1 d2 d : D), Dt K S H x d1 ∧ Dt K S H y d2 ∧ d1.isAtom = true ∧ o.run [d1, d2] = some d ∧ ∀ v, (∀ S, Dt K S H v d) → Q v H
theorem s_aug {o : Op} {bo : Operator} (hf : augF o = some bo) : PIp X bo (rAug X.K o) := by
  intro pins s σ H x y v u Q I rx ry ⟨S, d1, d2, d, h1, h2, ha, hrun, q⟩
  cases d1 <;> simp only [PyData.isAtom] at ha <;> first | (cases ha; done) | skip
  · cases h1
    have hi : ∀ i, d2 = .int i → y = .int i := fun i e => by subst e; cases h2; rfl
    cases o <;> simp only [augF, Option.some.injEq, reduceCtorEq] at hf <;> subst hf <;> cases d2 <;> simp only [Op.run, Op.runD] at hrun <;> first | (cases hrun; done) | skip
    · cases hrun; exact iop_add pins s σ H _ y v u Q I rx ry ⟨_, _, rfl, hi _ rfl, q _ fun _ => .int _⟩
    · cases hrun; exact iop_sub pins s σ H _ y v u Q I rx ry ⟨_, _, rfl, hi _ rfl, q _ fun _ => .int _⟩
    · split at hrun <;> cases hrun
      rename_i c
      exact iop_mul pins s σ H _ y v u Q I rx ry ⟨_, _, rfl, hi _ rfl, c, q _ fun _ => .int _⟩
    · split at hrun <;> cases hrun
      rename_i c
      exact iop_fdiv pins s σ H _ y v u Q I rx ry ⟨_, _, rfl, hi _ rfl, c, q _ fun _ => .int _⟩
    · split at hrun <;> cases hrun
      rename_i c
      exact iop_mod pins s σ H _ y v u Q I rx ry ⟨_, _, rfl, hi _ rfl, c, q _ fun _ => .int _⟩
    · split at hrun <;> cases hrun
      rename_i c
      exact iop_shl pins s σ H _ y v u Q I rx ry ⟨_, _, rfl, hi _ rfl, c, q _ fun _ => .int _⟩
    · split at hrun <;> cases hrun
      rename_i c
      exact iop_shr pins s σ H _ y v u Q I rx ry ⟨_, _, rfl, hi _ rfl, c, q _ fun _ => .int _⟩
    · cases hrun; exact iop_and pins s σ H _ y v u Q I rx ry ⟨_, _, rfl, hi _ rfl, q _ fun _ => .int _⟩
    · cases hrun; exact iop_or pins s σ H _ y v u Q I rx ry ⟨_, _, rfl, hi _ rfl, q _ fun _ => .int _⟩
  · cases h1
    cases o <;> simp only [augF, Option.some.injEq, reduceCtorEq] at hf <;> subst hf <;> cases d2 <;> simp only [Op.run, Op.runD] at hrun <;> first | (cases hrun; done) | skip
    split at hrun <;> cases hrun
    rename_i c
    cases h2
    exact iop_add_str pins s σ H _ _ v u Q I rx ry ⟨_, _, rfl, rfl, c, q _ fun _ => .str _⟩
theorem rs_aug {i : Nat} {o : Op} {e : E} (hm : ms[i]? ≠ some true) (hl : i < σ.length) (h : tS K ms R XR own np (.aug i o e) De σ H) : tAug i (tM K ms R XR e) (rAug K o) De σ H := by
  obtain ⟨F, env, hK, hF, hn, r, w⟩ := h
  simp only [evS] at w
  cases e0 : getE env i with
  | none => rw [e0] at w; exact False.elim w
  | some x =>
    rw [e0] at w
    dsimp only at w
    split at w
    · rename_i ha
      obtain ⟨v, hv, dv⟩ := r.shr i x e0 hm
      refine ⟨v, hv, F, env, hK, r, W_mono (WS_go w) fun y env1 H1 f1 r1 q u hu => ?_⟩
      have du := hu.1.dt r.tabT
      have q : WS F ms R XR own σ H1 (match o.run [x, y] with
        | some z => .next (env1.set i (some z))
        | none => .stuck) De := q
      cases e1 : o.run [x, y] with
      | none => rw [e1] at q; exact False.elim q
      | some z =>
        rw [e1] at q
        subst hK
        exact ⟨Tab F ms σ, x, y, z, dv.mono f1.ext, du, ha, e1, fun z' hz => q _ H1 (set_same hm).sx (r1.put hl hm (hz _))⟩
    · exact False.elim w
def rExtK (K : PySem.W.Frag) : TIp := fun x y H Q => ∃ l b xs zs, x = .ref l ∧ y = .ref b ∧ H l = some (.lst xs) ∧ LstAt K H b zs ∧ xs.length + zs.length ≤ sizeLine ∧ Q (.ref l) (upd H l (.lst (xs ++ zs)))
theorem s_augO : PIp X .Add (rExtK X.K) := by
  intro pins s σ H x y v u Q I rx ry ⟨l, b, xs, zs, e1, e2, hH, hB, hz, q⟩
  subst e1 e2
  cases rx
  cases ry
  obtain ⟨z, its, n, r, hl, e⟩ := I.lstM hH
  obtain ⟨z2, its2, n2, r2, hl2, e2⟩ := hB.at I
  have hsz : its.toArray.size + its2.toArray.size ≤ sizeLine := by rw [List.size_toArray, List.size_toArray]; omega
  have hlong : ¬ (!its.toArray.isEmpty && Builtin.List.listTooLong (its.toArray.size + its2.toArray.size)) = true := by
    rw [notLongL hsz, Bool.and_false]
    exact Bool.false_ne_true
  refine iadd_road ⟨_, e, rfl⟩ ⟨_, e2, rfl⟩ (call_meets PySem.F.slot_list_iadd ⟨_, e, rfl⟩ PySem.F.entry_list_iadd (PySem.F.args_list_iadd_2 _ _)
    (AutoSeq1.list___iadd___list_list_0 l its.toArray n b its2.toArray n2 hlong (by rw [List.size_toArray]; omega) (by omega)) ⟨e, e2, ?_⟩)
  refine ⟨.ref l, _, I.lset (its' := its ++ its2) (t' := s.toks) hH e (by simp) (r.append r2) ?_, rfl, q⟩
  rw [List.length_append]
  omega
theorem rs_augO {i : Nat} {e : E} (hm : ms[i]? = some true) (hl : i < σ.length) (h : tS K ms R XR own np (.augO i e) De σ H) : tAug i (tM K ms R XR e) (rExtK K) De σ H := by
  obtain ⟨F, env, hK, hF, hn, r, w⟩ := h
  simp only [evS] at w
  cases e0 : getE env i with
  | none => rw [e0] at w; exact False.elim w
  | some x =>
    rw [e0] at w
    dsimp only at w
    obtain ⟨a, ha, _⟩ := r.own i x e0 hm
    refine ⟨_, ha, F, env, hK, r, W_mono (WS_go w) fun y env1 H1 f1 r1 q u hu => ?_⟩
    have du := hu.1.dt r.tabT
    split at q
    · rename_i xs ys e1
      split at q
      · rename_i hz
        obtain ⟨a', ha', c⟩ := r1.own i _ e1 hm
        obtain ⟨vs, e5, e6⟩ := c.list
        rw [ha] at ha'; cases ha'
        subst hK
        cases du with
        | lst q1 q2 =>
          have l1 := e6.length
          have l2 := q2.length
          obtain ⟨g1, g2⟩ := r1.setO hm ha (e6.append q2)
          refine ⟨a, _, _, _, rfl, rfl, e5, q1.at, by omega, ?_⟩
          have : σ.set i (some (V.ref a)) = σ := List.ext_getElem? fun k => by
            by_cases z : i = k
            · subst z
              rw [List.getElem?_set_self hl, ha]
            · rw [List.getElem?_set_ne z]
          show De.nx (σ.set i (some (V.ref a))) _
          rw [this]
          exact q σ _ g1.sx g2
      · exact False.elim q
    · exact False.elim q
theorem rs_exp {e : E} (h : tS K ms R XR own np (.exp e) De σ H) : tDrop (tM K ms R XR e) De σ H := by
  obtain ⟨F, env, hK, hF, hn, r, w⟩ := h
  simp only [evS] at w
  exact ⟨F, env, hK, r, W_mono (WS_go w) fun y env1 H1 f1 r1 q u hu => q σ H1 .refl r1⟩
theorem rs_if {t : E} {a b : Ss} (h : tS K ms R XR own np (.iff t a b) De σ H) : tIfS (tT K ms R XR t) (tSs K ms R XR own np a) (tSs K ms R XR own np b) De σ H := by
  obtain ⟨F, env, hK, hF, hn, r, w⟩ := h
  simp only [evS] at w
  refine ⟨F, env, hK, r, W_mono (WS_go w) fun c env1 H1 f1 r1 q => ?_⟩
  cases c with
  | true => exact ⟨F, env1, hK, hF, hn, r1, q⟩
  | false => exact ⟨F, env1, hK, hF, hn, r1, q⟩
theorem rs_while {fuel : Env → Nat} {t : E} {b : Ss} (h : tS K ms R XR own np (.whl fuel t b) De σ H) : tWhile (tT K ms R XR t) (tSs K ms R XR own np b) De σ H := by
  obtain ⟨F, env, hK, hF, hn, r, w⟩ := h
  simp only [evS] at w
  refine ⟨fun m σ1 H1 => ∃ env1, Rel F ms env1 σ1 H1 ∧ WS F ms R XR own σ1 H1 (whLoop (fun env => isT (evE t env)) (evSs b) m env1) De, ⟨fuel env, env, r, w⟩, ?_⟩
  rintro m σ1 H1 ⟨env1, r1, w1⟩
  cases m with
  | zero => exact False.elim w1
  | succ m =>
    unfold whLoop at w1
    refine ⟨F, env1, hK, r1, W_mono (WS_go w1) fun c env2 H2 f2 r2 q => ?_⟩
    cases c with
    | false => exact q σ1 H2 .refl r2
    | true =>
      refine ⟨fun σ' H' => ∃ env1, Rel F ms env1 σ' H' ∧ WS F ms R XR own σ' H' (whLoop (fun env => isT (evE t env)) (evSs b) m env1) De, fun σ' H' q => ⟨m, Nat.lt_succ_self m, q⟩, F, env2, hK, hF, hn, r2, ?_⟩
      have q : WS F ms R XR own σ1 H2 (match evSs b env2 with
        | .next env'' => whLoop (fun env => isT (evE t env)) (evSs b) m env''
        | .cnt env'' => whLoop (fun env => isT (evE t env)) (evSs b) m env''
        | .brk env'' => .next env''
        | r => r) De := q
      cases e : evSs b env2 with
      | next env3 => rw [e] at q; exact fun σ3 H3 x3 r3 => ⟨env3, r3, WS_later q x3⟩
      | cnt env3 => rw [e] at q; exact fun σ3 H3 x3 r3 => ⟨env3, r3, WS_later q x3⟩
      | brk env3 => rw [e] at q; exact q
      | ret d env3 => rw [e] at q; exact q
      | exc c y env3 => rw [e] at q; exact q
      | stuck => rw [e] at q; exact q
theorem ev_for {t : T} {o : IOp} {as : As} {b : Ss} {env : Env} : evS (.forr t o as b) env = (evI o as env).go fun items env1 => forLoop (stands o as) (fun d env2 => match bindT t d env2 with
    | some env3 => evSs b env3
    | none => .stuck) 0 items env1 := by
  simp only [evS]
  unfold evI
  cases evAs as env with
  | ok ds env1 =>
    simp only [Res.go, Res.bind]
    cases fixA as ds env1 with
    | none => rfl
    | some ds' =>
      dsimp only
      cases o.run ds' <;> rfl
  | exc c v env1 => rfl
  | stuck => rfl
theorem rs_for {t : T} {o : IOp} {as : As} {b : Ss} (no : as.noOwn = true) (hok : okIt o t = true) (h : tS K ms R XR own np (.forr t o as b) De σ H) : tFor (tI K ms R XR o as) (gT K ms t) (tSs K ms R XR own np b) De σ H := by
  obtain ⟨F, env, hK, hF, hn, r, w⟩ := h
  rw [ev_for] at w
  refine ⟨F, env, hK, r, W_mono (WS_go w) fun items env1 H1 f1 r1 q J hJ => ?_⟩
  have hlp : ∀ (turn : D → Env → SRes) (i : Nat) (env2 : Env) (H2 : Hp) (σ2 : St) (De : Ends), WS F ms R XR own σ2 H2 (forLoop (stands o as) turn i (items.drop i) env2) De → i ≤ items.length →
      (i < items.length → ∃ d, items[i]? = some d ∧ stands o as env2 i (some d) = true ∧ WS F ms R XR own σ2 H2 (match turn d env2 with
        | .next env' => forLoop (stands o as) turn (i + 1) (items.drop (i + 1)) env'
        | .cnt env' => forLoop (stands o as) turn (i + 1) (items.drop (i + 1)) env'
        | .brk env' => .next env'
        | r => r) De) ∧ (i = items.length → stands o as env2 i none = true ∧ WS F ms R XR own σ2 H2 (.next env2) De) := fun turn i env2 H2 σ2 De w hi => by
    refine ⟨fun hlt => ?_, fun e => ?_⟩
    · rw [List.drop_eq_getElem_cons hlt] at w
      unfold forLoop at w
      split at w
      · rename_i hs
        exact ⟨_, List.getElem?_eq_getElem hlt, hs, w⟩
      · exact False.elim w
    · subst e
      rw [List.drop_length] at w
      unfold forLoop at w
      split at w
      · rename_i hs
        exact ⟨hs, w⟩
      · exact False.elim w
  refine ⟨fun i m σ2 H2 => m = items.length - i ∧ i ≤ items.length ∧ ∃ env2, Rel F ms env2 σ2 H2 ∧ SX F ms σ H1 σ2 H2 ∧ WS F ms R XR own σ2 H2 (forLoop (stands o as) (fun d env2 => match bindT t d env2 with
    | some env3 => evSs b env3
    | none => .stuck) i (items.drop i) env2) De, ⟨items.length, rfl, Nat.zero_le _, env1, r1, .refl, q⟩, ?_⟩
  rintro i m σ2 H2 ⟨rfl, hi, env2, r2, x2, w2⟩
  obtain ⟨w3, w4⟩ := hlp _ i env2 H2 σ2 De w2 hi
  by_cases hlt : i < items.length
  · obtain ⟨d, ed, hs, w3⟩ := w3 hlt
    obtain ⟨hgo, -⟩ := hJ i F σ2 env2 H2 hK r2 (.inl no) x2 (by rw [ed]; exact hs)
    obtain ⟨go, yl⟩ := hgo d ed
    refine .inr ⟨go, fun σ' H' => i + 1 ≤ items.length ∧ ∃ env2, Rel F ms env2 σ' H' ∧ SX F ms σ H1 σ' H' ∧ WS F ms R XR own σ' H' (forLoop (stands o as) (fun d env2 => match bindT t d env2 with
      | some env3 => evSs b env3
      | none => .stuck) (i + 1) (items.drop (i + 1)) env2) De, fun σ' H' q => ⟨items.length - (i + 1), by omega, rfl, q⟩, fun x H3 y => ?_⟩
    obtain ⟨s3, d3⟩ := yl x H3 y
    have r3 := r2.same s3
    have x3 : SX F ms σ2 H2 σ2 H3 := Ext.of_same s3
    cases e4 : bindT t d env2 with
    | none =>
      rw [e4] at w3
      exact False.elim w3
    | some env3 =>
      rw [e4] at w3
      dsimp only at w3
      refine ⟨F, env2, d, env3, hK, r3, by rw [← hK] at d3; exact d3.it hok, e4, fun σ4 r4 so ag => ⟨F, env3, hK, hF, hn, r4, ?_⟩⟩
      have x4 : SX F ms σ2 H2 σ4 H3 := x3.trans so.sx
      cases e5 : evSs b env3 with
      | next env5 => rw [e5] at w3; exact fun σ5 H5 x5 r5 => ⟨hlt, env5, r5, x2.trans (x4.trans x5), WS_later w3 (x4.trans x5)⟩
      | cnt env5 => rw [e5] at w3; exact fun σ5 H5 x5 r5 => ⟨hlt, env5, r5, x2.trans (x4.trans x5), WS_later w3 (x4.trans x5)⟩
      | brk env5 => rw [e5] at w3; exact WS_later w3 x4
      | ret d env5 => rw [e5] at w3; exact WS_later w3 x4
      | exc c y env5 => rw [e5] at w3; exact WS_later w3 x4
      | stuck => rw [e5] at w3; exact w3
  · have ei : i = items.length := by omega
    obtain ⟨hs, w4⟩ := w4 ei
    have en : items[i]? = none := List.getElem?_eq_none (by omega)
    obtain ⟨-, hstop⟩ := hJ i F σ2 env2 H2 hK r2 (.inl no) x2 (by rw [en]; exact hs)
    exact .inl ⟨hstop en, w4 σ2 H2 .refl r2⟩
/-- a block behind which slots are forgotten -/
def Wk (P : St → Hp → Prop) : St → Hp → Prop := fun σ1 H1 => ∃ σ2 : St, σ2.length = σ1.length ∧ (∀ (k : Nat) v, σ2[k]? = some (some v) → σ1[k]? = some (some v)) ∧ P σ2 H1
def tFrz (t : TS) : TS := fun De σ H => t { De with nx := Wk De.nx, bk := Wk De.bk, ct := Wk De.ct } σ H
theorem pss_frz {X : Cx} {st : List Stmt} {t : TS} (h : PSs X st t) : PSs X st (tFrz t) := by
  refine ⟨fun pins s σ H De I hw => ?_⟩
  refine thn (h.run pins s σ H _ I hw) fun f s1 q => ?_
  cases f with
  | next => obtain ⟨σ1, H1, I1, σ2, hl, hk, q⟩ := q; exact ⟨σ2, H1, I1.weak hl hk, q⟩
  | ret v => exact q
  | brk => obtain ⟨σ1, H1, I1, σ2, hl, hk, q⟩ := q; exact ⟨σ2, H1, I1.weak hl hk, q⟩
  | cont => obtain ⟨σ1, H1, I1, σ2, hl, hk, q⟩ := q; exact ⟨σ2, H1, I1.weak hl hk, q⟩
theorem rs_frz {j : Nat} {b : Ss} (hj : ms[j]? = some true) (hnp : np ≤ j) (h : tSs K ms R XR own np (.frz j b) De σ H) : tFrz (tSs K (ms.set j false) R XR own np b) De σ H := by
  obtain ⟨F, env, hK, hF, hn, r, w⟩ := h
  obtain ⟨r1, ex⟩ := r.freeze hF hj (by rw [hn]; exact hnp)
  refine ⟨F, env, hK, hF, hn, r1, ?_⟩
  simp only [evSs] at w
  have wk : ∀ {P : St → Hp → Prop} {env1 : Env} {σ1 : St} {H1 : Hp}, Ext (Tab F (ms.set j false) σ) H (Tab F (ms.set j false) σ1) H1 → Rel F (ms.set j false) env1 σ1 H1 → (SX F ms σ H (σ1.set j none) H1 → Rel F ms (env1.set j none) (σ1.set j none) H1 → P (σ1.set j none) H1) → Wk P σ1 H1 := fun {P env1 σ1 H1} x q k => by
    obtain ⟨q1, ex2⟩ := q.thawed (by rw [hn]; exact hnp)
    refine ⟨σ1.set j none, by rw [List.length_set], fun k2 v e => ?_, k (Ext.trans ex (Ext.trans x ex2)) q1⟩
    by_cases z : j = k2
    · subst z
      by_cases hl : j < σ1.length
      · rw [List.getElem?_set_self hl] at e; cases e
      · rw [List.getElem?_eq_none (by rw [List.length_set]; omega)] at e; cases e
    · rwa [List.getElem?_set_ne z] at e
  cases e : evSs b env with
  | next env1 => rw [e] at w; exact fun σ1 H1 x q => wk x q fun x2 q2 => w _ H1 x2 q2
  | brk env1 => rw [e] at w; exact fun σ1 H1 x q => wk x q fun x2 q2 => w _ H1 x2 q2
  | cnt env1 => rw [e] at w; exact fun σ1 H1 x q => wk x q fun x2 q2 => w _ H1 x2 q2
  | ret d env1 =>
    rw [e] at w
    intro v σ1 H1 x q hr
    obtain ⟨q1, ex2⟩ := Rel.thawed q (by rw [hn]; exact hnp)
    exact w v (σ1.set j none) H1 (Ext.trans ex (Ext.trans x ex2)) q1 hr
  | exc c y env1 => rw [e] at w; exact False.elim w
  | stuck => rw [e] at w; exact False.elim w
/-- what may be forgotten of the slots -/
def Fgt (σ σ' : St) : Prop := σ'.length = σ.length ∧ ∀ (k : Nat) v, σ'[k]? = some (some v) → σ[k]? = some (some v)
theorem Fgt.refl : Fgt σ σ := ⟨rfl, fun _ _ h => h⟩
def gFgt (g : TG) : TG := fun v σ H Q => ∃ σ0, Fgt σ σ0 ∧ g v σ0 H Q
theorem pg_fgt {X : Cx} {e : Expr} {t : TG} (h : PG X e t) : PG X e (gFgt t) := ⟨fun pins s σ H v u Q I r ⟨σ0, f, q⟩ => h.run pins s σ0 H v u Q (I.weak f.1 f.2) r q⟩
def iFgt (K : PySem.W.Frag) (j : Nat) : TI := fun σ H Rr => ∃ a, σ[j]? = some (some (.ref a)) ∧ (∃ xs, SqL K H a xs) ∧ Rr (Itl K a) H
theorem pi_fgt {X : Cx} {tg : Expr} {x : Str} {j : Nat} {p : Pos} (h : PE X (.Name x p) (tVar j)) : PI X tg (.Name x p) (iFgt X.K j) :=
  pi_imp (pi_any h) fun σ H Rr ⟨a, h1, ⟨xs, h2⟩, q⟩ => ⟨_, h1, a, rfl, .inl ⟨xs, h2, q⟩⟩
def tFgt (t : TS) : TS := fun De σ H => t { De with nx := fun σ1 H1 => ∃ σ2 : St, σ2.length = σ1.length ∧ (∀ (k : Nat) v, σ2[k]? = some (some v) → σ1[k]? = some (some v)) ∧ De.nx σ2 H1 } σ H
theorem rs_forO {t : T} {j : Nat} {b : Ss} (hj : ms[j]? = some true) (hnp : np ≤ j) (h : tS K ms R XR own np (.forO t j b) De σ H) : tFgt (tFor (iFgt K j) (gFgt (gT K ms t)) (tSs K ms R XR own np b)) De σ H := by
  obtain ⟨F, env, hK, hF, hn, r, w⟩ := h
  simp only [evS] at w
  cases e : getE env j with
  | none => rw [e] at w; exact False.elim w
  | some d =>
  rw [e] at w
  cases d with
  | list items =>
    dsimp only at w
    obtain ⟨a, ha, rz, sx, nT, cl⟩ := r.frozen hF hj (by rw [hn]; exact hnp) e
    have hjl : j < σ.length := (List.getElem?_eq_some_iff.mp ha).1
    obtain ⟨xs, hx, hds⟩ := cl.list
    have h1 : SL F.K (Tab F ms (σ.set j none)) H a xs := .inl ⟨nT, .inl hx⟩
    have hJ : WalksAt F.K ms .seq (.cons (.val (.con .none)) .nil) σ (Tab F ms (σ.set j none)) H (Itl F.K a) items := walk_L h1 hds
    subst hK
    refine ⟨a, ha, ⟨xs, h1.sq⟩, ?_⟩
    have fz : Fgt σ (σ.set j none) := ⟨by rw [List.length_set], fun k u q => by
      by_cases z : j = k
      · subst z
        rw [List.getElem?_set_self hjl] at q; cases q
      · rw [List.getElem?_set_ne z] at q
        exact q⟩
    have w := WS_later w sx
    have hlp : ∀ (turn : D → Env → SRes) (i : Nat) (env2 : Env) (H2 : Hp) (σ2 : St) (De : Ends), WS F ms R XR own σ2 H2 (forLoop (fun _ _ _ => true) turn i (items.drop i) env2) De → i ≤ items.length →
        (i < items.length → ∃ d, items[i]? = some d ∧ WS F ms R XR own σ2 H2 (match turn d env2 with
          | .next env' => forLoop (fun _ _ _ => true) turn (i + 1) (items.drop (i + 1)) env'
          | .cnt env' => forLoop (fun _ _ _ => true) turn (i + 1) (items.drop (i + 1)) env'
          | .brk env' => .next env'
          | r => r) De) ∧ (i = items.length → WS F ms R XR own σ2 H2 (.next env2) De) := fun turn i env2 H2 σ2 De w hi => by
      refine ⟨fun hlt => ?_, fun e => ?_⟩
      · rw [List.drop_eq_getElem_cons hlt] at w
        unfold forLoop at w
        rw [if_pos rfl] at w
        exact ⟨_, List.getElem?_eq_getElem hlt, w⟩
      · subst e
        rw [List.drop_length] at w
        unfold forLoop at w
        rw [if_pos rfl] at w
        exact w
    refine ⟨fun i m σ2 H2 => m = items.length - i ∧ i ≤ items.length ∧ ∃ env2 σ0, Fgt σ2 σ0 ∧ Rel F ms env2 σ0 H2 ∧ SX F ms (σ.set j none) H σ0 H2 ∧ WS F ms R XR own σ0 H2 (forLoop (fun _ _ _ => true) (fun d env2 => match bindT t d env2 with
      | some env3 => evSs b env3
      | none => .stuck) i (items.drop i) env2) De, ⟨items.length, rfl, Nat.zero_le _, _, _, fz, rz, .refl, w⟩, ?_⟩
    rintro i m σ2 H2 ⟨rfl, hi, env2, σ0, f2, r2, x2, w2⟩
    obtain ⟨w3, w4⟩ := hlp _ i env2 H2 σ0 De w2 hi
    by_cases hlt : i < items.length
    · obtain ⟨d, ed, w3⟩ := w3 hlt
      obtain ⟨hgo, -⟩ := hJ i F σ0 env2 H2 rfl r2 (.inl rfl) x2 (by rfl)
      obtain ⟨go, yl⟩ := hgo d ed
      refine .inr ⟨go, fun σ' H' => i + 1 ≤ items.length ∧ ∃ env2, Rel F ms env2 σ' H' ∧ SX F ms (σ.set j none) H σ' H' ∧ WS F ms R XR own σ' H' (forLoop (fun _ _ _ => true) (fun d env2 => match bindT t d env2 with
        | some env3 => evSs b env3
        | none => .stuck) (i + 1) (items.drop (i + 1)) env2) De, fun σ' H' ⟨q1, env3, q2, q3, q4⟩ => ⟨items.length - (i + 1), by omega, rfl, q1, env3, σ', .refl, q2, q3, q4⟩, fun x H3 y => ?_⟩
      obtain ⟨s3, d3⟩ := yl x H3 y
      have r3 := r2.same s3
      have x3 : SX F ms σ0 H2 σ0 H3 := Ext.of_same s3
      refine ⟨σ0, f2, ?_⟩
      cases e4 : bindT t d env2 with
      | none =>
        rw [e4] at w3
        exact False.elim w3
      | some env3 =>
        rw [e4] at w3
        dsimp only at w3
        refine ⟨F, env2, d, env3, rfl, r3, .of d3, e4, fun σ4 r4 so ag => ⟨F, env3, rfl, hF, hn, r4, ?_⟩⟩
        have x4 : SX F ms σ0 H2 σ4 H3 := x3.trans so.sx
        have fin : ∀ {rr : SRes} {D2 : Ends}, D2.rt = De.rt → WS F ms R XR own σ4 H3 rr De → (∀ e2, rr ≠ .next e2) → (∀ e2, rr ≠ .brk e2) → (∀ e2, rr ≠ .cnt e2) → WS F ms R XR own σ4 H3 rr D2 := fun {rr D2} hr h n1 n2 n3 => by
          cases rr with
          | next e2 => exact absurd rfl (n1 e2)
          | brk e2 => exact absurd rfl (n2 e2)
          | cnt e2 => exact absurd rfl (n3 e2)
          | ret d e2 => unfold WS at h ⊢; rw [hr]; exact h
          | exc c y e2 => exact h
          | stuck => exact h
        cases e5 : evSs b env3 with
        | next env5 => rw [e5] at w3; exact fun σ5 H5 x5 r5 => ⟨hlt, env5, r5, x2.trans (x4.trans x5), WS_later w3 (x4.trans x5)⟩
        | cnt env5 => rw [e5] at w3; exact fun σ5 H5 x5 r5 => ⟨hlt, env5, r5, x2.trans (x4.trans x5), WS_later w3 (x4.trans x5)⟩
        | brk env5 => rw [e5] at w3; exact fun σ5 H5 x5 r5 => ⟨σ5, rfl, fun _ _ h => h, w3 σ5 H5 (x4.trans x5) r5⟩
        | ret d env5 => rw [e5] at w3; exact fin rfl (WS_later w3 x4) (fun _ => SRes.noConfusion) (fun _ => SRes.noConfusion) (fun _ => SRes.noConfusion)
        | exc c y env5 => rw [e5] at w3; exact WS_later w3 x4
        | stuck => rw [e5] at w3; exact w3
    · have ei : i = items.length := by omega
      have w4 := w4 ei
      have en : items[i]? = none := List.getElem?_eq_none (by omega)
      obtain ⟨-, hstop⟩ := hJ i F σ0 env2 H2 rfl r2 (.inl rfl) x2 (by rfl)
      exact .inl ⟨hstop en, σ0, f2.1, f2.2, w4 σ0 H2 .refl r2⟩
  | _ => exact False.elim w
theorem rs_ret {e : E} (hf : own = true → e.fresh = true) (h : tS K ms R XR own np (.ret e) De σ H) : tRet (tM K ms R XR e) De σ H := by
  obtain ⟨F, env, hK, hF, hn, r, w⟩ := h
  simp only [evS] at w
  refine ⟨F, env, hK, r, W_mono (WS_go w) fun d env1 H1 f1 r1 q v hv => ?_⟩
  exact q v σ H1 .refl r1 (ret_of r hf hv.1)
theorem rs_retO {i : Nat} (hm : ms[i]? = some true) (hnp : np ≤ i) (h : tS K ms R XR own np (.retO i) De σ H) : tRet (tVar i) De σ H := by
  obtain ⟨F, env, hK, hF, hn, r, w⟩ := h
  simp only [evS] at w
  cases e : getE env i with
  | none => rw [e] at w; exact False.elim w
  | some d =>
    rw [e] at w
    obtain ⟨a, ha, hr⟩ := ret_own (own := own) hF r hm (by rw [hn]; exact hnp) e
    exact ⟨_, ha, w _ σ H .refl r hr⟩
/-- own slots that are no parameters -/
def As.locO (ms : List Bool) (np : Nat) : As → Bool
  | .nil => true
  | .cons (.val _) r => r.locO ms np
  | .cons (.own i) r => decide (np ≤ i) && r.locO ms np
theorem dts_ret {F : Fx} {ms : List Bool} {env : Env} {σ : St} {H : Hp} (hF : FOk F) (r : Rel F ms env σ H) : ∀ {as : As} {vs : List V} {ds es : List D}, AsRel F ms σ H as vs ds → as.locO ms F.np = true → fixA as ds env = some es → DtAll F.K F.S0 H vs es
  | _, _, _, _, .nil, _, e => by simp [fixA] at e; subst e; exact .nil
  | _, _, _, es, .cons (o := o) h t, hl, e => by
    simp only [fixA] at e
    obtain ⟨x, e1, e2⟩ := Option.bind_eq_some_iff.mp e
    obtain ⟨xs, e3, e4⟩ := Option.map_eq_some_iff.mp e2
    subst e4
    cases o with
    | val e =>
      simp only [fixO, Option.some.injEq] at e1
      subst e1
      exact .cons (Dt.mono (fun a o n q => ⟨fun z => n (.inl z), q⟩) h) (dts_ret hF r t (by simpa [As.locO] using hl) e3)
    | own i =>
      simp only [fixO] at e1
      simp only [As.locO, Bool.and_eq_true, decide_eq_true_eq] at hl
      obtain ⟨a, ha, hr⟩ := ret_own (own := false) hF r h.1 hl.1 e1
      have h2 := h.2
      rw [ha] at h2
      cases h2
      have hd : Dt F.K F.S0 H (.ref a) x := by
        have := hr
        unfold RetR ResRel at this
        rwa [if_neg Bool.false_ne_true] at this
      exact .cons hd (dts_ret hF r t hl.2 e3)
theorem rs_retT {as : As} (ho : own = false) (hl : as.locO ms np = true) (h : tS K ms R XR own np (.retT as) De σ H) : tRet (fun σ H Q => tA K ms R XR as σ H fun zs H1 => zs.length ≤ sizeLine ∧ NewT H1 Q zs) De σ H := by
  obtain ⟨F, env, hK, hF, hn, r, w⟩ := h
  subst ho
  simp only [evS] at w
  refine ⟨F, env, hK, r, W_mono (WS_go w) fun ds env1 H1 f1 r1 q vs hv => ?_⟩
  cases e1 : fixA as ds env1 with
  | none => rw [e1] at q; exact False.elim q
  | some es =>
    rw [e1] at q
    dsimp only at q
    split at q
    · rename_i hz
      have dts := dts_ret hF r1 hv (by rw [hn]; exact hl) e1
      have hlen := dts.length
      refine ⟨by omega, fun p ob hp hob => ?_⟩
      refine q (.ref p) σ (upd H1 p (.frz ob (.tup vs))) (.of_same (same_upd hp)) (r1.same (same_upd hp)) ?_
      have hS : ∀ a, F.S0 a → H1 a ≠ none := fun a z => r1.tabT a (.inl z)
      have := new_tup (K := F.K) (S := F.S0) hob hS hp dts
      unfold RetR
      unfold ResRel at this ⊢
      rwa [if_neg Bool.false_ne_true] at this ⊢
    · exact False.elim q
theorem rs_retN (ho : own = false) (h : tS K ms R XR own np .retN De σ H) : tRetN De σ H := by
  obtain ⟨F, env, hK, hF, hn, r, w⟩ := h
  subst ho
  exact w .non σ H .refl r (res_dt .non)
theorem rs_brk (h : tS K ms R XR own np .brk De σ H) : tBreak De σ H := by
  obtain ⟨F, env, hK, hF, hn, r, w⟩ := h
  exact w σ H .refl r
theorem rs_cnt (h : tS K ms R XR own np .cnt De σ H) : tCont De σ H := by
  obtain ⟨F, env, hK, hF, hn, r, w⟩ := h
  exact w σ H .refl r
theorem rs_pass (h : tS K ms R XR own np .pass De σ H) : tNext De σ H := by
  obtain ⟨F, env, hK, hF, hn, r, w⟩ := h
  exact w σ H .refl r
theorem rs_never (h : tS K ms R XR own np .never De σ H) : tNever De σ H := by
  obtain ⟨F, env, hK, hF, hn, r, w⟩ := h
  exact w
theorem rs_swp {i j : Nat} {a b : E} (hi : ms[i]? ≠ some true) (hj : ms[j]? ≠ some true) (il : i < σ.length) (jl : j < σ.length) (h : tS K ms R XR own np (.swp i j a b) De σ H) : tPar i j (tCons (tM K ms R XR a) (tCons (tM K ms R XR b) tNil)) De σ H := by
  obtain ⟨F, env, hK, hF, hn, r, w⟩ := h
  simp only [evS] at w
  refine ⟨F, env, hK, r, W_mono (WS_go w) fun x env1 H1 f1 r1 q v hv => ?_⟩
  have dv := hv.1.dt r.tabT
  refine ⟨F, env1, hK, r1, W_mono (WS_go q) fun y env2 H2 f2 r2 q u hu => ?_⟩
  have du := hu.1.dt r1.tabT
  refine ⟨v, u, rfl, ?_⟩
  have g1 := r2.put il hi (dv.mono f2.ext)
  have s1 : SameO ms σ (σ.set i (some v)) := set_same hi
  have g2 := g1.put (i := j) (v := u) (d := y) (by rw [List.length_set]; exact jl) hj (by rw [s1.tab]; exact du)
  exact q _ H2 (s1.trans (set_same hj)).sx g2
end
end MP

/-! MP: the check of statements, and that it is sound. -/
namespace MP
open PySem L2

mutual
def S.fns : S → List Fn
  | .asg _ e => e.fns
  | .asgO _ e => e.fns
  | .swp _ _ a b => a.fns ++ b.fns
  | .mov _ _ => []
  | .setI _ k v => v.fns ++ k.fns
  | .aug _ _ e => e.fns
  | .augO _ e => e.fns
  | .exp e => e.fns
  | .iff t a b => t.fns ++ (a.fns ++ b.fns)
  | .whl _ t b => t.fns ++ b.fns
  | .forr _ _ as b => as.fns ++ b.fns
  | .forO _ _ b => b.fns
  | .ret e => e.fns
  | .retT as => as.fns
  | .retO _ => []
  | .retN => []
  | .brk => []
  | .cnt => []
  | .pass => []
  | .never => []
def Ss.fns : Ss → List Fn
  | .nil => []
  | .cons s r => s.fns ++ r.fns
  | .frz _ r => r.fns
end
mutual
def S.gls : S → List (Str × D)
  | .asg _ e => e.gls
  | .asgO _ e => e.gls
  | .swp _ _ a b => a.gls ++ b.gls
  | .mov _ _ => []
  | .setI _ k v => v.gls ++ k.gls
  | .aug _ _ e => e.gls
  | .augO _ e => e.gls
  | .exp e => e.gls
  | .iff t a b => t.gls ++ (a.gls ++ b.gls)
  | .whl _ t b => t.gls ++ b.gls
  | .forr _ _ as b => as.gls ++ b.gls
  | .forO _ _ b => b.gls
  | .ret e => e.gls
  | .retT as => as.gls
  | .retO _ => []
  | .retN => []
  | .brk => []
  | .cnt => []
  | .pass => []
  | .never => []
def Ss.gls : Ss → List (Str × D)
  | .nil => []
  | .cons s r => s.gls ++ r.gls
  | .frz _ r => r.gls
end
def kindB (sc : Scope) : Bool := match sc.kind with
  | .function => true
  | _ => false
def localB (sc : Scope) (x : Str) : Bool := match sc.names.lookup x with
  | some .local => true
  | _ => false
def swB (sc : Scope) (x : Str) (p : Pos) : Expr → Bool
  | .ListComp _ _ s pos => localB sc x && p.line == pos.line && !(s.names.any fun (n, k) => n == x && (k == .local || k == .cell))
  | _ => false
def noComp : Expr → Bool
  | .ListComp _ _ _ _ => false
  | .SetComp _ _ _ _ => false
  | .DictComp _ _ _ _ _ => false
  | _ => true
def okComp : Expr → Bool
  | .SetComp _ _ _ _ => false
  | .DictComp _ _ _ _ _ => false
  | _ => true
/-- a store into several targets: the value is no display -/
def noTup : Expr → Bool
  | .Tuple _ _ _ => false
  | _ => true
/-- a, b = x, y whose stores are swapped: both plain local names, on one line; the values no constants -/
def swpB (sc : Scope) (x y : Str) (px py : Pos) (a b : Expr) : Bool :=
  kindB sc && notStar a && notStar b && localB sc x && localB sc y && px.line == py.line && !(x == y) && !([a, b].all (foldedForSure 8)) && !([a, b].all (constantsAlone 8))
/-- a, b = x, y whose stores are not swapped: one of the names is caught by a comprehension -/
def nswB (sc : Scope) : Expr → Expr → Bool
  | .Tuple [.Name x _, .Name y _] _ _, .Tuple _ _ _ => !(localB sc x && localB sc y)
  | _, _ => false
mutual
def chkS (N : List Str) (ms : List Bool) (sc : Scope) (fn : Str → Bool) (np : Nat) (own : Bool) : S → Stmt → Bool
  | .asg t e, st => match st with
    | .Assign [tg] v pos => okComp v && kindB sc && chkE N ms sc fn false e v && (match t, tg with
      | .name i, .Name x p => nameB N i x && locB sc fn x && shrB ms i
      | .name _, _ => false
      | t, tg => (noTup v || nswB sc tg v) && noComp v && chkG N ms sc fn t tg)
    | _ => false
  | .asgO i e, st => match st with
    | .Assign [.Name x p] v pos => okComp v && kindB sc && chkE N ms sc fn false e v && nameB N i x && locB sc fn x && ownB ms i && e.fresh && decide (np ≤ i)
    | _ => false
  | .swp i j a b, st => match st with
    | .Assign [.Tuple [.Name x px, .Name y py] _ _] (.Tuple [va, vb] _ _) pos => nameB N i x && nameB N j y && shrB ms i && shrB ms j && swpB sc x y px py va vb && chkE N ms sc fn false a va && chkE N ms sc fn false b vb
    | _ => false
  | .mov i j, st => match st with
    | .Assign [.Name x p] (.Name y q) pos => nameB N i x && locB sc fn x && shrB ms i && nameB N j y && visB sc y && ownB ms j && decide (np ≤ j)
    | _ => false
  | .setI i k v, st => match st with
    | .Assign [.Subscript (.Name x p) kx _] vx pos => nameB N i x && visB sc x && ownB ms i && plainIx kx && okComp vx && chkE N ms sc fn false v vx && chkE N ms sc fn false k kx
    | _ => false
  | .aug i o e, st => match st with
    | .AugAssign (.Name x p) op v pos => nameB N i x && locB sc fn x && shrB ms i && decide (augF o = some op) && chkE N ms sc fn false e v
    | _ => false
  | .augO i e, st => match st with
    | .AugAssign (.Name x p) op v pos => nameB N i x && locB sc fn x && ownB ms i && decide (op = .Add) && chkE N ms sc fn false e v
    | _ => false
  | .exp e, st => match st with
    | .Expr v pos => noComp v && chkE N ms sc fn false e v
    | _ => false
  | .iff t a b, st => match st with
    | .If c x y pos => chkE N ms sc fn true t c && chkSs N ms sc fn np own a x && chkSs N ms sc fn np own b y
    | _ => false
  | .whl _ t b, st => match st with
    | .While c x [] pos => chkE N ms sc fn true t c && chkSs N ms sc fn np own b x
    | _ => false
  | .forr t o as b, st => match st with
    | .For tg iter x [] pos => as.noOwn && noSet iter && chkG N ms sc fn t tg && (match iterArgs sc o as tg iter with
      | some es => chkAs N ms sc fn as es
      | none => false) && chkSs N ms sc fn np own b x
    | _ => false
  | .forO t j b, st => match st with
    | .For tg (.Name x p) body [] pos => chkG N ms sc fn t tg && (nameB N j x && visB sc x && ownB ms j && decide (np ≤ j)) && chkSs N ms sc fn np own b body
    | _ => false
  | .ret e, st => match st with
    | .Return (some v) pos => (!own || e.fresh) && chkE N ms sc fn false e v
    | _ => false
  | .retT as, st => match st with
    | .Return (some (.Tuple es _ _)) pos => !own && as.locO ms np && chkAs N ms sc fn as es
    | _ => false
  | .retO i, st => match st with
    | .Return (some (.Name x p)) pos => nameB N i x && visB sc x && ownB ms i && decide (np ≤ i)
    | _ => false
  | .retN, st => match st with
    | .Return none pos => !own
    | _ => false
  | .brk, st => match st with
    | .Break _ => true
    | _ => false
  | .cnt, st => match st with
    | .Continue _ => true
    | _ => false
  | .pass, st => match st with
    | .Pass _ => true
    | .Expr (.Constant (.str _) _ _) _ => true
    | _ => false
  | .never, _ => true
def chkSs (N : List Str) (ms : List Bool) (sc : Scope) (fn : Str → Bool) (np : Nat) (own : Bool) : Ss → List Stmt → Bool
  | .nil, st => match st with
    | [] => true
    | _ => false
  | .cons s r, st => match st with
    | x :: xs => chkS N ms sc fn np own s x && chkSs N ms sc fn np own r xs
    | [] => false
  | .frz j r, st => ownB ms j && decide (np ≤ j) && chkSs N (ms.set j false) sc fn np own r st
end
section
variable {X : Cx} {sc : Scope} {fn : Str → Bool} {N : List Str} {R : WX} {XR : XRel} {ms : List Bool} {np : Nat} {own : Bool}
theorem sw_no {e : Expr} {t : Option Expr} {l : Nat} {env : PySem.Env} (h : noComp e = true) : swapsWith e t l env = pure false := by
  cases e <;> first | rfl | cases h
theorem kind_eq (C : CtxOk X sc fn N R) (h : kindB sc = true) : X.env.scope.kind = .function := by
  rw [C.sc]
  unfold kindB at h
  split at h
  · assumption
  · cases h
theorem local_eq (C : CtxOk X sc fn N R) {x : Str} (h : localB sc x = true) : X.env.scope.names.lookup x = some .local := by
  rw [C.sc]
  unfold localB at h
  split at h
  · assumption
  · cases h
theorem sw_list (C : CtxOk X sc fn N R) {e : Expr} {x : Str} {p : Pos} {l : Nat} (h : okComp e = true) (hs : swB sc x p e = false) (hl : locB sc fn x = true) : swapsWith e (some (.Name x p)) l X.env = pure false := by
  cases e <;> first | rfl | (cases h; done) | skip
  rename_i elt gs s pos
  unfold swapsWith
  show (pure _ : Sem Bool) = pure false
  congr 1
  have hk : X.env.kindOf x = sc.names.lookup x := by
    unfold Env.kindOf
    rw [C.sc]
  rw [hk]
  simp only [swB, localB] at hs
  cases hq : sc.names.lookup x with
  | none => simp
  | some k =>
    rw [hq] at hs
    cases k <;> simp_all
    exact fun _ h => hs h
theorem sw_sub {e o i : Expr} {p : Pos} {l : Nat} {env : PySem.Env} (h : okComp e = true) : swapsWithSole [.Subscript o i p] e l env = pure false := by
  cases e <;> first | rfl | cases h
/-- name = e -/
theorem snd_set (hx : XOk XR) (C : CtxOk X sc fn N R) {m : E} {e : Expr} {i : Nat} {x : Str} {p pos : Pos} (k : Kn X XR m.fns m.gls) (hc : chkE N ms sc fn false m e = true) (ho : okComp e = true) (hk : kindB sc = true) (hn : nameB N i x = true) (hl : locB sc fn x = true) :
    PS X (.Assign [.Name x p] e pos) (tAsg (tM X.K ms R XR m) (gName i)) := by
  obtain ⟨l1, l2⟩ := loc_of C hl
  have hi : X.N[i]? = some x := by rw [C.hN]; exact name_eq hn
  have nd : X.N.Nodup := by rw [C.hN]; exact C.nd
  by_cases hs : swB sc x p e = true
  · cases e with
    | ListComp ex gs scope cpos =>
      simp only [swB, Bool.and_eq_true, Bool.not_eq_true'] at hs
      have hyl := local_eq C hs.1.1
      have hsw : ∀ l, swapsWith (.ListComp ex gs scope cpos) (some (.Name x p)) l X.env = pure true := fun l => sw_true (kind_eq C hk) hyl hs.1.2 hs.2
      cases m with
      | lc elt t o as test =>
        obtain ⟨tg, iter, ifs, rfl⟩ : ∃ tg iter ifs, gs = [⟨tg, iter, ifs, 0⟩] := by
          unfold chkE at hc
          split at hc
          · rename_i q
            cases q
            exact ⟨_, _, _, rfl⟩
          · cases hc
        simp only [chkE, Bool.and_eq_true, Bool.not_eq_true', decide_eq_true_eq] at hc
        obtain ⟨⟨⟨⟨⟨⟨⟨h0, h1⟩, h2⟩, h3⟩, h4⟩, h5⟩, h6⟩, h7⟩ := hc
        cases hi' : iterArgs sc o as tg iter with
        | none => rw [hi'] at h5; cases h5
        | some es =>
          rw [hi'] at h5
          have ha := snd_As hx as C k.left h5
          have hpi := iter_snd C hi' ha
          have hms := chkG_slots h3
          have pts : ∀ (s : Shared) (H : Hp) (Cc : Addr) (cl : List (Str × Addr)) (fp : List Addr), PTs (X.blk s H scope (compEnvC scope cl Cc X.env) fp) ifs (tT X.K ms R0 XR test) := fun s H Cc cl fp => by
            match ifs, h6 with
            | [], h6 =>
              rw [isTrueE_eq h6]
              exact ⟨fun pins s σ H Q I q => pts_nil.run pins s σ H Q I (rt_true q)⟩
            | [c], h6 => exact pts_one ((snd_E hx test (C.blk s H scope cl Cc fp) (k.right.right.blk _ _ _ _ _) h6).2 rfl).1
          refine ps_imp (ps_setLc (wi := tI X.K ms R XR o as) (g := gT X.K ms t) (tt := tT X.K ms R0 XR test) (te := tM X.K ms R0 XR elt) (own := ownOf N t.slots) C.calm nd hi hyl (hsw _) hpi (by rw [C.hN, C.sc]; exact blkOk_by h1)
            (fun s H Cc cl fp => pg_T (C.blk s H scope cl Cc fp) h3) pts (fun s H Cc cl fp => (snd_E hx elt (C.blk s H scope cl Cc fp) (k.right.left.blk _ _ _ _ _) h7).1) (fold_set h4)) fun De σ H q => ?_
          have := lc_read hms (okIt_of hi' h3) q
          rw [← h2] at this
          exact this
      | lc2 elt t o as t2 o2 as2 test =>
        obtain ⟨tg, iter, tg2, iter2, ifs, rfl⟩ : ∃ tg iter tg2 iter2 ifs, gs = [⟨tg, iter, [], 0⟩, ⟨tg2, iter2, ifs, 0⟩] := by
          unfold chkE at hc
          split at hc
          · rename_i q
            cases q
            exact ⟨_, _, _, _, _, rfl⟩
          · cases hc
        simp only [chkE, Bool.and_eq_true, Bool.not_eq_true', decide_eq_true_eq] at hc
        obtain ⟨⟨⟨⟨⟨⟨⟨⟨⟨⟨h0, h1⟩, h2⟩, h3⟩, h3'⟩, h4⟩, h4'⟩, h5⟩, h5'⟩, h6⟩, h7⟩ := hc
        cases hi' : iterArgs sc o as tg iter with
        | none => rw [hi'] at h5; cases h5
        | some es =>
        cases hi2 : iterArgs (relS scope sc) o2 as2 tg2 iter2 with
        | none => rw [hi2] at h5'; cases h5'
        | some es2 =>
          rw [hi'] at h5
          rw [hi2] at h5'
          have ha := snd_As hx as C k.left h5
          have hpi := iter_snd C hi' ha
          have hms : ∀ i ∈ t.slots ++ t2.slots, ms[i]? ≠ some true := fun i hi => (List.mem_append.mp hi).elim (chkG_slots h3 i) (chkG_slots h3' i)
          have pts : ∀ (s : Shared) (H : Hp) (Cc : Addr) (cl : List (Str × Addr)) (fp : List Addr), PTs (X.blk s H scope (compEnvC scope cl Cc X.env) fp) ifs (tT X.K ms R0 XR test) := fun s H Cc cl fp => by
            match ifs, h6 with
            | [], h6 =>
              rw [isTrueE_eq h6]
              exact ⟨fun pins s σ H Q I q => pts_nil.run pins s σ H Q I (rt_true q)⟩
            | [c], h6 => exact pts_one ((snd_E hx test (C.blk s H scope cl Cc fp) (k.right.right.right.blk _ _ _ _ _) h6).2 rfl).1
          refine ps_imp (ps_setLc2 (wi := tI X.K ms R XR o as) (g := gT X.K ms t) (tt := tYes) (wi1 := tI X.K ms R0 XR o2 as2) (g1 := gT X.K ms t2) (tt1 := tT X.K ms R0 XR test) (te := tM X.K ms R0 XR elt) (own := ownOf N (t.slots ++ t2.slots)) (vs1 := t2.slots) C.calm nd hi hyl (hsw _) hpi (by rw [C.hN, C.sc]; exact blkOk_by h1) (fun i hi => by rw [h2]; exact List.mem_append_right _ hi)
            (fun s H Cc cl fp => pg_T (C.blk s H scope cl Cc fp) h3) (fun s H Cc cl fp => pts_nil)
            (fun s H Cc cl fp => iter_snd (C.blk s H scope cl Cc fp) hi2 (snd_As hx as2 (C.blk s H scope cl Cc fp) (k.right.left.blk _ _ _ _ _) h5'))
            (fun s H Cc cl fp => pg_T (C.blk s H scope cl Cc fp) h3') pts (fun s H Cc cl fp => (snd_E hx elt (C.blk s H scope cl Cc fp) (k.right.right.left.blk _ _ _ _ _) h7).1) (fold_set h4) (fun env x => fold_set h4' x)) fun De σ H q => ?_
          have := lc2_read hms (okIt_of hi' h3) (okIt_of hi2 h3') q
          rw [← h2] at this
          exact this
      | prim o as =>
        simp [chkE, formOf] at hc
      | _ => simp [chkE] at hc
    | _ => simp [swB] at hs
  · exact ps_set (i := i) nd hi l1 (snd_E hx m C k hc).1 (sw_list C ho (by simpa using hs) hl) l2
theorem swp_stores (C : CtxOk X sc fn N R) {x y : Str} {px py pt pt2 : Pos} {a b : Expr} {kt k2 : Nat} (h : swpB sc x y px py a b = true) : swappedStores [.Tuple [.Name x px, .Name y py] kt pt] (.Tuple [a, b] k2 pt2) X.env = pure (some [x, y]) := by
  unfold swpB at h
  simp only [Bool.and_eq_true, Bool.not_eq_true', beq_eq_false_iff_ne, ne_eq] at h
  obtain ⟨⟨⟨⟨⟨⟨⟨⟨h1, h2⟩, h3⟩, h4⟩, h5⟩, h6⟩, h7⟩, h8⟩, h9⟩ := h
  have hb : X.env.blockKind = .function := by
    unfold Env.blockKind
    rw [kind_eq C h1]
    rfl
  have kx : X.env.kindOf x = some .local := local_eq C h4
  have ky : X.env.kindOf y = some .local := local_eq C h5
  have h6 : px.line = py.line := by simpa using h6
  have st : ([a, b].any fun | .Starred .. => true | _ => false) = false := by
    cases a <;> first | (cases h2; done) | (cases b <;> first | rfl | (cases h3; done))
  unfold swappedStores
  simp only [List.length_cons, List.length_nil]
  have hl : ((Expr.Name x px).pos).line = px.line := rfl
  simp only [List.head?_cons, Option.map_some, Option.getD_some, hl, List.filterMap_cons, List.filterMap_nil, kx, ky, h6, beq_self_eq_true, Bool.and_self, if_true, hb]
  have e2 : (([x, y] : List Str).eraseDups) = [x, y] := by
    have : ¬ (y = x) := fun z => h7 z.symm
    simp [List.eraseDups_cons, this]
  simp only [e2, st, h8, h9]
  refine (if_neg (by decide)).trans ((if_neg (fun z => Bool.false_ne_true (st.symm.trans z))).trans ((if_neg (by simp)).trans ?_))
  rfl
theorem sole_no {e tg : Expr} {l : Nat} {env : PySem.Env} (h : noComp e = true) : swapsWithSole [tg] e l env = pure false := sw_no h
theorem stores_no {e : Expr} {tg : Expr} {env : PySem.Env} (h : noTup e = true) : swappedStores [tg] e env = pure none := by
  cases e <;> first
    | (cases h; done)
    | (cases tg <;> rfl)
theorem kind_local {x : Str} (C : CtxOk X sc fn N R) : (X.env.kindOf x == some .local) = localB sc x := by
  unfold Env.kindOf localB
  rw [C.sc]
  cases sc.names.lookup x with
  | none => rfl
  | some k => cases k <;> rfl
theorem stores_nsw (C : CtxOk X sc fn N R) {e : Expr} {tg : Expr} (h : noTup e = true ∨ nswB sc tg e = true) : swappedStores [tg] e X.env = pure none := by
  rcases h with h | h
  · exact stores_no h
  · unfold nswB at h
    split at h
    · rename_i x px y py kt pt vs k2 pt2
      unfold swappedStores
      simp only [List.length_cons, List.length_nil, List.head?_cons, Option.map_some, Option.getD_some, List.filterMap_cons, List.filterMap_nil, kind_local C]
      split
      · rfl
      · split
        · rfl
        · rw [if_pos]
          · generalize (px.line == (Expr.Name x px).pos.line) = b1
            generalize (py.line == (Expr.Name x px).pos.line) = b2
            cases hx : localB sc x <;> cases hy : localB sc y
            · simp
            · cases b2 <;> simp
            · cases b1 <;> simp
            · rw [hx, hy] at h; cases h
    · cases h
theorem nostar_one {tg : Expr} {env : PySem.Env} (h : notStar tg = true) : (assignEach [tg] env).map (·.2) = [assign tg env] := by
  rw [asg1 h]
  rfl
theorem lt_of {i : Nat} {x : Str} (C : CtxOk X sc fn N R) (h : nameB N i x = true) {σ : St} (hl : σ.length = X.N.length) : i < σ.length := by
  rw [hl, C.hN]
  exact (List.getElem?_eq_some_iff.mp (name_eq h)).1
mutual
theorem snd_S (hx : XOk XR) (C : CtxOk X sc fn N R) (hp : PassesOwn (model X.prog X.w) X.A X.env X.xe) : ∀ (s : S) {ms : List Bool} {st : Stmt}, Kn X XR s.fns s.gls → chkS N ms sc fn np own s st = true → PS X st (tS X.K ms R XR own np s)
  | .asg t e, ms, st, k, h => by
    obtain ⟨tg, v, pos, rfl⟩ : ∃ tg v pos, st = .Assign [tg] v pos := by
      unfold chkS at h
      split at h
      · exact ⟨_, _, _, rfl⟩
      · cases h
    simp only [chkS, Bool.and_eq_true] at h
    obtain ⟨⟨⟨h1, h2⟩, h3⟩, h4⟩ := h
    have other : (noTup v = true ∨ nswB sc tg v = true) → noComp v = true → chkG N ms sc fn t tg = true → PS X (.Assign [tg] v pos) (tS X.K ms R XR own np (.asg t e)) := fun n1 n2 g =>
      ps_imp (ps_asg (snd_E hx e C k h3).1 (pg_T C g) (sole_no n2) (stores_nsw C n1) (nostar_one (chkG_star g))) fun De σ H => rs_setT
    cases t with
    | name i =>
      cases tg with
      | Name x p =>
        simp only [Bool.and_eq_true] at h4
        exact ps_impL (snd_set hx C k h3 h1 h2 h4.1.1 h4.1.2) fun De σ H hl => rs_setN (shr_ne h4.2) (lt_of C h4.1.1 hl)
      | _ => cases h4
    | two a b =>
      simp only [Bool.and_eq_true, Bool.or_eq_true] at h4
      exact other h4.1.1 h4.1.2 h4.2
    | three a b c =>
      simp only [Bool.and_eq_true, Bool.or_eq_true] at h4
      exact other h4.1.1 h4.1.2 h4.2
  | .asgO i e, ms, st, k, h => by
    obtain ⟨x, p, v, pos, rfl⟩ : ∃ x p v pos, st = .Assign [.Name x p] v pos := by
      unfold chkS at h
      split at h
      · exact ⟨_, _, _, _, rfl⟩
      · cases h
    simp only [chkS, Bool.and_eq_true, decide_eq_true_eq] at h
    obtain ⟨⟨⟨⟨⟨⟨⟨h1, h2⟩, h3⟩, h4⟩, h5⟩, h6⟩, h7⟩, h8⟩ := h
    exact ps_impL (snd_set hx C k h3 h1 h2 h4 h5) fun De σ H hl => rs_setO (own_eq h6) h7 h8 (lt_of C h4 hl)
  | .swp i j a b, ms, st, k, h => by
    obtain ⟨x, px, y, py, kt, pt, va, vb, k2, pt2, pos, rfl⟩ : ∃ x px y py kt pt va vb k2 pt2 pos, st = .Assign [.Tuple [.Name x px, .Name y py] kt pt] (.Tuple [va, vb] k2 pt2) pos := by
      unfold chkS at h
      split at h
      · exact ⟨_, _, _, _, _, _, _, _, _, _, _, rfl⟩
      · cases h
    simp only [chkS, Bool.and_eq_true] at h
    obtain ⟨⟨⟨⟨⟨⟨h1, h2⟩, h3⟩, h4⟩, h5⟩, h6⟩, h7⟩ := h
    have hs := swp_stores C (kt := kt) (pt := pt) (k2 := k2) (pt2 := pt2) h5
    unfold swpB at h5
    simp only [Bool.and_eq_true, Bool.not_eq_true', beq_eq_false_iff_ne, ne_eq] at h5
    obtain ⟨⟨⟨⟨⟨⟨⟨⟨q1, q2⟩, q3⟩, q4⟩, q5⟩, q6⟩, q7⟩, q8⟩, q9⟩ := h5
    have hi : X.N[i]? = some x := by rw [C.hN]; exact name_eq h1
    have hj : X.N[j]? = some y := by rw [C.hN]; exact name_eq h2
    refine ps_impL (ps_par (i := i) (j := j) C.calm (by rw [C.hN]; exact C.nd) hi hj (fun z => by rw [z, hj] at hi; cases hi; exact q7 rfl) (local_eq C q4) (local_eq C q5)
      (pa_cons (snd_E hx a C k.left h6).1 (pa_cons (snd_E hx b C k.right h7).1 pa_nil (star1 q3)) (star1 q2)) hs) fun De σ H hl => rs_swp (shr_ne h3) (shr_ne h4) (lt_of C h1 hl) (lt_of C h2 hl)
  | .mov i j, ms, st, k, h => by
    obtain ⟨x, p, y, q, pos, rfl⟩ : ∃ x p y q pos, st = .Assign [.Name x p] (.Name y q) pos := by
      unfold chkS at h
      split at h
      · exact ⟨_, _, _, _, _, rfl⟩
      · cases h
    simp only [chkS, Bool.and_eq_true, decide_eq_true_eq] at h
    obtain ⟨⟨⟨⟨⟨⟨h1, h2⟩, h3⟩, h4⟩, h5⟩, h6⟩, h7⟩ := h
    obtain ⟨l1, l2⟩ := loc_of C h2
    obtain ⟨v1, v2, v3⟩ := vis_of C h5
    refine ps_impL (ps_mov (i := i) (j := j) (by rw [C.hN]; exact C.nd) (by rw [C.hN]; exact name_eq h1) l1 (pe_var (by rw [C.hN]; exact name_eq h4) v1 v2 v3) l2) fun De σ H hl => rs_mov (own_eq h6) (shr_ne h3) h7 (lt_of C h1 hl)
  | .setI i kk v, ms, st, k, h => by
    obtain ⟨x, p, kx, p2, vx, pos, rfl⟩ : ∃ x p kx p2 vx pos, st = .Assign [.Subscript (.Name x p) kx p2] vx pos := by
      unfold chkS at h
      split at h
      · exact ⟨_, _, _, _, _, _, rfl⟩
      · cases h
    simp only [chkS, Bool.and_eq_true] at h
    obtain ⟨⟨⟨⟨⟨⟨h1, h2⟩, h3⟩, h4⟩, h5⟩, h6⟩, h7⟩ := h
    obtain ⟨v1, v2, v3⟩ := vis_of C h2
    refine ps_imp (ps_asg (snd_E hx v C k.left h6).1 (pg_sub (pe_var (i := i) (by rw [C.hN]; exact name_eq h1) v1 v2 v3) (snd_E hx kk C k.right h7).1 (set_two (by have := C.un; omega)) (by intro v; cases kx <;> first | rfl | (cases h4; done))) (sw_sub h5) rfl rfl) fun De σ H => rs_setI (own_eq h3)
  | .aug i o e, ms, st, k, h => by
    obtain ⟨x, p, op, v, pos, rfl⟩ : ∃ x p op v pos, st = .AugAssign (.Name x p) op v pos := by
      unfold chkS at h
      split at h
      · exact ⟨_, _, _, _, _, rfl⟩
      · cases h
    simp only [chkS, Bool.and_eq_true, decide_eq_true_eq] at h
    obtain ⟨⟨⟨⟨h1, h2⟩, h3⟩, h4⟩, h5⟩ := h
    obtain ⟨l1, l2⟩ := loc_of C h2
    exact ps_impL (ps_aug (i := i) (by rw [C.hN]; exact C.nd) (by rw [C.hN]; exact name_eq h1) l1 (snd_E hx e C k h5).1 (s_aug h4) l2) fun De σ H hl => rs_aug (shr_ne h3) (lt_of C h1 hl)
  | .augO i e, ms, st, k, h => by
    obtain ⟨x, p, op, v, pos, rfl⟩ : ∃ x p op v pos, st = .AugAssign (.Name x p) op v pos := by
      unfold chkS at h
      split at h
      · exact ⟨_, _, _, _, _, rfl⟩
      · cases h
    simp only [chkS, Bool.and_eq_true, decide_eq_true_eq] at h
    obtain ⟨⟨⟨⟨h1, h2⟩, h3⟩, h4⟩, h5⟩ := h
    subst h4
    obtain ⟨l1, l2⟩ := loc_of C h2
    exact ps_impL (ps_aug (i := i) (by rw [C.hN]; exact C.nd) (by rw [C.hN]; exact name_eq h1) l1 (snd_E hx e C k h5).1 s_augO l2) fun De σ H hl => rs_augO (own_eq h3) (lt_of C h1 hl)
  | .exp e, ms, st, k, h => by
    obtain ⟨v, pos, rfl⟩ : ∃ v pos, st = .Expr v pos := by
      unfold chkS at h
      split at h
      · exact ⟨_, _, rfl⟩
      · cases h
    simp only [chkS, Bool.and_eq_true] at h
    exact ps_imp (ps_expr (snd_E hx e C k h.2).1 (sw_no h.1)) fun De σ H => rs_exp
  | .iff t a b, ms, st, k, h => by
    obtain ⟨c, x, y, pos, rfl⟩ : ∃ c x y pos, st = .If c x y pos := by
      unfold chkS at h
      split at h
      · exact ⟨_, _, _, _, rfl⟩
      · cases h
    simp only [chkS, Bool.and_eq_true] at h
    exact ps_imp (ps_if ((snd_E hx t C k.left h.1.1).2 rfl).1 (snd_Ss hx C hp a k.right.left h.1.2) (snd_Ss hx C hp b k.right.right h.2)) fun De σ H => rs_if
  | .whl f t b, ms, st, k, h => by
    obtain ⟨c, x, pos, rfl⟩ : ∃ c x pos, st = .While c x [] pos := by
      unfold chkS at h
      split at h
      · exact ⟨_, _, _, rfl⟩
      · cases h
    simp only [chkS, Bool.and_eq_true] at h
    exact ps_imp (ps_while hp ((snd_E hx t C k.left h.1).2 rfl).1 (snd_Ss hx C hp b k.right h.2)) fun De σ H => rs_while
  | .forr t o as b, ms, st, k, h => by
    obtain ⟨tg, iter, x, pos, rfl⟩ : ∃ tg iter x pos, st = .For tg iter x [] pos := by
      unfold chkS at h
      split at h
      · exact ⟨_, _, _, _, rfl⟩
      · cases h
    simp only [chkS, Bool.and_eq_true] at h
    obtain ⟨⟨⟨⟨h1, h2⟩, h3⟩, h4⟩, h5⟩ := h
    cases hi : iterArgs sc o as tg iter with
    | none => rw [hi] at h4; cases h4
    | some es =>
      rw [hi] at h4
      exact ps_imp (ps_for hp C.calm (iter_snd C hi (snd_As hx as C k.left h4)) (pg_T C h3) (snd_Ss hx C hp b k.right h5) (fold_set h2)) fun De σ H => rs_for h1 (okIt_of hi h3)
  | .forO t j b, ms, st, k, h => by
    obtain ⟨tg, x, p, body, pos, rfl⟩ : ∃ tg x p body pos, st = .For tg (.Name x p) body [] pos := by
      unfold chkS at h
      split at h
      · exact ⟨_, _, _, _, _, rfl⟩
      · cases h
    simp only [chkS, Bool.and_eq_true, decide_eq_true_eq] at h
    obtain ⟨⟨h1, ⟨⟨h2, h3⟩, h4⟩, h5⟩, h6⟩ := h
    obtain ⟨v1, v2, v3⟩ := vis_of C h3
    have pv : PE X (.Name x p) (tVar j) := pe_var (by rw [C.hN]; exact name_eq h2) v1 v2 v3
    exact ps_forget (ps_imp (ps_for hp C.calm (pi_fgt pv) (pg_fgt (pg_T C h1)) (snd_Ss hx C hp b k h6) (fun _ => rfl)) fun De σ H q => q) fun De σ H _ q => rs_forO (own_eq h4) h5 q
  | .ret e, ms, st, k, h => by
    obtain ⟨v, pos, rfl⟩ : ∃ v pos, st = .Return (some v) pos := by
      unfold chkS at h
      split at h
      · exact ⟨_, _, rfl⟩
      · cases h
    simp only [chkS, Bool.and_eq_true, Bool.or_eq_true, Bool.not_eq_true'] at h
    exact ps_imp (ps_ret (snd_E hx e C k h.2).1) fun De σ H => rs_ret fun ho => by
      rcases h.1 with z | z
      · rw [ho] at z; cases z
      · exact z
  | .retT as, ms, st, k, h => by
    obtain ⟨es, j, p, pos, rfl⟩ : ∃ es j p pos, st = .Return (some (.Tuple es j p)) pos := by
      unfold chkS at h
      split at h
      · exact ⟨_, _, _, _, rfl⟩
      · cases h
    simp only [chkS, Bool.and_eq_true, Bool.not_eq_true'] at h
    exact ps_imp (ps_ret (pe_tupX (snd_As hx as C k h.2).pa)) fun De σ H => rs_retT h.1.1 h.1.2
  | .retO i, ms, st, k, h => by
    obtain ⟨x, p, pos, rfl⟩ : ∃ x p pos, st = .Return (some (.Name x p)) pos := by
      unfold chkS at h
      split at h
      · exact ⟨_, _, _, rfl⟩
      · cases h
    simp only [chkS, Bool.and_eq_true, decide_eq_true_eq] at h
    obtain ⟨⟨⟨h1, h2⟩, h3⟩, h4⟩ := h
    obtain ⟨v1, v2, v3⟩ := vis_of C h2
    exact ps_imp (ps_ret (pe_var (i := i) (by rw [C.hN]; exact name_eq h1) v1 v2 v3)) fun De σ H => rs_retO (own_eq h3) h4
  | .retN, ms, st, k, h => by
    obtain ⟨pos, rfl⟩ : ∃ pos, st = .Return none pos := by
      unfold chkS at h
      split at h
      · exact ⟨_, rfl⟩
      · cases h
    simp only [chkS, Bool.not_eq_true'] at h
    exact ps_imp ps_retN fun De σ H => rs_retN h
  | .brk, ms, st, k, h => by
    cases st <;> first | (cases h; done) | skip
    exact ps_imp ps_break fun De σ H => rs_brk
  | .cnt, ms, st, k, h => by
    cases st <;> first | (cases h; done) | skip
    exact ps_imp ps_continue fun De σ H => rs_cnt
  | .pass, ms, st, k, h => by
    unfold chkS at h
    split at h
    · exact ps_imp ps_pass fun De σ H => rs_pass
    · exact ps_imp ps_doc fun De σ H => rs_pass
    · cases h
  | .never, ms, st, k, h => ps_imp ps_never fun De σ H => rs_never
theorem snd_Ss (hx : XOk XR) (C : CtxOk X sc fn N R) (hp : PassesOwn (model X.prog X.w) X.A X.env X.xe) : ∀ (s : Ss) {ms : List Bool} {st : List Stmt}, Kn X XR s.fns s.gls → chkSs N ms sc fn np own s st = true → PSs X st (tSs X.K ms R XR own np s)
  | .nil, ms, st, k, h => by
    cases st with
    | nil => exact pss_imp pss_nil fun De σ H => rs_nil
    | cons _ _ => simp [chkSs] at h
  | .cons s r, ms, st, k, h => by
    cases st with
    | nil => simp [chkSs] at h
    | cons x xs =>
      simp only [chkSs, Bool.and_eq_true] at h
      exact pss_imp (pss_cons (snd_S hx C hp s k.left h.1) (snd_Ss hx C hp r k.right h.2)) fun De σ H => rs_seq
  | .frz j r, ms, st, k, h => by
    simp only [chkSs, Bool.and_eq_true, decide_eq_true_eq] at h
    exact pss_imp (pss_frz (snd_Ss hx C hp r k h.2)) fun De σ H => rs_frz (own_eq h.1.1) h.1.2
end
end
end MP

/-! MP: a def by its mirror. -/
namespace MP
open PySem L2 PySem.Spec PyProof.Rows

section
variable {P : Program} {w : World} {K : PySem.W.Frag} {mg : Str → Option Value} {base : Heap}
/-- as L2.fn_of, where no repr is under way -/
theorem fn_ofG {CX : CXT} {k : Nat} {f : Addr} {name qual : Str} {params : Arguments} {body : List Stmt} {scope : Scope} {dV kV doc pm cdv ct oc : Value} {an od : Option Addr}
    {osl : Array (Option Value)} {N ps : List Str} {sp : Sp} (lk : K.lookup f = some ⟨oc, od, .func (PySem.W.fnOf name qual params body scope dV kV doc pm an cdv ct), osl⟩) (hcd : PySem.W.codeIn K cdv qual = true) (S : FnScope N ps scope)
    (len : ∀ vs H Q E, sp vs H Q E → vs.length = ps.length)
    (hbody : ∀ (A : Around) (outer : List PySem.Env) (s : Shared) (H : Hp) (vs : List V) (Q : VK) (E : XK), Room k (A.deeper (envOfC qual scope s.heap.objs.size f cdv)) → A.guards = some [] → sp vs H Q E →
      ∃ t, PSs (cxOf CX P w K mg base N qual scope f cdv A outer s H E) body t ∧ t { nx := fun _ H' => Q .non H', rt := Q } (L2.start N vs) H) :
    FnG P w K mg base CX (k + 1) f (PySem.W.fnOf name qual params body scope dV kV doc pm an cdv ct) ps sp := by
  refine ⟨len, fun A outer s H args us vs Q E hr hg e0 hb r hsp => ?_⟩
  have hl := len _ _ _ _ hsp
  have KX : K.In s.heap := e0.mod.kin.keeps fun b o e => (e0.bs b o e).1
  have lim : s.heap.NoLimit := e0.mod.nolimit.keeps fun b o e => (e0.bs b o e).1
  have hkind : ∀ y ∈ ps.zip us, scope.names.lookup y.1 = some .local ∨ (scope.names.lookup y.1 = some .cell ∧ ((cellsFrom (s.heap.objs.size + 1) scope.names []).lookup y.1).isSome = true) := fun ⟨n, v⟩ hy => by
    rcases S.par n (List.of_mem_zip hy).1 with q | q
    · exact .inl q
    · exact .inr ⟨q, PySem.W.cellsFrom_some _ _ _ (.inl q)⟩
  refine codeAny_call_function hr.depth (KX _ _ lk) rfl S.co S.gen rfl (PySem.W.codeRec_of KX hcd) (hb _ _ _ _ ?_)
  refine wpAny_newFunctionEnv_cells S.kind hkind fun env he s1 x => ?_
  subst he
  refine ⟨lim.keeps x.toInCall.keep, codeAny_func ?_⟩
  obtain ⟨t, ht, hq⟩ := hbody A outer s H vs Q E (hr.deeper _) hg hsp
  have I : Inv (cxOf CX P w K mg base N qual scope f cdv A outer s H E) [] (L2.start N vs) H s1 := inv_start S hr.hd e0 hl r x
  refine wpAny_mono (ht.run [] s1 (L2.start N vs) H _ I hq) (fun fl s' hs => ?_) fun e s' hs => hs
  have fin : ∀ {σ' : L2.St} {H' : Hp} {v : V} {u : Value}, Inv (cxOf CX P w K mg base N qual scope f cdv A outer s H E) [] σ' H' s' → RelV v u → Q v H' → CE outer P w H s Q u s' :=
    fun {σ' H' v u} J rv q => ⟨v, H', J.os, J.bare, J.base, J.hok, rv, q⟩
  cases fl with
  | ret u =>
    obtain ⟨v, σ', H', J, rv, q⟩ := hs
    exact fin J rv q
  | next =>
    obtain ⟨σ', H', J, q⟩ := hs
    exact fin (v := V.non) (u := Value.none) J rfl q
  | brk =>
    obtain ⟨_, _, _, q⟩ := hs
    exact False.elim q
  | cont =>
    obtain ⟨_, _, _, q⟩ := hs
    exact False.elim q
end

/-! ### the start -/
section
variable {K : PySem.W.Frag} {S : Addr → Prop} {H : Hp} {ms : List Bool}
theorem ArgsRel.at : ∀ {pm : List Bool} {vs : List V} {ds : List D}, ArgsRel K S H pm vs ds → ∀ (i : Nat) (d : D), ds[i]? = some d → ∃ v, vs[i]? = some v ∧ ((pm[i]? = some false ∧ Dt K S H v d) ∨ (pm[i]? = some true ∧ ∃ a, v = .ref a ∧ S a ∧ Cell K S H a d))
  | _, _, _, .nil, i, d, e => by simp at e
  | _, _, _, .shr h t, 0, d, e => by simp at e; subst e; exact ⟨_, rfl, .inl ⟨rfl, h⟩⟩
  | _, _, _, .own h c t, 0, d, e => by simp at e; subst e; exact ⟨_, rfl, .inr ⟨rfl, _, rfl, h, c⟩⟩
  | _, _, _, .shr h t, i + 1, d, e => by simpa using ArgsRel.at t i d (by simpa using e)
  | _, _, _, .own h c t, i + 1, d, e => by simpa using ArgsRel.at t i d (by simpa using e)
def env0 (n : Nat) (ds : List D) : Env := ds.map some ++ List.replicate (n - ds.length) none
theorem env0_get {n : Nat} {ds : List D} {i : Nat} {d : D} (h : getE (env0 n ds) i = some d) : ds[i]? = some d := by
  unfold getE env0 at h
  by_cases hi : i < ds.length
  · rw [List.getElem?_append_left (by simpa using hi), List.getElem?_map] at h
    cases e : ds[i]? with
    | none => rw [e] at h; cases h
    | some x => rw [e] at h; exact h
  · rw [List.getElem?_append_right (by simpa using hi), List.getElem?_replicate] at h
    split at h <;> cases h
theorem env0_at {n : Nat} {ds : List D} {i : Nat} {d : D} (h : ds[i]? = some d) : getE (env0 n ds) i = some d := by
  unfold getE env0
  have hi : i < ds.length := (List.getElem?_eq_some_iff.mp h).1
  rw [List.getElem?_append_left (by simpa using hi), List.getElem?_map, h]
  rfl
theorem start_get {N : List Str} {vs : List V} {i : Nat} {v : V} (h : (L2.start N vs)[i]? = some (some v)) : vs[i]? = some v := by
  unfold L2.start at h
  by_cases hi : i < vs.length
  · rw [List.getElem?_append_left (by simpa using hi), List.getElem?_map] at h
    cases e : vs[i]? with
    | none => rw [e] at h; cases h
    | some x => rw [e] at h; cases h; rfl
  · rw [List.getElem?_append_right (by simpa using hi), List.getElem?_replicate] at h
    split at h <;> cases h
theorem start_at {N : List Str} {vs : List V} {i : Nat} {v : V} (h : vs[i]? = some v) : (L2.start N vs)[i]? = some (some v) := by
  unfold L2.start
  have hi : i < vs.length := (List.getElem?_eq_some_iff.mp h).1
  rw [List.getElem?_append_left (by simpa using hi), List.getElem?_map, h]
  rfl
theorem rel_start {N : List Str} {pm : List Bool} {vs : List V} {ds : List D} (hS : ∀ a, S a → H a ≠ none) (ha : ArgsRel K S H pm vs ds) (hd : ∀ (i j : Nat) a, pm[i]? = some true → pm[j]? = some true → vs[i]? = some (V.ref a) → vs[j]? = some (V.ref a) → i = j)
    (hm : ∀ i, i < pm.length → ms[i]? = pm[i]?) (hn : pm.length ≤ N.length) : Rel ⟨K, S, pm.length, vs, H⟩ ms (env0 N.length ds) (L2.start N vs) H ∧ FOk ⟨K, S, pm.length, vs, H⟩ := by
  obtain ⟨l1, l2⟩ := ha.len
  have lt : ∀ {i : Nat} {v : V}, vs[i]? = some v → i < pm.length := fun {i v} e => by rw [← l1]; exact (List.getElem?_eq_some_iff.mp e).1
  have dat : ∀ {i : Nat} {v : V}, vs[i]? = some v → ∃ d, ds[i]? = some d := fun {i v} e => by
    have := lt e
    exact ⟨_, List.getElem?_eq_getElem (by omega)⟩
  have tab : ∀ a, Tab ⟨K, S, pm.length, vs, H⟩ ms (L2.start N vs) a → S a := fun a z => by
    rcases z with z | ⟨i, h1, h2⟩
    · exact z
    · have hv := start_get h2
      obtain ⟨d, hd'⟩ := dat hv
      obtain ⟨v, e1, e2⟩ := ha.at i d hd'
      rw [hv] at e1; cases e1
      rw [hm i (lt hv)] at h1
      rcases e2 with ⟨q, _⟩ | ⟨_, a', e, s, _⟩
      · rw [h1] at q; cases q
      · cases e; exact s
  have ex : Ext S H (Tab ⟨K, S, pm.length, vs, H⟩ ms (L2.start N vs)) H := fun a o n e => ⟨fun z => n (tab a z), e⟩
  refine ⟨⟨?_, fun i d e m => ?_, fun i d e m => ?_, fun i v m e => ?_, fun i j a m1 m2 e1 e2 => ?_, fun a ⟨i, m, e⟩ => ?_, fun j v _ _ e => start_at e, hS, fun a o e _ => e⟩, hS⟩
  · unfold env0 L2.start
    simp only [List.length_append, List.length_map, List.length_replicate]
    omega
  · have e := env0_get e
    obtain ⟨v, e1, e2⟩ := ha.at i d e
    refine ⟨v, start_at e1, ?_⟩
    rcases e2 with ⟨_, h⟩ | ⟨q, _⟩
    · exact h.mono ex
    · rw [hm i (lt e1)] at m
      exact absurd q m
  · have e := env0_get e
    obtain ⟨v, e1, e2⟩ := ha.at i d e
    rcases e2 with ⟨q, h⟩ | ⟨_, a, rfl, s, c⟩
    · rw [hm i (lt e1), q] at m; cases m
    · exact ⟨a, start_at e1, c.mono ex rfl⟩
  · obtain ⟨d, hd'⟩ := dat (start_get e)
    exact ⟨d, env0_at hd'⟩
  · have h1 := start_get e1
    have h2 := start_get e2
    rw [hm i (lt h1)] at m1
    rw [hm j (lt h2)] at m2
    exact hd i j a m1 m2 h1 h2
  · exact .inl ⟨i, lt (start_get e), m, start_get e⟩
theorem outs_rel {F : Fx} {env : Env} {σ : L2.St} {H' : Hp} (r : Rel F ms env σ H') (hF : ∀ a, F.S0 a → Tab F ms σ a) : ∀ {pm : List Bool} {vs : List V} {outs : List D} (j : Nat), outsOf env pm j = some outs → (∀ i, i < pm.length → ms[j + i]? = pm[i]?) → (∀ i, i < pm.length → F.vs[j + i]? = vs[i]?) → vs.length = pm.length → j + pm.length ≤ F.np → OutsRel F.K F.S0 H' pm vs outs
  | [], [], outs, j, e, _, _, _, _ => by
    simp only [outsOf, Option.some.injEq] at e
    subst e
    rfl
  | [], _ :: _, _, _, _, _, _, h, _ => by simp at h
  | _ :: _, [], _, _, _, _, _, h, _ => by simp at h
  | false :: pm, v :: vs, outs, j, e, hm, hv, hl, hn => by
    simp only [outsOf] at e
    simp only [OutsRel]
    simp only [List.length_cons] at hm hv hl hn
    refine outs_rel r hF (j + 1) e (fun i hi => ?_) (fun i hi => ?_) (by omega) (by omega)
    · have := hm (i + 1) (by omega); rw [Nat.add_assoc, Nat.add_comm 1 i]; simpa using this
    · have := hv (i + 1) (by omega); rw [Nat.add_assoc, Nat.add_comm 1 i]; simpa using this
  | true :: pm, v :: vs, outs, j, e, hm, hv, hl, hn => by
    simp only [outsOf] at e
    obtain ⟨d, e1, e2⟩ := Option.bind_eq_some_iff.mp e
    obtain ⟨os, e3, e4⟩ := Option.map_eq_some_iff.mp e2
    subst e4
    simp only [List.length_cons] at hm hv hl hn
    have m0 : ms[j]? = some true := by have := hm 0 (by omega); simpa using this
    have v0 : F.vs[j]? = some v := by have := hv 0 (by omega); simpa using this
    obtain ⟨a, ha, c⟩ := r.own j d e1 m0
    have := r.par j v (by omega) m0 v0
    rw [ha] at this; cases this
    simp only [OutsRel]
    refine ⟨a, d, os, rfl, rfl, c.mono (fun b o n e => ⟨fun z => n (hF b z), e⟩) rfl, outs_rel r hF (j + 1) e3 (fun i hi => ?_) (fun i hi => ?_) (by omega) (by omega)⟩
    · have := hm (i + 1) (by omega); rw [Nat.add_assoc, Nat.add_comm 1 i]; simpa using this
    · have := hv (i + 1) (by omega); rw [Nat.add_assoc, Nat.add_comm 1 i]; simpa using this
end

/-! ### a def -/
def GlbK (K : PySem.W.Frag) (mg : Str → Option Value) (x : Str) (c : D) : Prop := ∃ v u, mg x = some u ∧ RelV v u ∧ ∀ S H, Dt K S H v c
structure DefOk (P : Program) (w : World) (K : PySem.W.Frag) (mg : Str → Option Value) (base : Heap) (XR : XRel) (k : Nat) (f : Fn) : Prop where
  ex : ∃ (ad : Addr) (fd : FuncData) (ps : List Str), FnG P w K mg base (L2.CX P w) k ad fd ps (spM K XR f) ∧ mg f.name = some (.ref ad) ∧ PySem.W.keepIn K (.ref ad) = true ∧ (f.pos = true → Binds K fd ps []) ∧ ps.length = f.pm.length ∧ ∀ sh ∈ f.kw, KB K fd ps sh
def scB (N ps : List Str) (sc : Scope) : Bool := kindB sc && !sc.isCoroutine && !sc.isGenerator && decide N.Nodup && decide (N.take ps.length = ps) &&
  (ps.all fun x => match sc.names.lookup x with
    | some .local => true
    | some .cell => true
    | _ => false) && (sc.names.all fun y => !(y.2 == .free))
theorem sc_of {N ps : List Str} {sc : Scope} (h : scB N ps sc = true) : FnScope N ps sc := by
  unfold scB at h
  simp only [Bool.and_eq_true, Bool.not_eq_true', decide_eq_true_eq, List.all_eq_true] at h
  obtain ⟨⟨⟨⟨⟨⟨h1, h2⟩, h3⟩, h4⟩, h5⟩, h6⟩, h7⟩ := h
  refine ⟨?_, h2, h3, h4, h5, fun x hx => ?_, fun y hy e => ?_⟩
  · unfold kindB at h1
    split at h1
    · assumption
    · cases h1
  · have := h6 x hx
    split at this
    · exact .inl (by assumption)
    · exact .inr (by assumption)
    · cases this
  · have := h7 y hy
    rw [e] at this
    exact absurd this (by decide)
/-- all that is checked of a def's text -/
def defB (N ps : List Str) (ms pm : List Bool) (own : Bool) (body : Ss) (st : Stmt) : Bool :=
  scB N ps (defScope st) && decide (ps.length = pm.length) && decide (ms.take pm.length = pm) && decide (pm.length ≤ ms.length) && chkSs N ms (defScope st) (fun _ => true) pm.length own body (defBody st)
section
variable {P : Program} {w : World} {K : PySem.W.Frag} {mg : Str → Option Value} {base : Heap} {XR : XRel}
theorem DefOk.mono {j k : Nat} {f : Fn} (h : DefOk P w K mg base XR j f) (hj : j ≤ k) : DefOk P w K mg base XR k f := by
  obtain ⟨ad, fd, ps, F, r⟩ := h.ex
  exact ⟨ad, fd, ps, F.mono hj, r⟩
/-- another mirror that says no more -/
theorem DefOk.spec {k : Nat} {f : Fn} (h : DefOk P w K mg base XR k f) (g : Mir) (hg : ∀ ds, g ds ≠ .stuck → f.run ds = g ds) : DefOk P w K mg base XR k ⟨f.name, f.pm, f.own, g, f.kw, f.pos⟩ := by
  obtain ⟨ad, fd, ps, F, r⟩ := h.ex
  have imp : ∀ vs H Q E, spM K XR ⟨f.name, f.pm, f.own, g, f.kw, f.pos⟩ vs H Q E → spM K XR f vs H Q E := fun vs H Q E ⟨ds, S, hS, ha, hd, q⟩ => by
    refine ⟨ds, S, hS, ha, hd, ?_⟩
    have hn : g ds ≠ .stuck := fun z => by
      dsimp only at q
      rw [z] at q
      exact q
    rw [hg ds hn]
    exact q
  exact ⟨ad, fd, ps, ⟨fun vs H Q E q => F.len vs H Q E (imp _ _ _ _ q), fun A outer s H args us vs Q E hr hgu he hb hv hs => F.run A outer s H args us vs Q E hr hgu he hb hv (imp _ _ _ _ hs)⟩, r⟩
theorem def_g (hx : XOk XR) {x qual : Str} {st : Stmt} {f : Addr} {fd : FuncData} (F : Fun K x qual st f fd) {N ps : List Str} {ms pm : List Bool} {own : Bool} {body : Ss} {k : Nat}
    (hc : defB N ps ms pm own body st = true) (bl : ∀ x ∈ bltNames, mg (Str.ofString x) = none) (hf : ∀ g ∈ body.fns, DefOk P w K mg base XR k g) (hg : ∀ p ∈ body.gls, GlbK K mg p.1 p.2) {kw : List (Nat × List Str × List Pk)} {po : Bool} :
    FnG P w K mg base (L2.CX P w) (k + 1) f fd ps (spM K XR ⟨x, pm, own, runF pm own N.length body, kw, po⟩) := by
  unfold defB at hc
  simp only [Bool.and_eq_true, decide_eq_true_eq] at hc
  obtain ⟨⟨⟨⟨h1, h2⟩, h3⟩, h4⟩, h5⟩ := hc
  have S := sc_of h1
  obtain ⟨oc, od, kV, doc, pmv, an, cdv, ct, osl, rfl, lk, hcd⟩ := F.ex
  have hnl : pm.length ≤ N.length := by
    have := congrArg List.length S.pre
    rw [List.length_take] at this
    omega
  refine fn_ofG lk hcd S (fun vs H Q E ⟨ds, Sx, hS, ha, _⟩ => by rw [ha.len.1]; exact h2.symm) (fun A outer s H vs Q E hr hgu hsp => ?_)
  obtain ⟨ds, Sx, hS, ha, hd, q⟩ := hsp
  let X := cxOf (L2.CX P w) P w K mg base N qual (defScope st) f cdv A outer s H E
  have C : CtxOk X (defScope st) (fun _ => true) N (fun cls d _ H => E cls d H) :=
    ⟨rfl, S.nd, rfl, rfl, rfl, takes_of rfl rfl rfl rfl, hgu, by have := hr.un; show _ < cLine; exact Nat.lt_of_le_of_lt (by show _ ≤ _; exact Nat.add_le_add_left (by omega : 70 ≤ 16 * k + 200) _) (by rw [Nat.add_assoc] at this; exact this), bl⟩
  have kn : Kn X XR body.fns body.gls := ⟨fun g hg' => ⟨by
    obtain ⟨ad, fd', ps', G, g1, g2, g3, g4, g5⟩ := (hf g hg').ex
    exact ⟨k, ad, fd', ps', G, hr, g1, g2, g3, g4, g5⟩⟩, fun p hp => hg p hp⟩
  refine ⟨_, snd_Ss hx C (passes_of rfl) body kn h5, ?_⟩
  obtain ⟨hrel, hF⟩ := rel_start (ms := ms) (N := N) hS ha hd (fun i hi => by rw [← h3, List.getElem?_take_of_lt hi]) hnl
  have hl := ha.len
  refine ⟨_, _, rfl, hF, rfl, hrel, ?_⟩
  have fr : ∀ {env' : Env} {σ' : L2.St} {H' : Hp}, Rel ⟨K, Sx, pm.length, vs, H⟩ ms env' σ' H' → ∀ a o, H a = some o → ¬ InP pm vs a → H' a = some o := fun {env' σ' H'} r' a o e n => r'.hold a o e fun ⟨j, z1, z2, z3⟩ => n ⟨j, by rw [← h3, List.getElem?_take_of_lt z1]; exact z2, z3⟩
  have ou : ∀ {env' : Env} {σ' : L2.St} {H' : Hp} {os : List D}, Rel ⟨K, Sx, pm.length, vs, H⟩ ms env' σ' H' → outsOf env' pm 0 = some os → OutsRel K Sx H' pm vs os := fun {env' σ' H' os} r' e =>
    outs_rel (F := ⟨K, Sx, pm.length, vs, H⟩) r' (fun a z => .inl z) 0 e (fun i hi => by rw [Nat.zero_add, ← h3, List.getElem?_take_of_lt hi]) (fun i hi => by rw [Nat.zero_add]) hl.1 (by show 0 + pm.length ≤ pm.length; omega)
  dsimp only at q
  unfold runF at q
  rw [if_pos hl.2] at q
  have e0 : (ds.map some ++ List.replicate (N.length - ds.length) none : Env) = env0 N.length ds := rfl
  rw [e0] at q
  cases ev : evSs body (env0 N.length ds) with
  | ret d env' =>
    rw [ev] at q
    dsimp only at q
    intro v σ' H' sx r' rr
    cases eo : outsOf env' pm 0 with
    | none => rw [eo] at q; exact False.elim q
    | some os =>
      rw [eo] at q
      exact q v H' (fr r') (ou r' eo) rr
  | next env' =>
    rw [ev] at q
    dsimp only at q
    intro σ' H' sx r'
    cases own with
    | true => exact False.elim q
    | false =>
      cases eo : outsOf env' pm 0 with
      | none => rw [eo] at q; exact False.elim q
      | some os =>
        rw [eo] at q
        exact q .non H' (fr r') (ou r' eo) (res_dt .non)
  | exc c y env' =>
    rw [ev] at q
    dsimp only at q
    intro Cc dx σ' H' sx r' hxr
    cases eo : outsOf env' pm 0 with
    | none => rw [eo] at q; exact False.elim q
    | some os =>
      rw [eo] at q
      exact q Cc dx H' (fr r') (ou r' eo) (hx.dn _ _ _ _ _ _ _ (fun a z => .inl z) hxr)
  | brk env' => rw [ev] at q; exact False.elim q
  | cnt env' => rw [ev] at q; exact False.elim q
  | stuck => rw [ev] at q; exact False.elim q
theorem def_mp (hx : XOk XR) {x qual : Str} {st : Stmt} {f : Addr} {fd : FuncData} (F : Fun K x qual st f fd) {N ps : List Str} {ms pm : List Bool} {own : Bool} {body : Ss} {k : Nat} (hmg : mg x = some (.ref f)) (po : Bool) (hb : po = true → Binds K fd ps [])
    (hc : defB N ps ms pm own body st = true) (bl : ∀ x ∈ bltNames, mg (Str.ofString x) = none) (hf : ∀ g ∈ body.fns, DefOk P w K mg base XR k g) (hg : ∀ p ∈ body.gls, GlbK K mg p.1 p.2) {kw : List (Nat × List Str × List Pk)} (hkw : ∀ sh ∈ kw, KB K fd ps sh) :
    DefOk P w K mg base XR (k + 1) ⟨x, pm, own, runF pm own N.length body, kw, po⟩ := by
  have h2 : ps.length = pm.length := by
    unfold defB at hc
    simp only [Bool.and_eq_true, decide_eq_true_eq] at hc
    exact hc.1.1.1.2
  exact ⟨f, fd, ps, def_g hx F hc bl hf hg, hmg, F.kp, hb, h2, hkw⟩
end
/-- no exception -/
def XN : XRel := fun _ _ _ _ _ _ => False
theorem xn_ok : XOk XN := ⟨fun _ _ _ _ _ _ _ _ h => h, fun _ _ _ _ _ _ _ _ h => h⟩
end MP

/-! MP: a law by its mirror. -/
namespace MP
open PySem L2 PySem.Spec PyProof.Rows

section
variable {P : Program} {w : World} {K : PySem.W.Frag} {mg mb : Str → Option Value} {k : Nat} {fa a : Addr} {fd : FuncData} {x : Str} {t : Shared} {vs : List Value} {ns : List Int} {f : Fn}
/-- the only thing that may be tracked is the script -/
structure Bare1 (K : PySem.W.Frag) (P : Program) (w : World) (h : Heap) (a : Addr) (ns : List Int) (H : Hp) : Prop where
  one : ∀ b, H b ≠ none → b = a
  frz : ∀ b, H b = none ∨ ∃ o xs, H b = some (.frz o (.lst xs))
  has : SL K (fun _ => False) H a (ns.map V.int)
  ok : HOk P w H h
  out : H a ≠ none → K.lookup a = none
theorem bare1 (KX : K.In t.heap) (ha : t.heap.get? a = some { cls := .type "list", data := .seq vs.toArray }) (hi : IntsAre vs ns) (hl : ns.length ≤ sizeLine) : ∃ H : Hp, Bare1 K P w t.heap a ns H := by
  have rv := vals_ints hi
  have hlen := hi.length
  by_cases hk : K.lookup a = none
  · let H : Hp := fun b => if b = a then some (.frz { cls := .type "list", data := .seq vs.toArray } (.lst (ns.map V.int))) else none
    have at_a : H a = some (.frz { cls := .type "list", data := .seq vs.toArray } (.lst (ns.map V.int))) := if_pos rfl
    have off : ∀ {b : Addr}, b ≠ a → H b = none := fun n => if_neg n
    refine ⟨H, fun b h => Classical.byContradiction fun n => h (off n), fun b => ?_, .inl ⟨fun z => z, .inr ⟨_, at_a⟩⟩, fun b u z => ?_, fun _ => hk⟩
    · by_cases e : b = a
      · exact .inr ⟨_, _, by rw [e]; exact at_a⟩
      · exact .inl (off e)
    · by_cases e : b = a
      · subst e
        rw [at_a] at z
        cases z
        exact ⟨ha, by rw [List.length_map]; exact hl, vs, _, rv, ha⟩
      · rw [off e] at z
        cases z
  · obtain ⟨o, ho⟩ : ∃ o, K.lookup a = some o := by
      cases e : K.lookup a with
      | none => exact absurd e hk
      | some o => exact ⟨o, rfl⟩
    have q := KX a o ho
    rw [ha] at q
    cases q
    refine ⟨fun _ => none, fun b h => absurd rfl h, fun b => .inl rfl, .inr ⟨vs, _, ho, by rw [hlen]; exact hl, rv⟩, fun b u z => ?_, fun h => absurd rfl h⟩
    have z : (none : Option HO) = some u := z
    cases z
/-- the call of the law at the heap behind the top -/
theorem law_mp (KX : K.In t.heap) (hns : t.heap.Ns mainGlobals mg) (hb : t.heap.Ns builtinsNs mb) (hbb : ∀ x : Str, x ≠ "__name__" → mb x = bootBuiltins x) (hlim : t.heap.NoLimit) (hg : t.gens = #[])
    (ha : t.heap.get? a = some { cls := .type "list", data := .seq vs.toArray }) (hi : IntsAre vs ns) (hl : ns.length ≤ sizeLine) (hr : Room k callerA)
    (hF : ∀ base : Heap, K.In base → base.Ns mainGlobals mg → FnG P w K mg base (L2.CX P w) k fa fd [x] (spM K XN f)) (hbind : ∀ (s : Shared) (u : Value), BindsTo s fd ⟨[u], []⟩ [(x, u)])
    (hpm : f.pm = [false]) (hown : f.own = false) (hrun : f.run [.list (ns.map .int)] = .ok (.bool true) []) :
    codeAny (model P w) callerA (.call (.ref fa) ⟨[.ref a], []⟩) (fun r s' => r = .ok (.ret (.bool true)) ∧ OldK t.heap s'.heap ∧ s'.os = t.os ∧ AllBare s'.gens) t := by
  obtain ⟨H, B⟩ := bare1 (P := P) (w := w) KX ha hi hl
  have clear : ∀ {b : Addr} {o : Obj}, t.heap.get? b = some o → b ≠ a → (hidT t.heap H).get? b = some o := fun {b o} e n => hidT_get e (Classical.byContradiction fun z => n (B.one b z))
  have dictOff : ∀ {b : Addr} {o : Obj} {es : Array DictEntry} {ep : Nat}, t.heap.get? b = some o → o.data = .dict es ep → b ≠ a := fun {b o es ep} e d z => by
    subst z
    rw [ha] at e
    cases e
    cases (show Data.seq vs.toArray _ = Data.dict es ep from d)
  have nsH : ∀ {b : Addr} {m : Str → Option Value}, t.heap.Ns b m → (hidT t.heap H).Ns b m := fun {b m} ⟨o, es, ep, e, d, r⟩ => ⟨o, es, ep, clear e (dictOff e d), d, r⟩
  have kH : K.In (hidT t.heap H) := fun b o e => by
    by_cases z : H b = none
    · exact hidT_get (KX b o e) z
    · have eb := B.one b z
      subst eb
      rw [B.out z] at e
      cases e
  have M : Mod K mg (hidT t.heap H) := ⟨kH, nsH hns, ⟨mb, nsH hb, hbb⟩, by obtain ⟨mc, h1, h2⟩ := hlim; exact ⟨mc, nsH h1, h2⟩⟩
  have E0 : Env0 P w K mg (hidT t.heap H) callerA [] t H := ⟨rfl, M, fun b o e => of_hidT e, Nat.le_of_eq (hidT_size _ _), trivial, (fun b hb => by cases hb), B.ok, .of_eq hg⟩
  have sp : spM K XN f [.ref a] H (fun v _ => v = .bl true) fun _ _ _ => False := by
    refine ⟨[.list (ns.map .int)], fun _ => False, fun _ z => z.elim, ?_, fun i j b h1 => ?_, ?_⟩
    · rw [hpm]
      exact .shr (.lst B.has (DtAll.of_ints ns)) .nil
    · rw [hpm] at h1
      cases i <;> simp at h1
    · rw [hrun]
      intro v H' _ _ rr
      rw [hown] at rr
      have := rr.dt fun _ z => z.elim
      cases this
      rfl
  refine codeAny_mono ((hF _ kH (nsH hns)).run callerA [] t H ⟨[.ref a], []⟩ [.ref a] [.ref a] _ _ hr rfl E0 (hbind t (.ref a)) (.cons rfl .nil) sp) fun r s' h => ?_
  match r, h with
  | .error e, h =>
    obtain ⟨_, _, _, _, _, _, _, _, _, _, _, _, z⟩ := h
    exact z.elim
  | .ok .next, h => exact h.elim
  | .ok .brk, h => exact h.elim
  | .ok .cont, h => exact h.elim
  | .ok (.ret u), h =>
    obtain ⟨v, H', os, bare, un, hok', r', q⟩ := h
    have q : v = .bl true := q
    subst q
    obtain rfl : u = Value.bool true := r'
    refine ⟨rfl, OldK.of_keep fun b o e => ?_, os, bare⟩
    rcases B.frz b with z | ⟨ob, xs, z⟩
    · exact un.keep b o e z (fun y => by cases y) (by simp)
    · have z2 := un.frzs b ob _ z
      obtain ⟨e1, _⟩ := B.ok b _ z
      obtain ⟨e2, _⟩ := hok' b _ z2
      rw [e] at e1
      cases e1
      exact e2
end
/-- what k_head leaves, from the law's mirror -/
theorem walk_mp {l : PySem.W.OpenLaw} {n k : Nat} {q : Program} {loose : List Str} {XP : (Str → Option Value) → Heap → Prop} {YP : World → Heap → Prop} {d : DefRec} {K : Params → PySem.W.Frag} {x : Str} (f : Fn)
    (hn : l.most = some n) (hn2 : n ≤ sizeLine) (hdf : d.params.defaults = []) (hr : Room k callerA)
    (hY : ∀ (w : World) (h : Heap), YP w h → (K w.params).In h)
    (F : ∀ (w : World) (mg : Str → Option Value) (fa : Addr) (h : Heap), (K w.params).In h → h.Ns mainGlobals mg → mg d.name = some (.ref fa) →
      ∃ fd : FuncData, (∀ (s : Shared) (u : Value), BindsTo s fd ⟨[u], []⟩ [(x, u)]) ∧
        ∀ base : Heap, (K w.params).In base → base.Ns mainGlobals mg → FnG l.prog w (K w.params) mg base (L2.CX l.prog w) k fa fd [x] (spM (K w.params) XN f))
    (hpm : f.pm = [false]) (hown : f.own = false) (hrun : ∀ ns : List Int, ns.length ≤ n → f.run [.list (ns.map .int)] = .ok (.bool true) []) :
    PySem.W.WalkO q loose XP YP l.row.toRowW d [] (fun f vs => PySem.call f vs) := by
  refine Att.attach_call hn hdf fun w s0 s1 mg mb fa o pm cd doc a vs ns G Y ho hd hcd hmg hobj hints hlen hg => ?_
  have kx := hY w _ Y
  obtain ⟨fd, hb, hF⟩ := F w mg fa _ kx G.T.g hmg
  exact law_mp kx G.T.g G.T.b G.T.builtins G.T.nolimit hg hobj hints (Nat.le_trans hlen hn2) hr hF hb hpm hown (hrun ns hlen)
end MP

/-! MP: reckoning with mirrors, step by step. -/
namespace MP
open PySem

/-! ### what is reckoned is the head alone: what follows has names -/
theorem bindF {α β : Type} {x : Res α} {k l : α → Env → Res β} (h : ∀ a e, k a e = l a e) : x.bind k = x.bind l := by
  cases x with
  | ok a e => exact h a e
  | exc c v e => rfl
  | stuck => rfl
theorem goF {α : Type} {x : Res α} {k l : α → Env → SRes} (h : ∀ a e, k a e = l a e) : x.go k = x.go l := by
  cases x with
  | ok a e => exact h a e
  | exc c v e => rfl
  | stuck => rfl
/-- what is wanted of what a reckoning gives -/
structure Rns (Q : SRes → Prop) (r : SRes) : Prop where
  run : Q r

def Res.get (o : Option D) (env : Env) : Res D := match o with
  | some d => .ok d env
  | none => .stuck
def Res.gets (o : Option (List D)) (env : Env) : Res (List D) := match o with
  | some d => .ok d env
  | none => .stuck
def nxt (o : Option Env) : SRes := match o with
  | some e => .next e
  | none => .stuck
/-- a choice of blocks: nothing is reckoned until it is made -/
def iteS (c : Bool) (x y : Ss) (env : Env) : SRes := if c then evSs x env else evSs y env
def iteR (c : Bool) (x y : Res D) : Res D := if c then x else y
/-- a choice of expressions: nothing is reckoned until it is made -/
def iteQ (c : Bool) (x y : E) (env : Env) : Res D := if c then evE x env else evE y env
section
variable {α β : Type} {a : α} {d : D} {ds : List D} {env e : Env} {x : Option D} {n : Nat} {x y : SRes} {r s : Res D}
theorem m_bind {f : α → Env → Res β} : (Res.ok a env).bind f = f a env := rfl
theorem m_go {f : α → Env → SRes} : (Res.ok a env).go f = f a env := rfl
theorem m_next {f : Env → SRes} : (SRes.next env).go f = f env := rfl
theorem m_ret {f : Env → SRes} : (SRes.ret d env).go f = .ret d env := rfl
theorem m_brk {f : Env → SRes} : (SRes.brk env).go f = .brk env := rfl
theorem m_cnt {f : Env → SRes} : (SRes.cnt env).go f = .cnt env := rfl
theorem m_exc {f : Env → SRes} {c : Str} {v : Option D} : (SRes.exc c v env).go f = .exc c v env := rfl
theorem m_excE {f : α → Env → SRes} {c : Str} {v : Option D} : (Res.exc c v env).go f = .exc c v env := rfl
theorem m_excB {f : α → Env → Res β} {c : Str} {v : Option D} : (Res.exc c v env : Res α).bind f = .exc c v env := rfl
def kThen (f g : Env → SRes) (e : Env) : SRes := (f e).go g
theorem m_kThen {f g : Env → SRes} : kThen f g e = (f e).go g := rfl
theorem m_gogo {f g : Env → SRes} : (x.go f).go g = x.go (kThen f g) := by cases x <;> rfl
theorem m_isT {b : Bool} : isT (.ok (.bool b) env) = .ok b env := rfl
theorem m_isTx {c : Str} {v : Option D} : isT (.exc c v env) = .exc c v env := rfl
theorem m_get0 {x : Option D} : getE (x :: env) 0 = x := rfl
theorem m_getS {x : Option D} : getE (x :: env) (n + 1) = getE env n := rfl
theorem m_get : Res.get (some d) env = .ok d env := rfl
theorem m_gets : Res.gets (some ds) env = .ok ds env := rfl
theorem m_nxt : nxt (some e) = .next e := rfl
theorem m_iteSt {x y : Ss} : iteS true x y env = evSs x env := rfl
theorem m_iteSf {x y : Ss} : iteS false x y env = evSs y env := rfl
theorem m_iteRt : iteR true r s = r := rfl
theorem m_iteRf : iteR false r s = s := rfl
theorem m_iteRb {b c : Bool} : iteR c (.ok (.bool b) env) (.ok (.bool false) env) = .ok (.bool (c && b)) env := by cases c <;> rfl
theorem m_iteRo {b c : Bool} : iteR c (.ok (.bool true) env) (.ok (.bool b) env) = .ok (.bool (c || b)) env := by cases c <;> rfl
theorem m_set0 {x y : Option D} : (x :: env).set 0 y = y :: env := rfl
theorem m_setS {x y : Option D} : (x :: env).set (n + 1) y = x :: env.set n y := rfl
end

/-! ### expressions -/
section
variable {env : Env} {i : Nat} {c d : D} {x : Str} {o p : Op} {as : As} {a b t : E} {f : Fn} {r : As} {ds : List D} {m : MOp}
def kDdv (k : Int) (d : D) (env : Env) : Res D := .ok (.dict [(.int k, d)]) env
theorem m_kDdv {k : Int} : kDdv k d env = .ok (.dict [(.int k, d)]) env := rfl
theorem e_ddv {k : Int} : evE (.ddv k i) env = (Res.get (getE env i) env).bind (kDdv k) := by rw [evE]; cases getE env i <;> rfl
theorem e_var : evE (.var i) env = Res.get (getE env i) env := by rw [evE]; cases getE env i <;> rfl
theorem e_con : evE (.con c) env = .ok c env := by rw [evE]
theorem e_glb : evE (.glb x c) env = .ok c env := by rw [evE]
def kRun (o : Op) (ds : List D) (env : Env) : Res D := Res.get (o.run ds) env
theorem m_kRun : kRun o ds env = Res.get (o.run ds) env := rfl
def primK (o : Op) (as : As) (ds : List D) (env : Env) : Res D := (Res.gets (fixA as ds env) env).bind (kRun o)
theorem e_prim : evE (.prim o as) env = (evAs as env).bind (primK o as) := by
  rw [evE]; refine bindF fun ds env' => ?_; unfold primK
  cases fixA as ds env' with
  | none => rfl
  | some ds' => show (match o.run ds' with | some d => Res.ok d env' | none => .stuck) = Res.get (o.run ds') env'; cases o.run ds' <;> rfl
theorem m_primK : primK o as ds env = (Res.gets (fixA as ds env) env).bind (kRun o) := rfl
def kAnd (b : E) (c : Bool) (env : Env) : Res D := iteR c (evE b env) (.ok (.bool false) env)
theorem m_kAnd {c : Bool} : kAnd b c env = iteR c (evE b env) (.ok (.bool false) env) := rfl
def kOr (b : E) (c : Bool) (env : Env) : Res D := iteR c (.ok (.bool true) env) (evE b env)
theorem m_kOr {c : Bool} : kOr b c env = iteR c (.ok (.bool true) env) (evE b env) := rfl
def kNot (c : Bool) (env : Env) : Res D := .ok (.bool (!c)) env
theorem m_kNot {c : Bool} : kNot c env = .ok (.bool (!c)) env := rfl
def kIte (a b : E) (c : Bool) (env : Env) : Res D := iteQ c a b env
theorem m_kIte {c : Bool} : kIte a b c env = iteQ c a b env := rfl
theorem m_iteQt : iteQ true a b env = evE a env := rfl
theorem m_iteQf : iteQ false a b env = evE b env := rfl
theorem e_and : evE (.and a b) env = (isT (evE a env)).bind (kAnd b) := by rw [evE]; rfl
theorem e_or : evE (.or a b) env = (isT (evE a env)).bind (kOr b) := by rw [evE]; rfl
theorem e_not : evE (.not a) env = (isT (evE a env)).bind kNot := by rw [evE]; rfl
theorem e_ite : evE (.ite t a b) env = (isT (evE t env)).bind (kIte a b) := by rw [evE]; rfl
def kOrv (b : E) (d : D) (env : Env) : Res D := match d with
  | .list [] => evE b env
  | .list (x :: xs) => .ok (.list (x :: xs)) env
  | _ => .stuck
theorem m_kOrv0 : kOrv b (.list []) env = evE b env := rfl
theorem m_kOrvS {x : D} {xs : List D} : kOrv b (.list (x :: xs)) env = .ok (.list (x :: xs)) env := rfl
theorem e_orv : evE (.orv a b) env = (evE a env).bind (kOrv b) := by
  rw [evE]
  refine bindF fun d e => ?_
  unfold kOrv
  cases d with
  | list xs => cases xs <;> rfl
  | _ => rfl
def kRun2 (p : Op) (y z : D) (env : Env) : Res D := Res.get (p.run [y, z]) env
theorem m_kRun2 {y z : D} : kRun2 p y z env = Res.get (p.run [y, z]) env := rfl
def chK (p : Op) (y : D) (c : E) (env : Env) : Option D → Res D
  | some (.bool true) => (evE c env).bind (kRun2 p y)
  | some (.bool false) => .ok (.bool false) env
  | _ => .stuck
theorem m_chK {q : Bool} {y : D} {c : E} : chK p y c env (some (.bool q)) = iteR q ((evE c env).bind (kRun2 p y)) (.ok (.bool false) env) := by cases q <;> rfl
def kCh2 (o p : Op) (c : E) (x y : D) (env : Env) : Res D := chK p y c env (o.run [x, y])
theorem m_kCh2 {c : E} {x y : D} : kCh2 o p c x y env = chK p y c env (o.run [x, y]) := rfl
def kCh1 (o p : Op) (b c : E) (x : D) (env : Env) : Res D := (evE b env).bind (kCh2 o p c x)
theorem m_kCh1 {c : E} {x : D} : kCh1 o p b c x env = (evE b env).bind (kCh2 o p c x) := rfl
theorem e_chain {c : E} : evE (.chain o p a b c) env = (evE a env).bind (kCh1 o p b c) := by
  show _ = (evE a env).bind fun x env1 => (evE b env1).bind fun y env2 => chK p y c env2 (o.run [x, y])
  rw [evE]
  refine bindF fun x env1 => bindF fun y env2 => ?_
  unfold chK
  cases o.run [x, y] with
  | none => rfl
  | some q =>
    cases q with
    | bool q =>
      cases q
      · rfl
      · show (Res.bind _ fun z env3 => match p.run [y, z] with | some d => Res.ok d env3 | none => .stuck) = Res.bind _ fun z env3 => Res.get (p.run [y, z]) env3
        refine bindF fun z env3 => ?_
        cases p.run [y, z] <;> rfl
    | _ => rfl
/-- the call itself: what the mirror gives, put back into the slots -/
def callOut (pm : List Bool) (own : Bool) (os : List (Option Nat)) (env : Env) : Out → Res D
  | .ok d outs => if lends pm os && !plainRes own d then .stuck else match putAll env (inouts pm os) outs with
    | some env' => .ok d env'
    | none => .stuck
  | .exc c v outs => match putAll env (inouts pm os) outs with
    | some env' => .exc c v env'
    | none => .stuck
  | .stuck => .stuck
theorem runCall_eq {os : List (Option Nat)} : runCall f os ds env = callOut f.pm f.own os env (f.run ds) := by
  unfold runCall callOut
  cases f.run ds <;> rfl
theorem m_callK (nm : Str) (pm : List Bool) (own : Bool) (run : Mir) (kw) (po) {os : List (Option Nat)} : runCall ⟨nm, pm, own, run, kw, po⟩ os ds env = callOut pm own os env (run ds) := runCall_eq
theorem callOut_ok {pm : List Bool} {own : Bool} {os : List (Option Nat)} {env' : Env} {outs : List D} (h1 : (lends pm os && !plainRes own d) = false) (h2 : putAll env (inouts pm os) outs = some env') : callOut pm own os env (.ok d outs) = .ok d env' := by
  simp only [callOut, h1, h2, Bool.false_eq_true, if_false]
def kPut (b : Bool) (d : D) : Option Env → Res D
  | some env' => if b then .stuck else .ok d env'
  | none => .stuck
theorem m_kPut : kPut false d (some env) = .ok d env := rfl
theorem m_callOut {pm : List Bool} {own : Bool} {os : List (Option Nat)} {outs : List D} : callOut pm own os env (.ok d outs) = kPut (lends pm os && !plainRes own d) d (putAll env (inouts pm os) outs) := by
  simp only [callOut]
  cases lends pm os && !plainRes own d <;> cases putAll env (inouts pm os) outs <;> rfl
theorem m_lends0 : lends [] [] = false := rfl
theorem m_lendsF {pm : List Bool} {os : List (Option Nat)} : lends (false :: pm) (none :: os) = lends pm os := by simp [lends]
theorem m_lendsS {pm : List Bool} {os : List (Option Nat)} : lends (false :: pm) (some i :: os) = true := by simp [lends]
theorem m_lendsT {pm : List Bool} {os : List (Option Nat)} {o : Option Nat} : lends (true :: pm) (o :: os) = lends pm os := by simp [lends]
theorem m_inouts0 : inouts [] [] = [] := rfl
theorem m_inoutsF {pm : List Bool} {os : List (Option Nat)} {o : Option Nat} : inouts (false :: pm) (o :: os) = inouts pm os := by cases o <;> simp [inouts]
theorem m_inoutsN {pm : List Bool} {os : List (Option Nat)} : inouts (true :: pm) (none :: os) = inouts pm os := by simp [inouts]
theorem m_inoutsS {pm : List Bool} {os : List (Option Nat)} : inouts (true :: pm) (some i :: os) = i :: inouts pm os := by simp [inouts]
theorem m_putAll0 : putAll env [] [] = some env := rfl
theorem m_putAllS {is : List Nat} : putAll env (i :: is) (d :: ds) = putAll (env.set i (some d)) is ds := rfl
theorem m_plainI {b : Bool} {z : Int} : plainRes b (.int z) = true := by cases b <;> rfl
theorem m_plainN {b : Bool} : plainRes b .none = true := by cases b <;> rfl
theorem m_plainB {b c : Bool} : plainRes b (.bool c) = true := by cases b <;> rfl
def kCall (f : Fn) (os : List (Option Nat)) (ds : List D) (env : Env) : Res D := runCall f os ds env
theorem m_kCall {os : List (Option Nat)} : kCall f os ds env = runCall f os ds env := rfl
def callE (f : Fn) (as : As) (ds : List D) (env : Env) : Res D := (Res.gets (fixA as ds env) env).bind (kCall f as.owns)
theorem e_call : evE (.call f as) env = (evAs as env).bind (callE f as) := by
  rw [evE]; refine bindF fun ds env' => ?_; unfold callE
  cases fixA as ds env' <;> rfl
theorem m_callE : callE f as ds env = (Res.gets (fixA as ds env) env).bind (kCall f as.owns) := rfl
def callKK (f : Fn) (as as2 : As) (perm : List Pk) (ds es : List D) (env : Env) : Res D := match permO perm (as.toL ++ as2.toL), permD perm (ds ++ es) with
  | some pa, some qs => callE f pa qs env
  | _, _ => .stuck
def kKw (f : Fn) (as as2 : As) (perm : List Pk) (ds : List D) (env : Env) : Res D := (evAs as2 env).bind (callKK f as as2 perm ds)
theorem m_kKw {as2 : As} {perm : List Pk} : kKw f as as2 perm ds env = (evAs as2 env).bind (callKK f as as2 perm ds) := rfl
theorem e_callK {as2 : As} {kws : List Str} {perm : List Pk} : evE (.callK f as as2 kws perm) env = (evAs as env).bind (kKw f as as2 perm) := by
  show _ = (evAs as env).bind fun ds env1 => (evAs as2 env1).bind fun es env2 => callKK f as as2 perm ds es env2
  rw [evE]; refine bindF fun ds env' => ?_; refine bindF fun es env2 => ?_; unfold callKK callE
  cases permO perm (as.toL ++ as2.toL) with
  | none => rfl
  | some pa =>
    cases permD perm (ds ++ es) with
    | none => rfl
    | some qs => show (match fixA pa qs env2 with | some qs' => runCall f pa.owns qs' env2 | none => .stuck) = (Res.gets (fixA pa qs env2) env2).bind fun ds env => runCall f pa.owns ds env; cases fixA pa qs env2 <;> rfl
theorem callKK_eq {as2 : As} {perm : List Pk} {es : List D} {pa : As} {qs : List D} (h1 : permO perm (as.toL ++ as2.toL) = some pa) (h2 : permD perm (ds ++ es) = some qs) : callKK f as as2 perm ds es env = callE f pa qs env := by
  unfold callKK; rw [h1, h2]
def mutK (m : MOp) (i : Nat) (as : As) (ds : List D) (env : Env) : Res D := (Res.gets (fixA as ds env) env).bind fun ds env => (Res.get (getE env i) env).bind fun cur env => match m.run cur ds with
  | some (d, new) => .ok d (env.set i (some new))
  | none => .stuck
def putM (i : Nat) (env : Env) : Option (D × D) → Res D
  | some (d, new) => .ok d (env.set i (some new))
  | none => .stuck
theorem m_putM {new : D} : putM i env (some (d, new)) = .ok d (env.set i (some new)) := rfl
def kMut2 (m : MOp) (i : Nat) (ds : List D) (cur : D) (env : Env) : Res D := putM i env (m.run cur ds)
theorem m_kMut2 {cur : D} : kMut2 m i ds cur env = putM i env (m.run cur ds) := rfl
def kMut1 (m : MOp) (i : Nat) (ds : List D) (env : Env) : Res D := (Res.get (getE env i) env).bind (kMut2 m i ds)
theorem m_kMut1 : kMut1 m i ds env = (Res.get (getE env i) env).bind (kMut2 m i ds) := rfl
theorem m_mutK : mutK m i as ds env = (Res.gets (fixA as ds env) env).bind (kMut1 m i) := by
  show _ = (Res.gets (fixA as ds env) env).bind fun ds env => (Res.get (getE env i) env).bind fun cur env => putM i env (m.run cur ds)
  unfold mutK; refine bindF fun ds env => bindF fun cur env => ?_; cases m.run cur ds <;> rfl
def kMut0 (m : MOp) (i : Nat) (as : As) (d : D) (env : Env) : Res D := match d with
  | .list _ => (evAs as env).bind (mutK m i as)
  | _ => .stuck
theorem m_kMut0 {xs : List D} : kMut0 m i as (.list xs) env = (evAs as env).bind (mutK m i as) := rfl
theorem e_mut : evE (.mut m i as) env = (Res.get (getE env i) env).bind (kMut0 m i as) := by
  rw [evE]
  cases getE env i with
  | none => rfl
  | some z =>
    cases z <;> try rfl
    show _ = Res.bind (evAs as env) _
    refine bindF fun ds env' => ?_; unfold mutK
    cases fixA as ds env' with
    | none => rfl
    | some ds' =>
      show _ = Res.bind (Res.get (getE env' i) env') _
      cases getE env' i with
      | none => rfl
      | some cur => rfl
theorem as_nil : evAs .nil env = .ok [] env := by rw [evAs]
def kCons (d : D) (ds : List D) (env : Env) : Res (List D) := .ok (d :: ds) env
theorem m_kCons : kCons d ds env = .ok (d :: ds) env := rfl
def kAs (r : As) (d : D) (env : Env) : Res (List D) := (evAs r env).bind (kCons d)
theorem m_kAs : kAs r d env = (evAs r env).bind (kCons d) := rfl
theorem as_cons {o : O} : evAs (.cons o r) env = (evO o env).bind (kAs r) := by rw [evAs]; rfl
theorem o_val : evO (.val a) env = evE a env := by rw [evO]
def kOwn (_ : D) (env : Env) : Res D := .ok .none env
theorem m_kOwn : kOwn d env = .ok .none env := rfl
theorem o_own : evO (.own i) env = (Res.get (getE env i) env).bind kOwn := by rw [evO]; cases getE env i <;> rfl
theorem fx_nil : fixA .nil [] env = some [] := by rw [fixA]
def fxC (d : D) : Option (List D) → Option (List D)
  | some r => some (d :: r)
  | none => none
theorem fxC_some : fxC d (some ds) = some (d :: ds) := rfl
theorem fx_val : fixA (.cons (.val a) r) (d :: ds) env = fxC d (fixA r ds env) := by
  rw [fixA]; show Option.bind (some d) _ = _; cases h : fixA r ds env <;> simp [h, fxC]
def fxO (x : Option D) (r : Option (List D)) : Option (List D) := match x, r with
  | some d, some r => some (d :: r)
  | _, _ => none
theorem fxO_some : fxO (some d) (some ds) = some (d :: ds) := rfl
theorem fx_own : fixA (.cons (.own i) r) (d :: ds) env = fxO (getE env i) (fixA r ds env) := by
  rw [fixA]; show Option.bind (getE env i) _ = _
  cases getE env i with
  | none => rfl
  | some z => cases h : fixA r ds env <;> simp [h, fxO]
theorem own_nil : As.owns .nil = [] := rfl
theorem own_val : As.owns (.cons (.val a) r) = none :: r.owns := rfl
theorem own_own : As.owns (.cons (.own i) r) = some i :: r.owns := rfl
theorem tl_nil : As.toL .nil = [] := rfl
theorem tl_cons {o : O} : As.toL (.cons o r) = o :: r.toL := rfl
def sl2K (fr : Bool) (d x y : D) (env : Env) : Res D := match x, y with
  | .int i, .int j => Res.get ((Op.slice fr true true).run [d, .int i, .int j]) env
  | _, _ => .stuck
theorem m_sl2K {fr : Bool} {i j : Int} : sl2K fr d (.int i) (.int j) env = Res.get ((Op.slice fr true true).run [d, .int i, .int j]) env := rfl
def sl2L (fr : Bool) (o : O) (u : E) (d x : D) (env : Env) : Res D := match x with
  | .int i => (evE u env).bind fun y env3 => (Res.get (fixO o d env3) env3).bind fun d' env3 => sl2K fr d' (.int i) y env3
  | _ => .stuck
def kSl3 (fr : Bool) (i : Int) (y d : D) (env : Env) : Res D := sl2K fr d (.int i) y env
theorem m_kSl3 {fr : Bool} {i : Int} {y : D} : kSl3 fr i y d env = sl2K fr d (.int i) y env := rfl
def kSl2 (fr : Bool) (o : O) (d : D) (i : Int) (y : D) (env : Env) : Res D := (Res.get (fixO o d env) env).bind (kSl3 fr i y)
theorem m_kSl2 {fr : Bool} {o : O} {i : Int} {y : D} : kSl2 fr o d i y env = (Res.get (fixO o d env) env).bind (kSl3 fr i y) := rfl
theorem m_sl2L {fr : Bool} {o : O} {u : E} {i : Int} : sl2L fr o u d (.int i) env = (evE u env).bind (kSl2 fr o d i) := rfl
def kSl1 (fr : Bool) (o : O) (l u : E) (d : D) (env : Env) : Res D := (evE l env).bind (sl2L fr o u d)
theorem m_kSl1 {fr : Bool} {o : O} {l u : E} : kSl1 fr o l u d env = (evE l env).bind (sl2L fr o u d) := rfl
theorem e_sl2 {fr : Bool} {o : O} {l u : E} : evE (.sl2 fr o l u) env = (evO o env).bind (kSl1 fr o l u) := by
  show _ = (evO o env).bind fun d env1 => (evE l env1).bind fun x env2 => sl2L fr o u d x env2
  rw [evE]; refine bindF fun d env1 => ?_; refine bindF fun x env2 => ?_
  cases x with
  | int i =>
    refine bindF fun y env3 => ?_
    cases y with
    | int j =>
      cases h : fixO o d env3 with
      | none => simp [h, Res.get, Res.bind]
      | some d' => simp [h, Res.get, Res.bind, sl2K] <;> rfl
    | _ => cases h : fixO o d env3 <;> simp [h, Res.get, Res.bind, sl2K]
  | _ => rfl
/-- methods that read -/
def kMthR (m : Mth) (cur : D) (ds : List D) (env : Env) : Res D := Res.get (m.run cur ds) env
theorem m_kMthR {m : Mth} {cur : D} : kMthR m cur ds env = Res.get (m.run cur ds) env := rfl
def mthG (m : Mth) (as : As) (ds : List D) (env : Env) : Option D → Res D
  | some cur => (Res.gets (fixA as ds env) env).bind (kMthR m cur)
  | none => .stuck
theorem m_mthG {m : Mth} {cur : D} : mthG m as ds env (some cur) = (Res.gets (fixA as ds env) env).bind (kMthR m cur) := rfl
def kMth2 (m : Mth) (o : O) (as : As) (d : D) (ds : List D) (env : Env) : Res D := mthG m as ds env (fixO o d env)
theorem m_kMth2 {m : Mth} {o : O} : kMth2 m o as d ds env = mthG m as ds env (fixO o d env) := rfl
def mthF (m : Mth) (o : O) (as : As) (d : D) (env : Env) : Option D → Res D
  | some cur => if m.fits cur = true then (evAs as env).bind (kMth2 m o as d) else .stuck
  | none => .stuck
theorem m_mthGet1 {o : O} {kvs : List (D × D)} : mthF .get1 o as d env (some (.dict kvs)) = (evAs as env).bind (kMth2 .get1 o as d) := rfl
theorem m_mthGet2 {o : O} {kvs : List (D × D)} : mthF .get2 o as d env (some (.dict kvs)) = (evAs as env).bind (kMth2 .get2 o as d) := rfl
theorem m_mthIndex {o : O} {xs : List D} : mthF .index o as d env (some (.list xs)) = (evAs as env).bind (kMth2 .index o as d) := rfl
theorem m_mthIndexT {o : O} {xs : List D} : mthF .index o as d env (some (.tuple xs)) = (evAs as env).bind (kMth2 .index o as d) := rfl
theorem m_mthCount {o : O} {xs : List D} : mthF .count o as d env (some (.list xs)) = (evAs as env).bind (kMth2 .count o as d) := rfl
def kMth1 (m : Mth) (o : O) (as : As) (d : D) (env : Env) : Res D := mthF m o as d env (fixO o d env)
theorem m_kMth1 {m : Mth} {o : O} : kMth1 m o as d env = mthF m o as d env (fixO o d env) := rfl
theorem e_mth {m : Mth} {o : O} : evE (.mth m o as) env = (evO o env).bind (kMth1 m o as) := by
  rw [evE]; refine bindF fun d env1 => ?_
  unfold kMth1
  cases h : fixO o d env1 with
  | none => rfl
  | some cur =>
    show (if m.fits cur = true then _ else _) = (if m.fits cur = true then _ else _)
    by_cases hf : m.fits cur = true
    · rw [if_pos hf, if_pos hf]
      refine bindF fun ds env2 => ?_
      unfold kMth2 mthG
      cases h2 : fixO o d env2 with
      | none => rfl
      | some cur2 =>
        dsimp only
        cases h3 : fixA as ds env2 with
        | none => rfl
        | some es =>
          show (match m.run cur2 es with | some r => Res.ok r env2 | none => .stuck) = Res.get (m.run cur2 es) env2
          cases m.run cur2 es <;> rfl
    · rw [if_neg hf, if_neg hf]
theorem fixO_val : fixO (.val a) d env = some d := rfl
theorem fixO_own : fixO (.own i) d env = getE env i := rfl
/-- the items that are walked -/
def kIt2 (o : IOp) (ds : List D) (env : Env) : Res (List D) := Res.gets (o.run ds) env
theorem m_kIt2 {o : IOp} : kIt2 o ds env = Res.gets (o.run ds) env := rfl
def kIt1 (o : IOp) (as : As) (ds : List D) (env : Env) : Res (List D) := (Res.gets (fixA as ds env) env).bind (kIt2 o)
theorem m_kIt1 {o : IOp} : kIt1 o as ds env = (Res.gets (fixA as ds env) env).bind (kIt2 o) := rfl
def evIt (o : IOp) (as : As) (env : Env) : Res (List D) := (evAs as env).bind (kIt1 o as)
theorem m_evI {o : IOp} : evIt o as env = (evAs as env).bind (kIt1 o as) := rfl
end

/-! ### statements -/
section
variable {env : Env} {i j : Nat} {d : D} {e a b t : E} {s : S} {r x y : Ss} {tt : T} {o : Op}
theorem ss_nil : evSs .nil env = .next env := by rw [evSs]
theorem ss_cons : evSs (.cons s r) env = (evS s env).go (evSs r) := by rw [evSs]
def kAsg (tt : T) (d : D) (env : Env) : SRes := nxt (bindT tt d env)
theorem m_kAsg : kAsg tt d env = nxt (bindT tt d env) := rfl
theorem s_asg : evS (.asg tt e) env = (evE e env).go (kAsg tt) := by
  rw [evS]; refine goF fun d env' => ?_; unfold kAsg; cases bindT tt d env' <;> rfl
def kAsgO (i : Nat) (d : D) (env : Env) : SRes := .next (env.set i (some d))
theorem m_kAsgO : kAsgO i d env = .next (env.set i (some d)) := rfl
theorem s_asgO : evS (.asgO i e) env = (evE e env).go (kAsgO i) := by rw [evS]; rfl
def kSwp2 (i j : Nat) (x y : D) (env : Env) : SRes := .next ((env.set i (some x)).set j (some y))
theorem m_kSwp2 {x y : D} : kSwp2 i j x y env = .next ((env.set i (some x)).set j (some y)) := rfl
def kSwp1 (i j : Nat) (b : E) (x : D) (env : Env) : SRes := (evE b env).go (kSwp2 i j x)
theorem m_kSwp1 {x : D} : kSwp1 i j b x env = (evE b env).go (kSwp2 i j x) := rfl
theorem s_swp : evS (.swp i j a b) env = (evE a env).go (kSwp1 i j b) := by rw [evS]; rfl
def kMov (i j : Nat) (d : D) (env : Env) : SRes := .next ((env.set j none).set i (some d))
theorem m_kMov : kMov i j d env = .next ((env.set j none).set i (some d)) := rfl
theorem s_mov : evS (.mov i j) env = (Res.get (getE env j) env).go (kMov i j) := by
  rw [evS]; cases getE env j <;> rfl
def setK (i : Nat) (x y : D) (env : Env) : Option D → SRes
  | some (.list xs) => (match y with
    | .int n => (match ixD xs.length n with
      | some j => .next (env.set i (some (.list (xs.set j x))))
      | none => .stuck)
    | _ => .stuck)
  | some (.dict kvs) => if keyOk y && plainD x && decide (kvs.length < sizeLine) then .next (env.set i (some (.dict (putKv kvs y x)))) else .stuck
  | _ => .stuck
theorem setKD {kvs : List (D × D)} {x y : D} (h : keyOk y = true) (h2 : plainD x = true) (h3 : kvs.length < sizeLine) : setK i x y env (some (.dict kvs)) = .next (env.set i (some (.dict (putKv kvs y x)))) := by
  simp only [setK, h, h2, decide_eq_true h3, Bool.and_self, if_true]
def kSet3 (i : Nat) (x y : D) (env : Env) : SRes := setK i x y env (getE env i)
theorem m_kSet3 {x y : D} : kSet3 i x y env = setK i x y env (getE env i) := rfl
def kSet2 (i : Nat) (k : E) (x _y : D) (env : Env) : SRes := (evE k env).go (kSet3 i x)
theorem m_kSet2 {k : E} {x y : D} : kSet2 i k x y env = (evE k env).go (kSet3 i x) := rfl
def kSet1 (i : Nat) (k : E) (x : D) (env : Env) : SRes := (Res.get (getE env i) env).go (kSet2 i k x)
theorem m_kSet1 {k : E} {x : D} : kSet1 i k x env = (Res.get (getE env i) env).go (kSet2 i k x) := rfl
theorem s_setI {k v : E} : evS (.setI i k v) env = (evE v env).go (kSet1 i k) := by
  show _ = (evE v env).go fun x env1 => (Res.get (getE env1 i) env1).go fun _ env1 => (evE k env1).go fun y env2 => setK i x y env2 (getE env2 i)
  rw [evS]; refine goF fun x env1 => ?_
  cases getE env1 i with
  | none => rfl
  | some z =>
    refine goF fun y env2 => ?_
    cases getE env2 i with
    | none => rfl
    | some q => cases q <;> cases y <;> rfl
theorem setK_nat {xs : List D} {n : Nat} {x : D} (h : n < xs.length) : setK i x (.int n) env (some (.list xs)) = .next (env.set i (some (.list (xs.set n x)))) := by
  simp only [setK, ixD, Int.natCast_nonneg, if_true, Int.ofNat_lt, h, Int.toNat_natCast]
theorem setK0 {a x : D} {xs : List D} : setK i x (.int 0) env (some (.list (a :: xs))) = .next (env.set i (some (.list (x :: xs)))) := setK_nat (n := 0) (by simp)
theorem setK1 {a b x : D} {xs : List D} : setK i x (.int 1) env (some (.list (a :: b :: xs))) = .next (env.set i (some (.list (a :: x :: xs)))) := setK_nat (n := 1) (by simp)
theorem setK2 {a b c x : D} {xs : List D} : setK i x (.int 2) env (some (.list (a :: b :: c :: xs))) = .next (env.set i (some (.list (a :: b :: x :: xs)))) := setK_nat (n := 2) (by simp)
def kAug1 (i : Nat) (env : Env) : Option D → SRes
  | some z => .next (env.set i (some z))
  | none => .stuck
theorem m_kAug1 : kAug1 i env (some d) = .next (env.set i (some d)) := rfl
def kAug (o : Op) (i : Nat) (x y : D) (env : Env) : SRes := kAug1 i env (o.run [x, y])
theorem m_kAug {x y : D} : kAug o i x y env = kAug1 i env (o.run [x, y]) := rfl
def augK (o : Op) (i : Nat) (e : E) (x : D) (env : Env) : SRes := if x.isAtom then (evE e env).go (kAug o i x) else .stuck
theorem s_augm : evS (.aug i o e) env = (Res.get (getE env i) env).go (augK o i e) := by
  rw [evS]
  cases getE env i with
  | none => rfl
  | some x =>
    show _ = augK o i e x env
    unfold augK
    simp only []
    split
    · refine goF fun y env1 => ?_; unfold kAug; cases o.run [x, y] <;> rfl
    · rfl
theorem m_augI {n : Int} : augK o i e (.int n) env = (evE e env).go (kAug o i (.int n)) := by
  unfold augK; exact if_pos rfl
theorem m_augS {n : Str} : augK o i e (.str n) env = (evE e env).go (kAug o i (.str n)) := by
  unfold augK; exact if_pos rfl
def augOK (i : Nat) (y : D) (env : Env) : Option D → SRes
  | some (.list xs) => (match y with
    | .list ys => if xs.length + ys.length ≤ sizeLine then .next (env.set i (some (.list (xs ++ ys)))) else .stuck
    | _ => .stuck)
  | _ => .stuck
def kAugO2 (i : Nat) (y : D) (env : Env) : SRes := augOK i y env (getE env i)
theorem m_kAugO2 {y : D} : kAugO2 i y env = augOK i y env (getE env i) := rfl
def kAugO1 (i : Nat) (e : E) (_ : D) (env : Env) : SRes := (evE e env).go (kAugO2 i)
theorem m_kAugO1 : kAugO1 i e d env = (evE e env).go (kAugO2 i) := rfl
theorem s_augmO : evS (.augO i e) env = (Res.get (getE env i) env).go (kAugO1 i e) := by
  show _ = (Res.get (getE env i) env).go fun _ env => (evE e env).go fun y env1 => augOK i y env1 (getE env1 i)
  rw [evS]
  cases getE env i with
  | none => rfl
  | some x =>
    refine goF fun y env1 => ?_
    cases getE env1 i with
    | none => rfl
    | some q => cases q <;> cases y <;> rfl
theorem augOK_list {xs ys : List D} (h : xs.length + ys.length ≤ sizeLine) : augOK i (.list ys) env (some (.list xs)) = .next (env.set i (some (.list (xs ++ ys)))) := by
  simp only [augOK, h, if_true]
def kExp (_ : D) (env : Env) : SRes := .next env
theorem m_kExp : kExp d env = .next env := rfl
theorem s_exp : evS (.exp e) env = (evE e env).go kExp := by rw [evS]; rfl
def kIff (x y : Ss) (c : Bool) (env : Env) : SRes := iteS c x y env
theorem m_kIff {c : Bool} : kIff x y c env = iteS c x y env := rfl
theorem s_iff : evS (.iff t x y) env = (isT (evE t env)).go (kIff x y) := by rw [evS]; rfl
def kRet (d : D) (env : Env) : SRes := .ret d env
theorem m_kRet : kRet d env = .ret d env := rfl
theorem s_ret : evS (.ret e) env = (evE e env).go kRet := by rw [evS]; rfl
theorem s_retO : evS (.retO i) env = (Res.get (getE env i) env).go kRet := by rw [evS]; cases getE env i <;> rfl
def retTK (es : List D) (env : Env) : SRes := if es.length ≤ sizeLine then .ret (.tuple es) env else .stuck
theorem m_retT1 {x : D} : retTK [x] env = .ret (.tuple [x]) env := if_pos (by rw [sizeLine_eq]; simp)
theorem m_retT2 {x y : D} : retTK [x, y] env = .ret (.tuple [x, y]) env := if_pos (by rw [sizeLine_eq]; simp)
theorem m_retT3 {x y z : D} : retTK [x, y, z] env = .ret (.tuple [x, y, z]) env := if_pos (by rw [sizeLine_eq]; simp)
theorem m_retT4 {x y z w : D} : retTK [x, y, z, w] env = .ret (.tuple [x, y, z, w]) env := if_pos (by rw [sizeLine_eq]; simp)
def kRetT (as : As) (ds : List D) (env : Env) : SRes := (Res.gets (fixA as ds env) env).go retTK
theorem m_kRetT {as : As} {ds : List D} : kRetT as ds env = (Res.gets (fixA as ds env) env).go retTK := rfl
theorem s_retT {as : As} : evS (.retT as) env = (evAs as env).go (kRetT as) := by
  rw [evS]
  refine goF fun ds env1 => ?_
  unfold kRetT
  cases fixA as ds env1 <;> rfl
theorem s_retN : evS .retN env = .ret .none env := by rw [evS]
theorem s_brk : evS .brk env = .brk env := by rw [evS]
theorem s_cnt : evS .cnt env = .cnt env := by rw [evS]
theorem s_pass : evS .pass env = .next env := by rw [evS]
theorem b_name : bindT (.name i) d env = some (env.set i (some d)) := rfl
theorem b_two {a b : T} {x y : D} : bindT (.two a b) (.tuple [x, y]) env = (bindT a x env).bind (bindT b y) := rfl
theorem b_three {a b c : T} {x y z : D} : bindT (.three a b c) (.tuple [x, y, z]) env = ((bindT a x env).bind (bindT b y)).bind (bindT c z) := rfl
end

/-! ### a choice -/
theorem rns_ite {Q : SRes → Prop} {c : Bool} {x y : Ss} {env : Env} {k : Env → SRes} (h1 : c = true → Rns Q ((evSs x env).go k)) (h2 : c = false → Rns Q ((evSs y env).go k)) : Rns Q ((iteS c x y env).go k) := by
  cases c
  · exact h2 rfl
  · exact h1 rfl

/-! ### loops -/
def forT (t : T) (b : Ss) (d : D) (env : Env) : SRes := (nxt (bindT t d env)).go (evSs b)
/-- behind a turn: P at the next one, or what is wanted -/
def Turn (P : Env → Prop) (Q : SRes → Prop) (k : Env → SRes) : SRes → Prop
  | .next e => P e
  | .cnt e => P e
  | .brk e => Rns Q (k e)
  | .ret d e => Q (.ret d e)
  | .exc c v e => Q (.exc c v e)
  | .stuck => False
section
variable {P : Env → Prop} {Q : SRes → Prop} {k : Env → SRes} {e : Env} {d : D}
theorem okN (h : P e) : Rns (Turn P Q k) (.next e) := ⟨h⟩
theorem okC (h : P e) : Rns (Turn P Q k) (.cnt e) := ⟨h⟩
theorem okB (h : Rns Q (k e)) : Rns (Turn P Q k) (.brk e) := ⟨h⟩
theorem okR (h : Q (.ret d e)) : Rns (Turn P Q k) (.ret d e) := ⟨h⟩
end
theorem for_loop {st : Env → Nat → Option D → Bool} {turn : D → Env → SRes} {Q : SRes → Prop} {k : Env → SRes} (P : Nat → Env → Prop) : ∀ (items : List D) (n : Nat) (env : Env), P n env → (∀ j env, n ≤ j → P j env → st env j (items[j - n]?) = true) →
    (∀ j d env, n ≤ j → items[j - n]? = some d → P j env → Rns (Turn (P (j + 1)) Q k) (turn d env)) → (∀ env, P (n + items.length) env → Rns Q (k env)) → Rns Q ((forLoop st turn n items env).go k)
  | [], n, env, h, hst, _, hq => by
    have := hst n env (Nat.le_refl _) h
    simp at this
    unfold forLoop
    rw [if_pos this]
    exact hq env (by simpa using h)
  | d :: ds, n, env, h, hst, hs, hq => by
    have h1 := hst n env (Nat.le_refl _) h
    simp at h1
    have h2 := hs n d env (Nat.le_refl _) (by simp) h
    have go : ∀ e, P (n + 1) e → Rns Q ((forLoop st turn (n + 1) ds e).go k) := fun e h3 => for_loop P ds (n + 1) e h3 (fun j e hj pj => by
        have := hst j e (by omega) pj
        have e1 : j - n = (j - (n + 1)) + 1 := by omega
        rw [e1, List.getElem?_cons_succ] at this
        exact this) (fun j d' e hj hd pj => hs j d' e (by omega) (by
        have e1 : j - n = (j - (n + 1)) + 1 := by omega
        rw [e1, List.getElem?_cons_succ]
        exact hd) pj) (fun e pe => hq e (by
        have : n + 1 + ds.length = n + (d :: ds).length := by rw [List.length_cons]; omega
        rw [← this]; exact pe))
    unfold forLoop
    rw [if_pos h1]
    cases e : turn d env with
    | next env' => rw [e] at h2; exact go env' h2.run
    | cnt env' => rw [e] at h2; exact go env' h2.run
    | brk env' => rw [e] at h2; exact h2.run
    | ret x env' => rw [e] at h2; exact ⟨h2.run⟩
    | exc c x env' => rw [e] at h2; exact ⟨h2.run⟩
    | stuck => rw [e] at h2; exact h2.run.elim
theorem evI_eq {o : IOp} {as : As} {env env1 : Env} {items : List D} (h : evIt o as env = .ok items env1) : ∃ ds ds', evAs as env = .ok ds env1 ∧ fixA as ds env1 = some ds' ∧ o.run ds' = some items := by
  unfold evIt at h
  cases h1 : evAs as env with
  | ok ds e =>
    rw [h1, m_bind] at h
    cases h2 : fixA as ds e with
    | none => rw [m_kIt1, h2] at h; cases h
    | some ds' =>
      rw [m_kIt1, h2, m_gets, m_bind, m_kIt2] at h
      cases h3 : o.run ds' with
      | none => rw [h3] at h; cases h
      | some it => rw [h3] at h; cases h; exact ⟨ds, ds', rfl, h2, h3⟩
  | exc c v e => rw [h1] at h; cases h
  | stuck => rw [h1] at h; cases h
def noOwnI : As → Bool
  | .nil => true
  | .cons (.val _) .nil => true
  | .cons (.val _) (.cons (.val _) .nil) => true
  | _ => false
theorem stands_no {o : IOp} {as : As} (h : noOwnI as = true) {env : Env} {k : Nat} {x : Option D} : stands o as env k x = true := by
  unfold noOwnI at h
  split at h
  · unfold stands; cases o <;> rfl
  · unfold stands; cases o <;> rfl
  · unfold stands; cases o <;> rfl
  · cases h
/-- a for loop over what is no own list -/
theorem go_for {t : T} {o : IOp} {as : As} {b : Ss} {env env1 : Env} {items : List D} {Q : SRes → Prop} {k : Env → SRes} (hi : evIt o as env = .ok items env1) (ho : noOwnI as = true) (P : Nat → Env → Prop) (h0 : P 0 env1)
    (hs : ∀ j d env, items[j]? = some d → P j env → Rns (Turn (P (j + 1)) Q k) (forT t b d env)) (hq : ∀ env, P items.length env → Rns Q (k env)) : Rns Q ((evS (.forr t o as b) env).go k) := by
  obtain ⟨ds, ds', h1, h2, h3⟩ := evI_eq hi
  rw [evS, h1, m_go]
  simp only [h2, h3]
  refine for_loop P items 0 env1 h0 (fun j env _ _ => stands_no ho) (fun j d env _ hd pj => ?_) fun env pe => hq env (by simpa using pe)
  have := hs j d env (by simpa using hd) pj
  unfold forT at this
  cases e : bindT t d env with
  | none => rw [e] at this; exact ⟨this.run⟩
  | some z => rw [e] at this; exact ⟨this.run⟩
/-- the same where the items are told by a list of Lean -/
theorem go_forM {α : Type} {t : T} {o : IOp} {as : As} {b : Ss} {env env1 : Env} {xs : List α} {f : α → D} {Q : SRes → Prop} {k : Env → SRes} (hi : evIt o as env = .ok (xs.map f) env1) (ho : noOwnI as = true) (P : Nat → Env → Prop) (h0 : P 0 env1)
    (hs : ∀ j x env, xs[j]? = some x → P j env → Rns (Turn (P (j + 1)) Q k) (forT t b (f x) env)) (hq : ∀ env, P xs.length env → Rns Q (k env)) : Rns Q ((evS (.forr t o as b) env).go k) := by
  refine go_for hi ho P h0 (fun j d env hd pj => ?_) fun env pe => hq env (by simpa using pe)
  rw [List.getElem?_map] at hd
  obtain ⟨x, h1, rfl⟩ := Option.map_eq_some_iff.mp hd
  exact hs j x env h1 pj
def natD (n : Nat) : D := .int n
theorem go_forR {t : T} {o : IOp} {as : As} {b : Ss} {env env1 : Env} {n : Nat} {Q : SRes → Prop} {k : Env → SRes} (hi : evIt o as env = .ok ((List.range n).map natD) env1) (ho : noOwnI as = true) (P : Nat → Env → Prop) (h0 : P 0 env1)
    (hs : ∀ j env, j < n → P j env → Rns (Turn (P (j + 1)) Q k) (forT t b (.int (j : Int)) env)) (hq : ∀ env, P n env → Rns Q (k env)) : Rns Q ((evS (.forr t o as b) env).go k) := by
  refine go_forM hi ho P h0 (fun j x env hx pj => ?_) fun env pe => hq env (by simpa using pe)
  obtain ⟨h1, h2⟩ := List.getElem?_eq_some_iff.mp hx
  simp at h1 h2
  subst h2
  exact hs j env h1 pj
/-- a for loop over an own list, which is forgotten -/
theorem go_forO {t : T} {j0 : Nat} {b : Ss} {env : Env} {items : List D} {Q : SRes → Prop} {k : Env → SRes} (hi : getE env j0 = some (.list items)) (P : Nat → Env → Prop) (h0 : P 0 (env.set j0 none))
    (hs : ∀ j d env, items[j]? = some d → P j env → Rns (Turn (P (j + 1)) Q k) (forT t b d env)) (hq : ∀ env, P items.length env → Rns Q (k env)) : Rns Q ((evS (.forO t j0 b) env).go k) := by
  rw [evS, hi]
  refine for_loop P items 0 _ h0 (fun j env _ _ => rfl) (fun j d env _ hd pj => ?_) fun env pe => hq env (by simpa using pe)
  have := hs j d env (by simpa using hd) pj
  unfold forT at this
  cases e : bindT t d env with
  | none => rw [e] at this; exact ⟨this.run⟩
  | some z => rw [e] at this; exact ⟨this.run⟩
theorem wh_loop {test : Env → Res Bool} {body : Env → SRes} {Q : SRes → Prop} {k : Env → SRes} (P : Nat → Env → Prop)
    (hs : ∀ n env, P n env → ∃ c env', test env = .ok c env' ∧ (c = false → Rns Q (k env')) ∧ (c = true → Rns (Turn (fun e => ∃ m, m < n ∧ P m e) Q k) (body env'))) : ∀ (fuel n : Nat) (env : Env), n < fuel → P n env → Rns Q ((whLoop test body fuel env).go k)
  | 0, n, env, h, _ => absurd h (Nat.not_lt_zero _)
  | fuel + 1, n, env, h, hp => by
    obtain ⟨c, env', h1, h2, h3⟩ := hs n env hp
    unfold whLoop
    rw [h1, m_go]
    cases c with
    | false => exact h2 rfl
    | true =>
      simp only [if_true]
      have h3 := h3 rfl
      cases e : body env' with
      | next e2 => rw [e] at h3; obtain ⟨m, hm, pm⟩ := h3.run; exact wh_loop P hs fuel m e2 (by omega) pm
      | cnt e2 => rw [e] at h3; obtain ⟨m, hm, pm⟩ := h3.run; exact wh_loop P hs fuel m e2 (by omega) pm
      | brk e2 => rw [e] at h3; exact h3.run
      | ret x e2 => rw [e] at h3; exact ⟨h3.run⟩
      | exc x y e2 => rw [e] at h3; exact ⟨h3.run⟩
      | stuck => rw [e] at h3; exact h3.run.elim
/-- a while loop: P by what is left at most -/
theorem go_whl {f : Env → Nat} {t : E} {b : Ss} {env : Env} {Q : SRes → Prop} {k : Env → SRes} (P : Nat → Env → Prop) (n : Nat) (h0 : P n env) (hf : n < f env)
    (hs : ∀ n env, P n env → ∃ c env', isT (evE t env) = .ok c env' ∧ (c = false → Rns Q (k env')) ∧ (c = true → Rns (Turn (fun e => ∃ m, m < n ∧ P m e) Q k) (evSs b env'))) : Rns Q ((evS (.whl f t b) env).go k) := by
  rw [evS]
  exact wh_loop P hs _ n env hf h0

/-! ### comprehensions -/
theorem acc_inv {st : Env → Nat → Option D → Bool} {turn : D → List D → Env → Res (List D)} (P : Nat → List D → Env → Prop) : ∀ (items : List D) (n : Nat) (acc : List D) (env : Env), P n acc env → (∀ j acc env, n ≤ j → P j acc env → st env j (items[j - n]?) = true) →
    (∀ j d acc env, n ≤ j → items[j - n]? = some d → P j acc env → ∃ acc' env', turn d acc env = .ok acc' env' ∧ P (j + 1) acc' env') → ∃ acc' env', accLoop st turn n items acc env = .ok acc' env' ∧ P (n + items.length) acc' env'
  | [], n, acc, env, h, hst, _ => by
    have := hst n acc env (Nat.le_refl _) h
    simp at this
    exact ⟨acc, env, by unfold accLoop; rw [if_pos this], by simpa using h⟩
  | d :: ds, n, acc, env, h, hst, hs => by
    have h1 := hst n acc env (Nat.le_refl _) h
    simp at h1
    obtain ⟨acc1, env1, h2, h3⟩ := hs n d acc env (Nat.le_refl _) (by simp) h
    obtain ⟨acc2, env2, h4, h5⟩ := acc_inv P ds (n + 1) acc1 env1 h3 (fun j acc e hj pj => by
        have := hst j acc e (by omega) pj
        have e1 : j - n = (j - (n + 1)) + 1 := by omega
        rw [e1, List.getElem?_cons_succ] at this
        exact this) (fun j d' acc e hj hd pj => hs j d' acc e (by omega) (by
        have e1 : j - n = (j - (n + 1)) + 1 := by omega
        rw [e1, List.getElem?_cons_succ]
        exact hd) pj)
    refine ⟨acc2, env2, ?_, by rw [List.length_cons]; rw [show n + (ds.length + 1) = n + 1 + ds.length by omega]; exact h5⟩
    unfold accLoop
    rw [if_pos h1, h2, m_bind, h4]
/-- what a reckoning of a value gives -/
structure Gives {α : Type} (Q : α → Env → Prop) (r : Res α) : Prop where
  run : ∃ a e, r = .ok a e ∧ Q a e
theorem okG {α : Type} {Q : α → Env → Prop} {a : α} {e : Env} (h : Q a e) : Gives Q (.ok a e) := ⟨_, _, rfl, h⟩
theorem m_wipe0 {env : Env} : wipeE env [] = env := rfl
theorem m_wipeS {env : Env} {v : Nat} {vs : List Nat} : wipeE env (v :: vs) = (wipeE env vs).set v none := rfl
theorem m_back0 {old env : Env} : backE old env [] = env := rfl
theorem m_backS {old env : Env} {v : Nat} {vs : List Nat} : backE old env (v :: vs) = (backE old env vs).set v (getE old v) := by
  show List.set _ _ ((old[v]?).getD none) = _
  unfold getE
  cases old[v]? <;> rfl
theorem m_slots1 {i : Nat} : T.slots (.name i) = [i] := rfl
theorem m_slots2 {i j : Nat} : T.slots (.two (.name i) (.name j)) = [i, j] := rfl
theorem m_slots3 {i j k : Nat} : T.slots (.three (.name i) (.name j) (.name k)) = [i, j, k] := rfl
theorem m_slots21 {i j k : Nat} : T.slots (.two (.name i) (.two (.name j) (.name k))) = [i, j, k] := rfl
/-- one turn of a comprehension -/
def lcT (elt : E) (t : T) (test : E) (d : D) (acc : List D) (env : Env) : Res (List D) := match bindT t d env with
  | some env3 => ((isT (evE test env3)).bind fun c env4 => if c then (evE elt env4).bind fun x env5 => .ok (x :: acc) (wipeE env5 t.slots) else .ok acc (wipeE env4 t.slots)).nox
  | none => .stuck
theorem m_nox {α : Type} {a : α} {e : Env} : Res.nox (.ok a e) = .ok a e := rfl
def kLc2 (t : T) (acc : List D) (x : D) (env : Env) : Res (List D) := .ok (x :: acc) (wipeE env t.slots)
theorem m_kLc2 {t : T} {acc : List D} {x : D} {env : Env} : kLc2 t acc x env = .ok (x :: acc) (wipeE env t.slots) := rfl
def kLc1 (elt : E) (t : T) (acc : List D) (c : Bool) (env : Env) : Res (List D) := if c then (evE elt env).bind (kLc2 t acc) else .ok acc (wipeE env t.slots)
theorem m_kLc1t {elt : E} {t : T} {acc : List D} {env : Env} : kLc1 elt t acc true env = (evE elt env).bind (kLc2 t acc) := rfl
theorem m_kLc1f {elt : E} {t : T} {acc : List D} {env : Env} : kLc1 elt t acc false env = .ok acc (wipeE env t.slots) := rfl
def lcA (elt : E) (t : T) (test : E) (acc : List D) : Option Env → Res (List D)
  | some env => ((isT (evE test env)).bind (kLc1 elt t acc)).nox
  | none => .stuck
theorem m_lcA {elt : E} {t : T} {test : E} {acc : List D} {env : Env} : lcA elt t test acc (some env) = ((isT (evE test env)).bind (kLc1 elt t acc)).nox := rfl
theorem m_lcT {elt : E} {t : T} {test : E} {d : D} {acc : List D} {env : Env} : lcT elt t test d acc env = lcA elt t test acc (bindT t d env) := by
  unfold lcT; cases bindT t d env <;> rfl
/-- a comprehension by an invariant of the turn, of what was gathered (last first), and of the slots -/
theorem lc_inv {elt : E} {t : T} {o : IOp} {as : As} {test : E} {env env1 : Env} {items : List D} (hi : evIt o as env = .ok items env1) (ho : noOwnI as = true) (P : Nat → List D → Env → Prop) (h0 : P 0 [] (wipeE env1 t.slots))
    (hs : ∀ j d acc env, items[j]? = some d → P j acc env → ∃ acc' env', lcT elt t test d acc env = .ok acc' env' ∧ P (j + 1) acc' env') (hl : ∀ acc env, P items.length acc env → acc.length ≤ sizeLine) :
    ∃ acc env', evE (.lc elt t o as test) env = .ok (.list acc.reverse) (backE env1 env' t.slots) ∧ P items.length acc env' := by
  obtain ⟨ds, ds', h1, h2, h3⟩ := evI_eq hi
  obtain ⟨acc, env', h4, h5⟩ := acc_inv (st := stands o as) (turn := lcT elt t test) P items 0 [] (wipeE env1 t.slots) h0 (fun j acc env _ _ => stands_no ho) fun j d acc env _ hd pj => hs j d acc env (by simpa using hd) pj
  rw [Nat.zero_add] at h5
  refine ⟨acc, env', ?_, h5⟩
  rw [evE, h1, m_bind]
  simp only [h2, h3]
  show (Res.bind (accLoop (stands o as) (lcT elt t test) 0 items [] (wipeE env1 t.slots)) _) = _
  rw [h4, m_bind, if_pos (hl acc env' h5)]
theorem g_lc {elt : E} {t : T} {o : IOp} {as : As} {test : E} {env env1 : Env} {items : List D} {Q : D → Env → Prop} (hi : evIt o as env = .ok items env1) (ho : noOwnI as = true) (P : Nat → List D → Env → Prop) (h0 : P 0 [] (wipeE env1 t.slots))
    (hs : ∀ j d acc env, items[j]? = some d → P j acc env → Gives (P (j + 1)) (lcT elt t test d acc env)) (hl : ∀ acc env, P items.length acc env → acc.length ≤ sizeLine)
    (hq : ∀ acc env', P items.length acc env' → Q (.list acc.reverse) (backE env1 env' t.slots)) : Gives Q (evE (.lc elt t o as test) env) := by
  obtain ⟨acc, env', h1, h2⟩ := lc_inv (elt := elt) (t := t) (test := test) hi ho P h0 (fun j d acc env h1 h2 => (hs j d acc env h1 h2).run) hl
  exact ⟨_, _, h1, hq acc env' h2⟩
theorem g_lcM {α : Type} {elt : E} {t : T} {o : IOp} {as : As} {test : E} {env env1 : Env} {xs : List α} {f : α → D} {Q : D → Env → Prop} (hi : evIt o as env = .ok (xs.map f) env1) (ho : noOwnI as = true) (P : Nat → List D → Env → Prop) (h0 : P 0 [] (wipeE env1 t.slots))
    (hs : ∀ j x acc env, xs[j]? = some x → P j acc env → Gives (P (j + 1)) (lcT elt t test (f x) acc env)) (hl : ∀ acc env, P xs.length acc env → acc.length ≤ sizeLine)
    (hq : ∀ acc env', P xs.length acc env' → Q (.list acc.reverse) (backE env1 env' t.slots)) : Gives Q (evE (.lc elt t o as test) env) :=
  g_lc hi ho P h0 (fun j d acc env hd pj => by
    rw [List.getElem?_map] at hd
    obtain ⟨x, h1, rfl⟩ := Option.map_eq_some_iff.mp hd
    exact hs j x acc env h1 pj) (by simpa using hl) (by simpa using hq)
theorem g_lcR {elt : E} {t : T} {o : IOp} {as : As} {test : E} {env env1 : Env} {n : Nat} {Q : D → Env → Prop} (hi : evIt o as env = .ok ((List.range n).map natD) env1) (ho : noOwnI as = true) (P : Nat → List D → Env → Prop) (h0 : P 0 [] (wipeE env1 t.slots))
    (hs : ∀ j acc env, j < n → P j acc env → Gives (P (j + 1)) (lcT elt t test (.int (j : Int)) acc env)) (hl : ∀ acc env, P n acc env → acc.length ≤ sizeLine)
    (hq : ∀ acc env', P n acc env' → Q (.list acc.reverse) (backE env1 env' t.slots)) : Gives Q (evE (.lc elt t o as test) env) :=
  g_lcM hi ho P h0 (fun j x acc env hx pj => by
    obtain ⟨h1, h2⟩ := List.getElem?_eq_some_iff.mp hx
    simp at h1 h2
    subst h2
    exact hs j acc env h1 pj) (by simpa using hl) (by simpa using hq)
/-- what is walked stands: no own list, or one that nobody changes -/
theorem stands_own {i : Nat} {env : Env} {items : List D} (h : getE env i = some (.list items)) {k : Nat} : stands .seq (.cons (.own i) .nil) env k items[k]? = true := by
  unfold stands
  simp only [h]
  cases items[k]? with
  | none => rfl
  | some d => exact same_refl d
theorem lc_invS {elt : E} {t : T} {o : IOp} {as : As} {test : E} {env env1 : Env} {items : List D} (hi : evIt o as env = .ok items env1) (P : Nat → List D → Env → Prop) (ho : ∀ j acc env, P j acc env → stands o as env j items[j]? = true) (h0 : P 0 [] (wipeE env1 t.slots))
    (hs : ∀ j d acc env, items[j]? = some d → P j acc env → ∃ acc' env', lcT elt t test d acc env = .ok acc' env' ∧ P (j + 1) acc' env') (hl : ∀ acc env, P items.length acc env → acc.length ≤ sizeLine) :
    ∃ acc env', evE (.lc elt t o as test) env = .ok (.list acc.reverse) (backE env1 env' t.slots) ∧ P items.length acc env' := by
  obtain ⟨ds, ds', h1, h2, h3⟩ := evI_eq hi
  obtain ⟨acc, env', h4, h5⟩ := acc_inv (st := stands o as) (turn := lcT elt t test) P items 0 [] (wipeE env1 t.slots) h0 (fun j acc env _ pj => by simpa using ho j acc env pj) fun j d acc env _ hd pj => hs j d acc env (by simpa using hd) pj
  rw [Nat.zero_add] at h5
  refine ⟨acc, env', ?_, h5⟩
  rw [evE, h1, m_bind]
  simp only [h2, h3]
  show (Res.bind (accLoop (stands o as) (lcT elt t test) 0 items [] (wipeE env1 t.slots)) _) = _
  rw [h4, m_bind, if_pos (hl acc env' h5)]
theorem lc_pureS {α : Type} {elt : E} {t : T} {o : IOp} {as : As} {test : E} {env env1 : Env} {xs : List α} {f : α → D} (p : α → Bool) (g : α → D) (ev : α → Env) (hi : evIt o as env = .ok (xs.map f) env1) (ho : ∀ j, stands o as (wipeE env1 t.slots) j (xs.map f)[j]? = true)
    (hb : ∀ x ∈ xs, bindT t (f x) (wipeE env1 t.slots) = some (ev x)) (hw : ∀ x ∈ xs, wipeE (ev x) t.slots = wipeE env1 t.slots) (ht : ∀ x ∈ xs, isT (evE test (ev x)) = .ok (p x) (ev x)) (he : ∀ x ∈ xs, p x = true → evE elt (ev x) = .ok (g x) (ev x)) (hl : xs.length ≤ sizeLine) :
    evE (.lc elt t o as test) env = .ok (.list ((xs.filter p).map g)) (backE env1 (wipeE env1 t.slots) t.slots) := by
  obtain ⟨acc, env', h1, h2, h3⟩ := lc_invS (elt := elt) (t := t) (test := test) hi (fun j acc env => env = wipeE env1 t.slots ∧ acc = (((xs.take j).filter p).map g).reverse) (fun j acc env hp => by rw [hp.1]; exact ho j) ⟨rfl, by simp⟩ (fun j d acc env hd hp => by
    obtain ⟨rfl, rfl⟩ := hp
    rw [List.getElem?_map] at hd
    obtain ⟨x, hx, rfl⟩ := Option.map_eq_some_iff.mp hd
    have hm : x ∈ xs := List.mem_of_getElem? hx
    have tk : xs.take (j + 1) = xs.take j ++ [x] := by rw [List.take_add_one, hx]; rfl
    unfold lcT
    rw [hb x hm]
    simp only [ht x hm, m_bind]
    cases hc : p x with
    | false => exact ⟨_, _, rfl, hw x hm, by rw [tk]; simp [List.filter_append, hc]⟩
    | true =>
      simp only [if_true, he x hm hc, m_bind]
      exact ⟨_, _, rfl, hw x hm, by rw [tk]; simp [List.filter_append, hc]⟩) (fun acc env hp => by
    obtain ⟨_, rfl⟩ := hp
    have := List.length_filter_le p (xs.take (xs.map f).length)
    have h2 := List.length_take_le (xs.map f).length xs
    simp only [List.length_reverse, List.length_map] at *
    omega)
  rw [h1]
  subst h2 h3
  simp
/-- a comprehension that changes nothing -/
theorem lc_pure {α : Type} {elt : E} {t : T} {o : IOp} {as : As} {test : E} {env env1 : Env} {xs : List α} {f : α → D} (p : α → Bool) (g : α → D) (ev : α → Env) (hi : evIt o as env = .ok (xs.map f) env1) (ho : noOwnI as = true)
    (hb : ∀ x ∈ xs, bindT t (f x) (wipeE env1 t.slots) = some (ev x)) (hw : ∀ x ∈ xs, wipeE (ev x) t.slots = wipeE env1 t.slots) (ht : ∀ x ∈ xs, isT (evE test (ev x)) = .ok (p x) (ev x)) (he : ∀ x ∈ xs, p x = true → evE elt (ev x) = .ok (g x) (ev x)) (hl : xs.length ≤ sizeLine) :
    evE (.lc elt t o as test) env = .ok (.list ((xs.filter p).map g)) (backE env1 (wipeE env1 t.slots) t.slots) := by
  obtain ⟨acc, env', h1, h2, h3⟩ := lc_inv (elt := elt) (t := t) (test := test) hi ho (fun j acc env => env = wipeE env1 t.slots ∧ acc = (((xs.take j).filter p).map g).reverse) ⟨rfl, by simp⟩ (fun j d acc env hd hp => by
    obtain ⟨rfl, rfl⟩ := hp
    rw [List.getElem?_map] at hd
    obtain ⟨x, hx, rfl⟩ := Option.map_eq_some_iff.mp hd
    have hm : x ∈ xs := List.mem_of_getElem? hx
    have tk : xs.take (j + 1) = xs.take j ++ [x] := by rw [List.take_add_one, hx]; rfl
    unfold lcT
    rw [hb x hm]
    simp only [ht x hm, m_bind]
    cases hc : p x with
    | false =>
      exact ⟨_, _, rfl, hw x hm, by rw [tk]; simp [List.filter_append, hc]⟩
    | true =>
      simp only [if_true, he x hm hc, m_bind]
      exact ⟨_, _, rfl, hw x hm, by rw [tk]; simp [List.filter_append, hc]⟩) (fun acc env hp => by
    obtain ⟨_, rfl⟩ := hp
    have := List.length_filter_le p (xs.take (xs.map f).length)
    have h2 := List.length_take_le (xs.map f).length xs
    simp only [List.length_reverse, List.length_map] at *
    omega)
  rw [h1]
  subst h2 h3
  simp

theorem lc_map {α : Type} {elt : E} {t : T} {o : IOp} {as : As} {env env1 : Env} {xs : List α} {f : α → D} (g : α → D) (ev : α → Env) (hi : evIt o as env = .ok (xs.map f) env1) (ho : noOwnI as = true)
    (hb : ∀ x ∈ xs, bindT t (f x) (wipeE env1 t.slots) = some (ev x)) (hw : ∀ x ∈ xs, wipeE (ev x) t.slots = wipeE env1 t.slots) (he : ∀ x ∈ xs, evE elt (ev x) = .ok (g x) (ev x)) (hl : xs.length ≤ sizeLine) :
    evE (.lc elt t o as (.con (.bool true))) env = .ok (.list (xs.map g)) (backE env1 (wipeE env1 t.slots) t.slots) := by
  have := lc_pure (elt := elt) (t := t) (test := .con (.bool true)) (fun _ => true) g ev hi ho hb hw (fun x _ => by rw [e_con, m_isT]) (fun x hx _ => he x hx) hl
  rw [List.filter_eq_self.mpr (fun _ _ => rfl)] at this
  exact this
/-- one turn of a comprehension's first clause of two -/
def lc2T (elt : E) (t : T) (t2 : T) (o2 : IOp) (as2 : As) (test : E) (d : D) (acc : List D) (env2 : Env) : Res (List D) := match bindT t d env2 with
  | some env3 => ((evAs as2 env3).bind fun es env4 => match fixA as2 es env4 with
      | some es' => match o2.run es' with
        | some items2 => (accLoop (stands o2 as2) (lcT elt t2 test) 0 items2 acc (wipeE env4 t2.slots)).bind fun acc3 env9 => .ok acc3 (wipeE env9 (t.slots ++ t2.slots))
        | none => .stuck
      | none => .stuck).nox
  | none => .stuck
theorem lc2_inv {elt : E} {t t2 : T} {o o2 : IOp} {as as2 : As} {test : E} {env env1 : Env} {items : List D} (hi : evIt o as env = .ok items env1) (ho : noOwnI as = true) (P : Nat → List D → Env → Prop) (h0 : P 0 [] (wipeE env1 (t.slots ++ t2.slots)))
    (hs : ∀ j d acc env, items[j]? = some d → P j acc env → ∃ acc' env', lc2T elt t t2 o2 as2 test d acc env = .ok acc' env' ∧ P (j + 1) acc' env') (hl : ∀ acc env, P items.length acc env → acc.length ≤ sizeLine) :
    ∃ acc env', evE (.lc2 elt t o as t2 o2 as2 test) env = .ok (.list acc.reverse) (backE env1 env' (t.slots ++ t2.slots)) ∧ P items.length acc env' := by
  obtain ⟨ds, ds', h1, h2, h3⟩ := evI_eq hi
  obtain ⟨acc, env', h4, h5⟩ := acc_inv (st := stands o as) (turn := lc2T elt t t2 o2 as2 test) P items 0 [] (wipeE env1 (t.slots ++ t2.slots)) h0 (fun j acc env _ _ => stands_no ho) fun j d acc env _ hd pj => hs j d acc env (by simpa using hd) pj
  rw [Nat.zero_add] at h5
  refine ⟨acc, env', ?_, h5⟩
  rw [evE, h1, m_bind]
  simp only [h2, h3]
  show (Res.bind (accLoop (stands o as) (lc2T elt t t2 o2 as2 test) 0 items [] (wipeE env1 (t.slots ++ t2.slots))) _) = _
  rw [h4, m_bind, if_pos (hl acc env' h5)]
/-- a comprehension of two clauses that changes nothing -/
theorem lc2_pure {α β : Type} {elt : E} {t t2 : T} {o o2 : IOp} {as as2 : As} {test : E} {env env1 : Env} {xs : List α} {f : α → D} (ys : α → List β) (f2 : α → β → D) (p : α → β → Bool) (g : α → β → D) (ev : α → Env) (ev2 : α → β → Env)
    (hi : evIt o as env = .ok (xs.map f) env1) (ho : noOwnI as = true) (ho2 : noOwnI as2 = true)
    (hb : ∀ x ∈ xs, bindT t (f x) (wipeE env1 (t.slots ++ t2.slots)) = some (ev x)) (hi2 : ∀ x ∈ xs, evIt o2 as2 (ev x) = .ok ((ys x).map (f2 x)) (ev x))
    (hb2 : ∀ x ∈ xs, ∀ y ∈ ys x, bindT t2 (f2 x y) (wipeE (ev x) t2.slots) = some (ev2 x y)) (ht : ∀ x ∈ xs, ∀ y ∈ ys x, isT (evE test (ev2 x y)) = .ok (p x y) (ev2 x y))
    (he : ∀ x ∈ xs, ∀ y ∈ ys x, p x y = true → evE elt (ev2 x y) = .ok (g x y) (ev2 x y)) (hw2 : ∀ x ∈ xs, ∀ y ∈ ys x, wipeE (ev2 x y) t2.slots = wipeE (ev x) t2.slots)
    (hw : ∀ x ∈ xs, wipeE (wipeE (ev x) t2.slots) (t.slots ++ t2.slots) = wipeE env1 (t.slots ++ t2.slots)) (hl : (xs.flatMap fun x => ((ys x).filter (p x)).map (g x)).length ≤ sizeLine) :
    evE (.lc2 elt t o as t2 o2 as2 test) env = .ok (.list (xs.flatMap fun x => ((ys x).filter (p x)).map (g x))) (backE env1 (wipeE env1 (t.slots ++ t2.slots)) (t.slots ++ t2.slots)) := by
  obtain ⟨acc, env', h1, h2, h3⟩ := lc2_inv (elt := elt) (t := t) (t2 := t2) (o2 := o2) (as2 := as2) (test := test) hi ho (fun j acc env => env = wipeE env1 (t.slots ++ t2.slots) ∧ acc = ((xs.take j).flatMap fun x => ((ys x).filter (p x)).map (g x)).reverse) ⟨rfl, by simp⟩ (fun j d acc env hd hp => by
    obtain ⟨rfl, rfl⟩ := hp
    rw [List.getElem?_map] at hd
    obtain ⟨x, hx, rfl⟩ := Option.map_eq_some_iff.mp hd
    have hm : x ∈ xs := List.mem_of_getElem? hx
    have tk : xs.take (j + 1) = xs.take j ++ [x] := by rw [List.take_add_one, hx]; rfl
    obtain ⟨es, es', k1, k2, k3⟩ := evI_eq (hi2 x hm)
    unfold lc2T
    rw [hb x hm]
    simp only [k1, k2, k3, m_bind]
    obtain ⟨acc2, env2, q1, q2, q3⟩ := acc_inv (st := stands o2 as2) (turn := lcT elt t2 test) (fun i acc env => env = wipeE (ev x) t2.slots ∧ acc = ((((ys x).take i).filter (p x)).map (g x)).reverse ++ ((xs.take j).flatMap fun x => ((ys x).filter (p x)).map (g x)).reverse) ((ys x).map (f2 x)) 0 ((xs.take j).flatMap fun x => ((ys x).filter (p x)).map (g x)).reverse (wipeE (ev x) t2.slots) ⟨rfl, by simp⟩ (fun i acc env _ _ => stands_no ho2) (fun i d acc env _ hd hp => by
      obtain ⟨rfl, rfl⟩ := hp
      rw [Nat.sub_zero, List.getElem?_map] at hd
      obtain ⟨y, hy, rfl⟩ := Option.map_eq_some_iff.mp hd
      have hmy : y ∈ ys x := List.mem_of_getElem? hy
      have tk2 : (ys x).take (i + 1) = (ys x).take i ++ [y] := by rw [List.take_add_one, hy]; rfl
      unfold lcT
      rw [hb2 x hm y hmy]
      simp only [ht x hm y hmy, m_bind]
      cases hc : p x y with
      | false => exact ⟨_, _, rfl, hw2 x hm y hmy, by rw [tk2]; simp [List.filter_append, hc]⟩
      | true =>
        simp only [if_true, he x hm y hmy hc, m_bind]
        exact ⟨_, _, rfl, hw2 x hm y hmy, by rw [tk2]; simp [List.filter_append, hc]⟩)
    rw [q1, m_bind]
    subst q2 q3
    refine ⟨_, _, rfl, hw x hm, ?_⟩
    rw [tk, Nat.zero_add, List.take_of_length_le (by simp), List.flatMap_append, List.reverse_append]
    simp) (fun acc env hp => by
    obtain ⟨_, rfl⟩ := hp
    rw [List.length_reverse, List.take_of_length_le (by simp)]
    exact hl)
  rw [h1]
  subst h2 h3
  simp
/-! ### a def -/
/-- what a def gives -/
def RetP (pm : List Bool) (own : Bool) (Q : D → List D → Prop) : SRes → Prop
  | .ret d env => ∃ outs, outsOf env pm 0 = some outs ∧ Q d outs
  | .next env => own = false ∧ ∃ outs, outsOf env pm 0 = some outs ∧ Q .none outs
  | _ => False
section
variable {pm : List Bool} {own : Bool} {Q : D → List D → Prop} {d : D} {env : Env}
theorem outs_set {j : Nat} {x : Option D} : ∀ {pm : List Bool} {k : Nat} {env : Env}, k + pm.length ≤ j → outsOf (env.set j x) pm k = outsOf env pm k
  | [], _, _, _ => rfl
  | b :: pm, k, env, h => by
    have ih := outs_set (j := j) (x := x) (pm := pm) (k := k + 1) (env := env) (by simp at h; omega)
    have e : getE (env.set j x) k = getE env k := by
      unfold getE
      rw [List.getElem?_set_ne (by simp at h; omega)]
    cases b with
    | true => show ((getE (env.set j x) k).bind fun d => (outsOf (env.set j x) pm (k + 1)).map (d :: ·)) = _; rw [e, ih]; rfl
    | false => exact ih
/-- a block that reads an own slot as shared -/
theorem frz_R {j : Nat} {r : Ss} {env : Env} (hj : pm.length ≤ j) (h : Rns (RetP pm own Q) (evSs r env)) : Rns (RetP pm own Q) (evSs (.frz j r) env) := by
  rw [evSs]
  cases e : evSs r env with
  | ret d e2 =>
    rw [e] at h
    obtain ⟨outs, h1, h2⟩ := h.run
    exact ⟨⟨outs, by rw [outs_set (by omega)]; exact h1, h2⟩⟩
  | next e2 =>
    rw [e] at h
    obtain ⟨h0, outs, h1, h2⟩ := h.run
    exact ⟨⟨h0, outs, by rw [outs_set (by omega)]; exact h1, h2⟩⟩
  | brk e2 => rw [e] at h; exact h.run.elim
  | cnt e2 => rw [e] at h; exact h.run.elim
  | exc c v e2 => rw [e] at h; exact h.run.elim
  | stuck => rw [e] at h; exact h.run.elim
theorem frz_T {j : Nat} {r : Ss} {env : Env} {P : Env → Prop} {k : Env → SRes} (hj : pm.length ≤ j) (h : Rns (Turn (fun e => P (e.set j none)) (RetP pm own Q) fun e => k (e.set j none)) (evSs r env)) : Rns (Turn P (RetP pm own Q) k) (evSs (.frz j r) env) := by
  rw [evSs]
  cases e : evSs r env with
  | ret d e2 =>
    rw [e] at h
    obtain ⟨outs, h1, h2⟩ := h.run
    exact ⟨⟨outs, by rw [outs_set (by omega)]; exact h1, h2⟩⟩
  | next e2 => rw [e] at h; exact ⟨h.run⟩
  | brk e2 => rw [e] at h; exact ⟨h.run⟩
  | cnt e2 => rw [e] at h; exact ⟨h.run⟩
  | exc c v e2 => rw [e] at h; exact h.run.elim
  | stuck => rw [e] at h; exact h.run.elim
theorem okX {outs : List D} (h : outsOf env pm 0 = some outs) (q : Q d outs) : Rns (RetP pm own Q) (.ret d env) := ⟨⟨outs, h, q⟩⟩
theorem okX' {outs : List D} (h : outsOf env pm 0 = some outs) (q : Q d outs) : RetP pm own Q (.ret d env) := ⟨outs, h, q⟩
theorem okXN {outs : List D} (h : outsOf env pm 0 = some outs) (q : Q .none outs) : Rns (RetP pm false Q) (.next env) := ⟨⟨rfl, outs, h, q⟩⟩
theorem runF_ex {n : Nat} {body : Ss} {ds : List D} (hl : ds.length = pm.length) (h : Rns (RetP pm own Q) (evSs body (ds.map some ++ List.replicate (n - ds.length) none))) : ∃ d outs, runF pm own n body ds = .ok d outs ∧ Q d outs := by
  have h := h.run
  unfold runF
  rw [if_pos hl]
  cases e : evSs body (ds.map some ++ List.replicate (n - ds.length) none) with
  | ret d env =>
    rw [e] at h
    obtain ⟨outs, h1, h2⟩ := h
    exact ⟨d, outs, by simp only [h1], h2⟩
  | next env =>
    rw [e] at h
    obtain ⟨rfl, outs, h1, h2⟩ := h
    exact ⟨.none, outs, by simp only [h1, Bool.false_eq_true, if_false], h2⟩
  | brk _ => rw [e] at h; exact h.elim
  | cnt _ => rw [e] at h; exact h.elim
  | exc _ _ _ => rw [e] at h; exact h.elim
  | stuck => rw [e] at h; exact h.elim
end
theorem runF_is {pm : List Bool} {own : Bool} {n : Nat} {body : Ss} {ds : List D} {d : D} {outs : List D} (hl : ds.length = pm.length) (h : Rns (RetP pm own fun d' o => d' = d ∧ o = outs) (evSs body (ds.map some ++ List.replicate (n - ds.length) none))) : runF pm own n body ds = .ok d outs := by
  obtain ⟨d', o, h1, rfl, rfl⟩ := runF_ex hl h
  exact h1
section
variable {env : Env} {pm : List Bool} {j : Nat} {d : D} {ds : List D} {x : Option D}
theorem out_nil : outsOf env [] j = some [] := rfl
theorem out_f : outsOf env (false :: pm) j = outsOf env pm (j + 1) := rfl
theorem out_t : outsOf env (true :: pm) j = fxO (getE env j) (outsOf env pm (j + 1)) := by
  show Option.bind (getE env j) _ = _
  cases getE env j with
  | none => rfl
  | some z => cases h : outsOf env pm (j + 1) <;> simp [h, fxO]
end
end MP

/-! MP: operators over typed values. -/
namespace MP
open PySem

/-! ### encodings -/
def oc : Option Nat → D
  | none => .none
  | some x => .int x
def ocs (s : List (Option Nat)) : List D := s.map oc
def rz (p : Nat × Nat) : D := .tuple [.int p.1, .int p.2]
def rzs (ms : List (Nat × Nat)) : List D := ms.map rz
def nats (xs : List Nat) : List D := xs.map natD
theorem oc_none : oc none = .none := rfl
theorem oc_some {x : Nat} : oc (some x) = .int x := rfl
theorem natD_eq {x : Nat} : natD x = .int x := rfl
theorem oc_inj {a b : Option Nat} (h : oc a = oc b) : a = b := by
  cases a <;> cases b <;> simp [oc] at h ⊢
  omega
theorem ocs_len {s : List (Option Nat)} : (ocs s).length = s.length := List.length_map _
theorem rzs_len {s : List (Nat × Nat)} : (rzs s).length = s.length := List.length_map _
theorem nats_len {s : List Nat} : (nats s).length = s.length := List.length_map _
theorem ocs_get {s : List (Option Nat)} {i : Nat} : (ocs s)[i]? = s[i]?.map oc := List.getElem?_map
theorem rzs_get {s : List (Nat × Nat)} {i : Nat} : (rzs s)[i]? = s[i]?.map rz := List.getElem?_map
theorem nats_get {s : List Nat} {i : Nat} : (nats s)[i]? = s[i]?.map natD := List.getElem?_map
theorem ocs_set {s : List (Option Nat)} {i : Nat} {c : Option Nat} : (ocs s).set i (oc c) = ocs (s.set i c) := by unfold ocs; rw [List.map_set]
theorem ocs_setN {s : List (Option Nat)} {i : Nat} : (ocs s).set i .none = ocs (s.set i none) := ocs_set (c := none)
theorem ocs_setI {s : List (Option Nat)} {i x : Nat} : (ocs s).set i (.int x) = ocs (s.set i (some x)) := ocs_set (c := some x)
theorem ocs_app {s t : List (Option Nat)} : ocs s ++ ocs t = ocs (s ++ t) := by unfold ocs; rw [List.map_append]
theorem rzs_app {s t : List (Nat × Nat)} : rzs s ++ rzs t = rzs (s ++ t) := by unfold rzs; rw [List.map_append]
theorem rzs_app1 {s : List (Nat × Nat)} {a b : Nat} : rzs s ++ [.tuple [.int a, .int b]] = rzs (s ++ [(a, b)]) := by unfold rzs; rw [List.map_append]; rfl
theorem nats_app {s t : List Nat} : nats s ++ nats t = nats (s ++ t) := by unfold nats; rw [List.map_append]
theorem nats_app1 {s : List Nat} {n : Nat} : nats s ++ [.int n] = nats (s ++ [n]) := by unfold nats; rw [List.map_append]; rfl
theorem nats_set {s : List Nat} {i n : Nat} : (nats s).set i (.int n) = nats (s.set i n) := by unfold nats; rw [List.map_set]; rfl
theorem nats_nil : ([] : List D) = nats [] := rfl
theorem rangeD_nat {n : Nat} : rangeD 0 n = nats (List.range n) := by
  unfold rangeD nats
  refine List.map_congr_left fun k _ => ?_
  rw [Int.zero_add]; rfl
theorem rangeD_natM {n : Nat} : rangeD 0 n = (List.range n).map natD := rangeD_nat

/-! ### equality of data -/
mutual
/-- no bools, no dicts, no texts: equal just when the same -/
def plain : D → Bool
  | .none | .int _ => true
  | .list xs | .tuple xs => plainAll xs
  | _ => false
def plainAll : List D → Bool
  | [] => true
  | x :: xs => plain x && plainAll xs
end
mutual
theorem eqv_plain : ∀ {a b : D}, plain a = true → plain b = true → (PyData.eqv a b = true ↔ a = b)
  | .none, b, _, h => by cases b <;> simp_all [plain, PyData.eqv]
  | .int i, b, _, h => by cases b <;> simp_all [plain, PyData.eqv]
  | .list xs, b, g, h => by
    cases b <;> simp [plain] at g h <;> simp [PyData.eqv]
    exact eqvAll_plain g h
  | .tuple xs, b, g, h => by
    cases b <;> simp [plain] at g h <;> simp [PyData.eqv]
    exact eqvAll_plain g h
  | .bool _, _, h, _ => by simp [plain] at h
  | .str _, _, h, _ => by simp [plain] at h
  | .dict _, _, h, _ => by simp [plain] at h
theorem eqvAll_plain : ∀ {a b : List D}, plainAll a = true → plainAll b = true → (PyData.eqvAll a b = true ↔ a = b)
  | [], b, _, h => by cases b <;> simp [PyData.eqvAll]
  | x :: xs, b, g, h => by
    cases b with
    | nil => simp [PyData.eqvAll]
    | cons y ys =>
      simp [plainAll] at g h
      simp only [PyData.eqvAll, Bool.and_eq_true, List.cons.injEq]
      rw [eqv_plain g.1 h.1, eqvAll_plain g.2 h.2]
end
mutual
theorem eqv_refl : ∀ {a : D}, a.canLay0 = true → PyData.eqv a a = true
  | .none, _ => by simp [PyData.eqv]
  | .bool _, _ => by simp [PyData.eqv]
  | .int _, _ => by simp [PyData.eqv]
  | .str _, _ => by simp [PyData.eqv]
  | .list xs, h => by simp only [PyData.eqv]; exact eqvAll_refl (by simpa [PyData.canLay0] using h)
  | .tuple xs, h => by simp only [PyData.eqv]; exact eqvAll_refl (by simpa [PyData.canLay0] using h)
  | .dict _, h => by simp [PyData.canLay0] at h
theorem eqvAll_refl : ∀ {a : List D}, PyData.canLayAll0 a = true → PyData.eqvAll a a = true
  | [], _ => by simp [PyData.eqvAll]
  | x :: xs, h => by
    simp only [PyData.canLayAll0, Bool.and_eq_true] at h
    simp only [PyData.eqvAll, Bool.and_eq_true]
    exact ⟨eqv_refl h.1, eqvAll_refl h.2⟩
end
mutual
theorem lay_plain : ∀ {a : D}, plain a = true → a.canLay0 = true
  | .none, _ => by simp [PyData.canLay0]
  | .int _, _ => by simp [PyData.canLay0]
  | .list xs, h => by simp [plain] at h; simp only [PyData.canLay0]; exact layAll_plain h
  | .tuple xs, h => by simp [plain] at h; simp only [PyData.canLay0]; exact layAll_plain h
  | .bool _, h => by simp [plain] at h
  | .str _, h => by simp [plain] at h
  | .dict _, h => by simp [plain] at h
theorem layAll_plain : ∀ {a : List D}, plainAll a = true → PyData.canLayAll0 a = true
  | [], _ => by simp [PyData.canLayAll0]
  | x :: xs, h => by
    simp [plainAll] at h
    simp only [PyData.canLayAll0, Bool.and_eq_true]
    exact ⟨lay_plain h.1, layAll_plain h.2⟩
end
/-- plain, and no deeper than k -/
def okD (k : Nat) (d : D) : Prop := plain d = true ∧ d.depth ≤ k
theorem plainAll_iff {xs : List D} : plainAll xs = true ↔ ∀ x ∈ xs, plain x = true := by
  induction xs with
  | nil => simp [plainAll]
  | cons x xs ih => simp [plainAll, ih]
theorem depthAll_le {xs : List D} {k : Nat} : PyData.depthAll xs ≤ k ↔ ∀ x ∈ xs, x.depth ≤ k := by
  induction xs with
  | nil => simp [PyData.depthAll]
  | cons x xs ih => simp only [PyData.depthAll, Nat.max_le, ih, List.mem_cons, forall_eq_or_imp]
theorem okD.list {k : Nat} {xs : List D} (h : ∀ x ∈ xs, okD k x) : okD (k + 1) (.list xs) := by
  refine ⟨by simp only [plain]; exact plainAll_iff.mpr fun x hx => (h x hx).1, ?_⟩
  simp only [PyData.depth]
  exact Nat.succ_le_succ (depthAll_le.mpr fun x hx => (h x hx).2)
theorem okD.tuple {k : Nat} {xs : List D} (h : ∀ x ∈ xs, okD k x) : okD (k + 1) (.tuple xs) := by
  refine ⟨by simp only [plain]; exact plainAll_iff.mpr fun x hx => (h x hx).1, ?_⟩
  simp only [PyData.depth]
  exact Nat.succ_le_succ (depthAll_le.mpr fun x hx => (h x hx).2)
theorem okD.mono {j k : Nat} {d : D} (h : okD j d) (hj : j ≤ k) : okD k d := ⟨h.1, Nat.le_trans h.2 hj⟩
theorem ok_int {k : Nat} {i : Int} : okD k (.int i) := ⟨by simp [plain], by simp [PyData.depth]⟩
theorem ok_none {k : Nat} : okD k .none := ⟨by simp [plain], by simp [PyData.depth]⟩
theorem ok_oc {k : Nat} {c : Option Nat} : okD k (oc c) := by
  cases c with
  | none => exact ok_none
  | some _ => exact ok_int
theorem ok_ocs {k : Nat} {s : List (Option Nat)} : ∀ x ∈ ocs s, okD k x := fun x hx => by
  obtain ⟨c, _, rfl⟩ := List.mem_map.mp hx
  exact ok_oc
theorem ok_nats {k : Nat} {s : List Nat} : ∀ x ∈ nats s, okD k x := fun x hx => by
  obtain ⟨c, _, rfl⟩ := List.mem_map.mp hx
  exact ok_int
theorem ok_rz {k : Nat} {p : Nat × Nat} : okD (k + 1) (rz p) := okD.tuple fun x hx => by
  simp at hx
  rcases hx with rfl | rfl <;> exact ok_int
theorem ok_rzs {k : Nat} {s : List (Nat × Nat)} : ∀ x ∈ rzs s, okD (k + 1) x := fun x hx => by
  obtain ⟨c, _, rfl⟩ := List.mem_map.mp hx
  exact ok_rz
theorem okD.shaped {k : Nat} {d : D} (h : okD k d) (hk : k ≤ 60) : SeqAt.shaped d = true := by
  unfold SeqAt.shaped
  rw [lay_plain h.1, Bool.true_and, decide_eq_true_eq]
  exact Nat.le_trans h.2 (by omega)
theorem eq_ok {a b : D} (ha : okD 60 a) (hb : okD 60 b) : Op.run .eq [a, b] = some (.bool (same a b)) := by
  have h : PyData.eqv a b = same a b := by
    have := eqv_plain ha.1 hb.1
    cases e : same a b
    · cases e2 : PyData.eqv a b
      · rfl
      · rw [this.mp e2, same_refl] at e; cases e
    · rw [same_eq e]; exact eqv_refl (lay_plain hb.1)
  show (if _ then _ else _) = _
  rw [if_pos ⟨ha.shaped (by omega), hb.shaped (by omega)⟩, h]
theorem ne_ok {a b : D} (ha : okD 60 a) (hb : okD 60 b) : Op.run .ne [a, b] = some (.bool (!same a b)) := by
  have := eq_ok ha hb
  have e : Op.run .eq [a, b] = if SeqAt.shaped a = true ∧ SeqAt.shaped b = true then some (.bool (PyData.eqv a b)) else none := rfl
  rw [e, if_pos ⟨ha.shaped (by omega), hb.shaped (by omega)⟩] at this
  show (if _ then _ else _) = _
  rw [if_pos ⟨ha.shaped (by omega), hb.shaped (by omega)⟩]
  simp only [Option.some.injEq, PyData.bool.injEq] at this
  rw [this]
theorem same_iff {a b : D} : same a b = true ↔ a = b := ⟨same_eq, fun h => h ▸ same_refl a⟩
theorem same_dec {a b : D} {p : Prop} [Decidable p] (h : a = b ↔ p) : same a b = decide p := by
  by_cases e : a = b
  · rw [decide_eq_true (h.mp e), e, same_refl]
  · rw [decide_eq_false fun q => e (h.mpr q)]
    cases z : same a b
    · rfl
    · exact absurd (same_eq z) e
theorem ocs_inj {s t : List (Option Nat)} : ocs s = ocs t ↔ s = t := ⟨fun h => List.map_inj_right (fun _ _ => oc_inj) |>.mp h, fun h => h ▸ rfl⟩
theorem nats_inj {s t : List Nat} : nats s = nats t ↔ s = t := ⟨fun h => List.map_inj_right (fun a b (e : natD a = natD b) => by unfold natD at e; injection e with e; omega) |>.mp h, fun h => h ▸ rfl⟩
theorem rz_inj {p q : Nat × Nat} (h : rz p = rz q) : p = q := by
  obtain ⟨a, b⟩ := p
  obtain ⟨c, d⟩ := q
  unfold rz at h
  simp at h
  simp; omega
theorem rzs_inj {s t : List (Nat × Nat)} : rzs s = rzs t ↔ s = t := ⟨fun h => List.map_inj_right (fun _ _ => rz_inj) |>.mp h, fun h => h ▸ rfl⟩

/-! ### the operators -/
section
variable {i j : Int} {a b n : Nat} {xs ys ds : List D} {c : Option Nat} {d : D} {s t : List (Option Nat)} {p q : Bool}
theorem p_add : Op.run .add [.int i, .int j] = some (.int (i + j)) := rfl
theorem p_sub : Op.run .sub [.int i, .int j] = some (.int (i - j)) := rfl
theorem p_mulL (h : -(2 ^ 64) < i ∧ i < 2 ^ 64) : Op.run .mul [.int i, .int j] = some (.int (i * j)) := if_pos (.inl h)
theorem p_mulR (h : -(2 ^ 64) < j ∧ j < 2 ^ 64) : Op.run .mul [.int i, .int j] = some (.int (i * j)) := if_pos (.inr h)
theorem p_fdiv (h1 : 0 < j) (h2 : j < 1073741824) : Op.run .fdiv [.int i, .int j] = some (.int (i / j)) := if_pos ⟨h1, h2⟩
theorem p_mod (h1 : 0 < j) : Op.run .mod [.int i, .int j] = some (.int (i % j)) := if_pos h1
theorem p_pow (h1 : 0 ≤ j) (h2 : j ≤ 1000000) (h3 : -(2 ^ 64) < i) (h4 : i < 2 ^ 64) : Op.run .pow [.int i, .int j] = some (.int (i ^ j.toNat)) := if_pos ⟨h1, h2, by omega⟩
theorem nmod {a b : Nat} : (a : Int) % (b : Int) = ((a % b : Nat) : Int) := rfl
theorem ndiv {a b : Nat} : (a : Int) / (b : Int) = ((a / b : Nat) : Int) := rfl
theorem nmul {a b : Nat} : (a : Int) * (b : Int) = ((a * b : Nat) : Int) := rfl
theorem p_lt : Op.run .lt [.int i, .int j] = some (.bool (decide (i < j))) := rfl
theorem p_le : Op.run .le [.int i, .int j] = some (.bool (decide (i ≤ j))) := rfl
theorem p_gt : Op.run .gt [.int i, .int j] = some (.bool (decide (j < i))) := rfl
theorem p_ge : Op.run .ge [.int i, .int j] = some (.bool (decide (j ≤ i))) := rfl
theorem p_neg : Op.run .neg [.int i] = some (.int (-i)) := rfl
theorem p_len : Op.run .len [.list xs] = some (.int xs.length) := rfl
theorem p_lenT : Op.run .len [.tuple xs] = some (.int xs.length) := rfl
theorem p_tuple : Op.run .tuple [.list xs] = some (.tuple xs) := rfl
theorem p_tupleT : Op.run .tuple [.tuple xs] = some (.tuple xs) := rfl
theorem p_list : Op.run .list [.list xs] = some (.list xs) := rfl
theorem p_listT : Op.run .list [.tuple xs] = some (.list xs) := rfl
theorem p_abs : Op.run .abs [.int i] = some (.int (if i < 0 then -i else i)) := rfl
theorem p_intB : Op.run .int [.bool p] = some (.int (if p then 1 else 0)) := rfl
theorem p_intI : Op.run .int [.int i] = some (.int i) := rfl
theorem p_rev {f : Bool} : Op.run (.rev f) [.list xs] = some (.list xs.reverse) := rfl
theorem p_isB {b : Bool} : Op.run (.isB b) [.bool p] = some (.bool (decide (p = b))) := rfl
theorem p_notB {b : Bool} : Op.run (.notB b) [.bool p] = some (.bool (!decide (p = b))) := rfl
theorem p_lrng (h : n ≤ 2 ^ 24) : Op.run .lrng [.int n] = some (.list (nats (List.range n))) := by
  rw [← rangeD_nat]
  have e : Op.run .lrng [.int (n : Int)] = if -(2 ^ 62) ≤ (n : Int) ∧ (n : Int) < 2 ^ 62 ∧ (n : Int).toNat ≤ 2 ^ 24 then some (.list (rangeD 0 (n : Int).toNat)) else none := rfl
  rw [e, if_pos ⟨by omega, by omega, by simpa using h⟩]; rfl
theorem p_rep1 {x : D} {n : Nat} (h : n ≤ sizeLine) : Op.run .rep [.list [x], .int n] = some (.list (List.replicate n x)) := by
  have h' := h
  rw [sizeLine_eq] at h'
  have e : Op.run .rep [.list [x], .int (n : Int)] = if -(2 ^ 63) ≤ (n : Int) ∧ (n : Int) < 2 ^ 63 ∧ [x].length * (n : Int).toNat ≤ sizeLine then some (.list (List.replicate (n : Int).toNat [x]).flatten) else none := rfl
  rw [e, if_pos ⟨by omega, by omega, by simpa using h⟩]
  simp [List.flatten_replicate_singleton]
theorem sIx_nat {n d a : Nat} : sIx n d (some (a : Int)) = min a n := by
  unfold sIx
  simp only []
  rw [if_neg (by omega)]
  simp
theorem cutL_lo {α : Type} {xs : List α} {a : Nat} : cutL xs (some (a : Int)) none = xs.drop a := by
  unfold cutL
  rw [sIx_nat]
  show List.take (xs.length - min a xs.length) _ = _
  by_cases h : a ≤ xs.length
  · rw [Nat.min_eq_left h, List.take_of_length_le (by rw [List.length_drop]; omega)]
  · rw [Nat.min_eq_right (by omega), List.drop_eq_nil_of_le (Nat.le_refl _), List.drop_eq_nil_of_le (by omega), List.take_nil]
theorem cutL_hi {α : Type} {xs : List α} {a : Nat} : cutL xs none (some (a : Int)) = xs.take a := by
  unfold cutL
  rw [sIx_nat]
  show List.take (min a xs.length - 0) (xs.drop 0) = _
  rw [List.drop_zero, Nat.sub_zero]
  by_cases h : a ≤ xs.length
  · rw [Nat.min_eq_left h]
  · rw [Nat.min_eq_right (by omega), List.take_of_length_le (Nat.le_refl _), List.take_of_length_le (by omega)]
theorem cutL_both {α : Type} {xs : List α} {a b : Nat} : cutL xs (some (a : Int)) (some (b : Int)) = (xs.take b).drop a := by
  unfold cutL
  rw [sIx_nat, sIx_nat, List.drop_take]
  by_cases h : a ≤ xs.length
  · rw [Nat.min_eq_left h]
    by_cases h2 : b ≤ xs.length
    · rw [Nat.min_eq_left h2]
    · rw [Nat.min_eq_right (show xs.length ≤ b by omega), List.take_of_length_le (by rw [List.length_drop]; omega), List.take_of_length_le (by rw [List.length_drop]; omega)]
  · rw [Nat.min_eq_right (show xs.length ≤ a by omega), List.drop_eq_nil_of_le (Nat.le_refl _), List.drop_eq_nil_of_le (by omega), List.take_nil, List.take_nil]
theorem p_slL {f : Bool} : Op.run (.slice f true false) [.list xs, .int (a : Int)] = some (.list (xs.drop a)) := by rw [← cutL_lo]; rfl
theorem p_slH {f : Bool} : Op.run (.slice f false true) [.list xs, .int (a : Int)] = some (.list (xs.take a)) := by rw [← cutL_hi]; rfl
theorem p_slB {f : Bool} : Op.run (.slice f true true) [.list xs, .int (a : Int), .int (b : Int)] = some (.list ((xs.take b).drop a)) := by rw [← cutL_both]; rfl
theorem p_slLT : Op.run (.slice false true false) [.tuple xs, .int (a : Int)] = some (.tuple (xs.drop a)) := by rw [← cutL_lo]; rfl
theorem p_slHT : Op.run (.slice false false true) [.tuple xs, .int (a : Int)] = some (.tuple (xs.take a)) := by rw [← cutL_hi]; rfl
theorem p_slBT : Op.run (.slice false true true) [.tuple xs, .int (a : Int), .int (b : Int)] = some (.tuple ((xs.take b).drop a)) := by rw [← cutL_both]; rfl
theorem p_sl0 {f : Bool} : Op.run (.slice f false false) [.list xs] = some (.list xs) := by
  show some (PyData.list _) = _
  unfold cutL sIx
  simp
theorem nats_drop {x : List Nat} : (nats x).drop a = nats (x.drop a) := by unfold nats; rw [List.map_drop]
theorem nats_take {x : List Nat} : (nats x).take a = nats (x.take a) := by unfold nats; rw [List.map_take]
theorem ocs_drop {x : List (Option Nat)} : (ocs x).drop a = ocs (x.drop a) := by unfold ocs; rw [List.map_drop]
theorem ocs_take {x : List (Option Nat)} : (ocs x).take a = ocs (x.take a) := by unfold ocs; rw [List.map_take]
theorem rzs_drop {x : List (Nat × Nat)} : (rzs x).drop a = rzs (x.drop a) := by unfold rzs; rw [List.map_drop]
theorem rzs_take {x : List (Nat × Nat)} : (rzs x).take a = rzs (x.take a) := by unfold rzs; rw [List.map_take]
theorem p_rep1N {n : Nat} (h : n ≤ sizeLine) : Op.run .rep [.list [.none], .int n] = some (.list (ocs (List.replicate n none))) := by
  rw [p_rep1 h]
  unfold ocs
  rw [List.map_replicate]; rfl
theorem p_min2 : Op.run .min2 [.int i, .int j] = some (.int (if j < i then j else i)) := rfl
theorem p_max2 : Op.run .max2 [.int i, .int j] = some (.int (if i < j then j else i)) := rfl
theorem p_eqI : Op.run .eq [.int i, .int j] = some (.bool (decide (i = j))) := by
  rw [eq_ok ok_int ok_int, same_dec (p := i = j) ⟨fun h => by cases h; rfl, fun h => h ▸ rfl⟩]
theorem p_neI : Op.run .ne [.int i, .int j] = some (.bool (!decide (i = j))) := by
  rw [ne_ok ok_int ok_int, same_dec (p := i = j) ⟨fun h => by cases h; rfl, fun h => h ▸ rfl⟩]
theorem oc_int {c : Option Nat} {a : Nat} : oc c = .int a ↔ c = some a := ⟨fun h => oc_inj h, fun h => h ▸ rfl⟩
theorem p_eqC : Op.run .eq [oc c, .int (a : Int)] = some (.bool (decide (c = some a))) := by rw [eq_ok ok_oc ok_int, same_dec oc_int]
theorem p_neC : Op.run .ne [oc c, .int (a : Int)] = some (.bool (!decide (c = some a))) := by rw [ne_ok ok_oc ok_int, same_dec oc_int]
theorem p_neC_r : Op.run .ne [.int (a : Int), oc c] = some (.bool (!decide (c = some a))) := by rw [ne_ok ok_int ok_oc, same_dec (p := c = some a) ⟨fun h => oc_int.mp h.symm, fun h => (oc_int.mpr h).symm⟩]
theorem p_eqC_r : Op.run .eq [.int (a : Int), oc c] = some (.bool (decide (c = some a))) := by rw [eq_ok ok_int ok_oc, same_dec (p := c = some a) ⟨fun h => oc_int.mp h.symm, fun h => (oc_int.mpr h).symm⟩]
theorem p_neNI : Op.run .ne [.none, .int i] = some (.bool true) := by rw [ne_ok ok_none ok_int]; rfl
theorem p_neIN : Op.run .ne [.int i, .none] = some (.bool true) := by rw [ne_ok ok_int ok_none]; rfl
theorem p_eqNI : Op.run .eq [.none, .int i] = some (.bool false) := by rw [eq_ok ok_none ok_int]; rfl
theorem p_eqIN : Op.run .eq [.int i, .none] = some (.bool false) := by rw [eq_ok ok_int ok_none]; rfl
theorem p_neNN : Op.run .ne [.none, .none] = some (.bool false) := by rw [ne_ok ok_none ok_none]; rfl
theorem p_eqNN : Op.run .eq [.none, .none] = some (.bool true) := by rw [eq_ok ok_none ok_none]; rfl
theorem p_eqCC {e : Option Nat} : Op.run .eq [oc c, oc e] = some (.bool (decide (c = e))) := by rw [eq_ok ok_oc ok_oc, same_dec ⟨oc_inj, fun h => h ▸ rfl⟩]
theorem p_neCC {e : Option Nat} : Op.run .ne [oc c, oc e] = some (.bool (!decide (c = e))) := by rw [ne_ok ok_oc ok_oc, same_dec ⟨oc_inj, fun h => h ▸ rfl⟩]
theorem p_eqSt : Op.run .eq [.tuple (ocs s), .tuple (ocs t)] = some (.bool (decide (s = t))) := by
  rw [eq_ok (okD.tuple (k := 59) ok_ocs) (okD.tuple ok_ocs), same_dec (p := s = t) ⟨fun h => by injection h with h; exact ocs_inj.mp h, fun h => h ▸ rfl⟩]
theorem p_neSt : Op.run .ne [.tuple (ocs s), .tuple (ocs t)] = some (.bool (!decide (s = t))) := by
  rw [ne_ok (okD.tuple (k := 59) ok_ocs) (okD.tuple ok_ocs), same_dec (p := s = t) ⟨fun h => by injection h with h; exact ocs_inj.mp h, fun h => h ▸ rfl⟩]
theorem p_eqNats {x y : List Nat} : Op.run .eq [.list (nats x), .list (nats y)] = some (.bool (decide (x = y))) := by
  rw [eq_ok (okD.list (k := 59) ok_nats) (okD.list ok_nats), same_dec (p := x = y) ⟨fun h => by injection h with h; exact nats_inj.mp h, fun h => h ▸ rfl⟩]
theorem p_neNats {x y : List Nat} : Op.run .ne [.list (nats x), .list (nats y)] = some (.bool (!decide (x = y))) := by
  rw [ne_ok (okD.list (k := 59) ok_nats) (okD.list ok_nats), same_dec (p := x = y) ⟨fun h => by injection h with h; exact nats_inj.mp h, fun h => h ▸ rfl⟩]
theorem p_isNone : Op.run .isNone [oc c] = some (.bool (decide (c = none))) := by cases c <;> rfl
theorem p_notNone : Op.run .notNone [oc c] = some (.bool (!decide (c = none))) := by cases c <;> rfl
theorem p_isNoneI : Op.run .isNone [.int i] = some (.bool false) := rfl
theorem p_notNoneI : Op.run .notNone [.int i] = some (.bool true) := rfl
theorem p_isNoneN : Op.run .isNone [.none] = some (.bool true) := rfl
theorem p_notNoneN : Op.run .notNone [.none] = some (.bool false) := rfl
theorem ixD_nat : ixD n (a : Int) = if a < n then some a else none := by
  unfold ixD
  rw [if_pos (by omega)]
  by_cases h : a < n
  · rw [if_pos (by omega), if_pos h]; simp
  · rw [if_neg (by omega), if_neg h]
theorem ix_bind : (ixD xs.length (a : Int)).bind (fun j => xs[j]?) = xs[a]? := by
  rw [ixD_nat]
  by_cases h : a < xs.length
  · rw [if_pos h]; rfl
  · rw [if_neg h, List.getElem?_eq_none (by omega)]; rfl
theorem p_idxL : Op.run .idx [.list xs, .int (a : Int)] = xs[a]? := ix_bind
theorem p_idxT : Op.run .idx [.tuple xs, .int (a : Int)] = xs[a]? := ix_bind
theorem p_idxL0 : Op.run .idx [.list xs, .int 0] = xs[0]? := p_idxL (a := 0)
theorem p_idxT0 : Op.run .idx [.tuple xs, .int 0] = xs[0]? := p_idxT (a := 0)
theorem p_idxL1 : Op.run .idx [.list xs, .int 1] = xs[1]? := p_idxL (a := 1)
theorem p_idxT1 : Op.run .idx [.tuple xs, .int 1] = xs[1]? := p_idxT (a := 1)
theorem p_idxL2 : Op.run .idx [.list xs, .int 2] = xs[2]? := p_idxL (a := 2)
theorem p_idxLl (h : xs ≠ []) : Op.run .idx [.list xs, .int (-1)] = xs.getLast? := by
  have : 0 < xs.length := List.length_pos_iff.mpr h
  show Option.bind (ixD xs.length (-1)) _ = _
  unfold ixD
  rw [if_neg (by omega), if_pos (by omega), List.getLast?_eq_getElem?]
  show xs[(-1 + (xs.length : Int)).toNat]? = _
  congr 1; omega
theorem p_tup (h : xs.length ≤ sizeLine) : Op.run .tup xs = some (.tuple xs) := by
  unfold Op.run
  exact if_pos h
theorem p_lst (h : xs.length ≤ sizeLine) : Op.run .lst xs = some (.list xs) := by
  unfold Op.run
  exact if_pos h
theorem p_tup0 : Op.run .tup [] = some (.tuple []) := p_tup (by rw [sizeLine_eq]; decide)
theorem p_tup1 {x : D} : Op.run .tup [x] = some (.tuple [x]) := p_tup (by rw [sizeLine_eq]; simp)
theorem p_tup2 {x y : D} : Op.run .tup [x, y] = some (.tuple [x, y]) := p_tup (by rw [sizeLine_eq]; simp)
theorem p_tup3 {x y z : D} : Op.run .tup [x, y, z] = some (.tuple [x, y, z]) := p_tup (by rw [sizeLine_eq]; simp)
theorem p_lst0 : Op.run .lst [] = some (.list []) := p_lst (by rw [sizeLine_eq]; decide)
theorem p_lst1 {x : D} : Op.run .lst [x] = some (.list [x]) := p_lst (by rw [sizeLine_eq]; simp)
theorem p_lst2 {x y : D} : Op.run .lst [x, y] = some (.list [x, y]) := p_lst (by rw [sizeLine_eq]; simp)
theorem p_lst3 {x y z : D} : Op.run .lst [x, y, z] = some (.list [x, y, z]) := p_lst (by rw [sizeLine_eq]; simp)
theorem p_lst4 {x0 x1 x2 x3 : D} : Op.run .lst [x0, x1, x2, x3] = some (.list [x0, x1, x2, x3]) := p_lst (by rw [sizeLine_eq]; simp)
theorem p_tup4 {x0 x1 x2 x3 : D} : Op.run .tup [x0, x1, x2, x3] = some (.tuple [x0, x1, x2, x3]) := p_tup (by rw [sizeLine_eq]; simp)
theorem p_lst5 {x0 x1 x2 x3 x4 : D} : Op.run .lst [x0, x1, x2, x3, x4] = some (.list [x0, x1, x2, x3, x4]) := p_lst (by rw [sizeLine_eq]; simp)
theorem p_tup5 {x0 x1 x2 x3 x4 : D} : Op.run .tup [x0, x1, x2, x3, x4] = some (.tuple [x0, x1, x2, x3, x4]) := p_tup (by rw [sizeLine_eq]; simp)
theorem p_lst6 {x0 x1 x2 x3 x4 x5 : D} : Op.run .lst [x0, x1, x2, x3, x4, x5] = some (.list [x0, x1, x2, x3, x4, x5]) := p_lst (by rw [sizeLine_eq]; simp)
theorem p_tup6 {x0 x1 x2 x3 x4 x5 : D} : Op.run .tup [x0, x1, x2, x3, x4, x5] = some (.tuple [x0, x1, x2, x3, x4, x5]) := p_tup (by rw [sizeLine_eq]; simp)
theorem p_lst7 {x0 x1 x2 x3 x4 x5 x6 : D} : Op.run .lst [x0, x1, x2, x3, x4, x5, x6] = some (.list [x0, x1, x2, x3, x4, x5, x6]) := p_lst (by rw [sizeLine_eq]; simp)
theorem p_tup7 {x0 x1 x2 x3 x4 x5 x6 : D} : Op.run .tup [x0, x1, x2, x3, x4, x5, x6] = some (.tuple [x0, x1, x2, x3, x4, x5, x6]) := p_tup (by rw [sizeLine_eq]; simp)
theorem p_lst8 {x0 x1 x2 x3 x4 x5 x6 x7 : D} : Op.run .lst [x0, x1, x2, x3, x4, x5, x6, x7] = some (.list [x0, x1, x2, x3, x4, x5, x6, x7]) := p_lst (by rw [sizeLine_eq]; simp)
theorem p_tup8 {x0 x1 x2 x3 x4 x5 x6 x7 : D} : Op.run .tup [x0, x1, x2, x3, x4, x5, x6, x7] = some (.tuple [x0, x1, x2, x3, x4, x5, x6, x7]) := p_tup (by rw [sizeLine_eq]; simp)
theorem p_lst9 {x0 x1 x2 x3 x4 x5 x6 x7 x8 : D} : Op.run .lst [x0, x1, x2, x3, x4, x5, x6, x7, x8] = some (.list [x0, x1, x2, x3, x4, x5, x6, x7, x8]) := p_lst (by rw [sizeLine_eq]; simp)
theorem p_tup9 {x0 x1 x2 x3 x4 x5 x6 x7 x8 : D} : Op.run .tup [x0, x1, x2, x3, x4, x5, x6, x7, x8] = some (.tuple [x0, x1, x2, x3, x4, x5, x6, x7, x8]) := p_tup (by rw [sizeLine_eq]; simp)
theorem p_lst10 {x0 x1 x2 x3 x4 x5 x6 x7 x8 x9 : D} : Op.run .lst [x0, x1, x2, x3, x4, x5, x6, x7, x8, x9] = some (.list [x0, x1, x2, x3, x4, x5, x6, x7, x8, x9]) := p_lst (by rw [sizeLine_eq]; simp)
theorem p_tup10 {x0 x1 x2 x3 x4 x5 x6 x7 x8 x9 : D} : Op.run .tup [x0, x1, x2, x3, x4, x5, x6, x7, x8, x9] = some (.tuple [x0, x1, x2, x3, x4, x5, x6, x7, x8, x9]) := p_tup (by rw [sizeLine_eq]; simp)
theorem p_lst11 {x0 x1 x2 x3 x4 x5 x6 x7 x8 x9 x10 : D} : Op.run .lst [x0, x1, x2, x3, x4, x5, x6, x7, x8, x9, x10] = some (.list [x0, x1, x2, x3, x4, x5, x6, x7, x8, x9, x10]) := p_lst (by rw [sizeLine_eq]; simp)
theorem p_tup11 {x0 x1 x2 x3 x4 x5 x6 x7 x8 x9 x10 : D} : Op.run .tup [x0, x1, x2, x3, x4, x5, x6, x7, x8, x9, x10] = some (.tuple [x0, x1, x2, x3, x4, x5, x6, x7, x8, x9, x10]) := p_tup (by rw [sizeLine_eq]; simp)
theorem p_lst12 {x0 x1 x2 x3 x4 x5 x6 x7 x8 x9 x10 x11 : D} : Op.run .lst [x0, x1, x2, x3, x4, x5, x6, x7, x8, x9, x10, x11] = some (.list [x0, x1, x2, x3, x4, x5, x6, x7, x8, x9, x10, x11]) := p_lst (by rw [sizeLine_eq]; simp)
theorem p_tup12 {x0 x1 x2 x3 x4 x5 x6 x7 x8 x9 x10 x11 : D} : Op.run .tup [x0, x1, x2, x3, x4, x5, x6, x7, x8, x9, x10, x11] = some (.tuple [x0, x1, x2, x3, x4, x5, x6, x7, x8, x9, x10, x11]) := p_tup (by rw [sizeLine_eq]; simp)
theorem p_lst13 {x0 x1 x2 x3 x4 x5 x6 x7 x8 x9 x10 x11 x12 : D} : Op.run .lst [x0, x1, x2, x3, x4, x5, x6, x7, x8, x9, x10, x11, x12] = some (.list [x0, x1, x2, x3, x4, x5, x6, x7, x8, x9, x10, x11, x12]) := p_lst (by rw [sizeLine_eq]; simp)
theorem p_tup13 {x0 x1 x2 x3 x4 x5 x6 x7 x8 x9 x10 x11 x12 : D} : Op.run .tup [x0, x1, x2, x3, x4, x5, x6, x7, x8, x9, x10, x11, x12] = some (.tuple [x0, x1, x2, x3, x4, x5, x6, x7, x8, x9, x10, x11, x12]) := p_tup (by rw [sizeLine_eq]; simp)
theorem p_lst14 {x0 x1 x2 x3 x4 x5 x6 x7 x8 x9 x10 x11 x12 x13 : D} : Op.run .lst [x0, x1, x2, x3, x4, x5, x6, x7, x8, x9, x10, x11, x12, x13] = some (.list [x0, x1, x2, x3, x4, x5, x6, x7, x8, x9, x10, x11, x12, x13]) := p_lst (by rw [sizeLine_eq]; simp)
theorem p_tup14 {x0 x1 x2 x3 x4 x5 x6 x7 x8 x9 x10 x11 x12 x13 : D} : Op.run .tup [x0, x1, x2, x3, x4, x5, x6, x7, x8, x9, x10, x11, x12, x13] = some (.tuple [x0, x1, x2, x3, x4, x5, x6, x7, x8, x9, x10, x11, x12, x13]) := p_tup (by rw [sizeLine_eq]; simp)
theorem len_int {n : Nat} : (.int ((n : Nat) : Int) : D) = .int (n : Int) := rfl
theorem p_isin {d : D} (h1 : okD 60 d) (h2 : ∀ x ∈ xs, okD 59 x) : Op.run .isin [d, .list xs] = some (.bool (xs.any fun z => same z d)) := by
  have e : Op.run .isin [d, .list xs] = if SeqAt.shaped d = true ∧ SeqAt.shaped (.list xs) = true then some (.bool (xs.any fun z => PyData.eqv z d)) else none := rfl
  rw [e, if_pos ⟨h1.shaped (by omega), (okD.list h2).shaped (by omega)⟩]
  congr 2
  induction xs with
  | nil => rfl
  | cons x xs ih =>
    have hx := h2 x List.mem_cons_self
    rw [List.any_cons, List.any_cons, ih (fun y hy => h2 y (List.mem_cons_of_mem _ hy)) rfl]
    congr 1
    have := eqv_plain hx.1 h1.1
    cases z : same x d
    · cases e2 : PyData.eqv x d
      · rfl
      · rw [this.mp e2, same_refl] at z; cases z
    · rw [same_eq z]; exact eqv_refl (lay_plain h1.1)
theorem p_notinT2 {c a b : Option Nat} : Op.run .notin [oc c, .tuple [oc a, oc b]] = some (.bool (!(decide (c = a) || decide (c = b)))) := by
  have e : Op.run .notin [oc c, .tuple [oc a, oc b]] = if SeqAt.shaped (oc c) = true ∧ SeqAt.shaped (.tuple [oc a, oc b]) = true then some (.bool (!([oc a, oc b].any fun z => PyData.eqv z (oc c)))) else none := rfl
  have ho : ∀ x ∈ [oc a, oc b], okD 59 x := fun x hx => by
    simp at hx
    rcases hx with rfl | rfl <;> exact ok_oc
  rw [e, if_pos ⟨(ok_oc (k := 60)).shaped (by omega), (okD.tuple ho).shaped (by omega)⟩]
  have q : ∀ z : Option Nat, PyData.eqv (oc z) (oc c) = decide (c = z) := fun z => by
    have := eqv_plain (ok_oc (k := 60) (c := z)).1 (ok_oc (k := 60) (c := c)).1
    by_cases h : c = z
    · rw [decide_eq_true h, this.mpr (by rw [h])]
    · rw [decide_eq_false h]
      cases e2 : PyData.eqv (oc z) (oc c) with
      | false => rfl
      | true => exact absurd (oc_inj (this.mp e2)).symm h
  simp only [List.any_cons, List.any_nil, Bool.or_false, q]
theorem p_inN {x : List Nat} : Op.run .isin [.int (a : Int), .list (nats x)] = some (.bool (decide (a ∈ x))) := by
  rw [p_isin ok_int ok_nats]
  congr 2
  induction x with
  | nil => rfl
  | cons y ys ih =>
    show (same (natD y) (.int a) || _) = _
    rw [show (List.map natD ys) = nats ys from rfl, ih, same_dec (p := a = y) (by unfold natD; exact ⟨fun h => by injection h with h; omega, fun h => by rw [h]⟩)]
    by_cases e : a = y <;> simp [e]
theorem p_notinN {x : List Nat} : Op.run .notin [.int (a : Int), .list (nats x)] = some (.bool (!decide (a ∈ x))) := by
  have := p_inN (a := a) (x := x)
  have e : Op.run .isin [.int (a : Int), .list (nats x)] = if SeqAt.shaped (.int (a : Int)) = true ∧ SeqAt.shaped (.list (nats x)) = true then some (.bool ((nats x).any fun z => PyData.eqv z (.int (a : Int)))) else none := rfl
  have hs : SeqAt.shaped (.int (a : Int)) = true ∧ SeqAt.shaped (.list (nats x)) = true := ⟨(ok_int (k := 0)).shaped (by omega), (okD.list (k := 0) ok_nats).shaped (by omega)⟩
  rw [e, if_pos hs] at this
  show (if _ then _ else _) = _
  rw [if_pos hs]
  simp only [Option.some.injEq, PyData.bool.injEq] at this
  rw [this]
theorem p_isi1 {x : D} {t : String} (h : isiTs.contains t = true) : Op.run (.isi [t] true) [x] = some (.bool (isiB (tyName x) t)) := by
  show (if _ then _ else _) = _
  rw [if_pos (by simpa using h)]
  simp
theorem p_isi_int_int  : Op.run (.isi ["int"] true) [(.int i)] = some (.bool true) := by rw [p_isi1 (by decide)]; rfl
theorem p_isi_int_bool  : Op.run (.isi ["int"] true) [(.bool p)] = some (.bool true) := by rw [p_isi1 (by decide)]; rfl
theorem p_isi_int_tuple  : Op.run (.isi ["int"] true) [(.tuple xs)] = some (.bool false) := by rw [p_isi1 (by decide)]; rfl
theorem p_isi_int_list  : Op.run (.isi ["int"] true) [(.list xs)] = some (.bool false) := by rw [p_isi1 (by decide)]; rfl
theorem p_isi_int_str {u : Str} : Op.run (.isi ["int"] true) [(.str u)] = some (.bool false) := by rw [p_isi1 (by decide)]; rfl
theorem p_isi_int_none  : Op.run (.isi ["int"] true) [.none] = some (.bool false) := by rw [p_isi1 (by decide)]; rfl
theorem p_isi_int_dict {kv : List (D × D)} : Op.run (.isi ["int"] true) [(.dict kv)] = some (.bool false) := by rw [p_isi1 (by decide)]; rfl
theorem p_isi_bool_int  : Op.run (.isi ["bool"] true) [(.int i)] = some (.bool false) := by rw [p_isi1 (by decide)]; rfl
theorem p_isi_bool_bool  : Op.run (.isi ["bool"] true) [(.bool p)] = some (.bool true) := by rw [p_isi1 (by decide)]; rfl
theorem p_isi_bool_tuple  : Op.run (.isi ["bool"] true) [(.tuple xs)] = some (.bool false) := by rw [p_isi1 (by decide)]; rfl
theorem p_isi_bool_list  : Op.run (.isi ["bool"] true) [(.list xs)] = some (.bool false) := by rw [p_isi1 (by decide)]; rfl
theorem p_isi_bool_str {u : Str} : Op.run (.isi ["bool"] true) [(.str u)] = some (.bool false) := by rw [p_isi1 (by decide)]; rfl
theorem p_isi_bool_none  : Op.run (.isi ["bool"] true) [.none] = some (.bool false) := by rw [p_isi1 (by decide)]; rfl
theorem p_isi_bool_dict {kv : List (D × D)} : Op.run (.isi ["bool"] true) [(.dict kv)] = some (.bool false) := by rw [p_isi1 (by decide)]; rfl
theorem p_isi_tuple_int  : Op.run (.isi ["tuple"] true) [(.int i)] = some (.bool false) := by rw [p_isi1 (by decide)]; rfl
theorem p_isi_tuple_bool  : Op.run (.isi ["tuple"] true) [(.bool p)] = some (.bool false) := by rw [p_isi1 (by decide)]; rfl
theorem p_isi_tuple_tuple  : Op.run (.isi ["tuple"] true) [(.tuple xs)] = some (.bool true) := by rw [p_isi1 (by decide)]; rfl
theorem p_isi_tuple_list  : Op.run (.isi ["tuple"] true) [(.list xs)] = some (.bool false) := by rw [p_isi1 (by decide)]; rfl
theorem p_isi_tuple_str {u : Str} : Op.run (.isi ["tuple"] true) [(.str u)] = some (.bool false) := by rw [p_isi1 (by decide)]; rfl
theorem p_isi_tuple_none  : Op.run (.isi ["tuple"] true) [.none] = some (.bool false) := by rw [p_isi1 (by decide)]; rfl
theorem p_isi_tuple_dict {kv : List (D × D)} : Op.run (.isi ["tuple"] true) [(.dict kv)] = some (.bool false) := by rw [p_isi1 (by decide)]; rfl
theorem p_isi_list_int  : Op.run (.isi ["list"] true) [(.int i)] = some (.bool false) := by rw [p_isi1 (by decide)]; rfl
theorem p_isi_list_bool  : Op.run (.isi ["list"] true) [(.bool p)] = some (.bool false) := by rw [p_isi1 (by decide)]; rfl
theorem p_isi_list_tuple  : Op.run (.isi ["list"] true) [(.tuple xs)] = some (.bool false) := by rw [p_isi1 (by decide)]; rfl
theorem p_isi_list_list  : Op.run (.isi ["list"] true) [(.list xs)] = some (.bool true) := by rw [p_isi1 (by decide)]; rfl
theorem p_isi_list_str {u : Str} : Op.run (.isi ["list"] true) [(.str u)] = some (.bool false) := by rw [p_isi1 (by decide)]; rfl
theorem p_isi_list_none  : Op.run (.isi ["list"] true) [.none] = some (.bool false) := by rw [p_isi1 (by decide)]; rfl
theorem p_isi_list_dict {kv : List (D × D)} : Op.run (.isi ["list"] true) [(.dict kv)] = some (.bool false) := by rw [p_isi1 (by decide)]; rfl
theorem p_isi_str_int  : Op.run (.isi ["str"] true) [(.int i)] = some (.bool false) := by rw [p_isi1 (by decide)]; rfl
theorem p_isi_str_bool  : Op.run (.isi ["str"] true) [(.bool p)] = some (.bool false) := by rw [p_isi1 (by decide)]; rfl
theorem p_isi_str_tuple  : Op.run (.isi ["str"] true) [(.tuple xs)] = some (.bool false) := by rw [p_isi1 (by decide)]; rfl
theorem p_isi_str_list  : Op.run (.isi ["str"] true) [(.list xs)] = some (.bool false) := by rw [p_isi1 (by decide)]; rfl
theorem p_isi_str_str {u : Str} : Op.run (.isi ["str"] true) [(.str u)] = some (.bool true) := by rw [p_isi1 (by decide)]; rfl
theorem p_isi_str_none  : Op.run (.isi ["str"] true) [.none] = some (.bool false) := by rw [p_isi1 (by decide)]; rfl
theorem p_isi_str_dict {kv : List (D × D)} : Op.run (.isi ["str"] true) [(.dict kv)] = some (.bool false) := by rw [p_isi1 (by decide)]; rfl
theorem m_append (h : xs.length < sizeLine) : MOp.run .append (.list xs) [d] = some (.none, .list (xs ++ [d])) := if_pos h
theorem m_popAt {x : D} (h : xs[a]? = some x) (h2 : a < 2 ^ 62) : MOp.run .popAt (.list xs) [.int (a : Int)] = some (x, .list (xs.eraseIdx a)) := by
  have e : MOp.run .popAt (.list xs) [.int (a : Int)] = if 0 ≤ (a : Int) ∧ (a : Int) < 2 ^ 62 then (xs[(a : Int).toNat]?).map fun y => (y, .list (xs.eraseIdx (a : Int).toNat)) else none := rfl
  rw [e, if_pos ⟨by omega, by omega⟩]
  simp [h]
theorem m_extend {ys : List D} (h : xs.length + ys.length ≤ sizeLine) : MOp.run .extend (.list xs) [.list ys] = some (.none, .list (xs ++ ys)) := if_pos h
theorem m_pop0 {x : D} : MOp.run .popAt (.list (x :: xs)) [.int 0] = some (x, .list xs) := m_popAt (xs := x :: xs) (a := 0) (x := x) rfl (by omega)
theorem p_addR {o : List (Nat × Nat)} {m : Nat × Nat} (h : o.length < 1000) : Op.run .add [.list (rzs o), .list [rz m]] = some (.list (rzs (o ++ [m]))) := by
  have e : Op.run .add [.list (rzs o), .list [rz m]] = if (rzs o).length + ([rz m] : List D).length ≤ sizeLine then some (.list (rzs o ++ [rz m])) else none := rfl
  rw [e, if_pos (by rw [rzs_len, sizeLine_eq]; simp; omega)]
  unfold rzs
  rw [List.map_append]; rfl
theorem i_enumR {ms : List (Nat × Nat)} : IOp.run .enum [.list (rzs ms)] = some (ms.zipIdx.map fun q => .tuple [.int (q.2 : Int), rz q.1]) := by
  have e : IOp.run .enum [.list (rzs ms)] = some ((rzs ms).zipIdx.map fun q => .tuple [.int (q.2 : Int), q.1]) := rfl
  rw [e]
  unfold rzs
  rw [List.zipIdx_map, List.map_map]
  rfl
theorem i_enumC {cs : List (Option Nat)} : IOp.run .enum [.tuple (ocs cs)] = some (cs.zipIdx.map fun q => .tuple [.int (q.2 : Int), oc q.1]) := by
  have e : IOp.run .enum [.tuple (ocs cs)] = some ((ocs cs).zipIdx.map fun q => .tuple [.int (q.2 : Int), q.1]) := rfl
  rw [e]
  unfold ocs
  rw [List.zipIdx_map, List.map_map]
  rfl
theorem i_enumCL {cs : List (Option Nat)} : IOp.run .enum [.list (ocs cs)] = some (cs.zipIdx.map fun q => .tuple [.int (q.2 : Int), oc q.1]) := i_enumC
theorem i_seqL : IOp.run .seq [.list xs] = some xs := rfl
theorem i_seqT : IOp.run .seq [.tuple xs] = some xs := rfl
theorem i_rng (h : n < 2 ^ 62) : IOp.run .rng1 [.int (n : Int)] = some ((List.range n).map natD) := by
  rw [← rangeD_natM]
  have e : IOp.run .rng1 [.int (n : Int)] = if -(2 ^ 62) ≤ (n : Int) ∧ (n : Int) < 2 ^ 62 then some (rangeD 0 (n : Int).toNat) else none := rfl
  rw [e, if_pos ⟨by omega, by omega⟩]; rfl
theorem i_rng2 {m : Nat} (h : n < 2 ^ 62) (h2 : m ≤ n) : IOp.run .rng2 [.int (m : Int), .int (n : Int)] = some ((List.range (n - m)).map fun k => .int ((m + k : Nat) : Int)) := by
  have e : IOp.run .rng2 [.int (m : Int), .int (n : Int)] = if -(2 ^ 62) ≤ (m : Int) ∧ (m : Int) < 2 ^ 62 ∧ -(2 ^ 62) ≤ (n : Int) ∧ (n : Int) < 2 ^ 62 then some (rangeD (m : Int) ((n : Int) - (m : Int)).toNat) else none := rfl
  rw [e, if_pos ⟨by omega, by omega, by omega, by omega⟩]
  unfold rangeD
  rw [show ((n : Int) - (m : Int)).toNat = n - m by omega]
  congr 1
/-- zls as they are -/
def zls (xs : List Int) : List D := xs.map .int
theorem zls_len {xs : List Int} : (zls xs).length = xs.length := List.length_map _
theorem zls_get {xs : List Int} {i : Nat} : (zls xs)[i]? = xs[i]?.map .int := List.getElem?_map
theorem ok_zls {k : Nat} {s : List Int} : ∀ x ∈ zls s, okD k x := fun x hx => by
  obtain ⟨c, _, rfl⟩ := List.mem_map.mp hx
  exact ok_int
theorem p_neNil {xs : List D} (h : ∀ x ∈ xs, okD 59 x) : Op.run .ne [.list xs, .list []] = some (.bool (!decide (xs.length = 0))) := by
  rw [ne_ok (okD.list (k := 59) h) (okD.list fun x hx => by cases hx), same_dec (p := xs.length = 0) ⟨fun h => by injection h with h; rw [h]; rfl, fun h => by rw [List.eq_nil_of_length_eq_zero h]⟩]
theorem p_eqNil {xs : List D} (h : ∀ x ∈ xs, okD 59 x) : Op.run .eq [.list xs, .list []] = some (.bool (decide (xs.length = 0))) := by
  rw [eq_ok (okD.list (k := 59) h) (okD.list fun x hx => by cases hx), same_dec (p := xs.length = 0) ⟨fun h => by injection h with h; rw [h]; rfl, fun h => by rw [List.eq_nil_of_length_eq_zero h]⟩]
theorem p_neNilI {xs : List Int} : Op.run .ne [.list (zls xs), .list []] = some (.bool (!decide (xs.length = 0))) := by rw [p_neNil ok_zls, zls_len]
theorem p_eqNilC {xs : List (Option Nat)} : Op.run .eq [.list (ocs xs), .list []] = some (.bool (decide (xs.length = 0))) := by rw [p_eqNil ok_ocs, ocs_len]
theorem p_neNilC {xs : List (Option Nat)} : Op.run .ne [.list (ocs xs), .list []] = some (.bool (!decide (xs.length = 0))) := by rw [p_neNil ok_ocs, ocs_len]
theorem p_neNilN {xs : List Nat} : Op.run .ne [.list (nats xs), .list []] = some (.bool (!decide (xs.length = 0))) := by rw [p_neNil ok_nats, nats_len]
theorem p_eqNilN {xs : List Nat} : Op.run .eq [.list (nats xs), .list []] = some (.bool (decide (xs.length = 0))) := by rw [p_eqNil ok_nats, nats_len]
theorem p_neNilR {xs : List (Nat × Nat)} : Op.run .ne [.list (rzs xs), .list []] = some (.bool (!decide (xs.length = 0))) := by rw [p_neNil ok_rzs, rzs_len]
theorem nat1 {a : Nat} : (a : Int) + 1 = ((a + 1 : Nat) : Int) := rfl
theorem nat1' {a : Nat} : 1 + (a : Int) = ((1 + a : Nat) : Int) := by omega
theorem nat2' {a : Nat} : 2 + (a : Int) = ((2 + a : Nat) : Int) := by omega
theorem nat2 {a : Nat} : (a : Int) + 2 = ((a + 2 : Nat) : Int) := rfl
theorem p_modN {a b : Nat} (h : 0 < b) : Op.run .mod [.int (a : Int), .int (b : Int)] = some (.int ((a % b : Nat) : Int)) := by
  rw [p_mod (by omega)]; rfl
theorem p_fdivN {a b : Nat} (h : 0 < b) (h2 : b < 1073741824) : Op.run .fdiv [.int (a : Int), .int (b : Int)] = some (.int ((a / b : Nat) : Int)) := by
  rw [p_fdiv (by omega) (by omega)]; rfl
theorem bmul {a b A B : Int} (h1 : 0 ≤ a) (h2 : a ≤ A) (h3 : 0 ≤ b) (h4 : b ≤ B) : 0 ≤ a * b ∧ a * b ≤ A * B :=
  ⟨Int.mul_nonneg h1 h3, Int.mul_le_mul h2 h4 h3 (Int.le_trans h1 h2)⟩
/-- the mixing of a drawn cell -/
theorem p_pow5 {z M K1 K2 : Int} {a : Nat} (ha : a < 1000000) (hM : 0 < M) (hM2 : M ≤ 2147483648) (h1 : 0 ≤ K1) (h2 : K1 ≤ 1000000) (h3 : 0 ≤ K2) (h4 : K2 ≤ 1000000) :
    Op.run .pow [.int (z % M + K1 * (a : Int) + K2), .int 5] = some (.int ((z % M + K1 * (a : Int) + K2) ^ 5)) := by
  have e1 := Int.emod_nonneg z (show M ≠ 0 by omega)
  have e2 := Int.emod_lt_of_pos z hM
  have e3 := bmul h1 h2 (show (0 : Int) ≤ (a : Int) by omega) (show (a : Int) ≤ 1000000 by omega)
  exact p_pow (by omega) (by omega) (by omega) (by omega)
theorem p_powA {z M K1 K2 : Int} {a : Nat} (ha : a < 1000000) (hM : 0 < M) (hM2 : M ≤ 2147483648) (h1 : 0 ≤ K1) (h2 : K1 ≤ 1000000) (h3 : 0 ≤ K2) (h4 : K2 ≤ 1000000) :
    Op.run .pow [.int (z % M * ((a : Int) + K1) + K2 * (a : Int) * (a : Int)), .int 3] = some (.int ((z % M * ((a : Int) + K1) + K2 * (a : Int) * (a : Int)) ^ 3)) := by
  have e1 := Int.emod_nonneg z (show M ≠ 0 by omega)
  have e2 := Int.emod_lt_of_pos z hM
  have e3 := bmul h3 h4 (show (0 : Int) ≤ (a : Int) by omega) (show (a : Int) ≤ 1000000 by omega)
  have e4 := bmul e3.1 e3.2 (show (0 : Int) ≤ (a : Int) by omega) (show (a : Int) ≤ 1000000 by omega)
  have e5 := bmul e1 (show z % M ≤ 2147483648 by omega) (show (0 : Int) ≤ (a : Int) + K1 by omega) (show (a : Int) + K1 ≤ 2000000 by omega)
  exact p_pow (by omega) (by omega) (by omega) (by omega)
theorem p_powB {z M K1 K2 K3 : Int} {a : Nat} (ha : a < 1000000) (hM : 0 < M) (hM2 : M ≤ 2147483648) (h1 : 0 ≤ K1) (h2 : K1 ≤ 1000000) (h3 : 0 ≤ K2) (h4 : K2 ≤ 1000000) (h5 : 0 ≤ K3) (h6 : K3 ≤ 1000000) :
    Op.run .pow [.int (z % M * (2 * (a : Int) + K1) + K2 * (a : Int) * (a : Int) + K3), .int 3] = some (.int ((z % M * (2 * (a : Int) + K1) + K2 * (a : Int) * (a : Int) + K3) ^ 3)) := by
  have e1 := Int.emod_nonneg z (show M ≠ 0 by omega)
  have e2 := Int.emod_lt_of_pos z hM
  have e3 := bmul h3 h4 (show (0 : Int) ≤ (a : Int) by omega) (show (a : Int) ≤ 1000000 by omega)
  have e4 := bmul e3.1 e3.2 (show (0 : Int) ≤ (a : Int) by omega) (show (a : Int) ≤ 1000000 by omega)
  have e5 := bmul e1 (show z % M ≤ 2147483648 by omega) (show (0 : Int) ≤ 2 * (a : Int) + K1 by omega) (show 2 * (a : Int) + K1 ≤ 3000000 by omega)
  exact p_pow (by omega) (by omega) (by omega) (by omega)
theorem p_powC {z M K1 K3 : Int} {a : Nat} (ha : a < 1000000) (hM : 0 < M) (hM2 : M ≤ 2147483648) (h1 : 0 ≤ K1) (h2 : K1 ≤ 1000000) (h5 : 0 ≤ K3) (h6 : K3 ≤ 1000000) :
    Op.run .pow [.int (z % M * (2 * (a : Int) + K1) + K3), .int 3] = some (.int ((z % M * (2 * (a : Int) + K1) + K3) ^ 3)) := by
  have e1 := Int.emod_nonneg z (show M ≠ 0 by omega)
  have e2 := Int.emod_lt_of_pos z hM
  have e5 := bmul e1 (show z % M ≤ 2147483648 by omega) (show (0 : Int) ≤ 2 * (a : Int) + K1 by omega) (show 2 * (a : Int) + K1 ≤ 3000000 by omega)
  exact p_pow (by omega) (by omega) (by omega) (by omega)
theorem p_mulK {z K : Int} {a : Nat} (ha : a < 1000000) (h1 : 0 ≤ K) (h2 : K ≤ 1000000) : Op.run .mul [.int z, .int ((a : Int) + K)] = some (.int (z * ((a : Int) + K))) := p_mulR ⟨by omega, by omega⟩
theorem p_mul2K {z K : Int} {a : Nat} (ha : a < 1000000) (h1 : 0 ≤ K) (h2 : K ≤ 1000000) : Op.run .mul [.int z, .int (2 * (a : Int) + K)] = some (.int (z * (2 * (a : Int) + K))) := p_mulR ⟨by omega, by omega⟩
theorem p_mulN {z : Int} {a : Nat} (ha : a < 1000000) : Op.run .mul [.int z, .int (a : Int)] = some (.int (z * (a : Int))) := p_mulR ⟨by omega, by omega⟩
theorem and_ff {p q : Prop} [Decidable p] [Decidable q] (h : ¬ (p ∧ q)) : (decide p && decide q) = false := by
  rw [← Bool.decide_and]; exact decide_eq_false h
theorem lit_a0 {n : Nat} : ((n : Int) = 0) = (n = 0) := propext (by omega)
theorem lit_b0 {n : Nat} : ((n : Int) < 0) = (n < 0) := propext (by omega)
theorem lit_c0 {n : Nat} : ((n : Int) ≤ 0) = (n ≤ 0) := propext (by omega)
theorem lit_d0 {n : Nat} : (0 < (n : Int)) = (0 < n) := propext (by omega)
theorem lit_e0 {n : Nat} : (0 ≤ (n : Int)) = (0 ≤ n) := propext (by omega)
theorem lit_a1 {n : Nat} : ((n : Int) = 1) = (n = 1) := propext (by omega)
theorem lit_b1 {n : Nat} : ((n : Int) < 1) = (n < 1) := propext (by omega)
theorem lit_c1 {n : Nat} : ((n : Int) ≤ 1) = (n ≤ 1) := propext (by omega)
theorem lit_d1 {n : Nat} : (1 < (n : Int)) = (1 < n) := propext (by omega)
theorem lit_e1 {n : Nat} : (1 ≤ (n : Int)) = (1 ≤ n) := propext (by omega)
theorem lit_a2 {n : Nat} : ((n : Int) = 2) = (n = 2) := propext (by omega)
theorem lit_b2 {n : Nat} : ((n : Int) < 2) = (n < 2) := propext (by omega)
theorem lit_c2 {n : Nat} : ((n : Int) ≤ 2) = (n ≤ 2) := propext (by omega)
theorem lit_d2 {n : Nat} : (2 < (n : Int)) = (2 < n) := propext (by omega)
theorem lit_e2 {n : Nat} : (2 ≤ (n : Int)) = (2 ≤ n) := propext (by omega)
theorem lit_a3 {n : Nat} : ((n : Int) = 3) = (n = 3) := propext (by omega)
theorem lit_b3 {n : Nat} : ((n : Int) < 3) = (n < 3) := propext (by omega)
theorem lit_c3 {n : Nat} : ((n : Int) ≤ 3) = (n ≤ 3) := propext (by omega)
theorem lit_d3 {n : Nat} : (3 < (n : Int)) = (3 < n) := propext (by omega)
theorem lit_e3 {n : Nat} : (3 ≤ (n : Int)) = (3 ≤ n) := propext (by omega)
theorem lit_a4 {n : Nat} : ((n : Int) = 4) = (n = 4) := propext (by omega)
theorem lit_b4 {n : Nat} : ((n : Int) < 4) = (n < 4) := propext (by omega)
theorem lit_c4 {n : Nat} : ((n : Int) ≤ 4) = (n ≤ 4) := propext (by omega)
theorem lit_d4 {n : Nat} : (4 < (n : Int)) = (4 < n) := propext (by omega)
theorem lit_e4 {n : Nat} : (4 ≤ (n : Int)) = (4 ≤ n) := propext (by omega)
theorem lit_a5 {n : Nat} : ((n : Int) = 5) = (n = 5) := propext (by omega)
theorem lit_b5 {n : Nat} : ((n : Int) < 5) = (n < 5) := propext (by omega)
theorem lit_c5 {n : Nat} : ((n : Int) ≤ 5) = (n ≤ 5) := propext (by omega)
theorem lit_d5 {n : Nat} : (5 < (n : Int)) = (5 < n) := propext (by omega)
theorem lit_e5 {n : Nat} : (5 ≤ (n : Int)) = (5 ≤ n) := propext (by omega)
theorem lit_a6 {n : Nat} : ((n : Int) = 6) = (n = 6) := propext (by omega)
theorem lit_b6 {n : Nat} : ((n : Int) < 6) = (n < 6) := propext (by omega)
theorem lit_c6 {n : Nat} : ((n : Int) ≤ 6) = (n ≤ 6) := propext (by omega)
theorem lit_d6 {n : Nat} : (6 < (n : Int)) = (6 < n) := propext (by omega)
theorem lit_e6 {n : Nat} : (6 ≤ (n : Int)) = (6 ≤ n) := propext (by omega)
theorem lit_a7 {n : Nat} : ((n : Int) = 7) = (n = 7) := propext (by omega)
theorem lit_b7 {n : Nat} : ((n : Int) < 7) = (n < 7) := propext (by omega)
theorem lit_c7 {n : Nat} : ((n : Int) ≤ 7) = (n ≤ 7) := propext (by omega)
theorem lit_d7 {n : Nat} : (7 < (n : Int)) = (7 < n) := propext (by omega)
theorem lit_e7 {n : Nat} : (7 ≤ (n : Int)) = (7 ≤ n) := propext (by omega)
theorem lit_a8 {n : Nat} : ((n : Int) = 8) = (n = 8) := propext (by omega)
theorem lit_b8 {n : Nat} : ((n : Int) < 8) = (n < 8) := propext (by omega)
theorem lit_c8 {n : Nat} : ((n : Int) ≤ 8) = (n ≤ 8) := propext (by omega)
theorem lit_d8 {n : Nat} : (8 < (n : Int)) = (8 < n) := propext (by omega)
theorem lit_e8 {n : Nat} : (8 ≤ (n : Int)) = (8 ≤ n) := propext (by omega)
theorem lit_a9 {n : Nat} : ((n : Int) = 9) = (n = 9) := propext (by omega)
theorem lit_b9 {n : Nat} : ((n : Int) < 9) = (n < 9) := propext (by omega)
theorem lit_c9 {n : Nat} : ((n : Int) ≤ 9) = (n ≤ 9) := propext (by omega)
theorem lit_d9 {n : Nat} : (9 < (n : Int)) = (9 < n) := propext (by omega)
theorem lit_e9 {n : Nat} : (9 ≤ (n : Int)) = (9 ≤ n) := propext (by omega)
theorem lit_a10 {n : Nat} : ((n : Int) = 10) = (n = 10) := propext (by omega)
theorem lit_b10 {n : Nat} : ((n : Int) < 10) = (n < 10) := propext (by omega)
theorem lit_c10 {n : Nat} : ((n : Int) ≤ 10) = (n ≤ 10) := propext (by omega)
theorem lit_d10 {n : Nat} : (10 < (n : Int)) = (10 < n) := propext (by omega)
theorem lit_e10 {n : Nat} : (10 ≤ (n : Int)) = (10 ≤ n) := propext (by omega)
theorem lit_a11 {n : Nat} : ((n : Int) = 11) = (n = 11) := propext (by omega)
theorem lit_b11 {n : Nat} : ((n : Int) < 11) = (n < 11) := propext (by omega)
theorem lit_c11 {n : Nat} : ((n : Int) ≤ 11) = (n ≤ 11) := propext (by omega)
theorem lit_d11 {n : Nat} : (11 < (n : Int)) = (11 < n) := propext (by omega)
theorem lit_e11 {n : Nat} : (11 ≤ (n : Int)) = (11 ≤ n) := propext (by omega)
theorem lit_a12 {n : Nat} : ((n : Int) = 12) = (n = 12) := propext (by omega)
theorem lit_b12 {n : Nat} : ((n : Int) < 12) = (n < 12) := propext (by omega)
theorem lit_c12 {n : Nat} : ((n : Int) ≤ 12) = (n ≤ 12) := propext (by omega)
theorem lit_d12 {n : Nat} : (12 < (n : Int)) = (12 < n) := propext (by omega)
theorem lit_e12 {n : Nat} : (12 ≤ (n : Int)) = (12 ≤ n) := propext (by omega)
theorem lit_a13 {n : Nat} : ((n : Int) = 13) = (n = 13) := propext (by omega)
theorem lit_b13 {n : Nat} : ((n : Int) < 13) = (n < 13) := propext (by omega)
theorem lit_c13 {n : Nat} : ((n : Int) ≤ 13) = (n ≤ 13) := propext (by omega)
theorem lit_d13 {n : Nat} : (13 < (n : Int)) = (13 < n) := propext (by omega)
theorem lit_e13 {n : Nat} : (13 ≤ (n : Int)) = (13 ≤ n) := propext (by omega)
theorem lit_a20 {n : Nat} : ((n : Int) = 20) = (n = 20) := propext (by omega)
theorem lit_b20 {n : Nat} : ((n : Int) < 20) = (n < 20) := propext (by omega)
theorem lit_c20 {n : Nat} : ((n : Int) ≤ 20) = (n ≤ 20) := propext (by omega)
theorem lit_d20 {n : Nat} : (20 < (n : Int)) = (20 < n) := propext (by omega)
theorem lit_e20 {n : Nat} : (20 ≤ (n : Int)) = (20 ≤ n) := propext (by omega)
theorem lit_a30 {n : Nat} : ((n : Int) = 30) = (n = 30) := propext (by omega)
theorem lit_b30 {n : Nat} : ((n : Int) < 30) = (n < 30) := propext (by omega)
theorem lit_c30 {n : Nat} : ((n : Int) ≤ 30) = (n ≤ 30) := propext (by omega)
theorem lit_d30 {n : Nat} : (30 < (n : Int)) = (30 < n) := propext (by omega)
theorem lit_e30 {n : Nat} : (30 ≤ (n : Int)) = (30 ≤ n) := propext (by omega)
theorem lit_a39 {n : Nat} : ((n : Int) = 39) = (n = 39) := propext (by omega)
theorem lit_b39 {n : Nat} : ((n : Int) < 39) = (n < 39) := propext (by omega)
theorem lit_c39 {n : Nat} : ((n : Int) ≤ 39) = (n ≤ 39) := propext (by omega)
theorem lit_d39 {n : Nat} : (39 < (n : Int)) = (39 < n) := propext (by omega)
theorem lit_e39 {n : Nat} : (39 ≤ (n : Int)) = (39 ≤ n) := propext (by omega)
theorem lit_a40 {n : Nat} : ((n : Int) = 40) = (n = 40) := propext (by omega)
theorem lit_b40 {n : Nat} : ((n : Int) < 40) = (n < 40) := propext (by omega)
theorem lit_c40 {n : Nat} : ((n : Int) ≤ 40) = (n ≤ 40) := propext (by omega)
theorem lit_d40 {n : Nat} : (40 < (n : Int)) = (40 < n) := propext (by omega)
theorem lit_e40 {n : Nat} : (40 ≤ (n : Int)) = (40 ≤ n) := propext (by omega)
theorem lit_a41 {n : Nat} : ((n : Int) = 41) = (n = 41) := propext (by omega)
theorem lit_b41 {n : Nat} : ((n : Int) < 41) = (n < 41) := propext (by omega)
theorem lit_c41 {n : Nat} : ((n : Int) ≤ 41) = (n ≤ 41) := propext (by omega)
theorem lit_d41 {n : Nat} : (41 < (n : Int)) = (41 < n) := propext (by omega)
theorem lit_e41 {n : Nat} : (41 ≤ (n : Int)) = (41 ≤ n) := propext (by omega)
theorem lit_a60 {n : Nat} : ((n : Int) = 60) = (n = 60) := propext (by omega)
theorem lit_b60 {n : Nat} : ((n : Int) < 60) = (n < 60) := propext (by omega)
theorem lit_c60 {n : Nat} : ((n : Int) ≤ 60) = (n ≤ 60) := propext (by omega)
theorem lit_d60 {n : Nat} : (60 < (n : Int)) = (60 < n) := propext (by omega)
theorem lit_e60 {n : Nat} : (60 ≤ (n : Int)) = (60 ≤ n) := propext (by omega)
theorem lit_a63 {n : Nat} : ((n : Int) = 63) = (n = 63) := propext (by omega)
theorem lit_b63 {n : Nat} : ((n : Int) < 63) = (n < 63) := propext (by omega)
theorem lit_c63 {n : Nat} : ((n : Int) ≤ 63) = (n ≤ 63) := propext (by omega)
theorem lit_d63 {n : Nat} : (63 < (n : Int)) = (63 < n) := propext (by omega)
theorem lit_e63 {n : Nat} : (63 ≤ (n : Int)) = (63 ≤ n) := propext (by omega)
theorem lit_a200 {n : Nat} : ((n : Int) = 200) = (n = 200) := propext (by omega)
theorem lit_b200 {n : Nat} : ((n : Int) < 200) = (n < 200) := propext (by omega)
theorem lit_c200 {n : Nat} : ((n : Int) ≤ 200) = (n ≤ 200) := propext (by omega)
theorem lit_d200 {n : Nat} : (200 < (n : Int)) = (200 < n) := propext (by omega)
theorem lit_e200 {n : Nat} : (200 ≤ (n : Int)) = (200 ≤ n) := propext (by omega)
theorem lit_a201 {n : Nat} : ((n : Int) = 201) = (n = 201) := propext (by omega)
theorem lit_b201 {n : Nat} : ((n : Int) < 201) = (n < 201) := propext (by omega)
theorem lit_c201 {n : Nat} : ((n : Int) ≤ 201) = (n ≤ 201) := propext (by omega)
theorem lit_d201 {n : Nat} : (201 < (n : Int)) = (201 < n) := propext (by omega)
theorem lit_e201 {n : Nat} : (201 ≤ (n : Int)) = (201 ≤ n) := propext (by omega)
theorem natlit {a : Nat} {n : Nat} : (@OfNat.ofNat Int n _ : Int) + (a : Int) = ((@OfNat.ofNat Nat n _ + a : Nat) : Int) := by
  rw [Int.natCast_add]; rfl
theorem natlit' {a : Nat} {n : Nat} : (a : Int) + (@OfNat.ofNat Int n _ : Int) = ((a + @OfNat.ofNat Nat n _ : Nat) : Int) := by
  rw [Int.natCast_add]; rfl
theorem natsum {a b : Nat} : (a : Int) + (b : Int) = ((a + b : Nat) : Int) := by rw [Int.natCast_add]
end
/-! ### lists -/
theorem perm_erase {α : Type} : ∀ {l : List α} {i : Nat} {y : α}, l[i]? = some y → (y :: l.eraseIdx i).Perm l
  | [], i, y, h => by simp at h
  | x :: xs, 0, y, h => by simp at h; subst h; simp
  | x :: xs, i + 1, y, h => by
    simp only [List.getElem?_cons_succ] at h
    simp only [List.eraseIdx_cons_succ]
    exact (List.Perm.swap _ _ _).trans ((perm_erase h).cons x)
theorem perm_nats {ds : List D} {xs : List Nat} (h : ds.Perm (nats xs)) : ∃ ys : List Nat, ds = nats ys ∧ ys.Perm xs := by
  have key : ∀ {as bs : List D}, as.Perm bs → ∀ xs, bs = nats xs → ∃ ys : List Nat, as = nats ys ∧ ys.Perm xs := by
    intro as bs h
    induction h with
    | nil => intro xs e; exact ⟨xs, e, .refl _⟩
    | cons x _ ih =>
      intro xs e
      cases xs with
      | nil => cases e
      | cons y ys =>
        simp only [nats, List.map_cons, List.cons.injEq] at e
        obtain ⟨ys', h1, h2⟩ := ih ys e.2
        exact ⟨y :: ys', by rw [h1, e.1]; rfl, h2.cons y⟩
    | swap x y l =>
      intro xs e
      match xs, e with
      | a :: b :: r, e =>
        simp only [nats, List.map_cons, List.cons.injEq] at e
        obtain ⟨e1, e2, e3⟩ := e
        exact ⟨b :: a :: r, by rw [e1, e2, e3]; rfl, .swap _ _ _⟩
    | trans _ _ ih1 ih2 =>
      intro xs e
      obtain ⟨ys, h1, h2⟩ := ih2 xs e
      obtain ⟨zs, h3, h4⟩ := ih1 ys h1
      exact ⟨zs, h3, h4.trans h2⟩
  exact key h xs rfl
/-- a partner for each: below n, and another one -/
structure GoodA (n : Nat) (a : List (Option Nat)) : Prop where
  len : a.length = n
  ok : ∀ i y, a[i]? = some (some y) → y < n ∧ y ≠ i
theorem GoodA.empty {n : Nat} : GoodA n (List.replicate n none) := ⟨List.length_replicate, fun i y h => by
  rw [List.getElem?_replicate] at h
  split at h <;> cases h⟩
theorem GoodA.set {n x y : Nat} {a : List (Option Nat)} (h : GoodA n a) (hy : y < n) (hn : y ≠ x) : GoodA n (a.set x (some y)) := ⟨by rw [List.length_set, h.len], fun i z hz => by
  rw [List.getElem?_set] at hz
  split at hz
  · split at hz
    · rename_i e _
      injection hz with hz; injection hz with hz
      subst hz; subst e; exact ⟨hy, hn⟩
    · cases hz
  · exact h.ok i z hz⟩
theorem GoodA.clear {n x : Nat} {a : List (Option Nat)} (h : GoodA n a) : GoodA n (a.set x none) := ⟨by rw [List.length_set, h.len], fun i z hz => by
  rw [List.getElem?_set] at hz
  split at hz
  · split at hz <;> cases hz
  · exact h.ok i z hz⟩
theorem perm_range_lt {n x i : Nat} {ord : List Nat} (h : ord.Perm (List.range n)) (hx : ord[i]? = some x) : x < n := by
  have := h.mem_iff.mp (List.mem_of_getElem? hx)
  simpa using this
theorem perm_range_ne {n x y i j : Nat} {ord : List Nat} (h : ord.Perm (List.range n)) (hx : ord[i]? = some x) (hy : ord[j]? = some y) (hn : i ≠ j) : x ≠ y := by
  have nd : ord.Nodup := h.nodup_iff.mpr List.nodup_range
  intro e
  subst e
  exact hn ((List.getElem?_inj (List.getElem?_eq_some_iff.mp hx).1 nd).mp (hx.trans hy.symm))
theorem next_ne {n k : Nat} (h : 2 ≤ n) (hk : k < n) : (k + 1) % n ≠ k := by
  by_cases e : k + 1 = n
  · rw [e, Nat.mod_self]; omega
  · rw [Nat.mod_eq_of_lt (by omega)]; omega
theorem shift_ne {n x d : Nat} (hx : x < n) (hd : d < n - 1) : (x + 1 + d) % n ≠ x := by
  by_cases e : x + 1 + d < n
  · rw [Nat.mod_eq_of_lt e]; omega
  · rw [Nat.mod_eq_sub_mod (by omega), Nat.mod_eq_of_lt (by omega)]; omega
theorem ins_perm (x : Int) : ∀ l : List Int, (orderedI.ins x l).Perm (x :: l)
  | [] => .refl _
  | y :: ys => by
    unfold orderedI.ins
    split
    · exact .refl _
    · exact ((ins_perm x ys).cons y).trans (.swap _ _ _)
theorem ordI_perm : ∀ l : List Int, (orderedI l).Perm l
  | [] => .refl _
  | x :: xs => by
    unfold orderedI
    exact (ins_perm x _).trans ((ordI_perm xs).cons x)
theorem ins_sorted (x : Int) : ∀ l : List Int, l.Pairwise (· ≤ ·) → (orderedI.ins x l).Pairwise (· ≤ ·)
  | [], _ => by simp [orderedI.ins]
  | y :: ys, h => by
    have h1 := List.pairwise_cons.mp h
    unfold orderedI.ins
    split
    · rename_i hx
      refine List.pairwise_cons.mpr ⟨fun z hz => ?_, h⟩
      rcases List.mem_cons.mp hz with rfl | hz
      · exact hx
      · have := h1.1 z hz; omega
    · rename_i hx
      refine List.pairwise_cons.mpr ⟨fun z hz => ?_, ins_sorted x ys h1.2⟩
      rcases List.mem_cons.mp ((ins_perm x ys).mem_iff.mp hz) with rfl | hz
      · omega
      · exact h1.1 z hz
theorem ordI_sorted : ∀ l : List Int, (orderedI l).Pairwise (· ≤ ·)
  | [] => by simp [orderedI]
  | x :: xs => by unfold orderedI; exact ins_sorted x _ (ordI_sorted xs)
theorem ordI_eq {l m : List Int} (p : m.Perm l) (h : m.Pairwise (· ≤ ·)) : orderedI l = m :=
  List.Perm.eq_of_pairwise (fun a b _ _ h1 h2 => Int.le_antisymm h1 h2) (ordI_sorted l) h ((ordI_perm l).trans p.symm)
theorem ints_nats : ∀ {x : List Nat}, ints? (nats x) = some (x.map Int.ofNat)
  | [] => rfl
  | a :: x => by
    show Option.map _ (ints? (nats x)) = _
    rw [ints_nats]; rfl
theorem p_sortedN {x y : List Nat} (p : y.Perm x) (h : y.Pairwise (· ≤ ·)) : Op.run .sorted [.list (nats x)] = some (.list (nats y)) := by
  have e : Op.run .sorted [.list (nats x)] = (ints? (nats x)).map fun ns => .list ((orderedI ns).map .int) := rfl
  have h2 : (y.map Int.ofNat).Pairwise (· ≤ ·) := List.pairwise_map.mpr (h.imp fun q => Int.ofNat_le.mpr q)
  rw [e, ints_nats, Option.map_some, ordI_eq (p.map _) h2, List.map_map]
  rfl
theorem noLst_oc {c : Option Nat} : noLst (oc c) = true := by cases c <;> rfl
theorem noLst_all {xs : List D} : noLstAll xs = true ↔ ∀ x ∈ xs, noLst x = true := by
  induction xs with
  | nil => simp [noLstAll]
  | cons x xs ih => simp [noLstAll, ih]
theorem noLst_ocs {s : List (Option Nat)} : noLstAll (ocs s) = true := noLst_all.mpr fun x hx => by
  obtain ⟨c, _, rfl⟩ := List.mem_map.mp hx
  exact noLst_oc
theorem noLst_nats {s : List Nat} : noLstAll (nats s) = true := noLst_all.mpr fun x hx => by
  obtain ⟨c, _, rfl⟩ := List.mem_map.mp hx
  rfl
theorem noLst_rzs {s : List (Nat × Nat)} : noLstAll (rzs s) = true := noLst_all.mpr fun x hx => by
  obtain ⟨c, _, rfl⟩ := List.mem_map.mp hx
  rfl
theorem m_plainSt {b : Bool} {s : List (Option Nat)} : plainRes b (.tuple (ocs s)) = true := by cases b <;> exact noLst_ocs
theorem m_plainLc {s : List (Option Nat)} : plainRes true (.list (ocs s)) = true := noLst_ocs
theorem m_plainLn {s : List Nat} : plainRes true (.list (nats s)) = true := noLst_nats
theorem m_plainLr {s : List (Nat × Nat)} : plainRes true (.list (rzs s)) = true := noLst_rzs
theorem any_same {α : Type} {f : α → D} (hf : ∀ a b, f a = f b → a = b) {x : α} : ∀ {l : List α}, ((l.map f).any fun z => same z (f x)) = true ↔ x ∈ l
  | [] => by simp
  | y :: ys => by
    rw [List.map_cons, List.any_cons, Bool.or_eq_true, any_same hf, same_iff, List.mem_cons]
    exact ⟨fun h => h.imp (fun e => (hf _ _ e).symm) id, fun h => h.imp (fun e => by rw [e]) id⟩
theorem p_inR {m : Nat × Nat} {o : List (Nat × Nat)} : Op.run .isin [rz m, .list (rzs o)] = some (.bool (decide (m ∈ o))) := by
  rw [p_isin (ok_rz (k := 59)) (ok_rzs (k := 58))]
  have : ((rzs o).any fun z => same z (rz m)) = decide (m ∈ o) := by
    rw [Bool.eq_iff_iff, decide_eq_true_iff]
    exact any_same fun _ _ => rz_inj
  rw [this]
theorem p_notinOf {d : D} {xs : List D} {b : Bool} (h : Op.run .isin [d, .list xs] = some (.bool b)) : Op.run .notin [d, .list xs] = some (.bool (!b)) := by
  have e : Op.run .isin [d, .list xs] = if SeqAt.shaped d = true ∧ SeqAt.shaped (.list xs) = true then some (.bool (xs.any fun z => PyData.eqv z d)) else none := rfl
  have e2 : Op.run .notin [d, .list xs] = if SeqAt.shaped d = true ∧ SeqAt.shaped (.list xs) = true then some (.bool (!xs.any fun z => PyData.eqv z d)) else none := rfl
  rw [e] at h
  rw [e2]
  split at h
  · rename_i hs
    rw [if_pos hs]
    simp only [Option.some.injEq, PyData.bool.injEq] at h
    rw [h]
  · cases h
theorem p_notinR {m : Nat × Nat} {o : List (Nat × Nat)} : Op.run .notin [rz m, .list (rzs o)] = some (.bool (!decide (m ∈ o))) := p_notinOf p_inR
theorem p_eqZ {x y : List Int} : Op.run .eq [.list (zls x), .list (zls y)] = some (.bool (decide (x = y))) := by
  rw [eq_ok (okD.list (k := 59) ok_zls) (okD.list ok_zls), same_dec (p := x = y) ⟨fun h => by injection h with h; exact List.map_inj_right (fun a b (e : PyData.int a = .int b) => by injection e) |>.mp h, fun h => h ▸ rfl⟩]
theorem p_sumZ {x : List Int} : Op.run .sum [.list (zls x)] = some (.int x.sum) := by
  have e : Op.run .sum [.list (zls x)] = (ints? (zls x)).map fun ns => .int ns.sum := rfl
  have h : ∀ x : List Int, ints? (zls x) = some x := fun x => by
    induction x with
    | nil => rfl
    | cons a x ih =>
      show Option.map _ (ints? (zls x)) = _
      rw [ih]; rfl
  rw [e, h]; rfl
/-! ### drawing -/
/-- a pen: the cells, the next one, what is left -/
structure Pen where
  cells : List Int
  i : Nat
  c : Int
def pen (p : Pen) : D := .list [.list (zls p.cells), .int p.i, .int p.c]
def Drawn (p : Pen) (n : Nat) (d : D) (outs : List D) : Prop := ∃ x q, d = .int ((x : Nat) : Int) ∧ outs = [pen q] ∧ x < n ∧ q.i ≤ p.i + 1
theorem drawn {p : Pen} {n : Nat} (h : 0 < n) (z : Int) (cells : List Int) (i : Nat) (c : Int) (hi : i ≤ p.i + 1) : Drawn p n (.int (z % (n : Int))) [.list [.list (zls cells), .int i, .int c]] :=
  ⟨(z % (n : Int)).toNat, ⟨cells, i, c⟩, by rw [Int.toNat_of_nonneg (Int.emod_nonneg _ (by omega))], rfl, by have := Int.emod_lt_of_pos z (show (0 : Int) < n by omega); omega, hi⟩
theorem drawn_of {p : Pen} {n : Nat} {r : Out} (h : ∃ d outs, r = .ok d outs ∧ Drawn p n d outs) : ∃ x q, r = .ok (.int ((x : Nat) : Int)) [pen q] ∧ x < n ∧ q.i ≤ p.i + 1 := by
  obtain ⟨d, outs, h1, x, q, rfl, rfl, h2, h3⟩ := h
  exact ⟨x, q, h1, h2, h3⟩
end MP

/-! MP: repr of data. -/
namespace MP
open PySem
theorem strOk_app {a b : Str} (ha : PyData.strOk a = true) (hb : PyData.strOk b = true) : PyData.strOk (a ++ b) = true := by
  unfold PyData.strOk at *
  show (a.cps ++ b.cps).all _ = true
  rw [Array.all_append, ha, hb]; rfl
theorem strOk_of (s : String) : PyData.strOk (Str.ofString s) = true := by
  rw [Str.ofString_eq_toList]
  unfold PyData.strOk
  simp only [List.all_toArray, List.all_map, List.all_eq_true, Function.comp, decide_eq_true_eq]
  intro c _
  have := c.valid
  unfold UInt32.isValidChar Nat.isValidChar at this
  show c.val.toNat < _
  omega
theorem strOk_from : ∀ (ts : List Str) (k : Nat) (acc : Str), PyData.strOk acc = true → (∀ t ∈ ts, PyData.strOk t = true) → PyData.strOk (textFrom k acc ts) = true
  | [], k, acc, h, _ => h
  | t :: ts, k, acc, h, ht => strOk_from ts (k + 1) _ (strOk_app (strOk_app h (strOk_of _)) (ht t List.mem_cons_self)) fun u hu => ht u (List.mem_cons_of_mem _ hu)
theorem strOk_join : ∀ (ts : List Str), (∀ t ∈ ts, PyData.strOk t = true) → PyData.strOk (Str.join ", " ts) = true
  | [], _ => strOk_of ""
  | [x], h => h x List.mem_cons_self
  | x :: y :: r, h => strOk_app (strOk_app (h x List.mem_cons_self) (strOk_of ", ")) (strOk_join (y :: r) fun u hu => h u (List.mem_cons_of_mem _ hu))
mutual
theorem strOk_shown : ∀ {d : D}, plain d = true → PyData.strOk (PyData.shown d) = true
  | .none, _ => by simp only [PyData.shown]; exact strOk_of _
  | .int _, _ => by simp only [PyData.shown]; exact strOk_of _
  | .list xs, h => by
    simp only [PyData.shown, listText]
    exact strOk_app (strOk_from _ _ _ (strOk_of _) (strOk_all (by simpa [plain] using h))) (strOk_of _)
  | .tuple xs, h => by
    simp only [PyData.shown, tupleText]
    exact strOk_app (strOk_app (strOk_of _) (strOk_join _ (strOk_all (by simpa [plain] using h)))) (by split <;> exact strOk_of _)
  | .bool _, h => by simp [plain] at h
  | .str _, h => by simp [plain] at h
  | .dict _, h => by simp [plain] at h
theorem strOk_all : ∀ {ds : List D}, plainAll ds = true → ∀ t ∈ PyData.shownAll ds, PyData.strOk t = true
  | [], _, t, ht => by simp [PyData.shownAll] at ht
  | x :: xs, h, t, ht => by
    simp only [plainAll, Bool.and_eq_true] at h
    simp only [PyData.shownAll, List.mem_cons] at ht
    rcases ht with rfl | ht
    · exact strOk_shown h.1
    · exact strOk_all h.2 t ht
end
/-- what repr shows: plain, with ints of few digits, and not too much of it -/
structure Rep (w : Nat) (d : D) : Prop where
  ok : okD 59 d
  sm : d.intsShort 13 = true
  sh : PyData.showable d = true
  wt : d.weight ≤ w
theorem nat_small : ∀ i < 64, (PyData.shown (.int (i : Nat))).length ≤ 13 := by decide +kernel
theorem rep_int {i : Nat} (h : i < 64) : Rep 6 (.int i) := by
  refine ⟨ok_int, ?_, ?_, ?_⟩
  · simp only [PyData.intsShort, decide_eq_true_eq]; exact nat_small i h
  · simp only [PyData.showable, decide_eq_true_eq]
    have : (i : Int).natAbs.log2 ≤ i := by rw [Int.natAbs_natCast]; exact Nat.log2_le_self i
    omega
  · simp only [PyData.weight]
    split
    · omega
    · have : (i : Int).natAbs.log2 < 6 := by
        rw [Int.natAbs_natCast]
        by_cases h0 : i = 0
        · subst h0; decide
        · exact (Nat.log2_lt h0).mpr (by omega)
      omega
theorem rep_none : Rep 6 .none := ⟨ok_none, rfl, rfl, Nat.zero_le _⟩
theorem rep_oc {c : Option Nat} (h : ∀ y, c = some y → y < 64) : Rep 6 (oc c) := by
  cases c with
  | none => exact rep_none
  | some y => exact rep_int (h y rfl)
theorem small_all {B : Nat} : ∀ {xs : List D}, (∀ x ∈ xs, x.intsShort B = true) → PyData.intsShortAll B xs = true
  | [], _ => rfl
  | x :: xs, h => by
    simp only [PyData.intsShortAll, Bool.and_eq_true]
    exact ⟨h x List.mem_cons_self, small_all fun y hy => h y (List.mem_cons_of_mem _ hy)⟩
theorem show_all : ∀ {xs : List D}, (∀ x ∈ xs, PyData.showable x = true) → PyData.showableAll xs = true
  | [], _ => rfl
  | x :: xs, h => by
    simp only [PyData.showableAll, Bool.and_eq_true]
    exact ⟨h x List.mem_cons_self, show_all fun y hy => h y (List.mem_cons_of_mem _ hy)⟩
theorem weight_all {w : Nat} : ∀ {xs : List D}, (∀ x ∈ xs, x.weight ≤ w) → PyData.weightAll xs ≤ xs.length * (w + 1)
  | [], _ => by simp [PyData.weightAll]
  | x :: xs, h => by
    simp only [PyData.weightAll, List.length_cons, Nat.add_mul, Nat.one_mul]
    have := h x List.mem_cons_self
    have := weight_all (xs := xs) fun y hy => h y (List.mem_cons_of_mem _ hy)
    omega
theorem rep_list {w : Nat} {xs : List D} (h : ∀ x ∈ xs, Rep w x) (hk : ∀ x ∈ xs, okD 58 x) : Rep (xs.length * (w + 1)) (.list xs) :=
  ⟨okD.list hk, by simp only [PyData.intsShort]; exact small_all fun x hx => (h x hx).sm, by simp only [PyData.showable]; exact show_all fun x hx => (h x hx).sh, by simp only [PyData.weight]; exact weight_all fun x hx => (h x hx).wt⟩
theorem rep_tuple {w : Nat} {xs : List D} (h : ∀ x ∈ xs, Rep w x) (hk : ∀ x ∈ xs, okD 58 x) : Rep (xs.length * (w + 1)) (.tuple xs) :=
  ⟨okD.tuple hk, by simp only [PyData.intsShort]; exact small_all fun x hx => (h x hx).sm, by simp only [PyData.showable]; exact show_all fun x hx => (h x hx).sh, by simp only [PyData.weight]; exact weight_all fun x hx => (h x hx).wt⟩
theorem Rep.mono {v w : Nat} {d : D} (h : Rep v d) (hw : v ≤ w) : Rep w d := ⟨h.ok, h.sm, h.sh, Nat.le_trans h.wt hw⟩
theorem Rep.len {d : D} {w : Nat} (h : Rep w d) (hw : w ≤ 1000000) : (PyData.shown d).length ≤ sizeLine := by
  have h2 := PyData.shown_le 13 (by decide) d (PyData.leavesShort_of_canLay0 13 d (lay_plain h.ok.1) h.sm)
  have := h.wt
  rw [sizeLine_eq]
  omega
theorem p_repr {d : D} {w : Nat} (h : Rep w d) (hw : w ≤ 1000000) : Op.run .repr [d] = some (.str (PyData.shown d)) := by
  have e : Op.run .repr [d] = if PyData.showable d = true ∧ d.depth ≤ 60 ∧ (PyData.shown d).length ≤ sizeLine then some (.str (PyData.shown d)) else none := rfl
  rw [e, if_pos ⟨h.sh, Nat.le_trans h.ok.2 (by omega), h.len hw⟩]
theorem p_reprI {z : Int} (h : z.natAbs.log2 < 1920) : Op.run .repr [.int z] = some (.str (PyData.shown (.int z))) := by
  have e : Op.run .repr [.int z] = if PyData.showable (.int z) = true ∧ (PyData.int z).depth ≤ 60 ∧ (PyData.shown (.int z)).length ≤ sizeLine then some (.str (PyData.shown (.int z))) else none := rfl
  rw [e, if_pos ⟨by simpa [PyData.showable] using h, by simp [PyData.depth], by simp only [PyData.shown]; exact int_text_fits h⟩]
theorem p_neStrs {d : D} (h : plain d = true) : Op.run .ne [.str (PyData.shown d), .str (PyData.shown d)] = some (.bool false) := by
  have hs : SeqAt.shaped (.str (PyData.shown d)) = true := by
    unfold SeqAt.shaped
    simp only [PyData.canLay0, PyData.depth, strOk_shown h, Bool.true_and]
    exact decide_eq_true (Nat.zero_le _)
  have e : Op.run .ne [.str (PyData.shown d), .str (PyData.shown d)] = if SeqAt.shaped (.str (PyData.shown d)) = true ∧ SeqAt.shaped (.str (PyData.shown d)) = true then some (.bool (!PyData.eqv (.str (PyData.shown d)) (.str (PyData.shown d)))) else none := rfl
  rw [e, if_pos ⟨hs, hs⟩]
  simp [PyData.eqv]
theorem p_reprT {ds : List D} {w : Nat} (h : Rep w (.tuple ds)) (hw : w ≤ 1000000) (hl : ds.length ≤ sizeLine) : Op.run .reprT ds = some (.str (PyData.shown (.tuple ds))) := by
  unfold Op.run
  exact if_pos ⟨h.sh, Nat.le_trans h.ok.2 (by omega), h.len hw, hl⟩
theorem p_reprB {b : Bool} : Op.run .repr [.bool b] = some (.str (PyData.shown (.bool b))) := by
  have e : Op.run .repr [.bool b] = if PyData.showable (.bool b) = true ∧ (PyData.bool b).depth ≤ 60 ∧ (PyData.shown (.bool b)).length ≤ sizeLine then some (.str (PyData.shown (.bool b))) else none := rfl
  rw [e, sizeLine_eq, if_pos (by cases b <;> decide +kernel)]
theorem strOk_bool {b : Bool} : PyData.strOk (PyData.shown (.bool b)) = true := by cases b <;> (simp only [PyData.shown]; exact strOk_of _)
theorem p_neS {x y : Str} (hx : PyData.strOk x = true) (hy : PyData.strOk y = true) : Op.run .ne [.str x, .str y] = some (.bool (!decide (x = y))) := by
  have hs : ∀ z : Str, PyData.strOk z = true → SeqAt.shaped (.str z) = true := fun z hz => by
    unfold SeqAt.shaped
    simp only [PyData.canLay0, PyData.depth, hz, Bool.true_and]
    exact decide_eq_true (Nat.zero_le _)
  have e : Op.run .ne [.str x, .str y] = if SeqAt.shaped (.str x) = true ∧ SeqAt.shaped (.str y) = true then some (.bool (!PyData.eqv (.str x) (.str y))) else none := rfl
  rw [e, if_pos ⟨hs x hx, hs y hy⟩]
  simp only [PyData.eqv]
  congr 2
theorem p_eqS {x y : Str} (hx : PyData.strOk x = true) (hy : PyData.strOk y = true) : Op.run .eq [.str x, .str y] = some (.bool (decide (x = y))) := by
  have hs : ∀ z : Str, PyData.strOk z = true → SeqAt.shaped (.str z) = true := fun z hz => by
    unfold SeqAt.shaped
    simp only [PyData.canLay0, PyData.depth, hz, Bool.true_and]
    exact decide_eq_true (Nat.zero_le _)
  have e : Op.run .eq [.str x, .str y] = if SeqAt.shaped (.str x) = true ∧ SeqAt.shaped (.str y) = true then some (.bool (PyData.eqv (.str x) (.str y))) else none := rfl
  rw [e, if_pos ⟨hs x hx, hs y hy⟩]
  simp only [PyData.eqv]
  congr 2
theorem p_neReprB {b : Bool} : Op.run .ne [.str (PyData.shown (.bool b)), .str (PyData.shown (.bool b))] = some (.bool false) := by
  rw [p_neS strOk_bool strOk_bool, decide_eq_true rfl]; rfl
theorem p_neBB {b c : Bool} : Op.run .ne [.bool b, .bool c] = some (.bool (!decide (b = c))) := by cases b <;> cases c <;> rfl
theorem p_eqBB {b c : Bool} : Op.run .eq [.bool b, .bool c] = some (.bool (decide (b = c))) := by cases b <;> cases c <;> rfl
theorem p_neRepr {d : D} {w : Nat} (h : Rep w d) : Op.run .ne [.str (PyData.shown d), .str (PyData.shown d)] = some (.bool false) := by
  have hs : SeqAt.shaped (.str (PyData.shown d)) = true := by
    unfold SeqAt.shaped
    simp only [PyData.canLay0, PyData.depth, strOk_shown h.ok.1, Bool.true_and]
    exact decide_eq_true (Nat.zero_le _)
  have e : Op.run .ne [.str (PyData.shown d), .str (PyData.shown d)] = if SeqAt.shaped (.str (PyData.shown d)) = true ∧ SeqAt.shaped (.str (PyData.shown d)) = true then some (.bool (!PyData.eqv (.str (PyData.shown d)) (.str (PyData.shown d)))) else none := rfl
  rw [e, if_pos ⟨hs, hs⟩]
  simp [PyData.eqv]
theorem p_eqRepr {d : D} {w : Nat} (h : Rep w d) : Op.run .eq [.str (PyData.shown d), .str (PyData.shown d)] = some (.bool true) := by
  have hs : SeqAt.shaped (.str (PyData.shown d)) = true := by
    unfold SeqAt.shaped
    simp only [PyData.canLay0, PyData.depth, strOk_shown h.ok.1, Bool.true_and]
    exact decide_eq_true (Nat.zero_le _)
  have e : Op.run .eq [.str (PyData.shown d), .str (PyData.shown d)] = if SeqAt.shaped (.str (PyData.shown d)) = true ∧ SeqAt.shaped (.str (PyData.shown d)) = true then some (.bool (PyData.eqv (.str (PyData.shown d)) (.str (PyData.shown d)))) else none := rfl
  rw [e, if_pos ⟨hs, hs⟩]
  simp [PyData.eqv]
theorem rep_st {s : List (Option Nat)} (h : ∀ c ∈ s, ∀ y, c = some y → y < 64) : Rep (s.length * 7) (.tuple (ocs s)) := by
  have := rep_tuple (w := 6) (xs := ocs s) (fun x hx => by
    obtain ⟨c, hc, rfl⟩ := List.mem_map.mp hx
    exact rep_oc (h c hc)) ok_ocs
  rw [ocs_len] at this
  exact this
theorem rep_nats {s : List Nat} (h : ∀ y ∈ s, y < 64) : Rep (s.length * 7) (.list (nats s)) := by
  have := rep_list (w := 6) (xs := nats s) (fun x hx => by
    obtain ⟨c, hc, rfl⟩ := List.mem_map.mp hx
    exact rep_int (h c hc)) ok_nats
  rw [nats_len] at this
  exact this
theorem rep_rzs {s : List (Nat × Nat)} (h : ∀ m ∈ s, m.1 < 64 ∧ m.2 < 64) : Rep (s.length * 15) (.list (rzs s)) := by
  have := rep_list (w := 14) (xs := rzs s) (fun x hx => by
    obtain ⟨m, hm, rfl⟩ := List.mem_map.mp hx
    refine rep_tuple (w := 6) (xs := [.int m.1, .int m.2]) (fun x hx => ?_) (fun x hx => ?_)
    · simp at hx
      rcases hx with rfl | rfl
      · exact rep_int (h m hm).1
      · exact rep_int (h m hm).2
    · simp at hx
      rcases hx with rfl | rfl <;> exact ok_int) (fun x hx => okD.mono (ok_rzs (k := 0) x hx) (by omega))
  rw [rzs_len] at this
  exact this
end MP

/-! MP: repr of any value (bools, texts, dicts, big ints too). -/
namespace MP
open PySem
/-- what repr can show: w bounds the text, k the depth -/
structure Sh (w k : Nat) (d : D) : Prop where
  sh : PyData.showable d = true
  dp : d.depth ≤ k
  ln : (PyData.shown d).length ≤ w
  so : PyData.strOk (PyData.shown d) = true
theorem Sh.mono {w k w' k' : Nat} {d : D} (h : Sh w k d) (hw : w ≤ w') (hk : k ≤ k') : Sh w' k' d := ⟨h.sh, Nat.le_trans h.dp hk, Nat.le_trans h.ln hw, h.so⟩
theorem len_app {a b : Str} : (a ++ b).length = a.length + b.length := by
  show (a.cps ++ b.cps).size = _
  rw [Array.size_append]; rfl
theorem textFrom_le {w : Nat} : ∀ (ts : List Str) (k : Nat) (acc : Str), (∀ t ∈ ts, t.length ≤ w) → (textFrom k acc ts).length ≤ acc.length + ts.length * (w + 2)
  | [], k, acc, _ => by simp [textFrom]
  | t :: ts, k, acc, h => by
    have h1 := textFrom_le ts (k + 1) (acc ++ (if k > 0 then ", " else "" : String) ++ t) fun u hu => h u (List.mem_cons_of_mem _ hu)
    have h2 := h t List.mem_cons_self
    have h3 : ((if k > 0 then ", " else "" : String) : Str).length ≤ 2 := by split <;> decide
    rw [len_app, len_app] at h1
    rw [List.length_cons, Nat.add_mul, Nat.one_mul]
    show (textFrom (k + 1) _ ts).length ≤ _
    omega
theorem join_le {w : Nat} : ∀ (ts : List Str), (∀ t ∈ ts, t.length ≤ w) → (Str.join ", " ts).length ≤ ts.length * (w + 2)
  | [], _ => by show (Str.ofString "").length ≤ _; have : (Str.ofString "").length = 0 := by decide
                omega
  | [x], h => by
    have := h x List.mem_cons_self
    show x.length ≤ _
    simp only [List.length_cons, List.length_nil]
    omega
  | x :: y :: r, h => by
    have h1 := join_le (y :: r) fun u hu => h u (List.mem_cons_of_mem _ hu)
    have h2 := h x List.mem_cons_self
    show ((x ++ (Str.ofString ", ")) ++ Str.join ", " (y :: r)).length ≤ _
    have h3 : (Str.ofString ", ").length = 2 := by decide
    rw [len_app, len_app, h3, List.length_cons, Nat.add_mul, Nat.one_mul]
    omega
theorem shownAll_mem : ∀ {xs : List D} {t : Str}, t ∈ PyData.shownAll xs → ∃ x ∈ xs, t = PyData.shown x
  | [], t, h => by simp [PyData.shownAll] at h
  | x :: xs, t, h => by
    simp only [PyData.shownAll, List.mem_cons] at h
    rcases h with rfl | h
    · exact ⟨x, List.mem_cons_self, rfl⟩
    · obtain ⟨y, h1, h2⟩ := shownAll_mem h
      exact ⟨y, List.mem_cons_of_mem _ h1, h2⟩
theorem shownAll_len : ∀ (xs : List D), (PyData.shownAll xs).length = xs.length
  | [] => by simp [PyData.shownAll]
  | x :: xs => by simp [PyData.shownAll, shownAll_len xs]
theorem sh_list {w k : Nat} {xs : List D} (h : ∀ x ∈ xs, Sh w k x) : Sh (xs.length * (w + 2) + 3) (k + 1) (.list xs) := by
  have hm : ∀ t ∈ PyData.shownAll xs, ∃ x ∈ xs, t = PyData.shown x := fun t ht => shownAll_mem ht
  refine ⟨by simp only [PyData.showable]; exact show_all fun x hx => (h x hx).sh, ?_, ?_, ?_⟩
  · simp only [PyData.depth]
    have := (depthAll_le (k := k)).mpr fun x hx => (h x hx).dp
    omega
  · simp only [PyData.shown, listText]
    rw [len_app]
    have := textFrom_le (w := w) (PyData.shownAll xs) 0 "[" fun t ht => by
      obtain ⟨x, h1, rfl⟩ := hm t ht
      exact (h x h1).ln
    rw [shownAll_len] at this
    have h3 : (Str.ofString "[").length = 1 := by decide
    have h4 : (Str.ofString "]").length = 1 := by decide
    omega
  · simp only [PyData.shown, listText]
    refine strOk_app (strOk_from _ _ _ (strOk_of _) fun t ht => ?_) (strOk_of _)
    obtain ⟨x, h1, rfl⟩ := hm t ht
    exact (h x h1).so
theorem sh_tuple {w k : Nat} {xs : List D} (h : ∀ x ∈ xs, Sh w k x) : Sh (xs.length * (w + 2) + 3) (k + 1) (.tuple xs) := by
  have hm : ∀ t ∈ PyData.shownAll xs, ∃ x ∈ xs, t = PyData.shown x := fun t ht => shownAll_mem ht
  refine ⟨by simp only [PyData.showable]; exact show_all fun x hx => (h x hx).sh, ?_, ?_, ?_⟩
  · simp only [PyData.depth]
    have := (depthAll_le (k := k)).mpr fun x hx => (h x hx).dp
    omega
  · simp only [PyData.shown, tupleText]
    rw [len_app, len_app]
    have := join_le (w := w) (PyData.shownAll xs) fun t ht => by
      obtain ⟨x, h1, rfl⟩ := hm t ht
      exact (h x h1).ln
    rw [shownAll_len] at this
    have h3 : (Str.ofString "(").length = 1 := by decide
    have h4 : ((if (PyData.shownAll xs).length == 1 then ",)" else ")" : String) : Str).length ≤ 2 := by split <;> decide
    omega
  · simp only [PyData.shown, tupleText]
    refine strOk_app (strOk_app (strOk_of _) (strOk_join _ fun t ht => ?_)) (by split <;> exact strOk_of _)
    obtain ⟨x, h1, rfl⟩ := hm t ht
    exact (h x h1).so
theorem sh_none : Sh 40 0 .none := ⟨by decide, by decide, by decide, strOk_of _⟩
theorem sh_bool {b : Bool} : Sh 40 0 (.bool b) := by cases b <;> exact ⟨by decide, by decide, by decide +kernel, by decide +kernel⟩
theorem sh_nat {i : Nat} (h : i < 64) : Sh 40 0 (.int i) := by
  refine ⟨by simpa [PyData.showable] using (rep_int h).sh, by simp [PyData.depth], ?_, by simp only [PyData.shown]; exact strOk_of _⟩
  have := nat_small i h
  omega
theorem neg_small : ∀ i < 128, (PyData.shown (.int (-(i : Nat)))).length ≤ 13 := by decide +kernel
theorem sh_neg {i : Nat} (h : i < 128) : Sh 40 0 (.int (-(i : Nat))) := by
  refine ⟨?_, by simp [PyData.depth], ?_, by simp only [PyData.shown]; exact strOk_of _⟩
  · simp only [PyData.showable, decide_eq_true_eq, Int.natAbs_neg, Int.natAbs_natCast]
    have := Nat.log2_le_self i
    omega
  · have := neg_small i h
    omega
theorem sh_neg0 {i : Nat} (h : i < 128) : Sh 40 0 (.int (0 - (i : Nat))) := by rw [Int.zero_sub]; exact sh_neg h
theorem sh_oc {c : Option Nat} (h : ∀ y, c = some y → y < 64) : Sh 40 0 (oc c) := by
  cases c with
  | none => exact sh_none
  | some y => exact sh_nat (h y rfl)
section
variable {d : D} {w k : Nat}
theorem p_reprS (h : Sh w k d) (hw : w ≤ 16000000 := by omega) (hk : k ≤ 60 := by omega) : Op.run .repr [d] = some (.str (PyData.shown d)) := by
  have e : Op.run .repr [d] = if PyData.showable d = true ∧ d.depth ≤ 60 ∧ (PyData.shown d).length ≤ sizeLine then some (.str (PyData.shown d)) else none := rfl
  have := h.ln
  have := h.dp
  rw [e, if_pos ⟨h.sh, by omega, by rw [sizeLine_eq]; omega⟩]
theorem p_reprTS {ds : List D} (h : Sh w k (.tuple ds)) (hw : w ≤ 16000000 := by omega) (hk : k ≤ 60 := by omega) (hl : ds.length ≤ 16000000 := by simp) : Op.run .reprT ds = some (.str (PyData.shown (.tuple ds))) := by
  have e : Op.run .reprT ds = if PyData.showable (.tuple ds) = true ∧ (PyData.tuple ds).depth ≤ 60 ∧ (PyData.shown (.tuple ds)).length ≤ sizeLine ∧ ds.length ≤ sizeLine then some (.str (PyData.shown (.tuple ds))) else none := by
    unfold Op.run; rfl
  have := h.ln
  have := h.dp
  rw [e, if_pos ⟨h.sh, by omega, by rw [sizeLine_eq]; omega, by rw [sizeLine_eq]; omega⟩]
theorem shaped_str {x : Str} (h : PyData.strOk x = true) : SeqAt.shaped (.str x) = true := by
  unfold SeqAt.shaped
  simp only [PyData.canLay0, PyData.depth, h, Bool.true_and]
  exact decide_eq_true (Nat.zero_le _)
theorem eqv_str {x : Str} : PyData.eqv (.str x) (.str x) = true := by simp [PyData.eqv]
theorem p_neReprS (h : Sh w k d) : Op.run .ne [.str (PyData.shown d), .str (PyData.shown d)] = some (.bool false) := by
  rw [p_neS h.so h.so]; simp
theorem p_eqReprS (h : Sh w k d) : Op.run .eq [.str (PyData.shown d), .str (PyData.shown d)] = some (.bool true) := by
  rw [p_eqS h.so h.so]; simp
end

section
variable {xs ys : List D}
theorem p_addLL (h : xs.length + ys.length ≤ 16000000) : Op.run .add [.list xs, .list ys] = some (.list (xs ++ ys)) := by
  have e : Op.run .add [.list xs, .list ys] = if xs.length + ys.length ≤ sizeLine then some (.list (xs ++ ys)) else none := rfl
  rw [e, if_pos (by rw [sizeLine_eq]; omega)]
theorem p_catLL (h : xs.length + ys.length ≤ 16000000) : Op.run .cat [.list xs, .list ys] = some (.list (xs ++ ys)) := by
  have e : Op.run .cat [.list xs, .list ys] = if xs.length + ys.length ≤ sizeLine then some (.list (xs ++ ys)) else none := rfl
  rw [e, if_pos (by rw [sizeLine_eq]; omega)]
theorem p_addTT (h : xs.length + ys.length ≤ 16000000) : Op.run .add [.tuple xs, .tuple ys] = some (.tuple (xs ++ ys)) := by
  have e : Op.run .add [.tuple xs, .tuple ys] = if xs.length + ys.length ≤ sizeLine then some (.tuple (xs ++ ys)) else none := rfl
  rw [e, if_pos (by rw [sizeLine_eq]; omega)]
end
theorem p_lst15 {x0 x1 x2 x3 x4 x5 x6 x7 x8 x9 x10 x11 x12 x13 x14 : D} : Op.run .lst [x0, x1, x2, x3, x4, x5, x6, x7, x8, x9, x10, x11, x12, x13, x14] = some (.list [x0, x1, x2, x3, x4, x5, x6, x7, x8, x9, x10, x11, x12, x13, x14]) := p_lst (by rw [sizeLine_eq]; simp)
theorem p_tup15 {x0 x1 x2 x3 x4 x5 x6 x7 x8 x9 x10 x11 x12 x13 x14 : D} : Op.run .tup [x0, x1, x2, x3, x4, x5, x6, x7, x8, x9, x10, x11, x12, x13, x14] = some (.tuple [x0, x1, x2, x3, x4, x5, x6, x7, x8, x9, x10, x11, x12, x13, x14]) := p_tup (by rw [sizeLine_eq]; simp)
theorem p_lst16 {x0 x1 x2 x3 x4 x5 x6 x7 x8 x9 x10 x11 x12 x13 x14 x15 : D} : Op.run .lst [x0, x1, x2, x3, x4, x5, x6, x7, x8, x9, x10, x11, x12, x13, x14, x15] = some (.list [x0, x1, x2, x3, x4, x5, x6, x7, x8, x9, x10, x11, x12, x13, x14, x15]) := p_lst (by rw [sizeLine_eq]; simp)
theorem p_tup16 {x0 x1 x2 x3 x4 x5 x6 x7 x8 x9 x10 x11 x12 x13 x14 x15 : D} : Op.run .tup [x0, x1, x2, x3, x4, x5, x6, x7, x8, x9, x10, x11, x12, x13, x14, x15] = some (.tuple [x0, x1, x2, x3, x4, x5, x6, x7, x8, x9, x10, x11, x12, x13, x14, x15]) := p_tup (by rw [sizeLine_eq]; simp)
theorem p_lst17 {x0 x1 x2 x3 x4 x5 x6 x7 x8 x9 x10 x11 x12 x13 x14 x15 x16 : D} : Op.run .lst [x0, x1, x2, x3, x4, x5, x6, x7, x8, x9, x10, x11, x12, x13, x14, x15, x16] = some (.list [x0, x1, x2, x3, x4, x5, x6, x7, x8, x9, x10, x11, x12, x13, x14, x15, x16]) := p_lst (by rw [sizeLine_eq]; simp)
theorem p_tup17 {x0 x1 x2 x3 x4 x5 x6 x7 x8 x9 x10 x11 x12 x13 x14 x15 x16 : D} : Op.run .tup [x0, x1, x2, x3, x4, x5, x6, x7, x8, x9, x10, x11, x12, x13, x14, x15, x16] = some (.tuple [x0, x1, x2, x3, x4, x5, x6, x7, x8, x9, x10, x11, x12, x13, x14, x15, x16]) := p_tup (by rw [sizeLine_eq]; simp)
theorem p_lst18 {x0 x1 x2 x3 x4 x5 x6 x7 x8 x9 x10 x11 x12 x13 x14 x15 x16 x17 : D} : Op.run .lst [x0, x1, x2, x3, x4, x5, x6, x7, x8, x9, x10, x11, x12, x13, x14, x15, x16, x17] = some (.list [x0, x1, x2, x3, x4, x5, x6, x7, x8, x9, x10, x11, x12, x13, x14, x15, x16, x17]) := p_lst (by rw [sizeLine_eq]; simp)
theorem p_tup18 {x0 x1 x2 x3 x4 x5 x6 x7 x8 x9 x10 x11 x12 x13 x14 x15 x16 x17 : D} : Op.run .tup [x0, x1, x2, x3, x4, x5, x6, x7, x8, x9, x10, x11, x12, x13, x14, x15, x16, x17] = some (.tuple [x0, x1, x2, x3, x4, x5, x6, x7, x8, x9, x10, x11, x12, x13, x14, x15, x16, x17]) := p_tup (by rw [sizeLine_eq]; simp)
theorem p_lst19 {x0 x1 x2 x3 x4 x5 x6 x7 x8 x9 x10 x11 x12 x13 x14 x15 x16 x17 x18 : D} : Op.run .lst [x0, x1, x2, x3, x4, x5, x6, x7, x8, x9, x10, x11, x12, x13, x14, x15, x16, x17, x18] = some (.list [x0, x1, x2, x3, x4, x5, x6, x7, x8, x9, x10, x11, x12, x13, x14, x15, x16, x17, x18]) := p_lst (by rw [sizeLine_eq]; simp)
theorem p_tup19 {x0 x1 x2 x3 x4 x5 x6 x7 x8 x9 x10 x11 x12 x13 x14 x15 x16 x17 x18 : D} : Op.run .tup [x0, x1, x2, x3, x4, x5, x6, x7, x8, x9, x10, x11, x12, x13, x14, x15, x16, x17, x18] = some (.tuple [x0, x1, x2, x3, x4, x5, x6, x7, x8, x9, x10, x11, x12, x13, x14, x15, x16, x17, x18]) := p_tup (by rw [sizeLine_eq]; simp)
theorem p_lst20 {x0 x1 x2 x3 x4 x5 x6 x7 x8 x9 x10 x11 x12 x13 x14 x15 x16 x17 x18 x19 : D} : Op.run .lst [x0, x1, x2, x3, x4, x5, x6, x7, x8, x9, x10, x11, x12, x13, x14, x15, x16, x17, x18, x19] = some (.list [x0, x1, x2, x3, x4, x5, x6, x7, x8, x9, x10, x11, x12, x13, x14, x15, x16, x17, x18, x19]) := p_lst (by rw [sizeLine_eq]; simp)
theorem p_tup20 {x0 x1 x2 x3 x4 x5 x6 x7 x8 x9 x10 x11 x12 x13 x14 x15 x16 x17 x18 x19 : D} : Op.run .tup [x0, x1, x2, x3, x4, x5, x6, x7, x8, x9, x10, x11, x12, x13, x14, x15, x16, x17, x18, x19] = some (.tuple [x0, x1, x2, x3, x4, x5, x6, x7, x8, x9, x10, x11, x12, x13, x14, x15, x16, x17, x18, x19]) := p_tup (by rw [sizeLine_eq]; simp)
section
variable {f : Bool} {xs : List D} {a : Nat}
theorem p_slL1 : Op.run (.slice f true false) [.list xs, .int 1] = some (.list (xs.drop 1)) := p_slL (a := 1)
theorem p_slL2 : Op.run (.slice f true false) [.list xs, .int 2] = some (.list (xs.drop 2)) := p_slL (a := 2)
theorem p_slH1 : Op.run (.slice f false true) [.list xs, .int 1] = some (.list (xs.take 1)) := p_slH (a := 1)
theorem p_slH2 : Op.run (.slice f false true) [.list xs, .int 2] = some (.list (xs.take 2)) := p_slH (a := 2)
theorem m_insertN {l : List Nat} {x : Nat} (h : l.length ≤ 1000) (hx : x ≤ 1000) : MOp.run .insert (.list (nats l)) [.int (x : Int), .int (a : Int)] = some (.none, .list (nats (l.take x ++ [a] ++ l.drop x))) := by
  have e : MOp.run .insert (.list (nats l)) [.int (x : Int), .int (a : Int)] = if (nats l).length < sizeLine ∧ 0 ≤ (x : Int) ∧ (x : Int) < 2 ^ 62 then some (.none, .list ((nats l).take (x : Int).toNat ++ [.int (a : Int)] ++ (nats l).drop (x : Int).toNat)) else none := rfl
  rw [e, if_pos ⟨by rw [nats_len, sizeLine_eq]; omega, by omega, by omega⟩, Int.toNat_natCast]
  simp [nats]
  rfl
theorem insert_perm {l : List Nat} {j x : Nat} (h : l.Perm (List.range j)) : (l.take x ++ [j] ++ l.drop x).Perm (List.range (j + 1)) := by
  rw [List.range_succ]
  refine List.Perm.trans ?_ (h.append_right [j])
  rw [List.append_assoc]
  refine (List.Perm.append_left _ List.perm_append_comm).trans ?_
  rw [← List.append_assoc, List.take_append_drop]
end
theorem p_dnew : Op.run .dnew [] = some (.dict []) := rfl
theorem p_dlit {k : Int} {v : Option Int} : Op.run (.dlit k v) [] = some (.dict [(.int k, dlv v)]) := rfl
theorem m_dlv0 : dlv none = .none := rfl
theorem m_dlv1 {i : Int} : dlv (some i) = .int i := rfl
/-- what stands in a written list -/
theorem mem_at {xs : List D} {P : D → Prop} (h : ∀ d ∈ xs, P d) {i : Nat} (hi : i < xs.length) : ∃ d, xs[i]? = some d ∧ P d := ⟨_, List.getElem?_eq_getElem hi, h _ (List.getElem_mem hi)⟩
/-- a written value of few signs -/
theorem sh_con {d : D} (h : (PyData.showable d && decide (d.depth ≤ 3) && decide ((PyData.shown d).length ≤ 100) && PyData.strOk (PyData.shown d)) = true) : Sh 100 3 d := by
  simp only [Bool.and_eq_true, decide_eq_true_eq] at h
  exact ⟨h.1.1.1, h.1.1.2, h.1.2, h.2⟩
theorem sh_ints {m : Nat × Nat} (h1 : m.1 < 64) (h2 : m.2 < 64) : Sh 87 1 (rz m) :=
  (sh_tuple (xs := [.int (m.1 : Int), .int (m.2 : Int)]) (w := 40) (k := 0) fun x hx => by
    simp only [List.mem_cons, List.not_mem_nil, or_false] at hx
    rcases hx with rfl | rfl
    · exact sh_nat h1
    · exact sh_nat h2).mono (by simp) (by omega)
theorem sh_rzs {ms : List (Nat × Nat)} (h : ∀ m ∈ ms, m.1 < 64 ∧ m.2 < 64) : Sh (ms.length * 89 + 3) 2 (.list (rzs ms)) := by
  have := sh_list (xs := rzs ms) (w := 87) (k := 1) fun x hx => by
    obtain ⟨m, hm, rfl⟩ := List.mem_map.mp hx
    exact sh_ints (h m hm).1 (h m hm).2
  rwa [rzs_len] at this
theorem sh_ocsT {s : List (Option Nat)} (h : ∀ c ∈ s, ∀ y, c = some y → y < 64) : Sh (s.length * 42 + 3) 1 (.tuple (ocs s)) := by
  have := sh_tuple (xs := ocs s) (w := 40) (k := 0) fun x hx => by
    obtain ⟨c, hc, rfl⟩ := List.mem_map.mp hx
    exact sh_oc (h c hc)
  rwa [ocs_len] at this
theorem sh_ocsL {s : List (Option Nat)} (h : ∀ c ∈ s, ∀ y, c = some y → y < 64) : Sh (s.length * 42 + 3) 1 (.list (ocs s)) := by
  have := sh_list (xs := ocs s) (w := 40) (k := 0) fun x hx => by
    obtain ⟨c, hc, rfl⟩ := List.mem_map.mp hx
    exact sh_oc (h c hc)
  rwa [ocs_len] at this
theorem sh_natsL {s : List Nat} (h : ∀ y ∈ s, y < 64) : Sh (s.length * 42 + 3) 1 (.list (nats s)) := by
  have := sh_list (xs := nats s) (w := 40) (k := 0) fun x hx => by
    obtain ⟨c, hc, rfl⟩ := List.mem_map.mp hx
    exact sh_nat (h c hc)
  rwa [nats_len] at this
/-- a tuple or list of few things -/
theorem sh_tupN {w k : Nat} {xs : List D} (h : ∀ x ∈ xs, Sh w k x) (hl : xs.length ≤ 8) : Sh (8 * w + 19) (k + 1) (.tuple xs) := (sh_tuple h).mono (by
  have : xs.length * (w + 2) ≤ 8 * (w + 2) := Nat.mul_le_mul_right _ hl
  omega) (Nat.le_refl _)
theorem sh_lstN {w k : Nat} {xs : List D} (h : ∀ x ∈ xs, Sh w k x) (hl : xs.length ≤ 8) : Sh (8 * w + 19) (k + 1) (.list xs) := (sh_list h).mono (by
  have : xs.length * (w + 2) ≤ 8 * (w + 2) := Nat.mul_le_mul_right _ hl
  omega) (Nat.le_refl _)
end MP

/-! Contexts, ways up, raises: plain lists, no program in sight. -/
namespace Lw
abbrev St := List (Option Nat)
/-- the context of x -/
def up (s : St) (x : Nat) : Option Nat := (s[x]?).join
theorem up_some {s : St} {x y : Nat} : up s x = some y ↔ s[x]? = some (some y) := by
  unfold up
  cases h : s[x]? with
  | none => simp
  | some c => cases c <;> simp
theorem up_get {s : St} {x : Nat} (h : x < s.length) : s[x]? = some (up s x) := by
  unfold up
  rw [List.getElem?_eq_getElem h]; rfl
theorem up_set_eq {s : St} {x : Nat} {c : Option Nat} (h : x < s.length) : up (s.set x c) x = c := by
  unfold up; rw [List.getElem?_set_self h]; rfl
theorem up_set_ne {s : St} {x y : Nat} {c : Option Nat} (h : x ≠ y) : up (s.set x c) y = up s y := by
  unfold up; rw [List.getElem?_set_ne h]
theorem up_lt {s : St} {x y : Nat} (h : up s x = some y) : x < s.length := (List.getElem?_eq_some_iff.mp (up_some.mp h)).1
/-- edges lead down in rank -/
def Rank (s : St) (r : Nat → Nat) : Prop := ∀ i y, up s i = some y → r y < r i
/-- a state of n exceptions -/
structure Good (n : Nat) (s : St) : Prop where
  len : s.length = n
  lt : ∀ i y, up s i = some y → y < n
  rk : ∃ r, Rank s r
inductive Rch (s : St) : Nat → Nat → Prop
  | refl (x : Nat) : Rch s x x
  | step {x y z : Nat} : up s x = some y → Rch s y z → Rch s x z
theorem Rch.trans {s : St} {x y z : Nat} (h : Rch s x y) (g : Rch s y z) : Rch s x z := by
  induction h with
  | refl => exact g
  | step e _ ih => exact .step e (ih g)
theorem Rch.rank {s : St} {r : Nat → Nat} (hr : Rank s r) {x y : Nat} (h : Rch s x y) : r y ≤ r x := by
  induction h with
  | refl => exact Nat.le_refl _
  | step e _ ih => have := hr _ _ e; omega
theorem Rch.inv {s : St} {x y z : Nat} (h : Rch s x z) (hn : x ≠ z) (e : up s x = some y) : Rch s y z := by
  cases h with
  | refl => exact absurd rfl hn
  | step e' h => rw [e] at e'; cases e'; exact h
theorem Rch.end {s : St} {x z : Nat} (h : Rch s x z) (e : up s x = none) : x = z := by
  cases h with
  | refl => rfl
  | step e' _ => rw [e] at e'; cases e'

/-! ### no more than n on a way -/
theorem nodup_le : ∀ {n : Nat} {l : List Nat}, l.Nodup → (∀ x ∈ l, x < n) → l.length ≤ n
  | 0, l, _, h => by
    cases l with
    | nil => simp
    | cons x xs => exact absurd (h x List.mem_cons_self) (Nat.not_lt_zero _)
  | n + 1, l, nd, h => by
    by_cases hm : n ∈ l
    · have h1 := List.length_erase_of_mem hm
      have h2 := nodup_le (n := n) (l := l.erase n) (nd.erase n) (fun x hx => by
        have := h x (List.mem_of_mem_erase hx)
        have : x ≠ n := fun e => by subst e; exact absurd hx (nd.not_mem_erase)
        omega)
      have h3 := List.length_pos_of_mem hm
      rw [h1] at h2
      omega
    · have := nodup_le (n := n) nd (fun x hx => by
        have := h x hx
        have : x ≠ n := fun e => by subst e; exact hm hx
        omega)
      omega
/-- the way up, k steps at most -/
def way (s : St) : Nat → Nat → List Nat
  | 0, x => [x]
  | k + 1, x => match up s x with
    | some y => x :: way s k y
    | none => [x]
theorem way_rank {s : St} {r : Nat → Nat} (hr : Rank s r) : ∀ (k x : Nat), ∀ z ∈ way s k x, r z ≤ r x
  | 0, x, z, h => by simp [way] at h; subst h; exact Nat.le_refl _
  | k + 1, x, z, h => by
    unfold way at h
    cases e : up s x with
    | none => rw [e] at h; simp at h; subst h; exact Nat.le_refl _
    | some y =>
      rw [e] at h
      simp only [List.mem_cons] at h
      rcases h with rfl | h
      · exact Nat.le_refl _
      · have := way_rank hr k y z h
        have := hr _ _ e
        omega
theorem way_nodup {s : St} {r : Nat → Nat} (hr : Rank s r) : ∀ (k x : Nat), (way s k x).Nodup
  | 0, x => by simp [way]
  | k + 1, x => by
    unfold way
    cases e : up s x with
    | none => simp
    | some y =>
      simp only [List.nodup_cons]
      refine ⟨fun h => ?_, way_nodup hr k y⟩
      have := way_rank hr k y x h
      have := hr _ _ e
      omega
theorem way_lt {n : Nat} {s : St} (g : Good n s) : ∀ (k x : Nat), x < n → ∀ z ∈ way s k x, z < n
  | 0, x, hx, z, h => by simp [way] at h; subst h; exact hx
  | k + 1, x, hx, z, h => by
    unfold way at h
    cases e : up s x with
    | none => rw [e] at h; simp at h; subst h; exact hx
    | some y =>
      rw [e] at h
      simp only [List.mem_cons] at h
      rcases h with rfl | h
      · exact hx
      · exact way_lt g k y (g.lt _ _ e) z h
theorem way_len {n : Nat} {s : St} (g : Good n s) {k x : Nat} (hx : x < n) : (way s k x).length ≤ n := by
  obtain ⟨r, hr⟩ := g.rk
  exact nodup_le (way_nodup hr k x) (way_lt g k x hx)
/-- the number of steps up, where there are at most k -/
def dep (s : St) (k x : Nat) : Nat := (way s k x).length - 1
theorem way_pos {s : St} {k x : Nat} : 0 < (way s k x).length := by
  cases k with
  | zero => simp [way]
  | succ k => unfold way; split <;> simp
theorem way_stable {n : Nat} {s : St} (g : Good n s) : ∀ (k x : Nat), x < n → (way s k x).length ≤ k → ∀ j, k ≤ j → way s j x = way s k x
  | 0, x, _, h, j, _ => by have := way_pos (s := s) (k := 0) (x := x); omega
  | k + 1, x, hx, h, j, hj => by
    obtain ⟨j, rfl⟩ : ∃ i, j = i + 1 := ⟨j - 1, by omega⟩
    unfold way at h ⊢
    cases e : up s x with
    | none => rfl
    | some y =>
      simp only []
      rw [e] at h
      simp only [List.length_cons] at h
      rw [way_stable g k y (g.lt _ _ e) (by omega) j (by omega)]
/-- the whole way up -/
def chn (s : St) (x : Nat) : List Nat := way s s.length x
theorem chn_none {s : St} {x : Nat} (h : up s x = none) : chn s x = [x] := by
  unfold chn
  cases s.length with
  | zero => rfl
  | succ k => unfold way; rw [h]
theorem chn_some {n : Nat} {s : St} (g : Good n s) {x y : Nat} (h : up s x = some y) : chn s x = x :: chn s y := by
  have hx := up_lt h
  have hy := g.lt _ _ h
  unfold chn
  rw [g.len] at hx ⊢
  obtain ⟨k, rfl⟩ : ∃ k, n = k + 1 := ⟨n - 1, by omega⟩
  have l := way_len g (k := k + 1 + 1) hx
  conv => lhs; unfold way
  rw [h]
  simp only []
  have e : way s (k + 1 + 1) x = x :: way s (k + 1) y := by conv => lhs; unfold way; rw [h]
  rw [e, List.length_cons] at l
  have l2 : (way s k y).length ≤ k := by
    have q := way_len g (k := k + 1) hy
    have e2 : (way s k y).length ≤ (way s (k + 1) y).length := by
      have : ∀ (j z : Nat), (way s j z).length ≤ (way s (j + 1) z).length := fun j => by
        induction j with
        | zero => intro z; exact way_pos
        | succ j ih =>
          intro z
          conv => lhs; unfold way
          conv => rhs; unfold way
          cases e : up s z with
          | none => simp
          | some w => simp only [List.length_cons]; have := ih w; omega
      exact this k y
    omega
  rw [way_stable g k y hy l2 (k + 1) (by omega)]
theorem chn_le {n : Nat} {s : St} (g : Good n s) {x : Nat} (hx : x < n) : (chn s x).length ≤ n := way_len g hx
theorem chn_pos {s : St} {x : Nat} : 0 < (chn s x).length := way_pos
/-- the rank by the way's length -/
def rnk (s : St) (x : Nat) : Nat := (chn s x).length
theorem rnk_rank {n : Nat} {s : St} (g : Good n s) : Rank s (rnk s) := fun i y e => by
  unfold rnk
  rw [chn_some g e, List.length_cons]; omega

/-! ### a raise -/
/-- where the way up from here ends, or comes right below e -/
def stop (s : St) (e : Nat) : Nat → Nat → Nat
  | 0, h => h
  | k + 1, h => match up s h with
    | some y => if y = e then h else stop s e k y
    | none => h
def stp (s : St) (e h : Nat) : Nat := stop s e s.length h
theorem stop_stable {s : St} {e : Nat} {r : Nat → Nat} (hr : Rank s r) : ∀ (k h : Nat), r h ≤ k → ∀ j, k ≤ j → stop s e j h = stop s e k h
  | 0, h, hk, j, _ => by
    have hu : up s h = none := by
      cases e1 : up s h with
      | none => rfl
      | some y => have := hr _ _ e1; omega
    cases j with
    | zero => rfl
    | succ j => unfold stop; rw [hu]
  | k + 1, h, hk, j, hj => by
    obtain ⟨j, rfl⟩ : ∃ i, j = i + 1 := ⟨j - 1, by omega⟩
    unfold stop
    cases e1 : up s h with
    | none => rfl
    | some y =>
      simp only []
      by_cases hy : y = e
      · rw [if_pos hy, if_pos hy]
      · rw [if_neg hy, if_neg hy]
        have := hr _ _ e1
        exact stop_stable hr k y (by omega) j (by omega)
theorem stp_end {s : St} {e h : Nat} (hu : up s h = none ∨ up s h = some e) : stp s e h = h := by
  unfold stp
  cases s.length with
  | zero => rfl
  | succ k =>
    unfold stop
    rcases hu with hu | hu <;> rw [hu]
    simp
theorem stp_step {n : Nat} {s : St} (g : Good n s) {e h y : Nat} (hu : up s h = some y) (hy : y ≠ e) : stp s e h = stp s e y := by
  have hh := up_lt hu
  have hyl := g.lt _ _ hu
  unfold stp
  rw [g.len] at hh ⊢
  obtain ⟨k, rfl⟩ : ∃ k, n = k + 1 := ⟨n - 1, by omega⟩
  conv => lhs; unfold stop
  rw [hu]
  simp only []
  rw [if_neg hy]
  have hr : Rank s (fun x => rnk s x - 1) := fun i z ez => by
    have := rnk_rank g i z ez
    have : 0 < rnk s z := chn_pos
    show rnk s z - 1 < rnk s i - 1
    omega
  have q : rnk s h ≤ k + 1 := chn_le g hh
  have q2 := rnk_rank g h y hu
  exact (stop_stable hr k y (by show rnk s y - 1 ≤ k; omega) (k + 1) (by omega)).symm
theorem stp_lt {n : Nat} {s : St} (g : Good n s) {e : Nat} : ∀ (k h : Nat), h < n → stop s e k h < n
  | 0, h, hh => hh
  | k + 1, h, hh => by
    unfold stop
    cases e1 : up s h with
    | none => exact hh
    | some y =>
      simp only []
      split
      · exact hh
      · exact stp_lt g k y (g.lt _ _ e1)
theorem stp_rank {s : St} {e : Nat} {r : Nat → Nat} (hr : Rank s r) : ∀ (k h : Nat), r (stop s e k h) ≤ r h
  | 0, h => Nat.le_refl _
  | k + 1, h => by
    unfold stop
    cases e1 : up s h with
    | none => exact Nat.le_refl _
    | some y =>
      simp only []
      split
      · exact Nat.le_refl _
      · have := stp_rank hr (e := e) k y
        have := hr _ _ e1
        omega
/-- what is right above the end -/
theorem stp_up {n : Nat} {s : St} (g : Good n s) {e h : Nat} : up s (stp s e h) = none ∨ up s (stp s e h) = some e := by
  have key : ∀ (m h : Nat), rnk s h ≤ m → up s (stp s e h) = none ∨ up s (stp s e h) = some e := by
    intro m
    induction m with
    | zero => intro h hm; have : 0 < rnk s h := chn_pos; omega
    | succ m ih =>
      intro h hm
      cases e1 : up s h with
      | none => rw [stp_end (.inl e1)]; exact .inl e1
      | some y =>
        by_cases hy : y = e
        · subst hy; rw [stp_end (.inr e1)]; exact .inr e1
        · rw [stp_step g e1 hy]
          have := rnk_rank g h y e1
          exact ih y (by omega)
  exact key _ h (Nat.le_refl _)
/-- the exception that a raise cuts -/
def cutOf (s : St) (e h : Nat) : Option Nat := if up s (stp s e h) = none then none else some (stp s e h)
def cutS (s : St) (e h : Nat) : St := if up s (stp s e h) = none then s else s.set (stp s e h) none
/-- the state after a raise -/
def raiseS (s : St) (e h : Nat) : St := (cutS s e h).set e (some h)
theorem cutS_len {s : St} {e h : Nat} : (cutS s e h).length = s.length := by unfold cutS; split <;> simp
theorem raiseS_len {s : St} {e h : Nat} : (raiseS s e h).length = s.length := by unfold raiseS; rw [List.length_set, cutS_len]
theorem cutS_up {n : Nat} {s : St} (g : Good n s) {e h x : Nat} (hh : h < n) : up (cutS s e h) x = if x = stp s e h then none else up s x := by
  have hl : stp s e h < s.length := by unfold stp; rw [g.len]; exact stp_lt g _ _ hh
  unfold cutS
  by_cases hx : x = stp s e h
  · subst hx
    rw [if_pos rfl]
    split
    · assumption
    · exact up_set_eq hl
  · rw [if_neg hx]
    split
    · rfl
    · exact up_set_ne (fun e => hx e.symm)
theorem not_rch {n : Nat} {s : St} (g : Good n s) {e h : Nat} (hh : h < n) (hn : h ≠ e) : ¬ Rch (cutS s e h) h e := by
  have key : ∀ (m z : Nat), rnk s z ≤ m → z < n → z ≠ e → stp s e z = stp s e h → ¬ Rch (cutS s e h) z e := by
    intro m
    induction m with
    | zero => intro z hm; have : 0 < rnk s z := chn_pos; omega
    | succ m ih =>
      intro z hm hz hne hst hr
      cases e1 : up s z with
      | none =>
        have e2 : up (cutS s e h) z = none := by
          rw [cutS_up g hh]
          split
          · rfl
          · exact e1
        exact hne (hr.end e2)
      | some y =>
        by_cases hy : y = e
        · subst hy
          have e2 : up (cutS s y h) z = none := by
            rw [cutS_up g hh, if_pos]
            rw [← hst, stp_end (.inr e1)]
          exact hne (hr.end e2)
        · have e3 := stp_step g e1 hy
          have r1 := rnk_rank g z y e1
          have r2 : rnk s (stp s e y) ≤ rnk s y := stp_rank (rnk_rank g) _ _
          have e2 : up (cutS s e h) z = some y := by
            rw [cutS_up g hh, if_neg, e1]
            intro q
            rw [← hst, e3] at q
            rw [← q] at r2
            omega
          exact ih y (by omega) (g.lt _ _ e1) hy (by rw [← e3, hst]) (hr.inv hne e2)
  exact key _ h (Nat.le_refl _) hh hn rfl
theorem Good.raise {n : Nat} {s : St} (g : Good n s) {e h : Nat} (he : e < n) (hh : h < n) (hn : h ≠ e) : Good n (raiseS s e h) := by
  have hel : e < (cutS s e h).length := by rw [cutS_len, g.len]; exact he
  have hu : ∀ x, up (raiseS s e h) x = if x = e then some h else up (cutS s e h) x := fun x => by
    unfold raiseS
    by_cases hx : x = e
    · rw [if_pos hx, hx, up_set_eq hel]
    · rw [if_neg hx, up_set_ne (fun q => hx q.symm)]
  have sub : ∀ x y, up (cutS s e h) x = some y → up s x = some y := fun x y q => by
    rw [cutS_up g hh] at q
    split at q
    · cases q
    · exact q
  refine ⟨by rw [raiseS_len, g.len], fun i y q => ?_, ?_⟩
  · rw [hu] at q
    split at q
    · cases q; exact hh
    · exact g.lt _ _ (sub _ _ q)
  · obtain ⟨r, hr⟩ := g.rk
    have nr := not_rch g hh hn
    classical
    refine ⟨fun i => if Rch (cutS s e h) i e then r i + r h + 1 else r i, fun i y q => ?_⟩
    rw [hu] at q
    dsimp only
    split at q
    · rename_i hi
      subst hi
      injection q with q
      subst q
      rw [if_neg nr, if_pos (.refl _)]
      omega
    · rename_i hi
      have r1 := hr _ _ (sub _ _ q)
      by_cases c : Rch (cutS s e h) y e
      · rw [if_pos c, if_pos (.step q c)]; omega
      · rw [if_neg c]
        split <;> omega
theorem good_none {n : Nat} : Good n (List.replicate n none) := by
  have h : ∀ i, up (List.replicate n (none : Option Nat)) i = none := fun i => by
    unfold up
    rw [List.getElem?_replicate]
    split <;> rfl
  exact ⟨List.length_replicate, fun i y q => (by rw [h] at q; cases q), ⟨fun _ => 0, fun i y q => (by rw [h] at q; cases q)⟩⟩
/-- a new context that does not lead back -/
theorem Good.link {n : Nat} {s : St} (g : Good n s) {x y : Nat} (hx : x < n) (hy : y < n) (hn : ¬ Rch s y x) : Good n (s.set x (some y)) := by
  have hxl : x < s.length := by rw [g.len]; exact hx
  have hu : ∀ z, up (s.set x (some y)) z = if z = x then some y else up s z := fun z => by
    by_cases hz : z = x
    · rw [if_pos hz, hz, up_set_eq hxl]
    · rw [if_neg hz, up_set_ne (fun q => hz q.symm)]
  obtain ⟨r, hr⟩ := g.rk
  have nyx : y ≠ x := fun e => hn (e ▸ .refl _)
  -- what leads to x, but for the old edge of x, is lifted
  classical
  refine ⟨by rw [List.length_set, g.len], fun i z q => ?_, ⟨fun i => if Rch s i x then r i + r y + 1 else r i, fun i z q => ?_⟩⟩
  · rw [hu] at q
    split at q
    · cases q; exact hy
    · exact g.lt _ _ q
  · rw [hu] at q
    dsimp only
    split at q
    · rename_i hi
      subst hi
      injection q with q
      subst q
      rw [if_neg hn, if_pos (.refl _)]
      omega
    · rename_i hi
      have r1 := hr _ _ q
      by_cases c : Rch s z x
      · rw [if_pos c, if_pos (.step q c)]; omega
      · rw [if_neg c]
        split <;> omega
/-- all raises of a list -/
def runS (s : St) (ms : List (Nat × Nat)) : St := ms.foldl (fun s m => raiseS s m.1 m.2) s
def Moves (n : Nat) (ms : List (Nat × Nat)) : Prop := ∀ m ∈ ms, m.1 < n ∧ m.2 < n ∧ m.2 ≠ m.1
theorem Good.run {n : Nat} : ∀ {ms : List (Nat × Nat)} {s : St}, Good n s → Moves n ms → Good n (runS s ms)
  | [], s, g, _ => g
  | m :: ms, s, g, h => by
    have h1 := h m List.mem_cons_self
    exact Good.run (ms := ms) (g.raise h1.1 h1.2.1 h1.2.2) fun x hx => h x (List.mem_cons_of_mem _ hx)
/-- a pass: no exception is raised twice -/
structure Pass (n : Nat) (ms : List (Nat × Nat)) : Prop where
  mv : Moves n ms
  nd : (ms.map (·.1)).Nodup
theorem Pass.len {n : Nat} {ms : List (Nat × Nat)} (h : Pass n ms) : ms.length ≤ n := by
  have := nodup_le h.nd (n := n) fun x hx => by
    obtain ⟨m, hm, rfl⟩ := List.mem_map.mp hx
    exact (h.mv m hm).1
  simpa using this
open MP PySem in
theorem Good.rep {n : Nat} {s : St} (g : Good n s) (hn : n ≤ 64) : Rep (n * 7) (.tuple (ocs s)) := by
  have := rep_st (s := s) fun c hc y e => by
    obtain ⟨i, hi⟩ := List.mem_iff_getElem?.mp hc
    subst e
    have := g.lt i y (up_some.mpr hi)
    omega
  rw [g.len] at this
  exact this
open MP PySem in
theorem Pass.rep {n : Nat} {ms : List (Nat × Nat)} (g : Pass n ms) (hn : n ≤ 64) : Rep (n * 15) (.list (rzs ms)) := by
  have h := rep_rzs (s := ms) fun m hm => by
    have := g.mv m hm
    omega
  exact h.mono (Nat.mul_le_mul_right _ g.len)
end Lw

/-! Passes: partners, turns, who is early. -/
namespace Lw
/-- values put in, one by one -/
def putS (kvs : List (Nat × Nat)) (s : St) : St := kvs.foldl (fun s m => s.set m.1 (some m.2)) s
theorem putS_len : ∀ {kvs : List (Nat × Nat)} {s : St}, (putS kvs s).length = s.length
  | [], s => rfl
  | m :: kvs, s => by
    show (putS kvs (s.set m.1 (some m.2))).length = _
    rw [putS_len, List.length_set]
theorem putS_app {a b : List (Nat × Nat)} {s : St} : putS (a ++ b) s = putS b (putS a s) := List.foldl_append
theorem putS_out : ∀ {kvs : List (Nat × Nat)} {s : St} {x : Nat}, x ∉ kvs.map (·.1) → up (putS kvs s) x = up s x
  | [], s, x, _ => rfl
  | m :: kvs, s, x, h => by
    simp only [List.map_cons, List.mem_cons, not_or] at h
    show up (putS kvs (s.set m.1 (some m.2))) x = _
    rw [putS_out h.2, up_set_ne (fun e => h.1 e.symm)]
theorem putS_in : ∀ {kvs : List (Nat × Nat)} {s : St} {x y : Nat}, (kvs.map (·.1)).Nodup → (x, y) ∈ kvs → x < s.length → up (putS kvs s) x = some y
  | m :: kvs, s, x, y, nd, h, hx => by
    simp only [List.map_cons, List.nodup_cons] at nd
    show up (putS kvs (s.set m.1 (some m.2))) x = _
    rcases List.mem_cons.mp h with e | h
    · subst e
      rw [putS_out nd.1, up_set_eq hx]
    · exact putS_in nd.2 h (by rw [List.length_set]; exact hx)
theorem putS_iff {kvs : List (Nat × Nat)} {n x y : Nat} (nd : (kvs.map (·.1)).Nodup) (hk : ∀ m ∈ kvs, m.1 < n) : up (putS kvs (List.replicate n none)) x = some y ↔ (x, y) ∈ kvs := by
  refine ⟨fun h => ?_, fun h => putS_in nd h (by rw [List.length_replicate]; exact hk _ h)⟩
  by_cases hm : x ∈ kvs.map (·.1)
  · obtain ⟨m, hm', rfl⟩ := List.mem_map.mp hm
    have := putS_in (s := List.replicate n none) nd (show (m.1, m.2) ∈ kvs from hm') (by rw [List.length_replicate]; exact hk _ hm')
    rw [this] at h
    injection h with h
    rw [← h]; exact hm'
  · rw [putS_out hm] at h
    have : up (List.replicate n (none : Option Nat)) x = none := by
      unfold up
      rw [List.getElem?_replicate]
      split <;> rfl
    rw [this] at h; cases h
/-- the partner of each exception -/
def mates (n : Nat) (ms : List (Nat × Nat)) : St := putS ms (List.replicate n none)
/-- the raised exceptions with their turns -/
def spotL (ms : List (Nat × Nat)) : List (Nat × Nat) := ms.zipIdx.map fun q => (q.1.1, q.2)
def spots (n : Nat) (ms : List (Nat × Nat)) : St := putS (spotL ms) (List.replicate n none)
theorem spotL_keys {ms : List (Nat × Nat)} : (spotL ms).map (·.1) = ms.map (·.1) := by
  unfold spotL
  rw [List.map_map]
  have : ∀ (l : List (Nat × Nat)) (k : Nat), (l.zipIdx k).map ((fun x : Nat × Nat => x.1) ∘ fun q : (Nat × Nat) × Nat => (q.1.1, q.2)) = l.map (·.1) := by
    intro l
    induction l with
    | nil => intro k; rfl
    | cons a l ih => intro k; simp only [List.zipIdx_cons, List.map_cons, ih]; rfl
  exact this ms 0
theorem spotL_get {ms : List (Nat × Nat)} {j : Nat} : (spotL ms)[j]? = ms[j]?.map fun m => (m.1, j) := by
  unfold spotL
  rw [List.getElem?_map, List.getElem?_zipIdx]
  cases ms[j]? <;> simp
theorem spotL_mem {ms : List (Nat × Nat)} {x j : Nat} : (x, j) ∈ spotL ms ↔ ∃ y, ms[j]? = some (x, y) := by
  constructor
  · intro h
    obtain ⟨i, hi⟩ := List.mem_iff_getElem?.mp h
    rw [spotL_get] at hi
    obtain ⟨m, h1, h2⟩ := Option.map_eq_some_iff.mp hi
    cases h2
    exact ⟨m.2, h1⟩
  · rintro ⟨y, hy⟩
    exact List.mem_iff_getElem?.mpr ⟨j, by rw [spotL_get, hy]; rfl⟩
theorem mates_iff {n : Nat} {ms : List (Nat × Nat)} (h : Pass n ms) {x y : Nat} : up (mates n ms) x = some y ↔ (x, y) ∈ ms := putS_iff h.nd fun m hm => (h.mv m hm).1
theorem spots_iff {n : Nat} {ms : List (Nat × Nat)} (h : Pass n ms) {x j : Nat} : up (spots n ms) x = some j ↔ ∃ y, ms[j]? = some (x, y) := by
  unfold spots
  rw [putS_iff (by rw [spotL_keys]; exact h.nd) (fun m hm => by
    obtain ⟨y, hy⟩ := spotL_mem.mp (show (m.1, m.2) ∈ spotL ms from hm)
    exact (h.mv _ (List.mem_of_getElem? hy)).1), spotL_mem]
theorem mates_len {n : Nat} {ms : List (Nat × Nat)} : (mates n ms).length = n := by unfold mates; rw [putS_len, List.length_replicate]
theorem spots_len {n : Nat} {ms : List (Nat × Nat)} : (spots n ms).length = n := by unfold spots; rw [putS_len, List.length_replicate]
theorem mates_lt {n : Nat} {ms : List (Nat × Nat)} (h : Pass n ms) {x y : Nat} (e : up (mates n ms) x = some y) : y < n ∧ y ≠ x := by
  have := h.mv _ ((mates_iff h).mp e)
  exact ⟨this.2.1, this.2.2⟩
theorem spots_some {n : Nat} {ms : List (Nat × Nat)} (h : Pass n ms) {x y : Nat} (e : (x, y) ∈ ms) : ∃ j, up (spots n ms) x = some j ∧ ms[j]? = some (x, y) := by
  obtain ⟨j, hj⟩ := List.mem_iff_getElem?.mp e
  exact ⟨j, (spots_iff h).mpr ⟨y, hj⟩, hj⟩
theorem spots_lt {n : Nat} {ms : List (Nat × Nat)} (h : Pass n ms) {x j : Nat} (e : up (spots n ms) x = some j) : j < ms.length := by
  obtain ⟨y, hy⟩ := (spots_iff h).mp e
  exact (List.getElem?_eq_some_iff.mp hy).1
/-- raised before a raised partner -/
def soonB (n : Nat) (ms : List (Nat × Nat)) (x : Nat) : Bool := match up (spots n ms) x, up (mates n ms) x with
  | some i, some y => (match up (spots n ms) y with
    | some j => decide (i < j)
    | none => false)
  | _, _ => false
def soon (n : Nat) (ms : List (Nat × Nat)) : List Nat := (List.range n).filter (soonB n ms)
theorem soon_sorted {n : Nat} {ms : List (Nat × Nat)} : (soon n ms).Pairwise (· ≤ ·) := by
  unfold soon
  exact List.Pairwise.filter _ (List.pairwise_le_range)
theorem soon_nodup {n : Nat} {ms : List (Nat × Nat)} : (soon n ms).Nodup := List.Pairwise.filter _ List.nodup_range
theorem soon_lt {n : Nat} {ms : List (Nat × Nat)} : ∀ x ∈ soon n ms, x < n := fun x hx => by
  have := (List.mem_filter.mp hx).1
  simpa using this
theorem soonB_iff {n : Nat} {ms : List (Nat × Nat)} (h : Pass n ms) {x : Nat} : soonB n ms x = true ↔ ∃ y i j, (x, y) ∈ ms ∧ up (spots n ms) x = some i ∧ up (spots n ms) y = some j ∧ i < j := by
  unfold soonB
  constructor
  · intro q
    cases e1 : up (spots n ms) x with
    | none => rw [e1] at q; cases q
    | some i =>
      cases e2 : up (mates n ms) x with
      | none => rw [e1, e2] at q; cases q
      | some y =>
        cases e3 : up (spots n ms) y with
        | none => simp [e1, e2, e3] at q
        | some j =>
          simp [e1, e2, e3] at q
          exact ⟨y, i, j, (mates_iff h).mp e2, rfl, e3, q⟩
  · rintro ⟨y, i, j, h1, h2, h3, h4⟩
    rw [h2, (mates_iff h).mpr h1]
    simp [h3, h4]
theorem soon_perm {n : Nat} {ms : List (Nat × Nat)} (h : Pass n ms) {f : Nat × Nat → Bool} (hf : ∀ m ∈ ms, (f m = true ↔ ∃ i j, up (spots n ms) m.1 = some i ∧ up (spots n ms) m.2 = some j ∧ i < j)) : (soon n ms).Perm ((ms.filter f).map (·.1)) := by
  refine (List.perm_ext_iff_of_nodup soon_nodup ?_).mpr fun x => ?_
  · exact (List.Sublist.map _ List.filter_sublist).nodup h.nd
  · rw [List.mem_map]
    constructor
    · intro hx
      obtain ⟨y, i, j, h1, h2, h3, h4⟩ := (soonB_iff h).mp (List.mem_filter.mp hx).2
      exact ⟨(x, y), List.mem_filter.mpr ⟨h1, (hf _ h1).mpr ⟨i, j, h2, h3, h4⟩⟩, rfl⟩
    · rintro ⟨m, hm, rfl⟩
      obtain ⟨h1, h2⟩ := List.mem_filter.mp hm
      obtain ⟨i, j, h3, h4, h5⟩ := (hf m h1).mp h2
      exact List.mem_filter.mpr ⟨by simpa using (h.mv m h1).1, (soonB_iff h).mpr ⟨m.2, i, j, h1, h3, h4, h5⟩⟩
end Lw

/-! Ways up and what is cut; forests by an order. -/
namespace Lw
theorem chn_head {s : St} {x : Nat} : ∃ l, chn s x = x :: l := by
  unfold chn
  cases s.length with
  | zero => exact ⟨[], rfl⟩
  | succ k =>
    unfold way
    cases up s x with
    | none => exact ⟨[], rfl⟩
    | some y => exact ⟨_, rfl⟩
theorem chn_nodup {n : Nat} {s : St} (g : Good n s) (x : Nat) : (chn s x).Nodup := by
  obtain ⟨r, hr⟩ := g.rk
  exact way_nodup hr _ _
theorem chn_lt {n : Nat} {s : St} (g : Good n s) {x : Nat} (hx : x < n) : ∀ z ∈ chn s x, z < n := way_lt g _ x hx
theorem mem_chn {n : Nat} {s : St} (g : Good n s) {x z : Nat} : z ∈ chn s x ↔ Rch s x z := by
  have key : ∀ (m x : Nat), rnk s x ≤ m → (z ∈ chn s x ↔ Rch s x z) := by
    intro m
    induction m with
    | zero => intro x hm; have : 0 < rnk s x := chn_pos; omega
    | succ m ih =>
      intro x hm
      cases e : up s x with
      | none =>
        rw [chn_none e, List.mem_singleton]
        exact ⟨fun h => h ▸ .refl _, fun h => (h.end e).symm⟩
      | some y =>
        have := rnk_rank g _ _ e
        rw [chn_some g e, List.mem_cons, ih y (by omega)]
        constructor
        · rintro (rfl | h)
          · exact .refl _
          · exact .step e h
        · intro h
          by_cases hz : x = z
          · exact .inl hz.symm
          · exact .inr (h.inv hz e)
  exact key _ x (Nat.le_refl _)
/-- the cut is right below e on the way up from h -/
theorem cut_some {n : Nat} {s : St} (g : Good n s) {e h x : Nat} (hh : h < n) (hc : cutOf s e h = some x) : x ∈ chn s h ∧ up s x = some e ∧ x < n := by
  unfold cutOf at hc
  split at hc
  · cases hc
  · rename_i hu
    injection hc with hc
    subst hc
    have h1 := stp_up g (e := e) (h := h)
    refine ⟨?_, h1.resolve_left hu, by unfold stp; exact stp_lt g _ _ hh⟩
    rw [mem_chn g]
    have key : ∀ (m z : Nat), rnk s z ≤ m → Rch s z (stp s e z) := by
      intro m
      induction m with
      | zero => intro z hm; have : 0 < rnk s z := chn_pos; omega
      | succ m ih =>
        intro z hm
        cases e1 : up s z with
        | none => rw [stp_end (.inl e1)]; exact .refl _
        | some y =>
          by_cases hy : y = e
          · subst hy; rw [stp_end (.inr e1)]; exact .refl _
          · rw [stp_step g e1 hy]
            have := rnk_rank g _ _ e1
            exact .step e1 (ih y (by omega))
    exact key _ h (Nat.le_refl _)
theorem cut_none {n : Nat} {s : St} (g : Good n s) {e h : Nat} (hh : h < n) (hn : h ≠ e) (hc : cutOf s e h = none) : e ∉ chn s h := by
  intro hm
  have hr := (mem_chn g).mp hm
  have : cutS s e h = s := by
    unfold cutOf at hc
    unfold cutS
    split at hc
    · rename_i hu; rw [if_pos hu]
    · cases hc
  have := this ▸ not_rch g hh hn
  exact this hr
theorem raise_up {n : Nat} {s : St} (g : Good n s) {e h x : Nat} (he : e < n) (hh : h < n) : up (raiseS s e h) x = if x = e then some h else if cutOf s e h = some x then none else up s x := by
  have hel : e < (cutS s e h).length := by rw [cutS_len, g.len]; exact he
  unfold raiseS
  by_cases hx : x = e
  · rw [if_pos hx, hx, up_set_eq hel]
  · rw [if_neg hx, up_set_ne (fun q => hx q.symm), cutS_up g hh]
    unfold cutOf
    by_cases hxs : x = stp s e h
    · rw [if_pos hxs]
      split
      · rename_i hu
        rw [hxs, hu]; simp
      · rw [if_pos (by rw [hxs])]
    · rw [if_neg hxs]
      split
      · simp
      · rw [if_neg (fun q => hxs (by injection q with q; exact q.symm))]
theorem cut_ne {n : Nat} {s : St} (g : Good n s) {e h x : Nat} (hh : h < n) (hc : cutOf s e h = some x) : x ≠ e := by
  obtain ⟨_, h2, _⟩ := cut_some g hh hc
  intro q
  subst q
  obtain ⟨r, hr⟩ := g.rk
  have := hr _ _ h2
  omega
/-- the same raise again: nothing -/
theorem raise_again {n : Nat} {s : St} (g : Good n s) {e h : Nat} (he : e < n) (hh : h < n) (hn : h ≠ e) : raiseS (raiseS s e h) e h = raiseS s e h ∧ cutOf (raiseS s e h) e h = none := by
  have g' := g.raise he hh hn
  have hu : up (raiseS s e h) e = some h := by rw [raise_up g he hh, if_pos rfl]
  have nr : ¬ Rch (raiseS s e h) h e := by
    intro hr
    obtain ⟨r, hr'⟩ := g'.rk
    have h1 := hr.rank hr'
    have h2 := hr' _ _ hu
    omega
  have hc : cutOf (raiseS s e h) e h = none := by
    cases q : cutOf (raiseS s e h) e h with
    | none => rfl
    | some x =>
      obtain ⟨h1, h2, _⟩ := cut_some g' hh q
      exact absurd (((mem_chn g').mp h1).trans (.step h2 (.refl _))) nr
  refine ⟨?_, hc⟩
  have hcs : cutS (raiseS s e h) e h = raiseS s e h := by
    unfold cutOf at hc
    unfold cutS
    split at hc
    · rename_i hz; rw [if_pos hz]
    · cases hc
  unfold raiseS at hcs ⊢
  rw [hcs, List.set_set]
/-- contexts lead to what comes earlier in an order -/
def Below (ord : List Nat) (s : St) : Prop := ∀ x y, up s x = some y → ∃ a b : Nat, ord[a]? = some x ∧ ord[b]? = some y ∧ b < a
theorem Below.good {n : Nat} {ord : List Nat} {s : St} (hp : ord.Perm (List.range n)) (hl : s.length = n) (h : Below ord s) : Good n s := by
  have nd : ord.Nodup := hp.nodup_iff.mpr List.nodup_range
  refine ⟨hl, fun i y e => ?_, ⟨fun x => ord.idxOf x, fun i y e => ?_⟩⟩
  · obtain ⟨a, b, h1, h2, h3⟩ := h i y e
    exact MP.perm_range_lt hp h2
  · obtain ⟨a, b, h1, h2, h3⟩ := h i y e
    have ix : ∀ (j z : Nat), ord[j]? = some z → ord.idxOf z = j := fun j z q => by
      obtain ⟨q1, q2⟩ := List.getElem?_eq_some_iff.mp q
      rw [← q2]
      exact nd.idxOf_getElem j q1
    show ord.idxOf y < ord.idxOf i
    rw [ix _ _ h1, ix _ _ h2]
    exact h3
theorem Below.set {ord : List Nat} {s : St} {a b x y : Nat} (h : Below ord s) (h1 : ord[a]? = some x) (h2 : ord[b]? = some y) (h3 : b < a) : Below ord (s.set x (some y)) := fun i z e => by
  by_cases hi : x = i
  · subst hi
    have hl : x < s.length := by
      have := up_lt e
      rwa [List.length_set] at this
    rw [up_set_eq hl] at e
    cases e
    exact ⟨a, b, h1, h2, h3⟩
  · rw [up_set_ne hi] at e
    exact h i z e
theorem Below.clear {ord : List Nat} {s : St} {x : Nat} (h : Below ord s) : Below ord (s.set x none) := fun i z e => by
  by_cases hi : x = i
  · subst hi
    have hl : x < s.length := by
      have := up_lt e
      rwa [List.length_set] at this
    rw [up_set_eq hl] at e
    cases e
  · rw [up_set_ne hi] at e
    exact h i z e
theorem Below.empty {ord : List Nat} {n : Nat} : Below ord (List.replicate n none) := fun i z e => by
  have : up (List.replicate n (none : Option Nat)) i = Option.none := by
    unfold up
    rw [List.getElem?_replicate]
    split <;> rfl
  rw [this] at e; cases e
end Lw
namespace Lw
/-- what each raise of a list cuts -/
def cutsL (s : St) : List (Nat × Nat) → List (Option Nat)
  | [] => []
  | m :: ms => cutOf s m.1 m.2 :: cutsL (raiseS s m.1 m.2) ms
theorem cutsL_len : ∀ {ms : List (Nat × Nat)} {s : St}, (cutsL s ms).length = ms.length
  | [], s => rfl
  | m :: ms, s => by simp [cutsL, cutsL_len]
theorem cutsL_snoc : ∀ {ms : List (Nat × Nat)} {s : St} {m : Nat × Nat}, cutsL s (ms ++ [m]) = cutsL s ms ++ [cutOf (runS s ms) m.1 m.2]
  | [], s, m => rfl
  | a :: ms, s, m => by
    show cutOf s a.1 a.2 :: cutsL (raiseS s a.1 a.2) (ms ++ [m]) = _
    rw [cutsL_snoc]; rfl
end Lw

/-! Dicts of pairs of numbers. -/
namespace Lw
open MP PySem
def kvD (ms : List (Nat × Nat)) : List (D × D) := ms.map fun m => (.int ((m.1 : Nat) : Int), .int ((m.2 : Nat) : Int))
def lookN (ms : List (Nat × Nat)) (x : Nat) : Option Nat := (ms.find? fun m => decide (m.1 = x)).map (·.2)
theorem getKvD {x : Nat} : ∀ {ms : List (Nat × Nat)}, getKv (kvD ms) (.int (x : Int)) = (lookN ms x).map fun y => .int ((y : Nat) : Int)
  | [] => rfl
  | m :: r => by
    have ih := getKvD (x := x) (ms := r)
    show (if same (.int ((m.1 : Nat) : Int)) (.int ((x : Nat) : Int)) = true then some (PyData.int ((m.2 : Nat) : Int)) else getKv (kvD r) _) = _
    unfold lookN at ih ⊢
    rw [List.find?_cons]
    by_cases e : m.1 = x
    · rw [if_pos (by simp [same, e]), decide_eq_true e]; rfl
    · rw [if_neg (by simp [same]; omega), decide_eq_false e, ih]
theorem lookN_none {x : Nat} {ms : List (Nat × Nat)} (h : x ∉ ms.map (·.1)) : lookN ms x = none := by
  unfold lookN
  rw [List.find?_eq_none.mpr fun m hm => by
    simp only [decide_eq_true_eq]
    exact fun z => h (List.mem_map.mpr ⟨m, hm, z⟩)]
  rfl
theorem lookN_some {x y : Nat} : ∀ {ms : List (Nat × Nat)}, (ms.map (·.1)).Nodup → (x, y) ∈ ms → lookN ms x = some y
  | m :: ms, nd, h => by
    simp only [List.map_cons, List.nodup_cons] at nd
    unfold lookN
    rw [List.find?_cons]
    rcases List.mem_cons.mp h with rfl | h
    · rw [decide_eq_true rfl]; rfl
    · rw [decide_eq_false (fun e => nd.1 (List.mem_map.mpr ⟨_, h, e.symm⟩))]
      exact lookN_some nd.2 h
theorem lookN_mem {x y : Nat} {ms : List (Nat × Nat)} (h : lookN ms x = some y) : (x, y) ∈ ms := by
  unfold lookN at h
  obtain ⟨m, h1, h2⟩ := Option.map_eq_some_iff.mp h
  have h3 := List.mem_of_find?_eq_some h1
  have h4 := List.find?_some h1
  simp only [decide_eq_true_eq] at h4
  subst h4 h2
  exact h3
theorem lookN_isSome {x : Nat} {ms : List (Nat × Nat)} : (lookN ms x).isSome = decide (x ∈ ms.map (·.1)) := by
  cases e : lookN ms x with
  | some y => exact (decide_eq_true (List.mem_map.mpr ⟨(x, y), lookN_mem e, rfl⟩)).symm
  | none =>
    refine (decide_eq_false fun h => ?_).symm
    unfold lookN at e
    obtain ⟨m, h1, h2⟩ := List.mem_map.mp h
    cases e2 : ms.find? fun m => decide (m.1 = x) with
    | some q => rw [e2] at e; cases e
    | none =>
      have := List.find?_eq_none.mp e2 m h1
      simp at this
      exact this h2
theorem putKvD {x y : Nat} {ms : List (Nat × Nat)} (h : x ∉ ms.map (·.1)) : putKv (kvD ms) (.int (x : Int)) (.int (y : Int)) = kvD (ms ++ [(x, y)]) := by
  unfold putKv
  rw [getKvD, lookN_none h]
  simp [kvD]
theorem rowsD : ∀ ms : List (Nat × Nat), rows? (rzs ms) = some (kvD ms)
  | [] => rfl
  | m :: ms => by
    show (if (keyOk (.int ((m.1 : Nat) : Int)) && plainD (.int ((m.2 : Nat) : Int))) = true then (rows? (rzs ms)).map _ else none) = _
    rw [if_pos (show (keyOk (.int ((m.1 : Nat) : Int)) && plainD (.int ((m.2 : Nat) : Int))) = true from rfl), rowsD ms]; rfl
theorem mergeD : ∀ (ms acc : List (Nat × Nat)), ((acc ++ ms).map (·.1)).Nodup → mergeKv (kvD acc) (kvD ms) = kvD (acc ++ ms)
  | [], acc, _ => by simp [mergeKv, kvD]
  | m :: ms, acc, nd => by
    show mergeKv (putKv (kvD acc) (.int ((m.1 : Nat) : Int)) (.int ((m.2 : Nat) : Int))) (kvD ms) = _
    have e : acc ++ m :: ms = acc ++ [m] ++ ms := by simp
    rw [e] at nd ⊢
    have nd2 := nd
    rw [List.map_append, List.map_append, List.append_assoc, List.nodup_append] at nd2
    rw [putKvD (fun h => nd2.2.2 _ h m.1 (by simp) rfl)]
    exact mergeD ms (acc ++ [m]) nd
theorem p_dofR {ms : List (Nat × Nat)} (nd : (ms.map (·.1)).Nodup) : Op.run .dof [.list (rzs ms)] = some (.dict (kvD ms)) := by
  have e : Op.run .dof [.list (rzs ms)] = (rows? (rzs ms)).map fun ps => .dict (mergeKv [] ps) := rfl
  rw [e, rowsD]
  have := mergeD ms [] (by simpa using nd)
  simp only [List.nil_append] at this
  rw [Option.map_some]
  show some (PyData.dict (mergeKv (kvD []) (kvD ms))) = _
  rw [this]
theorem m_get2D {ms : List (Nat × Nat)} {x : Nat} {c : Option Nat} : Mth.run .get2 (.dict (kvD ms)) [.int (x : Int), oc c] = some (oc ((lookN ms x).or c)) := by
  have e : Mth.run .get2 (.dict (kvD ms)) [.int (x : Int), oc c] = if keyOk (.int (x : Int)) = true && plainD (oc c) then some ((getKv (kvD ms) (.int (x : Int))).getD (oc c)) else none := rfl
  rw [e, if_pos (by cases c <;> rfl), getKvD]
  cases lookN ms x <;> rfl
theorem p_idxD {ms : List (Nat × Nat)} {x y : Nat} (h : lookN ms x = some y) : Op.run .idx [.dict (kvD ms), .int (x : Int)] = some (.int (y : Int)) := by
  have e : Op.run .idx [.dict (kvD ms), .int (x : Int)] = if keyOk (.int (x : Int)) = true then getKv (kvD ms) (.int (x : Int)) else none := rfl
  rw [e, if_pos (show keyOk (.int (x : Int)) = true from rfl), getKvD, h]; rfl
theorem p_inD {ms : List (Nat × Nat)} {x : Nat} : Op.run .isin [.int (x : Int), .dict (kvD ms)] = some (.bool (decide (x ∈ ms.map (·.1)))) := by
  have e : Op.run .isin [.int (x : Int), .dict (kvD ms)] = if keyOk (.int (x : Int)) = true then some (.bool (getKv (kvD ms) (.int (x : Int))).isSome) else none := rfl
  rw [e, if_pos (show keyOk (.int (x : Int)) = true from rfl), getKvD, Option.isSome_map, lookN_isSome]
theorem p_notinD {ms : List (Nat × Nat)} {x : Nat} : Op.run .notin [.int (x : Int), .dict (kvD ms)] = some (.bool (!decide (x ∈ ms.map (·.1)))) := by
  have e : Op.run .notin [.int (x : Int), .dict (kvD ms)] = if keyOk (.int (x : Int)) = true then some (.bool (!(getKv (kvD ms) (.int (x : Int))).isSome)) else none := rfl
  rw [e, if_pos (show keyOk (.int (x : Int)) = true from rfl), getKvD, Option.isSome_map, lookN_isSome]
end Lw

/-! The wish graph and its rings. -/
namespace Lw
/-- a graph of n nodes, at most one edge out of each -/
structure Gr (n : Nat) (g : St) : Prop where
  len : g.length = n
  lt : ∀ i y, up g i = some y → y < n
theorem Good.gr {n : Nat} {s : St} (h : Good n s) : Gr n s := ⟨h.len, h.lt⟩
/-- the wish graph -/
def wish (s : St) (ms : List (Nat × Nat)) : St := putS ms s
theorem wish_len {s : St} {ms : List (Nat × Nat)} : (wish s ms).length = s.length := putS_len
theorem wish_in {n : Nat} {s : St} {ms : List (Nat × Nat)} (h : Pass n ms) (hs : s.length = n) {x y : Nat} (hm : (x, y) ∈ ms) : up (wish s ms) x = some y :=
  putS_in h.nd hm (by rw [hs]; exact (h.mv _ hm).1)
theorem wish_out {s : St} {ms : List (Nat × Nat)} {x : Nat} (hm : x ∉ ms.map (·.1)) : up (wish s ms) x = up s x := putS_out hm
theorem wish_gr {n : Nat} {s : St} {ms : List (Nat × Nat)} (h : Pass n ms) (g : Gr n s) : Gr n (wish s ms) := by
  refine ⟨by rw [wish_len, g.len], fun i y e => ?_⟩
  by_cases hm : i ∈ ms.map (·.1)
  · obtain ⟨m, h1, rfl⟩ := List.mem_map.mp hm
    rw [wish_in h g.len (show (m.1, m.2) ∈ ms from h1)] at e
    cases e
    exact (h.mv m h1).2.1
  · rw [wish_out hm] at e
    exact g.lt i y e
/-- a walk along the edges till no new one comes: its members, and where the last edge leads -/
def trl (g : St) : Nat → List Nat → Nat → List Nat × Option Nat
  | 0, pre, x => (pre ++ [x], up g x)
  | k + 1, pre, x => match up g x with
    | some y => if y ∈ pre ++ [x] then (pre ++ [x], some y) else trl g k (pre ++ [x]) y
    | none => (pre ++ [x], none)
def trail (g : St) (x : Nat) : List Nat := (trl g g.length [] x).1
def tend (g : St) (x : Nat) : Option Nat := (trl g g.length [] x).2
/-- under way: k more nodes may come -/
structure Und (n : Nat) (g : St) (k : Nat) (pre : List Nat) (x : Nat) : Prop where
  nd : (pre ++ [x]).Nodup
  lt : ∀ z ∈ pre ++ [x], z < n
  fu : k + pre.length = n
theorem Und.start {n : Nat} {g : St} {x : Nat} (hx : x < n) : Und n g n [] x := ⟨by simp, by simpa using hx, by simp⟩
theorem Und.pos {n : Nat} {g : St} {k : Nat} {pre : List Nat} {x : Nat} (u : Und n g k pre x) : 0 < k := by
  have := nodup_le u.nd u.lt
  rw [List.length_append, List.length_singleton] at this
  have := u.fu
  omega
theorem Und.step {n : Nat} {g : St} (G : Gr n g) {k : Nat} {pre : List Nat} {x y : Nat} (u : Und n g (k + 1) pre x) (e : up g x = some y) (h : y ∉ pre ++ [x]) : Und n g k (pre ++ [x]) y := by
  refine ⟨?_, fun z hz => ?_, by rw [List.length_append, List.length_singleton]; have := u.fu; omega⟩
  · rw [List.nodup_append]
    refine ⟨u.nd, by simp, fun a ha b hb => ?_⟩
    simp at hb
    subst hb
    exact fun e => h (e ▸ ha)
  · rw [List.mem_append, List.mem_singleton] at hz
    rcases hz with hz | rfl
    · exact u.lt z hz
    · exact G.lt _ _ e
theorem trl_none {g : St} {k : Nat} {pre : List Nat} {x : Nat} (e : up g x = none) : trl g k pre x = (pre ++ [x], none) := by
  cases k with
  | zero => unfold trl; rw [e]
  | succ k => unfold trl; rw [e]
theorem trl_old {g : St} {k : Nat} {pre : List Nat} {x y : Nat} (e : up g x = some y) (h : y ∈ pre ++ [x]) : trl g k pre x = (pre ++ [x], some y) := by
  cases k with
  | zero => unfold trl; rw [e]
  | succ k => unfold trl; rw [e]; simp only []; rw [if_pos h]
theorem trl_new {g : St} {k : Nat} {pre : List Nat} {x y : Nat} (e : up g x = some y) (h : y ∉ pre ++ [x]) : trl g (k + 1) pre x = trl g k (pre ++ [x]) y := by
  conv => lhs; unfold trl
  rw [e]; simp only []; rw [if_neg h]
theorem trl_self {g : St} {x : Nat} : ∀ (k : Nat) (pre : List Nat) (y : Nat), x ∈ pre ++ [y] → x ∈ (trl g k pre y).1
  | 0, pre, y, h => h
  | k + 1, pre, y, h => by
    cases e : up g y with
    | none => rw [trl_none e]; exact h
    | some w =>
      by_cases hw : w ∈ pre ++ [y]
      · rw [trl_old e hw]; exact h
      · rw [trl_new e hw]; exact trl_self _ _ _ (List.mem_append_left _ h)
theorem trail_self {g : St} {x : Nat} : x ∈ trail g x := trl_self _ _ _ (by simp)
/-- the rings whose least member is x -/
def rgAt (g : St) (x : Nat) : List (List Nat) := if tend g x = some x ∧ ∀ z ∈ trail g x, x ≤ z then [trail g x] else []
/-- all rings, each from its least member -/
def ringsOf (g : St) : List (List Nat) := (List.range g.length).flatMap (rgAt g)
theorem rings_take {g : St} {j : Nat} : (List.range (j + 1)).flatMap (rgAt g) = (List.range j).flatMap (rgAt g) ++ rgAt g j := by
  rw [List.range_succ, List.flatMap_append]; simp
theorem trail_lt {n : Nat} {g : St} (G : Gr n g) {x : Nat} (hx : x < n) : ∀ z ∈ trail g x, z < n := by
  have key : ∀ (k : Nat) (pre : List Nat) (x : Nat), Und n g k pre x → ∀ z ∈ (trl g k pre x).1, z < n := by
    intro k
    induction k with
    | zero => intro pre x u; have := u.pos; omega
    | succ k ih =>
      intro pre x u
      cases e : up g x with
      | none => rw [trl_none e]; exact u.lt
      | some y =>
        by_cases h : y ∈ pre ++ [x]
        · rw [trl_old e h]; exact u.lt
        · rw [trl_new e h]; exact ih _ _ (u.step G e h)
  unfold trail
  rw [G.len]
  exact key n [] x (.start hx)
theorem trail_len {n : Nat} {g : St} (G : Gr n g) {x : Nat} (hx : x < n) : (trail g x).length ≤ n := by
  have key : ∀ (k : Nat) (pre : List Nat) (x : Nat), Und n g k pre x → (trl g k pre x).1.length ≤ n := by
    intro k
    induction k with
    | zero => intro pre x u; have := u.pos; omega
    | succ k ih =>
      intro pre x u
      have := u.fu
      cases e : up g x with
      | none => rw [trl_none e]; simp; omega
      | some y =>
        by_cases h : y ∈ pre ++ [x]
        · rw [trl_old e h]; simp; omega
        · rw [trl_new e h]; exact ih _ _ (u.step G e h)
  unfold trail
  rw [G.len]
  exact key n [] x (.start hx)
theorem rings_mem {n : Nat} {g : St} (G : Gr n g) {r : List Nat} : r ∈ ringsOf g ↔ ∃ x, x < n ∧ r = trail g x ∧ tend g x = some x ∧ ∀ z ∈ trail g x, x ≤ z := by
  unfold ringsOf
  rw [List.mem_flatMap]
  constructor
  · rintro ⟨x, h1, h2⟩
    unfold rgAt at h2
    split at h2
    · rename_i h
      simp at h2
      exact ⟨x, by rw [← G.len]; simpa using h1, h2, h.1, h.2⟩
    · cases h2
  · rintro ⟨x, h1, rfl, h2, h3⟩
    exact ⟨x, by rw [G.len]; simpa using h1, by unfold rgAt; rw [if_pos ⟨h2, h3⟩]; simp⟩
theorem rgAt_len {g : St} {x : Nat} : (rgAt g x).length ≤ 1 := by
  unfold rgAt
  split <;> simp
theorem ringsUp_len {g : St} : ∀ j : Nat, ((List.range j).flatMap (rgAt g)).length ≤ j
  | 0 => by simp
  | j + 1 => by
    rw [rings_take, List.length_append]
    have := ringsUp_len (g := g) j
    have := rgAt_len (g := g) (x := j)
    omega
/-- the members of all rings -/
def onRings (g : St) : List Nat := (ringsOf g).flatten
/-- the members of a ring without a context -/
def gaps (s : St) (r : List Nat) : List Nat := r.filter fun x => decide (up s x = none)
/-- the state is settled, as the rings tell -/
def settledB (s : St) (ms : List (Nat × Nat)) : Bool :=
  (ms.all fun m => decide (up s m.1 = some m.2) || (decide (up s m.1 = none) && decide (m.1 ∈ onRings (wish s ms)))) && (ringsOf (wish s ms)).all fun r => decide ((gaps s r).length = 1)

/-! ### encodings -/
open MP PySem
def rg (r : List Nat) : D := .tuple (nats r)
def rgs (R : List (List Nat)) : List D := R.map rg
theorem rgs_len {R : List (List Nat)} : (rgs R).length = R.length := List.length_map _
theorem rgs_app {R T : List (List Nat)} : rgs R ++ rgs T = rgs (R ++ T) := by unfold rgs; rw [List.map_append]
theorem rgs_app1 {R : List (List Nat)} {r : List Nat} : rgs R ++ [.tuple (nats r)] = rgs (R ++ [r]) := by unfold rgs; rw [List.map_append]; rfl
theorem okD_rg {k : Nat} {r : List Nat} : okD (k + 1) (rg r) := okD.tuple ok_nats
theorem okD_rgs {k : Nat} {R : List (List Nat)} : ∀ x ∈ rgs R, okD (k + 1) x := fun x hx => by
  obtain ⟨c, _, rfl⟩ := List.mem_map.mp hx
  exact okD_rg
theorem rep_rg {r : List Nat} (h : ∀ y ∈ r, y < 64) : Rep (r.length * 7) (rg r) := by
  have := rep_tuple (w := 6) (xs := nats r) (fun x hx => by
    obtain ⟨c, hc, rfl⟩ := List.mem_map.mp hx
    exact rep_int (h c hc)) ok_nats
  rw [nats_len] at this
  exact this
theorem rep_rgs {R : List (List Nat)} {n : Nat} (h : ∀ r ∈ R, r.length ≤ n ∧ ∀ y ∈ r, y < 64) : Rep (R.length * (n * 7 + 1)) (.list (rgs R)) := by
  have := rep_list (w := n * 7) (xs := rgs R) (fun x hx => by
    obtain ⟨r, hr, rfl⟩ := List.mem_map.mp hx
    exact (rep_rg (h r hr).2).mono (Nat.mul_le_mul_right _ (h r hr).1)) (fun x hx => okD.mono (okD_rgs (k := 0) x hx) (by omega))
  rw [rgs_len] at this
  exact this
theorem rep_rings {n : Nat} {g : St} (G : Gr n g) (hn : n ≤ 64) : Rep (n * (n * 7 + 1)) (.list (rgs (ringsOf g))) := by
  have := rep_rgs (R := ringsOf g) (n := n) fun r hr => by
    obtain ⟨x, h1, rfl, _⟩ := (rings_mem G).mp hr
    exact ⟨trail_len G h1, fun y hy => by have := trail_lt G h1 y hy; omega⟩
  refine this.mono (Nat.mul_le_mul_right _ ?_)
  have := ringsUp_len (g := g) g.length
  rw [G.len] at this
  unfold ringsOf
  rw [G.len]; exact this
/-- the least of a list -/
def leastN : List Nat → Nat
  | [] => 0
  | x :: xs => xs.foldl (fun a b => if b < a then b else a) x
theorem foldN : ∀ (xs : List Nat) (x : Nat), (xs.foldl (fun a b => if b < a then b else a) x = x ∨ xs.foldl (fun a b => if b < a then b else a) x ∈ xs) ∧ (xs.foldl (fun a b => if b < a then b else a) x ≤ x ∧ ∀ y ∈ xs, xs.foldl (fun a b => if b < a then b else a) x ≤ y)
  | [], x => by simp
  | a :: xs, x => by
    obtain ⟨h1, h2, h3⟩ := foldN xs (if a < x then a else x)
    simp only [List.foldl_cons]
    have hle : (if a < x then a else x) ≤ x ∧ (if a < x then a else x) ≤ a := by split <;> omega
    refine ⟨?_, by omega, fun y hy => ?_⟩
    · rcases h1 with h1 | h1
      · rw [h1]
        by_cases h : a < x
        · rw [if_pos h]; exact .inr List.mem_cons_self
        · rw [if_neg h]; exact .inl rfl
      · exact .inr (List.mem_cons_of_mem _ h1)
    · rcases List.mem_cons.mp hy with rfl | hy
      · omega
      · exact h3 y hy
theorem leastN_mem : ∀ {l : List Nat}, l ≠ [] → leastN l ∈ l
  | [], h => absurd rfl h
  | x :: xs, _ => by
    rcases (foldN xs x).1 with h | h
    · show xs.foldl _ x ∈ _
      rw [h]; exact List.mem_cons_self
    · exact List.mem_cons_of_mem _ h
theorem leastN_le : ∀ {l : List Nat} {y : Nat}, y ∈ l → leastN l ≤ y
  | x :: xs, y, h => by
    rcases List.mem_cons.mp h with rfl | h
    · exact (foldN xs y).2.1
    · exact (foldN xs x).2.2 y h
theorem leastN_iff {l : List Nat} {x : Nat} (h : x ∈ l) : leastN l = x ↔ ∀ z ∈ l, x ≤ z := by
  constructor
  · rintro rfl z hz
    exact leastN_le hz
  · intro q
    have h1 := leastN_le h
    have h2 := q _ (leastN_mem (List.ne_nil_of_mem h))
    omega
theorem minI_nats : ∀ {l : List Nat}, l ≠ [] → minI (l.map Int.ofNat) = some (Int.ofNat (leastN l))
  | [], h => absurd rfl h
  | x :: xs, _ => by
    have key : ∀ (xs : List Nat) (x : Nat), (xs.map Int.ofNat).foldl (fun a b => if b < a then b else a) (Int.ofNat x) = Int.ofNat (xs.foldl (fun a b => if b < a then b else a) x) := by
      intro xs
      induction xs with
      | nil => intro x; rfl
      | cons a xs ih =>
        intro x
        simp only [List.map_cons, List.foldl_cons]
        rw [← ih]
        congr 1
        by_cases h : a < x
        · rw [if_pos h]; exact if_pos (Int.ofNat_lt.mpr h)
        · rw [if_neg h]; exact if_neg (fun z => h (Int.ofNat_lt.mp z))
    show some _ = some _
    rw [key]; rfl
theorem p_minL {l : List Nat} (h : l ≠ []) : Op.run .min [.list (nats l)] = some (.int ((leastN l : Nat) : Int)) := by
  have e : Op.run .min [.list (nats l)] = (ints? (nats l)).bind fun ns => (minI ns).map .int := rfl
  rw [e, ints_nats, Option.bind_some, minI_nats h]; rfl
theorem p_minT {l : List Nat} (h : l ≠ []) : Op.run .min [.tuple (nats l)] = some (.int ((leastN l : Nat) : Int)) := by
  have e : Op.run .min [.tuple (nats l)] = (ints? (nats l)).bind fun ns => (minI ns).map .int := rfl
  rw [e, ints_nats, Option.bind_some, minI_nats h]; rfl
theorem p_inC {c : Option Nat} {x : List Nat} : Op.run .isin [oc c, .list (nats x)] = some (.bool (decide (∃ y, c = some y ∧ y ∈ x))) := by
  cases c with
  | none =>
    rw [oc_none, p_isin ok_none ok_nats]
    have : ((nats x).any fun z => same z .none) = false := by
      rw [List.any_eq_false]
      intro z hz
      obtain ⟨a, _, rfl⟩ := List.mem_map.mp hz
      simp [natD, same]
    rw [this]; simp
  | some y =>
    rw [oc_some, p_inN]; simp
theorem p_eqRgs {R T : List (List Nat)} : Op.run .eq [.list (rgs R), .list (rgs T)] = some (.bool (decide (R = T))) := by
  rw [eq_ok (okD.list (k := 59) okD_rgs) (okD.list okD_rgs), same_dec (p := R = T) ⟨fun h => by
    injection h with h
    refine List.map_inj_right (fun a b e => ?_) |>.mp h
    unfold rg at e
    injection e with e
    exact nats_inj.mp e, fun h => h ▸ rfl⟩]
end Lw
namespace Lw
theorem wish_look {n : Nat} {s : St} {ms : List (Nat × Nat)} (h : Pass n ms) (hs : s.length = n) {x : Nat} : up (wish s ms) x = (lookN ms x).or (up s x) := by
  cases e : lookN ms x with
  | some y => rw [wish_in h hs (lookN_mem e)]; rfl
  | none =>
    rw [wish_out]
    · rfl
    · intro hm
      have := lookN_isSome (x := x) (ms := ms)
      rw [e, decide_eq_true hm] at this
      cases this
end Lw
namespace Lw
theorem gr_dec {n : Nat} {g : St} (h1 : g.length = n) (h2 : (g.all fun c => match c with | some y => decide (y < n) | none => true) = true) : Gr n g := by
  refine ⟨h1, fun i y e => ?_⟩
  have := List.all_eq_true.mp h2 _ (List.mem_of_getElem? (up_some.mp e))
  simpa using this
end Lw
namespace Lw
/-- ascending -/
def sortN (l : List Nat) : List Nat := l.mergeSort (fun a b => decide (a ≤ b))
theorem sortN_perm {l : List Nat} : (sortN l).Perm l := List.mergeSort_perm _ _
theorem sortN_sorted {l : List Nat} : (sortN l).Pairwise (· ≤ ·) := by
  have := List.pairwise_mergeSort (le := fun a b : Nat => decide (a ≤ b)) (fun a b c h1 h2 => by simp at *; omega) (fun a b => by simp; omega) l
  exact this.imp fun h => by simpa using h
/-- the lapses of all rings -/
def lapsesL (s : St) (ms : List (Nat × Nat)) : List Nat := sortN ((ringsOf (wish s ms)).flatMap (gaps s))
theorem ring_lt {n : Nat} {g : St} (G : Gr n g) {r : List Nat} (hr : r ∈ ringsOf g) : ∀ z ∈ r, z < n := by
  obtain ⟨x, h1, rfl, _⟩ := (rings_mem G).mp hr
  exact trail_lt G h1
theorem ring_len {n : Nat} {g : St} (G : Gr n g) {r : List Nat} (hr : r ∈ ringsOf g) : r.length ≤ n := by
  obtain ⟨x, h1, rfl, _⟩ := (rings_mem G).mp hr
  exact trail_len G h1
theorem rings_many {n : Nat} {g : St} (G : Gr n g) : (ringsOf g).length ≤ n := by
  have := ringsUp_len (g := g) g.length
  rw [G.len] at this
  unfold ringsOf
  rw [G.len]; exact this
theorem flat_len {α β : Type} {f : α → List β} {n : Nat} : ∀ {l : List α}, (∀ x ∈ l, (f x).length ≤ n) → (l.flatMap f).length ≤ l.length * n
  | [], _ => by simp
  | x :: l, h => by
    rw [List.flatMap_cons, List.length_append, List.length_cons, Nat.add_mul, Nat.one_mul]
    have h1 := h x List.mem_cons_self
    have h2 := flat_len (f := f) (l := l) fun y hy => h y (List.mem_cons_of_mem _ hy)
    omega
theorem gaps_len {s : St} {r : List Nat} : (gaps s r).length ≤ r.length := List.length_filter_le _ _
end Lw

/-! Rings as cycles; passes on settled states. -/
namespace Lw
theorem up_ext {s t : St} (hl : s.length = t.length) (h : ∀ x, up s x = up t x) : s = t := by
  refine List.ext_getElem? fun i => ?_
  by_cases hi : i < s.length
  · rw [up_get hi, up_get (by omega), h]
  · rw [List.getElem?_eq_none (by omega), List.getElem?_eq_none (by omega)]
/-- on a ring -/
def OnR (g : St) (x : Nat) : Prop := ∃ y, up g x = some y ∧ Rch g y x
def Sub (s g : St) : Prop := ∀ x y, up s x = some y → up g x = some y
theorem Sub.rch {s g : St} (h : Sub s g) {x y : Nat} (r : Rch s x y) : Rch g x y := by
  induction r with
  | refl => exact .refl _
  | step e _ ih => exact .step (h _ _ e) ih
theorem OnR.next {g : St} {x y : Nat} (h : OnR g x) (e : up g x = some y) : OnR g y ∧ Rch g y x := by
  obtain ⟨z, e2, r⟩ := h
  rw [e] at e2; cases e2
  refine ⟨?_, r⟩
  cases r with
  | refl => exact ⟨x, e, .refl _⟩
  | step e3 r3 => exact ⟨_, e3, r3.trans (.step e (.refl _))⟩
theorem OnR.rch {g : St} {x y : Nat} (h : OnR g x) (r : Rch g x y) : OnR g y ∧ Rch g y x := by
  induction r with
  | refl => exact ⟨h, .refl _⟩
  | step e _ ih =>
    obtain ⟨h1, h2⟩ := h.next e
    obtain ⟨h3, h4⟩ := ih h1
    exact ⟨h3, h4.trans h2⟩
/-- the i-th of a list -/
def at' (l : List Nat) (i : Nat) : Nat := l.getD i 0
theorem at_get {l : List Nat} {i : Nat} (h : i < l.length) : l[i]? = some (at' l i) := by
  unfold at'
  rw [List.getD_eq_getElem?_getD, List.getElem?_eq_getElem h]; rfl
theorem at_mem {l : List Nat} {i : Nat} (h : i < l.length) : at' l i ∈ l := List.mem_of_getElem? (at_get h)
theorem mem_at {l : List Nat} {x : Nat} (h : x ∈ l) : ∃ i, i < l.length ∧ at' l i = x := by
  obtain ⟨i, hi⟩ := List.mem_iff_getElem?.mp h
  have hl := (List.getElem?_eq_some_iff.mp hi).1
  refine ⟨i, hl, ?_⟩
  have := at_get hl
  rw [hi] at this
  exact (Option.some.inj this).symm
theorem at_inj {l : List Nat} (nd : l.Nodup) {i j : Nat} (hi : i < l.length) (hj : j < l.length) (h : at' l i = at' l j) : i = j := by
  have h1 := at_get hi
  have h2 := at_get hj
  rw [h, ← h2] at h1
  exact (List.getElem?_inj hi nd).mp h1
theorem at_app {a b : List Nat} {i : Nat} (h : i < a.length) : at' (a ++ b) i = at' a i := by
  have h1 := at_get (l := a ++ b) (i := i) (by rw [List.length_append]; omega)
  rw [List.getElem?_append_left h, at_get h] at h1
  exact (Option.some.inj h1).symm
theorem at_last {a : List Nat} {x : Nat} : at' (a ++ [x]) a.length = x := by
  unfold at'
  simp
/-- a cycle of the graph -/
structure Cyc (g : St) (r : List Nat) : Prop where
  pos : 0 < r.length
  nd : r.Nodup
  nx : ∀ i, i < r.length → up g (at' r i) = some (at' r ((i + 1) % r.length))
/-- consecutive along the edges -/
def Ch (g : St) (l : List Nat) : Prop := ∀ i, i + 1 < l.length → up g (at' l i) = some (at' l (i + 1))
theorem trl_spec {n : Nat} {g : St} (G : Gr n g) : ∀ (k : Nat) (pre : List Nat) (x : Nat), Und n g k pre x → Ch g (pre ++ [x]) →
    ∃ l e, trl g k pre x = (l, e) ∧ Ch g l ∧ l.Nodup ∧ 0 < l.length ∧ at' l 0 = at' (pre ++ [x]) 0 ∧ e = up g (at' l (l.length - 1)) ∧ ∀ y, e = some y → y ∈ l
  | 0, pre, x, u, _ => by have := u.pos; omega
  | k + 1, pre, x, u, c => by
    have hl : at' (pre ++ [x]) ((pre ++ [x]).length - 1) = x := by
      rw [List.length_append, List.length_singleton]
      exact at_last
    cases e : up g x with
    | none => exact ⟨_, _, trl_none e, c, u.nd, by simp, rfl, by rw [hl, e], fun y h => nomatch h⟩
    | some y =>
      by_cases h : y ∈ pre ++ [x]
      · exact ⟨_, _, trl_old e h, c, u.nd, by simp, rfl, by rw [hl, e], fun z hz => by cases hz; exact h⟩
      · rw [trl_new e h]
        have c' : Ch g (pre ++ [x] ++ [y]) := fun i hi => by
          rw [List.length_append, List.length_singleton] at hi
          have hi' : i < (pre ++ [x]).length := by omega
          rw [at_app hi']
          by_cases hj : i + 1 < (pre ++ [x]).length
          · rw [at_app hj]; exact c i hj
          · have ei : i + 1 = (pre ++ [x]).length := by omega
            rw [ei, at_last]
            have : i = (pre ++ [x]).length - 1 := by omega
            rw [this, hl, e]
        obtain ⟨l, e2, h1, h2, h3, h4, h5, h6⟩ := trl_spec G k _ y (u.step G e h) c'
        refine ⟨l, e2, h1, h2, h3, h4, ?_, h6⟩
        rw [h5, at_app (by simp)]
theorem trail_spec {n : Nat} {g : St} (G : Gr n g) {x : Nat} (hx : x < n) : Ch g (trail g x) ∧ (trail g x).Nodup ∧ 0 < (trail g x).length ∧ at' (trail g x) 0 = x ∧ tend g x = up g (at' (trail g x) ((trail g x).length - 1)) ∧ ∀ y, tend g x = some y → y ∈ trail g x := by
  obtain ⟨l, e, h1, h2, h3, h4, h5, h6, h7⟩ := trl_spec G n [] x (.start hx) (fun i hi => by simp at hi)
  have e1 : trail g x = l := by unfold trail; rw [G.len, h1]
  have e2 : tend g x = e := by unfold tend; rw [G.len, h1]
  rw [e1, e2]
  exact ⟨h2, h3, h4, h5, h6, h7⟩
theorem Ch.rch {g : St} {l : List Nat} (h : Ch g l) {i : Nat} : ∀ {j : Nat}, i ≤ j → j < l.length → Rch g (at' l i) (at' l j)
  | 0, hi, _ => by
    obtain rfl : i = 0 := by omega
    exact .refl _
  | j + 1, hi, hj => by
    by_cases e : i = j + 1
    · subst e; exact .refl _
    · exact (Ch.rch h (j := j) (by omega) (by omega)).trans (.step (h j hj) (.refl _))
theorem cyc_trail {n : Nat} {g : St} (G : Gr n g) {x : Nat} (hx : x < n) (h : tend g x = some x) : Cyc g (trail g x) := by
  obtain ⟨h1, h2, h3, h4, h5, _⟩ := trail_spec G hx
  refine ⟨h3, h2, fun i hi => ?_⟩
  by_cases hj : i + 1 < (trail g x).length
  · rw [Nat.mod_eq_of_lt hj]; exact h1 i hj
  · have ei : i = (trail g x).length - 1 := by omega
    have em : (i + 1) % (trail g x).length = 0 := by
      rw [show i + 1 = (trail g x).length by omega, Nat.mod_self]
    rw [em, h4, ei, ← h5, h]
theorem tend_onR {n : Nat} {g : St} (G : Gr n g) {x : Nat} (hx : x < n) (h : OnR g x) : tend g x = some x := by
  obtain ⟨h1, h2, h3, h4, h5, h6⟩ := trail_spec G hx
  have hl : (trail g x).length - 1 < (trail g x).length := by omega
  have r0 := Ch.rch h1 (Nat.zero_le ((trail g x).length - 1)) hl
  rw [h4] at r0
  obtain ⟨y, hy, _⟩ := (h.rch r0).1
  rw [hy] at h5
  obtain ⟨i, hi, ei⟩ := mem_at (h6 y h5)
  by_cases h0 : i = 0
  · subst h0
    rw [h5, ← ei, h4]
  · -- the part from i on is closed
    exfalso
    have clo : ∀ a b, Rch g a b → (∃ j, i ≤ j ∧ j < (trail g x).length ∧ at' (trail g x) j = a) → ∃ j, i ≤ j ∧ j < (trail g x).length ∧ at' (trail g x) j = b := by
      intro a b r
      induction r with
      | refl => exact id
      | step e _ ih =>
        rintro ⟨j, j1, j2, j3⟩
        refine ih ?_
        by_cases hj : j + 1 < (trail g x).length
        · have q := h1 j hj
          rw [j3, e] at q
          exact ⟨j + 1, by omega, hj, (Option.some.inj q).symm⟩
        · have ej : j = (trail g x).length - 1 := by omega
          rw [← j3, ej, hy] at e
          exact ⟨i, Nat.le_refl _, hi, by rw [ei]; exact Option.some.inj e⟩
    have ry : Rch g y x := (h.rch (r0.trans (.step hy (.refl _)))).2
    obtain ⟨j, j1, j2, j3⟩ := clo y x ry ⟨i, Nat.le_refl _, hi, ei⟩
    have := at_inj h2 j2 h3 (by rw [j3, h4])
    omega
section
variable {n : Nat} {g : St} {r : List Nat}
theorem Cyc.step (c : Cyc g r) {x : Nat} (h : x ∈ r) : ∃ y, up g x = some y ∧ y ∈ r := by
  obtain ⟨i, hi, rfl⟩ := mem_at h
  exact ⟨_, c.nx i hi, at_mem (Nat.mod_lt _ c.pos)⟩
theorem Cyc.rch (c : Cyc g r) {i : Nat} (hi : i < r.length) : ∀ k, Rch g (at' r i) (at' r ((i + k) % r.length))
  | 0 => by rw [Nat.add_zero, Nat.mod_eq_of_lt hi]; exact .refl _
  | k + 1 => by
    refine (Cyc.rch c hi k).trans (.step (c.nx _ (Nat.mod_lt _ c.pos)) ?_)
    rw [Nat.mod_add_mod, Nat.add_assoc]
    exact .refl _
theorem Cyc.rchs (c : Cyc g r) {x y : Nat} (hx : x ∈ r) (hy : y ∈ r) : Rch g x y := by
  obtain ⟨i, hi, rfl⟩ := mem_at hx
  obtain ⟨j, hj, rfl⟩ := mem_at hy
  have := c.rch hi (r.length - i + j)
  rw [show i + (r.length - i + j) = r.length + j by omega, Nat.add_mod_left, Nat.mod_eq_of_lt hj] at this
  exact this
theorem Cyc.mem (c : Cyc g r) {x y : Nat} (hx : x ∈ r) (h : Rch g x y) : y ∈ r := by
  induction h with
  | refl => exact hx
  | step e _ ih =>
    obtain ⟨z, e2, hz⟩ := c.step hx
    rw [e] at e2; cases e2
    exact ih hz
theorem Cyc.onR (c : Cyc g r) {x : Nat} (hx : x ∈ r) : OnR g x := by
  obtain ⟨y, e, hy⟩ := c.step hx
  exact ⟨y, e, c.rchs hy hx⟩
theorem Cyc.inj (c : Cyc g r) {x y z : Nat} (hx : x ∈ r) (hy : y ∈ r) (e1 : up g x = some z) (e2 : up g y = some z) : x = y := by
  obtain ⟨i, hi, rfl⟩ := mem_at hx
  obtain ⟨j, hj, rfl⟩ := mem_at hy
  have h1 := c.nx i hi
  have h2 := c.nx j hj
  rw [e1] at h1
  rw [e2] at h2
  rw [h1] at h2
  have h3 := at_inj c.nd (Nat.mod_lt _ c.pos) (Nat.mod_lt _ c.pos) (Option.some.inj h2)
  have : i = j := by
    by_cases hi' : i + 1 < r.length
    · rw [Nat.mod_eq_of_lt hi'] at h3
      by_cases hj' : j + 1 < r.length
      · rw [Nat.mod_eq_of_lt hj'] at h3; omega
      · rw [show j + 1 = r.length by omega, Nat.mod_self] at h3; omega
    · rw [show i + 1 = r.length by omega, Nat.mod_self] at h3
      by_cases hj' : j + 1 < r.length
      · rw [Nat.mod_eq_of_lt hj'] at h3; omega
      · omega
  rw [this]
theorem ring_cyc (G : Gr n g) (hr : r ∈ ringsOf g) : Cyc g r := by
  obtain ⟨x, h1, rfl, h2, _⟩ := (rings_mem G).mp hr
  exact cyc_trail G h1 h2
theorem onR_lt (G : Gr n g) {x : Nat} (h : OnR g x) : x < n := by
  obtain ⟨y, e, _⟩ := h
  have := up_lt e
  rwa [G.len] at this
theorem ring_of (G : Gr n g) {x : Nat} (h : OnR g x) : ∃ r, r ∈ ringsOf g ∧ x ∈ r := by
  have hx := onR_lt G h
  have c := cyc_trail G hx (tend_onR G hx h)
  have hm := leastN_mem (l := trail g x) (List.ne_nil_of_mem trail_self)
  have ho := c.onR hm
  have hlt := onR_lt G ho
  have c2 := cyc_trail G hlt (tend_onR G hlt ho)
  refine ⟨_, (rings_mem G).mpr ⟨_, hlt, rfl, tend_onR G hlt ho, fun z hz => ?_⟩, c2.mem trail_self (c.rchs hm trail_self)⟩
  exact leastN_le (c.mem trail_self ((c.rchs trail_self hm).trans (c2.rchs trail_self hz)))
theorem ring_uniq (G : Gr n g) {r t : List Nat} (hr : r ∈ ringsOf g) (ht : t ∈ ringsOf g) {x : Nat} (h1 : x ∈ r) (h2 : x ∈ t) : r = t := by
  have c := ring_cyc G hr
  have d := ring_cyc G ht
  obtain ⟨a, ha, rfl, ea, la⟩ := (rings_mem G).mp hr
  obtain ⟨b, hb, rfl, eb, lb⟩ := (rings_mem G).mp ht
  have q1 : b ∈ trail g a := c.mem h1 (d.rchs h2 trail_self)
  have q2 : a ∈ trail g b := d.mem h2 (c.rchs h1 trail_self)
  have := la b q1
  have := lb a q2
  have : a = b := by omega
  rw [this]
theorem onRings_iff (G : Gr n g) {x : Nat} : x ∈ onRings g ↔ OnR g x := by
  unfold onRings
  rw [List.mem_flatten]
  constructor
  · rintro ⟨r, h1, h2⟩
    exact (ring_cyc G h1).onR h2
  · intro h
    exact ring_of G h
end
end Lw
namespace Lw
theorem rings_nodup {n : Nat} {g : St} (G : Gr n g) : (ringsOf g).Nodup := by
  have key : ∀ j, j ≤ n → ((List.range j).flatMap (rgAt g)).Nodup ∧ ∀ r ∈ (List.range j).flatMap (rgAt g), ∃ x, x < j ∧ r = trail g x := by
    intro j
    induction j with
    | zero => intro _; exact ⟨by simp, fun r h => by simp at h⟩
    | succ j ih =>
      intro hj
      obtain ⟨h1, h2⟩ := ih (by omega)
      rw [rings_take]
      unfold rgAt
      split
      · refine ⟨?_, fun r hr => ?_⟩
        · rw [List.nodup_append]
          refine ⟨h1, by simp, fun a ha b hb => ?_⟩
          simp at hb
          obtain ⟨x, hx, ex⟩ := h2 a ha
          intro e
          rw [e, hb] at ex
          have q1 := (trail_spec G (show j < n by omega)).2.2.2.1
          have q2 := (trail_spec G (show x < n by omega)).2.2.2.1
          rw [ex, q2] at q1
          omega
        · rcases List.mem_append.mp hr with hr | hr
          · obtain ⟨x, hx, ex⟩ := h2 r hr
            exact ⟨x, by omega, ex⟩
          · simp at hr
            exact ⟨j, by omega, hr⟩
      · rw [List.append_nil]
        exact ⟨h1, fun r hr => by obtain ⟨x, hx, ex⟩ := h2 r hr; exact ⟨x, by omega, ex⟩⟩
  unfold ringsOf
  rw [G.len]
  exact (key n (Nat.le_refl _)).1
end Lw

/-! Passes: what they change. -/
namespace Lw
section
variable {n : Nat} {s g : St} {r : List Nat}
theorem not_onR (h : Good n s) {x : Nat} : ¬ OnR s x := fun ⟨y, e, r⟩ => by
  obtain ⟨k, hk⟩ := h.rk
  have h1 := hk _ _ e
  have h2 := r.rank hk
  omega
theorem raise_cases (h : Good n s) {x y : Nat} (hx : x < n) (hy : y < n) (hn : y ≠ x) :
    (cutOf s x y = none ∧ ¬ Rch s y x) ∨ ∃ z, cutOf s x y = some z ∧ Rch s y z ∧ up s z = some x ∧ z < n ∧ z ≠ x := by
  cases e : cutOf s x y with
  | none => exact .inl ⟨rfl, fun r => cut_none h hy hn e ((mem_chn h).mpr r)⟩
  | some z =>
    obtain ⟨h1, h2, h3⟩ := cut_some h hy e
    exact .inr ⟨z, rfl, (mem_chn h).mp h1, h2, h3, cut_ne h hy e⟩
theorem raise_old (h : Good n s) {x y : Nat} (hx : x < n) (hy : y < n) (hn : y ≠ x) (e : up s x = some y) : raiseS s x y = s := by
  refine up_ext raiseS_len fun w => ?_
  rw [raise_up h hx hy]
  by_cases hw : w = x
  · rw [if_pos hw, hw, e]
  · rw [if_neg hw]
    rcases raise_cases h hx hy hn with ⟨h1, _⟩ | ⟨z, h1, h2, h3, _⟩
    · rw [h1, if_neg (fun q => nomatch q)]
    · exact absurd ⟨y, e, h2.trans (.step h3 (.refl _))⟩ (not_onR h)
/-- one raise along an edge of a graph of which the contexts are a part -/
theorem raise_sub (h : Good n s) (hs : Sub s g) {x y : Nat} (hx : x < n) (hy : y < n) (hn : y ≠ x) (e : up g x = some y) :
    Good n (raiseS s x y) ∧ Sub (raiseS s x y) g ∧ up (raiseS s x y) x = some y ∧
    ∀ w, w ≠ x → up (raiseS s x y) w = up s w ∨ (up (raiseS s x y) w = none ∧ up s w = some x ∧ up s x = none ∧ Rch s y w ∧ OnR g x ∧ OnR g w) := by
  have hu : ∀ w, w ≠ x → up (raiseS s x y) w = up s w ∨ (up (raiseS s x y) w = none ∧ up s w = some x ∧ up s x = none ∧ Rch s y w ∧ OnR g x ∧ OnR g w) := fun w hw => by
    rw [raise_up h hx hy, if_neg hw]
    rcases raise_cases h hx hy hn with ⟨h1, _⟩ | ⟨z, h1, h2, h3, _⟩
    · rw [h1, if_neg (fun q => nomatch q)]; exact .inl rfl
    · rw [h1]
      by_cases hz : z = w
      · subst hz
        rw [if_pos rfl]
        have o : OnR g x := ⟨y, e, (hs.rch h2).trans (.step (hs _ _ h3) (.refl _))⟩
        refine .inr ⟨rfl, h3, ?_, h2, o, (o.rch (.step e (hs.rch h2))).1⟩
        cases q : up s x with
        | none => rfl
        | some v =>
          have := hs _ _ q
          rw [e] at this
          cases this
          exact absurd ⟨y, q, h2.trans (.step h3 (.refl _))⟩ (not_onR h)
      · rw [if_neg (fun q => hz (by injection q))]; exact .inl rfl
  have hxx : up (raiseS s x y) x = some y := by rw [raise_up h hx hy, if_pos rfl]
  refine ⟨h.raise hx hy hn, fun w v q => ?_, hxx, hu⟩
  by_cases hw : w = x
  · subst hw
    rw [hxx] at q; cases q
    exact e
  · rcases hu w hw with q2 | ⟨q2, _⟩
    · rw [q2] at q; exact hs _ _ q
    · rw [q2] at q; cases q
theorem run_cons {m : Nat × Nat} {ms : List (Nat × Nat)} : runS s (m :: ms) = runS (raiseS s m.1 m.2) ms := rfl
theorem Moves.tail {m : Nat × Nat} {ms : List (Nat × Nat)} (h : Moves n (m :: ms)) : Moves n ms := fun x hx => h x (List.mem_cons_of_mem _ hx)
theorem Pass.tail {m : Nat × Nat} {ms : List (Nat × Nat)} (h : Pass n (m :: ms)) : Pass n ms ∧ m.1 ∉ ms.map (·.1) := by
  have := h.nd
  simp only [List.map_cons, List.nodup_cons] at this
  exact ⟨⟨h.mv.tail, this.2⟩, this.1⟩
/-- who is not raised keeps the context, or loses it -/
theorem run_out : ∀ {ms : List (Nat × Nat)} {s : St}, Good n s → Moves n ms → ∀ {x : Nat}, x ∉ ms.map (·.1) → up (runS s ms) x = up s x ∨ up (runS s ms) x = none
  | [], s, _, _, x, _ => .inl rfl
  | m :: ms, s, h, hm, x, hx => by
    simp only [List.map_cons, List.mem_cons, not_or] at hx
    obtain ⟨h1, h2, h3⟩ := hm m List.mem_cons_self
    rw [run_cons]
    rcases run_out (h.raise h1 h2 h3) hm.tail hx.2 with q | q
    · rw [q, raise_up h h1 h2, if_neg hx.1]
      split
      · exact .inr rfl
      · exact .inl rfl
    · exact .inr q
/-- who is raised has the partner, or nothing -/
theorem run_in : ∀ {ms : List (Nat × Nat)} {s : St}, Good n s → Pass n ms → ∀ {x y : Nat}, (x, y) ∈ ms → up (runS s ms) x = some y ∨ up (runS s ms) x = none
  | m :: ms, s, h, hm, x, y, hx => by
    obtain ⟨h1, h2, h3⟩ := hm.mv m List.mem_cons_self
    obtain ⟨ht, hk⟩ := hm.tail
    rw [run_cons]
    rcases List.mem_cons.mp hx with rfl | hx
    · rcases run_out (h.raise h1 h2 h3) ht.mv hk with q | q
      · rw [q, raise_up h h1 h2, if_pos rfl]; exact .inl rfl
      · exact .inr q
    · exact run_in (h.raise h1 h2 h3) ht hx
/-- the contexts are a part of the wish graph -/
def Near (s : St) (ms : List (Nat × Nat)) : Prop := Sub s (wish s ms)
theorem near_of {ms : List (Nat × Nat)} (hs : s.length = n) (hp : Pass n ms) (h : ∀ x y, (x, y) ∈ ms → up s x = some y ∨ up s x = none) : Near s ms := fun x y e => by
  by_cases hm : x ∈ ms.map (·.1)
  · obtain ⟨m, h1, rfl⟩ := List.mem_map.mp hm
    rw [wish_in hp hs (show (m.1, m.2) ∈ ms from h1)]
    rcases h m.1 m.2 h1 with q | q
    · rw [q] at e; exact e
    · rw [q] at e; cases e
  · rw [wish_out hm]; exact e
theorem near_run {ms : List (Nat × Nat)} (h : Good n s) (hp : Pass n ms) : Near (runS s ms) ms :=
  near_of (h.run hp.mv).len hp fun _ _ => run_in h hp
/-- along the edges of a graph -/
def Along (n : Nat) (g : St) (ms : List (Nat × Nat)) : Prop := Pass n ms ∧ ∀ m ∈ ms, up g m.1 = some m.2
theorem Along.tail {m : Nat × Nat} {ms : List (Nat × Nat)} (h : Along n g (m :: ms)) : Along n g ms := ⟨h.1.tail.1, fun x hx => h.2 x (List.mem_cons_of_mem _ hx)⟩
theorem along_wish {ms : List (Nat × Nat)} (hs : s.length = n) (hp : Pass n ms) : Along n (wish s ms) ms := ⟨hp, fun m hm => wish_in hp hs (show (m.1, m.2) ∈ ms from hm)⟩
theorem run_sub : ∀ {ms : List (Nat × Nat)} {s : St}, Good n s → Sub s g → Along n g ms → Good n (runS s ms) ∧ Sub (runS s ms) g
  | [], s, h, hs, _ => ⟨h, hs⟩
  | m :: ms, s, h, hs, ha => by
    obtain ⟨h1, h2, h3⟩ := ha.1.mv m List.mem_cons_self
    obtain ⟨q1, q2, _⟩ := raise_sub h hs h1 h2 h3 (ha.2 m List.mem_cons_self)
    rw [run_cons]
    exact run_sub q1 q2 ha.tail
theorem off_out : ∀ {ms : List (Nat × Nat)} {s : St}, Good n s → Sub s g → Along n g ms → ∀ {w : Nat}, ¬ OnR g w → w ∉ ms.map (·.1) → up (runS s ms) w = up s w
  | [], s, _, _, _, w, _, _ => rfl
  | m :: ms, s, h, hs, ha, w, ho, hw => by
    simp only [List.map_cons, List.mem_cons, not_or] at hw
    obtain ⟨h1, h2, h3⟩ := ha.1.mv m List.mem_cons_self
    obtain ⟨q1, q2, _, q4⟩ := raise_sub h hs h1 h2 h3 (ha.2 m List.mem_cons_self)
    rw [run_cons, off_out q1 q2 ha.tail ho hw.2]
    rcases q4 w hw.1 with q | q
    · exact q
    · exact absurd q.2.2.2.2.2 ho
theorem off_in : ∀ {ms : List (Nat × Nat)} {s : St}, Good n s → Sub s g → Along n g ms → ∀ {w : Nat}, ¬ OnR g w → w ∈ ms.map (·.1) → up (runS s ms) w = up g w
  | m :: ms, s, h, hs, ha, w, ho, hw => by
    obtain ⟨h1, h2, h3⟩ := ha.1.mv m List.mem_cons_self
    obtain ⟨q1, q2, q3, q4⟩ := raise_sub h hs h1 h2 h3 (ha.2 m List.mem_cons_self)
    rw [run_cons]
    by_cases hm : w ∈ ms.map (·.1)
    · exact off_in q1 q2 ha.tail ho hm
    · rw [off_out q1 q2 ha.tail ho hm]
      simp only [List.map_cons, List.mem_cons] at hw
      obtain rfl := hw.resolve_right hm
      rw [q3, ha.2 m List.mem_cons_self]
/-- one gap at most -/
def One (s : St) (r : List Nat) : Prop := ∀ a ∈ r, ∀ b ∈ r, up s a = none → up s b = none → a = b
/-- what has no context is still to be raised -/
def Bare (s : St) (r : List Nat) (ms : List (Nat × Nat)) : Prop := ∀ a ∈ r, up s a = none → a ∈ ms.map (·.1)
theorem all_edges (c : Cyc g r) (hs : Sub s g) {x y : Nat} (hx : x ∈ r) (e : up g x = some y) (hr : Rch s y x) : ∀ b ∈ r, b ≠ x → up s b ≠ none := by
  obtain ⟨i, hi, rfl⟩ := mem_at hx
  have key : ∀ k, 1 ≤ k → k ≤ r.length → Rch s (at' r ((i + k) % r.length)) (at' r i) ∧ (k < r.length → up s (at' r ((i + k) % r.length)) ≠ none) := by
    intro k
    have ne : ∀ j, 1 ≤ j → j < r.length → at' r ((i + j) % r.length) ≠ at' r i := fun j h1 h2 q => by
      have := at_inj c.nd (Nat.mod_lt _ c.pos) hi q
      by_cases h : i + j < r.length
      · rw [Nat.mod_eq_of_lt h] at this; omega
      · rw [Nat.mod_eq_sub_mod (by omega), Nat.mod_eq_of_lt (by omega)] at this; omega
    have some_ : ∀ j, 1 ≤ j → j < r.length → Rch s (at' r ((i + j) % r.length)) (at' r i) → ∃ v, up s (at' r ((i + j) % r.length)) = some v ∧ Rch s v (at' r i) := fun j h1 h2 q => by
      cases q' : up s (at' r ((i + j) % r.length)) with
      | none => exact absurd (q.end q') (ne j h1 h2)
      | some v => exact ⟨v, rfl, q.inv (ne j h1 h2) q'⟩
    induction k with
    | zero => intro h; omega
    | succ k ih =>
      intro _ h2
      have first : Rch s (at' r ((i + (k + 1)) % r.length)) (at' r i) := by
        by_cases hk : k = 0
        · subst hk
          have := c.nx i hi
          rw [e] at this
          rw [← Option.some.inj this]
          exact hr
        · obtain ⟨q1, _⟩ := ih (by omega) (by omega)
          obtain ⟨v, q2, q3⟩ := some_ k (by omega) (by omega) q1
          have q4 := c.nx ((i + k) % r.length) (Nat.mod_lt _ c.pos)
          rw [hs _ _ q2, Nat.mod_add_mod, Nat.add_assoc] at q4
          rw [← Option.some.inj q4]
          exact q3
      refine ⟨first, fun h3 q => ?_⟩
      obtain ⟨v, q2, _⟩ := some_ (k + 1) (by omega) h3 first
      rw [q2] at q; cases q
  intro b hb hne
  obtain ⟨j, hj, rfl⟩ := mem_at hb
  have hij : j ≠ i := fun q => hne (by rw [q])
  have := (key (if i < j then j - i else r.length - i + j) (by split <;> omega) (by split <;> omega)).2 (by split <;> omega)
  have e2 : (i + (if i < j then j - i else r.length - i + j)) % r.length = j := by
    split
    · rw [show i + (j - i) = j by omega, Nat.mod_eq_of_lt hj]
    · rw [show i + (r.length - i + j) = r.length + j by omega, Nat.add_mod_left, Nat.mod_eq_of_lt hj]
  rw [e2] at this
  exact this
theorem one_step (c : Cyc g r) (h : Good n s) (hs : Sub s g) {x y : Nat} {ms : List (Nat × Nat)} (hx : x < n) (hy : y < n) (hn : y ≠ x) (e : up g x = some y) (q : One s r ∨ Bare s r ((x, y) :: ms)) : One (raiseS s x y) r ∨ Bare (raiseS s x y) r ms := by
  obtain ⟨_, _, q3, q4⟩ := raise_sub h hs hx hy hn e
  have nex : ∀ a, up (raiseS s x y) a = none → a ≠ x := fun a ha z => by rw [z, q3] at ha; cases ha
  have eqs : ∀ a ∈ r, ∀ b ∈ r, up s a = some x → up s b = some x → a = b := fun a ha b hb e1 e2 => c.inj ha hb (hs _ _ e1) (hs _ _ e2)
  rcases q with q | q
  · refine .inl fun a ha b hb ga gb => ?_
    rcases q4 a (nex a ga) with u | ⟨_, u, u2, _⟩
    · rcases q4 b (nex b gb) with v | ⟨_, v, v2, _⟩
      · exact q a ha b hb (by rw [← u]; exact ga) (by rw [← v]; exact gb)
      · have hxr : x ∈ r := c.mem hb (.step (hs _ _ v) (.refl _))
        exact absurd (q a ha x hxr (by rw [← u]; exact ga) v2) (nex a ga)
    · rcases q4 b (nex b gb) with v | ⟨_, v, _⟩
      · have hxr : x ∈ r := c.mem ha (.step (hs _ _ u) (.refl _))
        exact absurd (q b hb x hxr (by rw [← v]; exact gb) u2) (nex b gb)
      · exact eqs a ha b hb u v
  · by_cases hc : ∃ a ∈ r, up s a = some x ∧ up s x = none ∧ Rch s y a
    · obtain ⟨a, ha, u1, u2, u3⟩ := hc
      have hxr : x ∈ r := c.mem ha (.step (hs _ _ u1) (.refl _))
      have al := all_edges c hs hxr e (u3.trans (.step u1 (.refl _)))
      refine .inl fun a ha b hb ga gb => ?_
      have cut : ∀ a ∈ r, up (raiseS s x y) a = none → up s a = some x := fun a ha ga => by
        rcases q4 a (nex a ga) with u | ⟨_, u, _⟩
        · exact absurd (by rw [← u]; exact ga) (al a ha (nex a ga))
        · exact u
      exact eqs a ha b hb (cut a ha ga) (cut b hb gb)
    · refine .inr fun a ha ga => ?_
      rcases q4 a (nex a ga) with u | ⟨_, u1, u2, u3, _⟩
      · have := q a ha (by rw [← u]; exact ga)
        simp only [List.map_cons, List.mem_cons] at this
        exact this.resolve_left (nex a ga)
      · exact absurd ⟨a, ha, u1, u2, u3⟩ hc
theorem one_run (c : Cyc g r) : ∀ {ms : List (Nat × Nat)} {s : St}, Good n s → Sub s g → Along n g ms → One s r ∨ Bare s r ms → One (runS s ms) r ∨ Bare (runS s ms) r []
  | [], s, _, _, _, q => q
  | m :: ms, s, h, hs, ha, q => by
    obtain ⟨h1, h2, h3⟩ := ha.1.mv m List.mem_cons_self
    have e := ha.2 m List.mem_cons_self
    obtain ⟨q1, q2, _⟩ := raise_sub h hs h1 h2 h3 e
    rw [run_cons]
    exact one_run c q1 q2 ha.tail (one_step c h hs h1 h2 h3 e q)
/-- a ring has a gap -/
theorem has_gap (c : Cyc g r) (h : Good n s) (hs : Sub s g) : ∃ a ∈ r, up s a = none := by
  refine Classical.byContradiction fun hn => ?_
  have all : ∀ a ∈ r, up s a = up g a := fun a ha => by
    cases e : up s a with
    | none => exact absurd ⟨a, ha, e⟩ hn
    | some y => exact (hs _ _ e).symm
  have c2 : Cyc s r := ⟨c.pos, c.nd, fun i hi => by rw [all _ (at_mem hi)]; exact c.nx i hi⟩
  exact not_onR h (c2.onR (at_mem c.pos))
theorem gaps_one (nd : r.Nodup) {a : Nat} (ha : a ∈ r) (ga : up s a = none) (h : One s r) : gaps s r = [a] := by
  have h1 : ∀ x ∈ gaps s r, x = a := fun x hx => by
    obtain ⟨q1, q2⟩ := List.mem_filter.mp hx
    exact h x q1 a ha (by simpa using q2) ga
  have h2 : a ∈ gaps s r := List.mem_filter.mpr ⟨ha, by simpa using ga⟩
  have h3 : (gaps s r).Nodup := nd.filter _
  generalize gaps s r = l at h1 h2 h3
  match l, h1, h2, h3 with
  | [b], h1, _, _ => rw [h1 b (by simp)]
  | b :: b' :: t, h1, _, h3 =>
    have e1 := h1 b (by simp)
    have e2 := h1 b' (by simp)
    subst e1 e2
    simp at h3
/-- a settled state -/
structure Settled (s : St) (ms : List (Nat × Nat)) : Prop where
  mv : ∀ x y, (x, y) ∈ ms → up s x = some y ∨ (up s x = none ∧ OnR (wish s ms) x)
  one : ∀ r ∈ ringsOf (wish s ms), (gaps s r).length = 1
theorem settled_iff {ms : List (Nat × Nat)} (G : Gr n s) (hp : Pass n ms) : settledB s ms = true ↔ Settled s ms := by
  have Gw := wish_gr hp G
  unfold settledB
  rw [Bool.and_eq_true, List.all_eq_true, List.all_eq_true]
  constructor
  · rintro ⟨h1, h2⟩
    refine ⟨fun x y hm => ?_, fun r hr => by simpa using h2 r hr⟩
    have := h1 (x, y) hm
    simp only [Bool.or_eq_true, Bool.and_eq_true, decide_eq_true_eq] at this
    rcases this with q | ⟨q1, q2⟩
    · exact .inl q
    · exact .inr ⟨q1, (onRings_iff Gw).mp q2⟩
  · intro h
    refine ⟨fun m hm => ?_, fun r hr => by simpa using h.one r hr⟩
    simp only [Bool.or_eq_true, Bool.and_eq_true, decide_eq_true_eq]
    rcases h.mv m.1 m.2 hm with q | ⟨q1, q2⟩
    · exact .inl q
    · exact .inr ⟨q1, (onRings_iff Gw).mpr q2⟩
theorem Settled.near {ms : List (Nat × Nat)} (h : Settled s ms) (hs : s.length = n) (hp : Pass n ms) : Near s ms :=
  near_of hs hp fun x y hm => (h.mv x y hm).imp id (·.1)
theorem Settled.gap {ms : List (Nat × Nat)} (h : Settled s ms) {r : List Nat} (hr : r ∈ ringsOf (wish s ms)) : ∃ a, gaps s r = [a] ∧ a ∈ r ∧ up s a = none ∧ One s r := by
  have := h.one r hr
  match e : gaps s r, this with
  | [a], _ =>
    have ha : a ∈ gaps s r := by rw [e]; simp
    obtain ⟨q1, q2⟩ := List.mem_filter.mp ha
    refine ⟨a, rfl, q1, by simpa using q2, fun b hb c hc gb gc => ?_⟩
    have h1 : b ∈ gaps s r := List.mem_filter.mpr ⟨hb, by simpa using gb⟩
    have h2 : c ∈ gaps s r := List.mem_filter.mpr ⟨hc, by simpa using gc⟩
    rw [e] at h1 h2
    simp at h1 h2
    rw [h1, h2]
/-- after a pass from a state that is near, the state is settled -/
theorem settled_run {ms : List (Nat × Nat)} (h : Good n s) (hp : Pass n ms) (hn : Near s ms) : Settled (runS s ms) ms := by
  have ha := along_wish h.len hp
  obtain ⟨ht, hts⟩ := run_sub h hn ha
  have Gw := wish_gr hp h.gr
  have Gt := wish_gr hp ht.gr
  -- the later graph is a part of the first
  have sub2 : Sub (wish (runS s ms) ms) (wish s ms) := fun x y e => by
    by_cases hm : x ∈ ms.map (·.1)
    · obtain ⟨m, h1, rfl⟩ := List.mem_map.mp hm
      rw [wish_in hp ht.len (show (m.1, m.2) ∈ ms from h1)] at e
      rw [wish_in hp h.len (show (m.1, m.2) ∈ ms from h1)]
      exact e
    · rw [wish_out hm] at e
      exact hts _ _ e
  have bare : ∀ r, Cyc (wish s ms) r → Bare s r ms := fun r c a har ga => by
    refine Classical.byContradiction fun hm => ?_
    obtain ⟨y, e, _⟩ := c.step har
    rw [wish_out hm, ga] at e
    cases e
  have one : ∀ r, Cyc (wish s ms) r → One (runS s ms) r := fun r c => by
    rcases one_run c h hn ha (.inr (bare r c)) with q | q
    · exact q
    · obtain ⟨a, h1, h2⟩ := has_gap c ht hts
      exact absurd (q a h1 h2) (by simp)
  refine ⟨fun x y hm => ?_, fun r hr => ?_⟩
  · rcases run_in h hp hm with q | q
    · exact .inl q
    · refine .inr ⟨q, Classical.byContradiction fun hno => ?_⟩
      have hk : x ∈ ms.map (·.1) := List.mem_map.mpr ⟨(x, y), hm, rfl⟩
      by_cases ho : OnR (wish s ms) x
      · obtain ⟨r, hr, hxr⟩ := ring_of Gw ho
        have c := ring_cyc Gw hr
        refine hno (Cyc.onR (r := r) ⟨c.pos, c.nd, fun i hi => ?_⟩ hxr)
        have hv := at_mem hi
        have e := c.nx i hi
        by_cases hvm : at' r i ∈ ms.map (·.1)
        · obtain ⟨m, h1, h2⟩ := List.mem_map.mp hvm
          rw [← h2] at e ⊢
          rw [wish_in hp h.len (show (m.1, m.2) ∈ ms from h1)] at e
          rw [wish_in hp ht.len (show (m.1, m.2) ∈ ms from h1)]
          exact e
        · rw [wish_out hvm] at e ⊢
          cases q2 : up (runS s ms) (at' r i) with
          | some z => rw [← e, ← wish_out (s := s) hvm, hts _ _ q2]
          | none =>
            have := one r c _ hv x hxr q2 q
            exact absurd (this ▸ hk) hvm
      · rw [off_in h hn ha ho hk, wish_in hp h.len hm] at q
        cases q
  · have c2 := ring_cyc Gt hr
    have c : Cyc (wish s ms) r := ⟨c2.pos, c2.nd, fun i hi => sub2 _ _ (c2.nx i hi)⟩
    obtain ⟨a, h1, h2⟩ := has_gap c ht hts
    rw [gaps_one c.nd h1 h2 (one r c)]; rfl
theorem Settled.run {ms : List (Nat × Nat)} (h : Settled s ms) (hg : Good n s) (hp : Pass n ms) : Settled (runS s ms) ms := settled_run hg hp (h.near hg.len hp)
/-- off the rings nothing changes -/
theorem Settled.off {ms : List (Nat × Nat)} (h : Settled s ms) (hg : Good n s) (hp : Pass n ms) {w : Nat} (ho : ¬ OnR (wish s ms) w) : up (runS s ms) w = up s w := by
  have ha := along_wish hg.len hp
  have hn := h.near hg.len hp
  by_cases hm : w ∈ ms.map (·.1)
  · rw [off_in hg hn ha ho hm]
    obtain ⟨m, h1, rfl⟩ := List.mem_map.mp hm
    rw [wish_in hp hg.len (show (m.1, m.2) ∈ ms from h1)]
    rcases h.mv m.1 m.2 h1 with q | ⟨_, q⟩
    · exact q.symm
    · exact absurd q ho
  · exact off_out hg hn ha ho hm
theorem Settled.lapses {ms : List (Nat × Nat)} (h : Settled s ms) : (lapsesL s ms).length = (ringsOf (wish s ms)).length := by
  unfold lapsesL
  rw [sortN_perm.length_eq]
  have key : ∀ R : List (List Nat), (∀ r ∈ R, (gaps s r).length = 1) → (R.flatMap (gaps s)).length = R.length := fun R => by
    induction R with
    | nil => intro _; rfl
    | cons r R ih =>
      intro q
      rw [List.flatMap_cons, List.length_append, q r List.mem_cons_self, ih fun t ht => q t (List.mem_cons_of_mem _ ht), List.length_cons]
      omega
  exact key _ h.one
end
end Lw

/-! How a lapse moves. -/
namespace Lw
/-- the index before i on a ring of k -/
def prv (k i : Nat) : Nat := (i + (k - 1)) % k
/-- d steps back -/
def bck (k i : Nat) : Nat → Nat
  | 0 => i
  | d + 1 => prv k (bck k i d)
theorem prv_lt {k i : Nat} (h : 0 < k) : prv k i < k := Nat.mod_lt _ h
theorem bck_lt {k i : Nat} (hi : i < k) : ∀ d, bck k i d < k
  | 0 => hi
  | d + 1 => prv_lt (by omega)
theorem prv_next {k i : Nat} (hi : i < k) : (prv k i + 1) % k = i := by
  unfold prv
  rw [Nat.mod_add_mod, show i + (k - 1) + 1 = i + k by omega, Nat.add_mod_right, Nat.mod_eq_of_lt hi]
theorem bck_add {k i d : Nat} : ∀ e, bck k (bck k i d) e = bck k i (d + e)
  | 0 => rfl
  | e + 1 => by
    show prv k (bck k (bck k i d) e) = prv k (bck k i (d + e))
    rw [bck_add e]
theorem bck_eq {k i : Nat} (hi : i < k) : ∀ d, d ≤ k → bck k i d = (i + (k - d)) % k
  | 0, _ => by show i = _; rw [Nat.sub_zero, Nat.add_mod_right, Nat.mod_eq_of_lt hi]
  | d + 1, h => by
    show prv k (bck k i d) = _
    rw [bck_eq hi d (by omega)]
    unfold prv
    rw [Nat.mod_add_mod, show i + (k - d) + (k - 1) = i + (k - (d + 1)) + k by omega, Nat.add_mod_right]
theorem bck_full {k i : Nat} (hi : i < k) : bck k i k = i := by
  rw [bck_eq hi k (Nat.le_refl _), Nat.sub_self, Nat.add_zero, Nat.mod_eq_of_lt hi]
/-- the lapse's index behind some raises -/
def lapS (r : List Nat) : Nat → List (Nat × Nat) → Nat
  | i, [] => i
  | i, m :: ms => lapS r (if at' r i = m.1 then prv r.length i else i) ms
theorem lapS_lt {r : List Nat} : ∀ {ms : List (Nat × Nat)} {i : Nat}, i < r.length → lapS r i ms < r.length
  | [], i, h => h
  | m :: ms, i, h => by
    unfold lapS
    refine lapS_lt ?_
    split
    · exact prv_lt (by omega)
    · exact h
section
variable {n : Nat} {s g : St} {r : List Nat}
/-- all edges of the ring, but one -/
def But (s g : St) (r : List Nat) (i : Nat) : Prop := ∀ w ∈ r, up s w = if w = at' r i then none else up g w
theorem but_step (c : Cyc g r) (h : Good n s) (hs : Sub s g) {x y : Nat} {i : Nat} (hi : i < r.length) (hx : x < n) (hy : y < n) (hn : y ≠ x) (e : up g x = some y) (q : But s g r i) :
    But (raiseS s x y) g r (if at' r i = x then prv r.length i else i) := by
  obtain ⟨_, _, q3, q4⟩ := raise_sub h hs hx hy hn e
  by_cases hxi : at' r i = x
  · rw [if_pos hxi]
    have hxr : x ∈ r := hxi ▸ at_mem hi
    have hp := prv_lt (i := i) c.pos
    have gp : up g (at' r (prv r.length i)) = some x := by
      rw [c.nx _ hp, prv_next hi, hxi]
    -- the way round
    have ne : ∀ j, 1 ≤ j → j < r.length → at' r ((i + j) % r.length) ≠ at' r i := fun j h1 h2 q => by
      have := at_inj c.nd (Nat.mod_lt _ c.pos) hi q
      by_cases h : i + j < r.length
      · rw [Nat.mod_eq_of_lt h] at this; omega
      · rw [Nat.mod_eq_sub_mod (by omega), Nat.mod_eq_of_lt (by omega)] at this; omega
    have y0 : y = at' r ((i + 1) % r.length) := by
      have := c.nx i hi
      rw [hxi, e] at this
      exact Option.some.inj this
    have way : ∀ j, j + 1 ≤ r.length → Rch s y (at' r ((i + (j + 1)) % r.length)) := by
      intro j
      induction j with
      | zero => intro _; rw [y0]; exact .refl _
      | succ j ih =>
        intro hj
        refine (ih (by omega)).trans (.step ?_ (.refl _))
        rw [q _ (at_mem (Nat.mod_lt _ c.pos)), if_neg (ne (j + 1) (by omega) (by omega)), c.nx _ (Nat.mod_lt _ c.pos), Nat.mod_add_mod, Nat.add_assoc]
    have hr : Rch s y x := by
      have := way (r.length - 1) (by have := c.pos; omega)
      rw [show r.length - 1 + 1 = r.length by have := c.pos; omega, Nat.add_mod_right, Nat.mod_eq_of_lt hi, hxi] at this
      exact this
    obtain ⟨z, z1, z2, z3, _⟩ := (raise_cases h hx hy hn).resolve_left (fun k => k.2 hr)
    have hyr : y ∈ r := by rw [y0]; exact at_mem (Nat.mod_lt _ c.pos)
    have hz : z = at' r (prv r.length i) := c.inj (c.mem hyr (hs.rch z2)) (at_mem hp) (hs _ _ z3) gp
    intro w hw
    by_cases hwx : w = x
    · rw [hwx, q3]
      have : x ≠ at' r (prv r.length i) := fun k => by
        rw [← k] at gp
        rw [e] at gp
        exact hn (Option.some.inj gp)
      rw [if_neg this, e]
    · rw [raise_up h hx hy, if_neg hwx, z1, hz]
      by_cases hwz : w = at' r (prv r.length i)
      · rw [if_pos (by rw [hwz]), if_pos hwz]
      · rw [if_neg (fun k => hwz (by injection k with k; exact k.symm)), if_neg hwz, q w hw, hxi, if_neg hwx]
  · rw [if_neg hxi]
    intro w hw
    by_cases hwx : w = x
    · subst hwx
      rw [q3, if_neg (fun k => hxi k.symm), e]
    · rcases q4 w hwx with u | ⟨u, u1, u2, _⟩
      · rw [u, q w hw]
      · have hxr : x ∈ r := c.mem hw (.step (hs _ _ u1) (.refl _))
        have := q x hxr
        rw [u2, if_neg (fun k => hxi k.symm), e] at this
        cases this
theorem but_run (c : Cyc g r) : ∀ {ms : List (Nat × Nat)} {s : St} {i : Nat}, i < r.length → Good n s → Sub s g → Along n g ms → But s g r i → But (runS s ms) g r (lapS r i ms)
  | [], s, i, _, _, _, _, q => q
  | m :: ms, s, i, hi, h, hs, ha, q => by
    obtain ⟨h1, h2, h3⟩ := ha.1.mv m List.mem_cons_self
    have e := ha.2 m List.mem_cons_self
    obtain ⟨q1, q2, _⟩ := raise_sub h hs h1 h2 h3 e
    rw [run_cons]
    unfold lapS
    refine but_run c ?_ q1 q2 ha.tail (but_step c h hs hi h1 h2 h3 e q)
    split
    · exact prv_lt (by omega)
    · exact hi
theorem lapS_out : ∀ {ms : List (Nat × Nat)} {i : Nat}, at' r i ∉ ms.map (·.1) → lapS r i ms = i
  | [], i, _ => rfl
  | m :: ms, i, h => by
    simp only [List.map_cons, List.mem_cons, not_or] at h
    unfold lapS
    rw [if_neg h.1]
    exact lapS_out h.2
theorem lapS_app : ∀ {a b : List (Nat × Nat)} {i : Nat}, lapS r i (a ++ b) = lapS r (lapS r i a) b
  | [], b, i => rfl
  | m :: a, b, i => by
    show lapS r _ (a ++ b) = _
    rw [lapS_app]; rfl
/-- the turn of who is raised -/
def pos (ms : List (Nat × Nat)) (x : Nat) : Nat := (ms.map (·.1)).idxOf x
theorem pos_lt {ms : List (Nat × Nat)} {x : Nat} (h : x ∈ ms.map (·.1)) : pos ms x < ms.length := by
  have := List.idxOf_lt_length_of_mem h
  rwa [List.length_map] at this
theorem pos_get {ms : List (Nat × Nat)} {x : Nat} (h : x ∈ ms.map (·.1)) : (ms.map (·.1))[pos ms x]? = some x := by
  have := List.idxOf_lt_length_of_mem h
  unfold pos
  rw [List.getElem?_eq_getElem this, List.getElem_idxOf]
theorem mem_drop {ms : List (Nat × Nat)} (nd : (ms.map (·.1)).Nodup) {x j : Nat} : x ∈ (ms.drop j).map (·.1) ↔ x ∈ ms.map (·.1) ∧ j ≤ pos ms x := by
  rw [List.map_drop]
  constructor
  · intro h
    have hm := List.mem_of_mem_drop h
    refine ⟨hm, ?_⟩
    obtain ⟨i, hi⟩ := List.mem_iff_getElem?.mp h
    rw [List.getElem?_drop] at hi
    have h1 := pos_get hm
    have hl := (List.getElem?_eq_some_iff.mp hi).1
    have := (List.getElem?_inj hl nd).mp (hi.trans h1.symm)
    omega
  · rintro ⟨hm, hj⟩
    refine List.mem_iff_getElem?.mpr ⟨pos ms x - j, ?_⟩
    rw [List.getElem?_drop, show j + (pos ms x - j) = pos ms x by omega]
    exact pos_get hm
/-- where a lapse stops: not raised, or raised before the partner -/
def Stop (ms : List (Nat × Nat)) (w p : Nat) : Prop := w ∉ ms.map (·.1) ∨ pos ms w < pos ms p
/-- in one pass a lapse goes back to the first stop -/
theorem lap_stop {ms : List (Nat × Nat)} (nd : (ms.map (·.1)).Nodup) (rn : r.Nodup) (hr2 : 2 ≤ r.length) : ∀ (f j i : Nat), ms.length - j ≤ f → i < r.length → at' r i ∈ (ms.drop j).map (·.1) →
    ∃ d, 1 ≤ d ∧ lapS r i (ms.drop j) = bck r.length i d ∧ (∀ e, 1 ≤ e → e < d → ¬ Stop ms (at' r (bck r.length i e)) (at' r (bck r.length i (e - 1)))) ∧ Stop ms (at' r (bck r.length i d)) (at' r (bck r.length i (d - 1)))
  | 0, j, i, hf, hi, hm => by
    obtain ⟨h1, h2⟩ := (mem_drop nd).mp hm
    have := pos_lt h1
    omega
  | f + 1, j, i, hf, hi, hm => by
    obtain ⟨h1, h2⟩ := (mem_drop nd).mp hm
    have hp := pos_lt h1
    -- the raises before its turn, its turn, those behind it
    have e0 : ms.drop j = (ms.drop j).take (pos ms (at' r i) - j) ++ (ms.drop j).drop (pos ms (at' r i) - j) := (List.take_append_drop _ _).symm
    have e1 : (ms.drop j).drop (pos ms (at' r i) - j) = ms.drop (pos ms (at' r i)) := by
      rw [List.drop_drop, show j + (pos ms (at' r i) - j) = pos ms (at' r i) by omega]
    have e2 : ms.drop (pos ms (at' r i)) = ms[pos ms (at' r i)] :: ms.drop (pos ms (at' r i) + 1) := List.drop_eq_getElem_cons hp
    have e3 : (ms[pos ms (at' r i)]).1 = at' r i := by
      have := pos_get h1
      rw [List.getElem?_map, List.getElem?_eq_getElem hp] at this
      exact Option.some.inj this
    have nt : at' r i ∉ ((ms.drop j).take (pos ms (at' r i) - j)).map (·.1) := fun h => by
      obtain ⟨m, m1, m2⟩ := List.mem_map.mp h
      obtain ⟨t, ht⟩ := List.mem_iff_getElem?.mp m1
      rw [List.getElem?_take] at ht
      split at ht
      · rename_i hlt
        rw [List.getElem?_drop] at ht
        have q : (ms.map (·.1))[j + t]? = some (at' r i) := by rw [List.getElem?_map, ht]; simp [m2]
        have hl := (List.getElem?_eq_some_iff.mp q).1
        have := (List.getElem?_inj hl nd).mp (q.trans (pos_get h1).symm)
        omega
      · cases ht
    have step : lapS r i (ms.drop j) = lapS r (prv r.length i) (ms.drop (pos ms (at' r i) + 1)) := by
      rw [e0, lapS_app, lapS_out nt, e1, e2]
      show lapS r (if at' r i = (ms[pos ms (at' r i)]).1 then _ else _) _ = _
      rw [if_pos e3.symm]
    have hpl := prv_lt (i := i) (show 0 < r.length by omega)
    by_cases hst : Stop ms (at' r (prv r.length i)) (at' r i)
    · refine ⟨1, Nat.le_refl _, ?_, fun e h1 h2 => absurd h2 (by omega), hst⟩
      rw [step, lapS_out]
      · rfl
      · intro h
        obtain ⟨k1, k2⟩ := (mem_drop nd).mp h
        rcases hst with q | q
        · exact q k1
        · omega
    · have hin : at' r (prv r.length i) ∈ (ms.drop (pos ms (at' r i) + 1)).map (·.1) := by
        unfold Stop at hst
        rw [not_or] at hst
        have k1 : at' r (prv r.length i) ∈ ms.map (·.1) := Classical.byContradiction hst.1
        refine (mem_drop nd).mpr ⟨k1, ?_⟩
        have : pos ms (at' r (prv r.length i)) ≠ pos ms (at' r i) := fun q => by
          have q1 := pos_get k1
          rw [q, pos_get h1] at q1
          have := at_inj rn hi hpl (Option.some.inj q1)
          have := prv_next hi
          rename_i w
          rw [← w] at this
          by_cases hlt : i + 1 < r.length
          · rw [Nat.mod_eq_of_lt hlt] at this; omega
          · rw [show i + 1 = r.length by omega, Nat.mod_self] at this; omega
        omega
      obtain ⟨d, d1, d2, d3, d4⟩ := lap_stop nd rn hr2 f (pos ms (at' r i) + 1) (prv r.length i) (by omega) hpl hin
      have sh : ∀ e, bck r.length (prv r.length i) e = bck r.length i (e + 1) := fun e => by
        have := bck_add (k := r.length) (i := i) (d := 1) e
        rw [show 1 + e = e + 1 by omega] at this
        exact this
      refine ⟨d + 1, by omega, by rw [step, d2, sh], fun e h1 h2 => ?_, ?_⟩
      · by_cases he : e = 1
        · subst he; exact hst
        · have := d3 (e - 1) (by omega) (by omega)
          rw [sh, sh, show e - 1 + 1 = e by omega, show e - 1 - 1 + 1 = e - 1 by omega] at this
          exact this
      · rw [sh, sh, show d - 1 + 1 = d by omega] at d4
        exact d4
end
end Lw

/-! Many passes. -/
namespace Lw
/-- the state after k passes -/
def iterP (ms : List (Nat × Nat)) : Nat → St → St
  | 0, s => s
  | k + 1, s => runS (iterP ms k s) ms
theorem iterP_add {ms : List (Nat × Nat)} {s : St} {a : Nat} : ∀ b, iterP ms (a + b) s = iterP ms b (iterP ms a s)
  | 0 => rfl
  | b + 1 => by
    show runS (iterP ms (a + b) s) ms = runS (iterP ms b (iterP ms a s)) ms
    rw [iterP_add b]
section
variable {n : Nat} {s g : St} {r : List Nat} {ms : List (Nat × Nat)}
theorem Good.iter (h : Good n s) (hp : Pass n ms) : ∀ k, Good n (iterP ms k s)
  | 0 => h
  | k + 1 => (h.iter hp k).run hp.mv
theorem Settled.iter (h : Settled s ms) (hg : Good n s) (hp : Pass n ms) : ∀ k, Settled (iterP ms k s) ms
  | 0 => h
  | k + 1 => (h.iter hg hp k).run (hg.iter hp k) hp
theorem near_iter (hg : Good n s) (hp : Pass n ms) (k : Nat) : Near (iterP ms (k + 1) s) ms := near_run (hg.iter hp k) hp
theorem settled_iter (hg : Good n s) (hp : Pass n ms) (k : Nat) : Settled (iterP ms (k + 2) s) ms := settled_run (hg.iter hp (k + 1)) hp (near_iter hg hp k)
/-- later graphs are parts of the earlier ones -/
theorem wish_sub (hg : Good n s) (hp : Pass n ms) (hn : Near s ms) : Sub (wish (runS s ms) ms) (wish s ms) := fun x y e => by
  by_cases hm : x ∈ ms.map (·.1)
  · obtain ⟨m, h1, rfl⟩ := List.mem_map.mp hm
    rw [wish_in hp (hg.run hp.mv).len (show (m.1, m.2) ∈ ms from h1)] at e
    rw [wish_in hp hg.len (show (m.1, m.2) ∈ ms from h1)]
    exact e
  · rw [wish_out hm] at e
    exact (run_sub hg hn (along_wish hg.len hp)).2 _ _ e
theorem wish_subs (h : Settled s ms) (hg : Good n s) (hp : Pass n ms) : ∀ k, Sub (wish (iterP ms k s) ms) (wish s ms)
  | 0 => fun _ _ e => e
  | k + 1 => fun x y e => wish_subs h hg hp k x y (wish_sub (hg.iter hp k) hp ((h.iter hg hp k).near (hg.iter hp k).len hp) x y e)
theorem Sub.onR {a b : St} (h : Sub a b) {x : Nat} (o : OnR a x) : OnR b x := by
  obtain ⟨y, e, q⟩ := o
  exact ⟨y, h _ _ e, h.rch q⟩
/-- off the rings of a settled state nothing ever changes -/
theorem off_iter (h : Settled s ms) (hg : Good n s) (hp : Pass n ms) {w : Nat} (ho : ¬ OnR (wish s ms) w) : ∀ k, up (iterP ms k s) w = up s w
  | 0 => rfl
  | k + 1 => by
    show up (runS (iterP ms k s) ms) w = _
    rw [(h.iter hg hp k).off (hg.iter hp k) hp (fun o => ho ((wish_subs h hg hp k).onR o)), off_iter h hg hp ho k]
/-- a ring in a pass: where its edges lead, of those that are raised -/
def Fits (g : St) (r : List Nat) (ms : List (Nat × Nat)) : Prop := Cyc g r ∧ 2 ≤ r.length ∧ ∀ x y, (x, y) ∈ ms → x ∈ r → up g x = some y
theorem But.congr {a b : St} {i : Nat} (q : But s a r i) (h : ∀ w ∈ r, up a w = up b w) : But s b r i := fun w hw => by rw [q w hw, h w hw]
/-- one pass moves the lapse to the next stop -/
theorem pass_but (hg : Good n s) (hp : Pass n ms) (hn : Near s ms) (hf : Fits g r ms) {i : Nat} (hi : i < r.length) (q : But s g r i) (hm : at' r i ∈ ms.map (·.1)) :
    ∃ d, 1 ≤ d ∧ But (runS s ms) g r (bck r.length i d) ∧ (∀ e, 1 ≤ e → e < d → ¬ Stop ms (at' r (bck r.length i e)) (at' r (bck r.length i (e - 1)))) ∧ Stop ms (at' r (bck r.length i d)) (at' r (bck r.length i (d - 1))) := by
  obtain ⟨c, h2, hr⟩ := hf
  have eq : ∀ w ∈ r, up (wish s ms) w = up g w := fun w hw => by
    by_cases hk : w ∈ ms.map (·.1)
    · obtain ⟨m, m1, rfl⟩ := List.mem_map.mp hk
      rw [wish_in hp hg.len (show (m.1, m.2) ∈ ms from m1), hr m.1 m.2 m1 hw]
    · rw [wish_out hk, q w hw, if_neg (fun z : w = at' r i => hk (by rw [z]; exact hm))]
  have c' : Cyc (wish s ms) r := ⟨c.pos, c.nd, fun j hj => by rw [eq _ (at_mem hj)]; exact c.nx j hj⟩
  have b := but_run c' hi hg hn (along_wish hg.len hp) (q.congr fun w hw => (eq w hw).symm)
  obtain ⟨d, d1, d2, d3, d4⟩ := lap_stop (r := r) hp.nd c.nd h2 ms.length 0 i (by omega) hi (by rw [List.drop_zero]; exact hm)
  rw [List.drop_zero] at d2
  rw [d2] at b
  exact ⟨d, d1, b.congr eq, d3, d4⟩
theorem settled_fits (h : Settled s ms) (hg : Good n s) (hp : Pass n ms) (hr : r ∈ ringsOf (wish s ms)) : Fits (wish s ms) r ms ∧ ∃ i, i < r.length ∧ gaps s r = [at' r i] ∧ But s (wish s ms) r i ∧ at' r i ∈ ms.map (·.1) := by
  have G := wish_gr hp hg.gr
  have c := ring_cyc G hr
  obtain ⟨a, a1, a2, a3, a4⟩ := h.gap hr
  obtain ⟨i, hi, rfl⟩ := mem_at a2
  have hn := h.near hg.len hp
  have hm : at' r i ∈ ms.map (·.1) := Classical.byContradiction fun k => by
    obtain ⟨y, e, _⟩ := c.step a2
    rw [wish_out k, a3] at e
    cases e
  refine ⟨⟨c, ?_, fun x y m _ => wish_in hp hg.len m⟩, i, hi, a1, fun w hw => ?_, hm⟩
  · -- a ring of one would be an exception that is its own partner
    refine Classical.byContradiction fun k => ?_
    have hl : r.length = 1 := by have := c.pos; omega
    have e := c.nx i hi
    have h0 : i = 0 := by omega
    subst h0
    rw [hl] at e
    obtain ⟨m, m1, m2⟩ := List.mem_map.mp hm
    rw [← m2, wish_in hp hg.len (show (m.1, m.2) ∈ ms from m1)] at e
    have := hp.mv m m1
    have e2 := Option.some.inj e
    exact this.2.2 e2
  · by_cases hw0 : w = at' r i
    · rw [if_pos hw0, hw0, a3]
    · rw [if_neg hw0]
      cases e : up s w with
      | none => exact absurd (a4 w hw _ a2 e a3) hw0
      | some y => exact (hn _ _ e).symm
/-! ### the stops of a ring, from a lapse back -/
/-- the d-th member back -/
def mem' (r : List Nat) (i d : Nat) : Nat := at' r (bck r.length i d)
def StopD (ms : List (Nat × Nat)) (r : List Nat) (i d : Nat) : Prop := Stop ms (mem' r i d) (mem' r i (d - 1))
theorem mem_per {i d : Nat} (hi : i < r.length) : mem' r i (r.length + d) = mem' r i d := by
  unfold mem'
  rw [← bck_add, bck_full hi]
theorem mem_add {i d e : Nat} : mem' r (bck r.length i d) e = mem' r i (d + e) := by
  unfold mem'
  rw [bck_add]
theorem stop_per {i d : Nat} (hi : i < r.length) (hd : 1 ≤ d) : StopD ms r i (r.length + d) ↔ StopD ms r i d := by
  unfold StopD
  rw [mem_per hi, show r.length + d - 1 = r.length + (d - 1) by omega, mem_per hi]
theorem stop_add {i d e : Nat} (he : 1 ≤ e) : StopD ms r (bck r.length i d) e ↔ StopD ms r i (d + e) := by
  unfold StopD
  rw [mem_add, mem_add, show d + (e - 1) = d + e - 1 by omega]
theorem mem_back (c : Cyc g r) {i d : Nat} (hi : i < r.length) (hd : 1 ≤ d) : up g (mem' r i d) = some (mem' r i (d - 1)) := by
  unfold mem'
  rw [c.nx _ (bck_lt hi d)]
  obtain ⟨e, rfl⟩ : ∃ e, d = e + 1 := ⟨d - 1, by omega⟩
  show some (at' r ((prv r.length (bck r.length i e) + 1) % r.length)) = _
  rw [prv_next (bck_lt hi e)]; rfl
theorem spots_pos (hp : Pass n ms) {x : Nat} (h : x ∈ ms.map (·.1)) : up (spots n ms) x = some (pos ms x) := by
  refine (spots_iff hp).mpr ?_
  have := pos_get h
  rw [List.getElem?_map] at this
  obtain ⟨m, h1, h2⟩ := Option.map_eq_some_iff.mp this
  exact ⟨m.2, by rw [h1, ← h2]⟩
theorem mates_none (hp : Pass n ms) {x : Nat} : up (mates n ms) x = none ↔ x ∉ ms.map (·.1) := by
  constructor
  · intro h hm
    obtain ⟨m, m1, rfl⟩ := List.mem_map.mp hm
    rw [(mates_iff hp).mpr (show (m.1, m.2) ∈ ms from m1)] at h
    cases h
  · intro h
    cases e : up (mates n ms) x with
    | none => rfl
    | some y => exact absurd (List.mem_map.mpr ⟨(x, y), (mates_iff hp).mp e, rfl⟩) h
/-- a raised member behind a raised one: it is a stop just where it is early -/
theorem soon_stop (hp : Pass n ms) (hf : Fits g r ms) {i d : Nat} (hi : i < r.length) (hd : 1 ≤ d) (h1 : mem' r i d ∈ ms.map (·.1)) (h2 : mem' r i (d - 1) ∈ ms.map (·.1)) : mem' r i d ∈ soon n ms ↔ StopD ms r i d := by
  have e := mem_back hf.1 hi hd
  obtain ⟨m, m1, m2⟩ := List.mem_map.mp h1
  have hm : (mem' r i d, m.2) ∈ ms := by rw [← m2]; exact m1
  have e2 := hf.2.2 _ _ hm (at_mem (bck_lt hi d))
  rw [e] at e2
  have e3 := Option.some.inj e2
  unfold StopD Stop
  constructor
  · intro hs
    obtain ⟨y, a, b, q1, q2, q3, q4⟩ := (soonB_iff hp).mp (List.mem_filter.mp hs).2
    have ey : y = m.2 := by
      have := (mates_iff hp).mpr q1
      rw [(mates_iff hp).mpr hm] at this
      exact (Option.some.inj this).symm
    rw [spots_pos hp h1] at q2
    rw [ey, ← e3, spots_pos hp h2] at q3
    cases q2; cases q3
    exact .inr q4
  · rintro (q | q)
    · exact absurd h1 q
    · refine List.mem_filter.mpr ⟨?_, (soonB_iff hp).mpr ⟨m.2, _, _, hm, spots_pos hp h1, by rw [← e3]; exact spots_pos hp h2, q⟩⟩
      have := (hp.mv _ hm).1
      simpa using this
/-- the kind and the places, as the members are walked -/
def plc (n : Nat) (ms : List (Nat × Nat)) : List Nat → List Nat → Bool × List Nat
  | acc, [] => (true, acc)
  | acc, w :: ws => if up (mates n ms) w = none then (false, acc ++ [w]) else if w ∈ soon n ms then plc n ms (acc ++ [w]) ws else plc n ms acc ws
/-- the members against the edges, from the one before the lapse to the lapse itself -/
def wayB (r : List Nat) (i : Nat) : List Nat := (List.range r.length).map fun d => mem' r i (d + 1)
def placesR (n : Nat) (ms : List (Nat × Nat)) (r : List Nat) (i : Nat) : Bool × List Nat := plc n ms [] (wayB r i)
instance {ms : List (Nat × Nat)} {w p : Nat} : Decidable (Stop ms w p) := by unfold Stop; infer_instance
instance {ms : List (Nat × Nat)} {r : List Nat} {i d : Nat} : Decidable (StopD ms r i d) := by unfold StopD; infer_instance
/-- the stops among a + 1, .., a + k -/
def dl (ms : List (Nat × Nat)) (r : List Nat) (i a k : Nat) : List Nat := ((List.range k).map fun t => a + 1 + t).filter fun d => decide (StopD ms r i d)
theorem dl_mem {i a k d : Nat} : d ∈ dl ms r i a k ↔ a < d ∧ d ≤ a + k ∧ StopD ms r i d := by
  unfold dl
  rw [List.mem_filter, List.mem_map]
  constructor
  · rintro ⟨⟨t, h1, rfl⟩, h2⟩
    have : t < k := by simpa using h1
    exact ⟨by omega, by omega, by simpa using h2⟩
  · rintro ⟨h1, h2, h3⟩
    exact ⟨⟨d - (a + 1), by simp; omega, by omega⟩, by simpa using h3⟩
theorem dl_sorted {i a k : Nat} : (dl ms r i a k).Pairwise (· < ·) := by
  unfold dl
  refine List.Pairwise.filter _ ?_
  rw [List.pairwise_map]
  exact List.pairwise_lt_range.imp fun h => by omega
theorem dl_succ {i a k : Nat} : dl ms r i a (k + 1) = (if StopD ms r i (a + 1) then [a + 1] else []) ++ dl ms r i (a + 1) k := by
  unfold dl
  rw [List.range_succ_eq_map, List.map_cons, List.map_map, List.filter_cons]
  have e : ((fun t => a + 1 + t) ∘ Nat.succ) = fun t => a + 1 + 1 + t := by
    funext t
    show a + 1 + (t + 1) = a + 1 + 1 + t
    omega
  rw [e, Nat.add_zero]
  by_cases h : StopD ms r i (a + 1)
  · rw [if_pos h, if_pos (by simpa using h)]; rfl
  · rw [if_neg h, if_neg (by simpa using h)]; rfl
theorem plc_spec (hp : Pass n ms) (hf : Fits g r ms) {i : Nat} (hi : i < r.length) : ∀ (k a : Nat) (acc : List Nat), (∀ e, e ≤ a → mem' r i e ∈ ms.map (·.1)) →
    ((∀ e, e ≤ a + k → mem' r i e ∈ ms.map (·.1)) ∧ plc n ms acc ((List.range k).map fun t => mem' r i (a + 1 + t)) = (true, acc ++ (dl ms r i a k).map (mem' r i))) ∨
    ∃ f, a < f ∧ f ≤ a + k ∧ (∀ e, e < f → mem' r i e ∈ ms.map (·.1)) ∧ mem' r i f ∉ ms.map (·.1) ∧ plc n ms acc ((List.range k).map fun t => mem' r i (a + 1 + t)) = (false, acc ++ (dl ms r i a (f - a)).map (mem' r i))
  | 0, a, acc, h => .inl ⟨h, by simp [plc, dl]⟩
  | k + 1, a, acc, h => by
    have e0 : (List.range (k + 1)).map (fun t => mem' r i (a + 1 + t)) = mem' r i (a + 1) :: (List.range k).map fun t => mem' r i (a + 1 + 1 + t) := by
      rw [List.range_succ_eq_map, List.map_cons, List.map_map, Nat.add_zero]
      congr 1
      refine List.map_congr_left fun t _ => ?_
      show mem' r i (a + 1 + (t + 1)) = _
      rw [show a + 1 + (t + 1) = a + 1 + 1 + t by omega]
    rw [e0]
    unfold plc
    by_cases hm : mem' r i (a + 1) ∈ ms.map (·.1)
    · rw [if_neg (fun z => (mates_none hp).mp z hm)]
      have hs := soon_stop hp hf hi (d := a + 1) (by omega) hm (h a (Nat.le_refl _))
      have h' : ∀ e, e ≤ a + 1 → mem' r i e ∈ ms.map (·.1) := fun e he => by
        by_cases q : e = a + 1
        · rw [q]; exact hm
        · exact h e (by omega)
      have fin : ∀ acc', (∀ k', acc' ++ (dl ms r i (a + 1) k').map (mem' r i) = acc ++ (dl ms r i a (k' + 1)).map (mem' r i)) →
          ((∀ e, e ≤ a + (k + 1) → mem' r i e ∈ ms.map (·.1)) ∧ plc n ms acc' ((List.range k).map fun t => mem' r i (a + 1 + 1 + t)) = (true, acc ++ (dl ms r i a (k + 1)).map (mem' r i))) ∨
          ∃ f, a < f ∧ f ≤ a + (k + 1) ∧ (∀ e, e < f → mem' r i e ∈ ms.map (·.1)) ∧ mem' r i f ∉ ms.map (·.1) ∧ plc n ms acc' ((List.range k).map fun t => mem' r i (a + 1 + 1 + t)) = (false, acc ++ (dl ms r i a (f - a)).map (mem' r i)) := fun acc' ha => by
        rcases plc_spec hp hf hi k (a + 1) acc' h' with ⟨q1, q2⟩ | ⟨f, f1, f2, f3, f4, f5⟩
        · exact .inl ⟨fun e he => q1 e (by omega), by rw [q2, ha]⟩
        · refine .inr ⟨f, by omega, by omega, f3, f4, ?_⟩
          rw [f5, ha, show f - (a + 1) + 1 = f - a by omega]
      by_cases hst : mem' r i (a + 1) ∈ soon n ms
      · rw [if_pos hst]
        refine fin _ fun k' => ?_
        rw [dl_succ, if_pos (hs.mp hst)]
        simp
      · rw [if_neg hst]
        refine fin _ fun k' => ?_
        rw [dl_succ, if_neg (fun z => hst (hs.mpr z))]
        simp
    · rw [if_pos ((mates_none hp).mpr hm)]
      refine .inr ⟨a + 1, by omega, by omega, fun e he => h e (by omega), hm, ?_⟩
      rw [show a + 1 - a = 0 + 1 by omega, dl_succ, if_pos (show StopD ms r i (a + 1) from .inl hm)]
      simp [dl]
/-- some stop comes within the round -/
theorem stop_in {i : Nat} (hi : i < r.length) : ∀ d, 1 ≤ d → StopD ms r i d → ∃ e, 1 ≤ e ∧ e ≤ r.length ∧ StopD ms r i e := by
  intro d
  induction d using Nat.strongRecOn with
  | _ d ih =>
    intro h1 h2
    by_cases h : d ≤ r.length
    · exact ⟨d, h1, h, h2⟩
    · refine ih (d - r.length) (by omega) (by omega) ((stop_per hi (by omega)).mp ?_)
      rwa [show r.length + (d - r.length) = d by omega]
theorem sorted_at {L : List Nat} (h : L.Pairwise (· < ·)) {p q : Nat} (hp : p < L.length) (hq : q < L.length) : p < q ↔ at' L p < at' L q := by
  have key : ∀ {a b}, a < b → b < L.length → at' L a < at' L b := fun {a b} hab hb => by
    have := List.pairwise_iff_getElem.mp h a b (by omega) hb hab
    have h1 := at_get (l := L) (i := a) (by omega)
    have h2 := at_get hb
    rw [List.getElem?_eq_getElem (by omega)] at h1 h2
    rw [← Option.some.inj h1, ← Option.some.inj h2]
    exact this
  constructor
  · exact fun hpq => key hpq hq
  · intro hlt
    refine Classical.byContradiction fun hn => ?_
    by_cases he : p = q
    · subst he; omega
    · have := key (a := q) (b := p) (by omega) hp
      omega
end
end Lw

/-! Lapses after many passes. -/
namespace Lw
section
variable {n : Nat} {s g : St} {r : List Nat} {ms : List (Nat × Nat)}
/-- the least stop beyond d is the next of the list -/
theorem next_in {i k d e q : Nat} {L : List Nat} (hL : L = dl ms r i 0 k) (hq : q < L.length) (hd : d = at' L q) (he : 1 ≤ e) (hle : d + e ≤ k) (h1 : ∀ e', 1 ≤ e' → e' < e → ¬ StopD ms r i (d + e')) (h2 : StopD ms r i (d + e)) : q + 1 < L.length ∧ d + e = at' L (q + 1) := by
  have hs : L.Pairwise (· < ·) := by rw [hL]; exact dl_sorted
  have hm : d + e ∈ L := by rw [hL]; exact dl_mem.mpr ⟨by omega, by omega, h2⟩
  obtain ⟨p, hp, ep⟩ := mem_at hm
  have hpq : q < p := (sorted_at hs hq hp).mpr (by omega)
  have hq1 : q + 1 < L.length := by omega
  refine ⟨hq1, ?_⟩
  by_cases h : p = q + 1
  · rw [← h, ep]
  · exfalso
    have a := (sorted_at hs hq1 hp).mp (by omega)
    have b := (sorted_at hs hq hq1).mp (by omega)
    have c : at' L (q + 1) ∈ L := at_mem hq1
    rw [hL] at c
    have := (dl_mem.mp c).2.2
    rw [← hL] at this
    refine h1 (at' L (q + 1) - d) (by omega) (by omega) ?_
    rwa [show d + (at' L (q + 1) - d) = at' L (q + 1) by omega]
theorem first_in {i k d : Nat} {L : List Nat} (hL : L = dl ms r i 0 k) (hn : 0 < L.length) (hd : 1 ≤ d) (h1 : ∀ e, 1 ≤ e → e < d → ¬ StopD ms r i e) (h2 : StopD ms r i d) : d = at' L 0 := by
  have hs : L.Pairwise (· < ·) := by rw [hL]; exact dl_sorted
  have c : at' L 0 ∈ L := at_mem hn
  rw [hL] at c
  obtain ⟨c1, c2, c3⟩ := dl_mem.mp c
  rw [← hL] at c1 c2 c3
  have hle : d ≤ at' L 0 := Nat.le_of_not_lt fun h => h1 _ (by omega) h c3
  have hm : d ∈ L := by rw [hL]; exact dl_mem.mpr ⟨by omega, by omega, h2⟩
  obtain ⟨p, hp, ep⟩ := mem_at hm
  by_cases h0 : p = 0
  · rw [← ep, h0]
  · have := (sorted_at hs hn hp).mp (by omega)
    omega
theorem pass_stop (hg : Good n s) (hp : Pass n ms) (hn : Near s ms) (hf : Fits g r ms) {i d : Nat} (hi : i < r.length) (q : But s g r (bck r.length i d)) (hm : mem' r i d ∈ ms.map (·.1)) :
    ∃ e, 1 ≤ e ∧ But (runS s ms) g r (bck r.length i (d + e)) ∧ (∀ e', 1 ≤ e' → e' < e → ¬ StopD ms r i (d + e')) ∧ StopD ms r i (d + e) := by
  obtain ⟨e, e1, e2, e3, e4⟩ := pass_but hg hp hn hf (bck_lt hi d) q hm
  refine ⟨e, e1, by rw [← bck_add]; exact e2, fun e' h1 h2 k => e3 e' h1 h2 ?_, ?_⟩
  · exact (stop_add h1).mpr k
  · exact (stop_add e1).mp e4
/-- a lasting ring -/
theorem lasting_iter (h : Settled s ms) (hg : Good n s) (hp : Pass n ms) (hf : Fits g r ms) {i : Nat} (hi : i < r.length) (q : But s g r i) (hall : ∀ e, e ≤ r.length → mem' r i e ∈ ms.map (·.1)) {L : List Nat} (hL : L = dl ms r i 0 r.length) :
    0 < L.length ∧ ∀ m, But (iterP ms (m + 1) s) g r (bck r.length i (at' L (m % L.length))) := by
  obtain ⟨d, d1, d2, d3, d4⟩ := pass_stop (d := 0) hg hp (h.near hg.len hp) hf hi q (hall 0 (Nat.zero_le _))
  rw [Nat.zero_add] at d2 d4
  have hpos : 0 < L.length := by
    obtain ⟨e, e1, e2, e3⟩ := stop_in hi d d1 d4
    have : e ∈ L := by rw [hL]; exact dl_mem.mpr ⟨by omega, by omega, e3⟩
    exact List.length_pos_of_mem this
  have memL : ∀ p, p < L.length → 0 < at' L p ∧ at' L p ≤ r.length ∧ StopD ms r i (at' L p) := fun p hp => by
    have := at_mem hp
    rw [hL] at this
    obtain ⟨a, b, c⟩ := dl_mem.mp this
    rw [← hL] at a b c
    exact ⟨a, by omega, c⟩
  have hd0 := first_in hL hpos d1 (fun e h1 h2 k => d3 e h1 h2 (by rwa [Nat.zero_add])) d4
  refine ⟨hpos, fun m => ?_⟩
  induction m with
  | zero => rw [Nat.zero_mod, ← hd0]; exact d2
  | succ m ih =>
    have hq := Nat.mod_lt m hpos
    obtain ⟨k1, k2, k3⟩ := memL _ hq
    have hgm := hg.iter hp (m + 1)
    have hsm := h.iter hg hp (m + 1)
    obtain ⟨e, e1, e2, e3, e4⟩ := pass_stop hgm hp (hsm.near hgm.len hp) hf hi ih (hall _ k2)
    have em : (m + 1) % L.length = (m % L.length + 1) % L.length := by rw [Nat.mod_add_mod]
    by_cases hle : at' L (m % L.length) + e ≤ r.length
    · obtain ⟨q1, q2⟩ := next_in hL hq rfl e1 hle e3 e4
      rw [em, Nat.mod_eq_of_lt q1, ← q2]
      exact e2
    · have hlast : m % L.length + 1 = L.length := by
        refine Classical.byContradiction fun hne => ?_
        have hq1 : m % L.length + 1 < L.length := by omega
        obtain ⟨j1, j2, j3⟩ := memL _ hq1
        have hs : L.Pairwise (· < ·) := by rw [hL]; exact dl_sorted
        have := (sorted_at hs hq hq1).mp (by omega)
        refine e3 (at' L (m % L.length + 1) - at' L (m % L.length)) (by omega) (by omega) ?_
        rwa [show at' L (m % L.length) + (at' L (m % L.length + 1) - at' L (m % L.length)) = at' L (m % L.length + 1) by omega]
      obtain ⟨j1, j2, j3⟩ := memL 0 hpos
      have hle2 : at' L (m % L.length) + e ≤ r.length + at' L 0 := Nat.le_of_not_lt fun hlt => by
        refine e3 (r.length + at' L 0 - at' L (m % L.length)) (by omega) (by omega) ?_
        rw [show at' L (m % L.length) + (r.length + at' L 0 - at' L (m % L.length)) = r.length + at' L 0 by omega]
        exact (stop_per hi (by omega)).mpr j3
      have e4' : StopD ms r i (at' L (m % L.length) + e - r.length) := (stop_per hi (by omega)).mp (by rwa [show r.length + (at' L (m % L.length) + e - r.length) = at' L (m % L.length) + e by omega])
      have hs : L.Pairwise (· < ·) := by rw [hL]; exact dl_sorted
      have hmm : at' L (m % L.length) + e - r.length ∈ L := by
        have k := (dl_mem (ms := ms) (r := r) (i := i) (a := 0) (k := r.length) (d := at' L (m % L.length) + e - r.length)).mpr ⟨by omega, by omega, e4'⟩
        rw [← hL] at k
        exact k
      obtain ⟨p, hpp, ep⟩ := mem_at hmm
      have e0 : at' L (m % L.length) + e = r.length + at' L 0 := by
        by_cases h0 : p = 0
        · rw [h0] at ep; omega
        · have := (sorted_at hs hpos hpp).mp (by omega)
          omega
      rw [em, hlast, Nat.mod_self]
      rw [e0, ← bck_add, bck_full hi] at e2
      exact e2
/-- the lapse at a member that is not raised stays -/
theorem but_stay (h : Settled s ms) (hg : Good n s) (hp : Pass n ms) (hf : Fits g r ms) {j : Nat} (hj : j < r.length) (q : But s g r j) (hm : at' r j ∉ ms.map (·.1)) : But (runS s ms) g r j := by
  obtain ⟨c, h2, hr⟩ := hf
  have eq : ∀ w ∈ r, w ≠ at' r j → up (wish s ms) w = up g w := fun w hw hne => by
    by_cases hk : w ∈ ms.map (·.1)
    · obtain ⟨m, m1, rfl⟩ := List.mem_map.mp hk
      rw [wish_in hp hg.len (show (m.1, m.2) ∈ ms from m1), hr m.1 m.2 m1 hw]
    · rw [wish_out hk, q w hw, if_neg hne]
  have gap : up s (at' r j) = none := by rw [q _ (at_mem hj), if_pos rfl]
  have dead : up (wish s ms) (at' r j) = none := by rw [wish_out hm, gap]
  have way : ∀ d, Rch (wish s ms) (at' r (bck r.length j d)) (at' r j) := by
    intro d
    induction d with
    | zero => exact .refl _
    | succ d ih =>
      by_cases e : at' r (bck r.length j (d + 1)) = at' r j
      · rw [e]; exact .refl _
      · refine .step ?_ ih
        rw [eq _ (at_mem (bck_lt hj _)) e]
        exact mem_back c hj (d := d + 1) (by omega)
  intro w hw
  by_cases e : w = at' r j
  · rw [if_pos e, e]
    rcases run_out hg hp.mv hm with k | k
    · rw [k, gap]
    · exact k
  · rw [if_neg e]
    have no : ¬ OnR (wish s ms) w := fun o => by
      obtain ⟨p, hpl, rfl⟩ := mem_at hw
      have : at' r p = at' r (bck r.length j (if p ≤ j then j - p else r.length - (p - j))) := by
        have hb := bck_eq (k := r.length) hj (if p ≤ j then j - p else r.length - (p - j)) (by split <;> omega)
        rw [hb]
        congr 1
        split
        · rw [show j + (r.length - (j - p)) = p + r.length by omega, Nat.add_mod_right, Nat.mod_eq_of_lt hpl]
        · rw [show j + (r.length - (r.length - (p - j))) = p by omega, Nat.mod_eq_of_lt hpl]
      rw [this] at o
      obtain ⟨o2, _⟩ := o.rch (way _)
      obtain ⟨y, ey, _⟩ := o2
      rw [dead] at ey
      cases ey
    rw [h.off hg hp no, q w hw, if_neg e]
/-- a fading ring -/
theorem fading_iter (h : Settled s ms) (hg : Good n s) (hp : Pass n ms) (hf : Fits g r ms) {i : Nat} (hi : i < r.length) (q : But s g r i) {f : Nat} (f1 : 0 < f) (f2 : f ≤ r.length) (hall : ∀ e, e < f → mem' r i e ∈ ms.map (·.1)) (hfl : mem' r i f ∉ ms.map (·.1)) {L : List Nat} (hL : L = dl ms r i 0 f) :
    0 < L.length ∧ at' L (L.length - 1) = f ∧ ∀ m, But (iterP ms (m + 1) s) g r (bck r.length i (at' L (min m (L.length - 1)))) := by
  have hstop : StopD ms r i f := .inl hfl
  have hfm : f ∈ L := by rw [hL]; exact dl_mem.mpr ⟨f1, by omega, hstop⟩
  have hpos : 0 < L.length := List.length_pos_of_mem hfm
  have hs : L.Pairwise (· < ·) := by rw [hL]; exact dl_sorted
  have memL : ∀ p, p < L.length → 0 < at' L p ∧ at' L p ≤ f ∧ StopD ms r i (at' L p) := fun p hp => by
    have := at_mem hp
    rw [hL] at this
    obtain ⟨a, b, c⟩ := dl_mem.mp this
    rw [← hL] at a b c
    exact ⟨a, by omega, c⟩
  have hlast : at' L (L.length - 1) = f := by
    obtain ⟨p, hpp, ep⟩ := mem_at hfm
    obtain ⟨_, b, _⟩ := memL (L.length - 1) (by omega)
    by_cases e : p = L.length - 1
    · rw [← e, ep]
    · have := (sorted_at hs hpp (show L.length - 1 < L.length by omega)).mp (by omega)
      omega
  obtain ⟨d, d1, d2, d3, d4⟩ := pass_stop (d := 0) hg hp (h.near hg.len hp) hf hi q (hall 0 f1)
  rw [Nat.zero_add] at d2 d4
  have hd0 := first_in hL hpos d1 (fun e h1 h2 k => d3 e h1 h2 (by rwa [Nat.zero_add])) d4
  refine ⟨hpos, hlast, fun m => ?_⟩
  induction m with
  | zero => rw [Nat.zero_min, ← hd0]; exact d2
  | succ m ih =>
    have hgm := hg.iter hp (m + 1)
    have hsm := h.iter hg hp (m + 1)
    by_cases hlt : m < L.length - 1
    · rw [Nat.min_eq_left (by omega)] at ih
      rw [Nat.min_eq_left (show m + 1 ≤ L.length - 1 by omega)]
      obtain ⟨k1, k2, k3⟩ := memL m (by omega)
      have hlt2 := (sorted_at hs (show m < L.length by omega) (show m + 1 < L.length by omega)).mp (by omega)
      obtain ⟨j1, j2, j3⟩ := memL (m + 1) (by omega)
      obtain ⟨e, e1, e2, e3, e4⟩ := pass_stop hgm hp (hsm.near hgm.len hp) hf hi ih (hall _ (by omega))
      have hle : at' L m + e ≤ at' L (m + 1) := Nat.le_of_not_lt fun hlt3 => by
        refine e3 (at' L (m + 1) - at' L m) (by omega) (by omega) ?_
        rwa [show at' L m + (at' L (m + 1) - at' L m) = at' L (m + 1) by omega]
      obtain ⟨_, q2⟩ := next_in hL (show m < L.length by omega) rfl e1 (by omega) e3 e4
      rw [← q2]
      exact e2
    · rw [Nat.min_eq_right (by omega)] at ih ⊢
      rw [hlast] at ih ⊢
      exact but_stay hsm hgm hp hf (bck_lt hi f) ih hfl
/-- where the lapse is after k passes, one at least -/
def placeN (kind : Bool) (P : List Nat) (k : Nat) : Nat := if kind then at' P ((k - 1) % P.length) else at' P (min k P.length - 1)
theorem at_map {L : List Nat} {f : Nat → Nat} {p : Nat} (h : p < L.length) : at' (L.map f) p = f (at' L p) := by
  have h1 := at_get (l := L.map f) (i := p) (by rw [List.length_map]; exact h)
  rw [List.getElem?_map, at_get h] at h1
  exact (Option.some.inj h1).symm
theorem lapse_after (h : Settled s ms) (hg : Good n s) (hp : Pass n ms) (hf : Fits g r ms) {i : Nat} (hi : i < r.length) (q : But s g r i) (hm : at' r i ∈ ms.map (·.1)) :
    (placesR n ms r i).2 ≠ [] ∧ (placesR n ms r i).2.length ≤ r.length ∧ (∀ w ∈ (placesR n ms r i).2, w ∈ r) ∧ ∀ k, 1 ≤ k → ∃ j, j < r.length ∧ at' r j = placeN (placesR n ms r i).1 (placesR n ms r i).2 k ∧ But (iterP ms k s) g r j := by
  have h0 : ∀ e, e ≤ 0 → mem' r i e ∈ ms.map (·.1) := fun e he => by
    obtain rfl : e = 0 := by omega
    exact hm
  have ew : wayB r i = (List.range r.length).map fun t => mem' r i (0 + 1 + t) := by
    unfold wayB
    refine List.map_congr_left fun t _ => ?_
    rw [show 0 + 1 + t = t + 1 by omega]
  have dlen : ∀ k, (dl ms r i 0 k).length ≤ k := fun k => by
    unfold dl
    have := List.length_filter_le (fun d => decide (StopD ms r i d)) ((List.range k).map fun t => 0 + 1 + t)
    simpa using this
  unfold placesR
  rw [ew]
  rcases plc_spec hp hf hi r.length 0 [] h0 with ⟨h1, h2⟩ | ⟨f, f1, f2, f3, f4, f5⟩
  · rw [h2]
    rw [Nat.zero_add] at h1
    obtain ⟨l1, l2⟩ := lasting_iter h hg hp hf hi q h1 rfl
    refine ⟨by simp; intro z; rw [z] at l1; simp at l1, by simpa using dlen r.length, fun w hw => ?_, fun k hk => ?_⟩
    · simp at hw
      obtain ⟨d, _, rfl⟩ := hw
      exact at_mem (bck_lt hi d)
    · have := l2 (k - 1)
      rw [show k - 1 + 1 = k by omega] at this
      refine ⟨_, bck_lt hi _, ?_, this⟩
      unfold placeN
      rw [if_pos rfl]
      simp only [List.nil_append, List.length_map]
      rw [at_map (Nat.mod_lt _ l1)]; rfl
  · rw [f5, Nat.sub_zero]
    obtain ⟨l1, l3, l2⟩ := fading_iter h hg hp hf hi q f1 (by omega) f3 f4 (L := dl ms r i 0 f) rfl
    refine ⟨by simp; intro z; rw [z] at l1; simp at l1, by have := dlen f; simp; omega, fun w hw => ?_, fun k hk => ?_⟩
    · simp at hw
      obtain ⟨d, _, rfl⟩ := hw
      exact at_mem (bck_lt hi d)
    · have := l2 (k - 1)
      rw [show k - 1 + 1 = k by omega] at this
      refine ⟨_, bck_lt hi _, ?_, this⟩
      unfold placeN
      rw [if_neg (by simp)]
      simp only [List.nil_append, List.length_map]
      rw [at_map (by omega), show min k (dl ms r i 0 f).length - 1 = min (k - 1) ((dl ms r i 0 f).length - 1) by omega]; rfl
end
end Lw

/-! Late states come back. -/
namespace Lw
section
variable {n : Nat} {s g : St} {r : List Nat} {ms : List (Nat × Nat)}
theorem nodup_map_on {f : Nat → Nat} : ∀ {l : List Nat}, (∀ a ∈ l, ∀ b ∈ l, f a = f b → a = b) → l.Nodup → (l.map f).Nodup
  | [], _, _ => List.Pairwise.nil
  | a :: l, h, nd => by
    rw [List.nodup_cons] at nd
    rw [List.map_cons, List.nodup_cons]
    refine ⟨fun hm => ?_, nodup_map_on (fun x hx y hy => h x (List.mem_cons_of_mem _ hx) y (List.mem_cons_of_mem _ hy)) nd.2⟩
    obtain ⟨b, hb, e⟩ := List.mem_map.mp hm
    have := h b (List.mem_cons_of_mem _ hb) a List.mem_cons_self e
    exact nd.1 (this ▸ hb)
theorem nodup_flat : ∀ {R : List (List Nat)}, (∀ r ∈ R, r.Nodup) → (∀ a ∈ R, ∀ b ∈ R, ∀ x, x ∈ a → x ∈ b → a = b) → R.Nodup → R.flatten.Nodup
  | [], _, _, _ => List.Pairwise.nil
  | r :: R, h1, h2, nd => by
    rw [List.nodup_cons] at nd
    rw [List.flatten_cons, List.nodup_append]
    refine ⟨h1 r List.mem_cons_self, nodup_flat (fun t ht => h1 t (List.mem_cons_of_mem _ ht)) (fun a ha b hb => h2 a (List.mem_cons_of_mem _ ha) b (List.mem_cons_of_mem _ hb)) nd.2, fun x hx y hy e => ?_⟩
    subst e
    obtain ⟨t, ht, hxt⟩ := List.mem_flatten.mp hy
    have := h2 r List.mem_cons_self t (List.mem_cons_of_mem _ ht) x hx hxt
    exact nd.1 (this ▸ ht)
theorem but_uniq (c : Cyc g r) {i j : Nat} (hi : i < r.length) (hj : j < r.length) (a : But s g r i) (b : But s g r j) : i = j := by
  have h1 := a _ (at_mem hi)
  rw [if_pos rfl, b _ (at_mem hi)] at h1
  split at h1
  · rename_i e
    exact at_inj c.nd hi hj e
  · rw [c.nx i hi] at h1; cases h1
/-- a ring's history: it lasts, with q places that come round; or it fades within its length -/
theorem ring_history (h : Settled s ms) (hg : Good n s) (hp : Pass n ms) (hr : r ∈ ringsOf (wish s ms)) :
    ((∀ w ∈ r, w ∈ ms.map (·.1)) ∧ ∃ L : List Nat, L.Nodup ∧ 0 < L.length ∧ (∀ j ∈ L, j < r.length) ∧ (∀ w ∈ r, w ∈ soon n ms ↔ ∃ j ∈ L, at' r j = w) ∧ ∀ k, But (iterP ms (k + 1) s) (wish s ms) r (at' L (k % L.length))) ∨
    ∃ f, f < r.length ∧ at' r f ∉ ms.map (·.1) ∧ ∀ k, r.length - 1 ≤ k → But (iterP ms k s) (wish s ms) r f := by
  obtain ⟨hf, i, hi, e1, hb, hm⟩ := settled_fits h hg hp hr
  have c := hf.1
  have h0 : ∀ e, e ≤ 0 → mem' r i e ∈ ms.map (·.1) := fun e he => by
    obtain rfl : e = 0 := by omega
    exact hm
  rcases plc_spec hp hf hi r.length 0 [] h0 with ⟨h1, _⟩ | ⟨f, f1, f2, f3, f4, _⟩
  · rw [Nat.zero_add] at h1
    obtain ⟨l1, l2⟩ := lasting_iter h hg hp hf hi hb h1 rfl
    have all : ∀ w ∈ r, ∃ d, 1 ≤ d ∧ d ≤ r.length ∧ mem' r i d = w := fun w hw => by
      obtain ⟨p, hpl, rfl⟩ := mem_at hw
      refine ⟨if p < i then i - p else r.length - (p - i), by split <;> omega, by split <;> omega, ?_⟩
      unfold mem'
      rw [bck_eq hi _ (by split <;> omega)]
      congr 1
      split
      · rw [show i + (r.length - (i - p)) = p + r.length by omega, Nat.add_mod_right, Nat.mod_eq_of_lt hpl]
      · by_cases hpi : p = i
        · rw [hpi, Nat.sub_self, Nat.sub_zero, Nat.sub_self, Nat.add_zero, Nat.mod_eq_of_lt hi]
        · rw [show i + (r.length - (r.length - (p - i))) = p by omega, Nat.mod_eq_of_lt hpl]
    have inj : ∀ d e, 1 ≤ d → d ≤ r.length → 1 ≤ e → e ≤ r.length → bck r.length i d = bck r.length i e → d = e := fun d e d1 d2 e1 e2 q => by
      rw [bck_eq hi d d2, bck_eq hi e e2] at q
      by_cases a : i + (r.length - d) < r.length
      · rw [Nat.mod_eq_of_lt a] at q
        by_cases b : i + (r.length - e) < r.length
        · rw [Nat.mod_eq_of_lt b] at q; omega
        · rw [Nat.mod_eq_sub_mod (by omega), Nat.mod_eq_of_lt (by omega)] at q; omega
      · rw [Nat.mod_eq_sub_mod (by omega), Nat.mod_eq_of_lt (by omega)] at q
        by_cases b : i + (r.length - e) < r.length
        · rw [Nat.mod_eq_of_lt b] at q; omega
        · rw [Nat.mod_eq_sub_mod (by omega), Nat.mod_eq_of_lt (by omega)] at q; omega
    refine .inl ⟨fun w hw => ?_, (dl ms r i 0 r.length).map (bck r.length i), ?_, by rw [List.length_map]; exact l1, fun j hj => ?_, fun w hw => ?_, fun k => ?_⟩
    · obtain ⟨d, d1, d2, rfl⟩ := all w hw
      exact h1 d d2
    · refine nodup_map_on ?_ (dl_sorted.imp fun hlt => Nat.ne_of_lt hlt)
      intro d hd e he q
      obtain ⟨a1, a2, _⟩ := dl_mem.mp hd
      obtain ⟨b1, b2, _⟩ := dl_mem.mp he
      exact inj d e (by omega) (by omega) (by omega) (by omega) q
    · obtain ⟨d, _, rfl⟩ := List.mem_map.mp hj
      exact bck_lt hi d
    · constructor
      · intro hs
        obtain ⟨d, d1, d2, rfl⟩ := all w hw
        exact ⟨_, List.mem_map.mpr ⟨d, dl_mem.mpr ⟨by omega, by omega, (soon_stop hp hf hi d1 (h1 d d2) (h1 (d - 1) (by omega))).mp hs⟩, rfl⟩, rfl⟩
      · rintro ⟨j, hj, rfl⟩
        obtain ⟨d, hd, rfl⟩ := List.mem_map.mp hj
        obtain ⟨a1, a2, a3⟩ := dl_mem.mp hd
        exact (soon_stop hp hf hi (by omega) (h1 d (by omega)) (h1 (d - 1) (by omega))).mpr a3
    · have := l2 k
      rw [List.length_map, at_map (Nat.mod_lt _ l1)]
      exact this
  · rw [Nat.zero_add] at f2
    obtain ⟨l1, l3, l2⟩ := fading_iter h hg hp hf hi hb f1 f2 f3 f4 (L := dl ms r i 0 f) rfl
    have hfl : f < r.length := by
      refine Nat.lt_of_le_of_ne f2 fun e => ?_
      rw [e] at f4
      unfold mem' at f4
      rw [bck_full hi] at f4
      exact f4 hm
    have hlen : (dl ms r i 0 f).length ≤ f := by
      unfold dl
      have := List.length_filter_le (fun d => decide (StopD ms r i d)) ((List.range f).map fun t => 0 + 1 + t)
      simpa using this
    refine .inr ⟨bck r.length i f, bck_lt hi f, f4, fun k hk => ?_⟩
    have := l2 (k - 1)
    rw [show k - 1 + 1 = k by omega, Nat.min_eq_right (by omega), l3] at this
    exact this
/-- how often a ring's lapse moves till it is back: 1 where the ring fades -/
def ringQ (n : Nat) (ms : List (Nat × Nat)) (r : List Nat) : Nat := if (∀ w ∈ r, w ∈ ms.map (·.1)) then (r.filter fun w => decide (w ∈ soon n ms)).length else 1
theorem ring_per (h : Settled s ms) (hg : Good n s) (hp : Pass n ms) (hr : r ∈ ringsOf (wish s ms)) :
    0 < ringQ n ms r ∧ ringQ n ms r ≤ r.length ∧ ∃ f : Nat → Nat, (∀ k, r.length - 1 ≤ k → f k < r.length ∧ But (iterP ms k s) (wish s ms) r (f k)) ∧ (∀ k m, r.length - 1 ≤ k → f (k + m * ringQ n ms r) = f k) ∧
      ∀ k m, r.length - 1 ≤ k → f (k + m) = f k → m % ringQ n ms r = 0 := by
  have h2 := (settled_fits h hg hp hr).1.2.1
  have nd := (ring_cyc (wish_gr hp hg.gr) hr).nd
  rcases ring_history h hg hp hr with ⟨h1, L, l1, l2, l3, l4, l5⟩ | ⟨f, f1, f2, f3⟩
  · have e : ringQ n ms r = L.length := by
      unfold ringQ
      rw [if_pos h1]
      have : (r.filter fun w => decide (w ∈ soon n ms)).Perm (L.map (at' r)) := by
        refine (List.perm_ext_iff_of_nodup (nd.filter _) ?_).mpr fun w => ?_
        · exact nodup_map_on (fun a ha b hb q => at_inj nd (l3 a ha) (l3 b hb) q) l1
        · rw [List.mem_filter, List.mem_map]
          constructor
          · rintro ⟨q1, q2⟩
            exact (l4 w q1).mp (by simpa using q2)
          · rintro ⟨j, q1, rfl⟩
            exact ⟨at_mem (l3 j q1), by simpa using (l4 _ (at_mem (l3 j q1))).mpr ⟨j, q1, rfl⟩⟩
      rw [this.length_eq, List.length_map]
    have hlen : L.length ≤ r.length := nodup_le l1 l3
    rw [e]
    refine ⟨l2, hlen, fun k => at' L ((k - 1) % L.length), fun k hk => ⟨l3 _ (at_mem (Nat.mod_lt _ l2)), ?_⟩, fun k m hk => ?_, fun k m hk q => ?_⟩
    · have := l5 (k - 1)
      rw [show k - 1 + 1 = k by omega] at this
      exact this
    · show at' L ((k + m * L.length - 1) % L.length) = _
      rw [show k + m * L.length - 1 = (k - 1) + m * L.length by omega, Nat.add_mul_mod_self_right]
    · have q : at' L ((k + m - 1) % L.length) = at' L ((k - 1) % L.length) := q
      have := at_inj l1 (Nat.mod_lt _ l2) (Nat.mod_lt _ l2) q
      rw [show k + m - 1 = (k - 1) + m by omega] at this
      have h3 := Nat.mod_add_div (k - 1) L.length
      have h4 := Nat.mod_add_div (k - 1 + m) L.length
      rw [this] at h4
      refine Nat.mod_eq_zero_of_dvd ⟨(k - 1 + m) / L.length - (k - 1) / L.length, ?_⟩
      rw [Nat.mul_sub]
      omega
  · have e : ringQ n ms r = 1 := by
      unfold ringQ
      rw [if_neg fun z => f2 (z _ (at_mem f1))]
    rw [e]
    exact ⟨by omega, by omega, fun _ => f, fun k hk => ⟨f1, f3 k hk⟩, fun _ _ _ => rfl, fun _ _ _ _ => Nat.mod_one _⟩
/-- states of a ring are the same just where its lapse is -/
theorem same_iff_rings (h : Settled s ms) (hg : Good n s) (hp : Pass n ms) {k m : Nat} (hk : n - 1 ≤ k) : iterP ms (k + m) s = iterP ms k s ↔ ∀ r ∈ ringsOf (wish s ms), m % ringQ n ms r = 0 := by
  have G := wish_gr hp hg.gr
  constructor
  · intro e r hr
    have hl := ring_len G hr
    obtain ⟨_, _, f, f1, _, f3⟩ := ring_per h hg hp hr
    obtain ⟨a1, a2⟩ := f1 k (by omega)
    obtain ⟨b1, b2⟩ := f1 (k + m) (by omega)
    rw [e] at b2
    exact f3 k m (by omega) (but_uniq (ring_cyc G hr) b1 a1 b2 a2)
  · intro hq
    refine up_ext (by rw [(hg.iter hp (k + m)).len, (hg.iter hp k).len]) fun x => ?_
    by_cases ho : OnR (wish s ms) x
    · obtain ⟨r, hr, hx⟩ := ring_of G ho
      have hl := ring_len G hr
      obtain ⟨q1, _, f, f1, f2, _⟩ := ring_per h hg hp hr
      obtain ⟨a1, a2⟩ := f1 k (by omega)
      obtain ⟨b1, b2⟩ := f1 (k + m) (by omega)
      have hm := hq r hr
      have em : m = (m / ringQ n ms r) * ringQ n ms r := by
        have := Nat.mod_add_div m (ringQ n ms r)
        rw [hm, Nat.zero_add, Nat.mul_comm] at this
        exact this.symm
      have := f2 k (m / ringQ n ms r) (by omega)
      rw [← em] at this
      rw [a2 x hx, b2 x hx, this]
    · rw [off_iter h hg hp ho, off_iter h hg hp ho]
/-- the period of a settled state, by its rings -/
def perR (n : Nat) (ms : List (Nat × Nat)) (R : List (List Nat)) : Nat := R.foldl (fun a r => Nat.lcm a (ringQ n ms r)) 1
theorem perR_aux {R : List (List Nat)} : ∀ a : Nat, 0 < a → (∀ r ∈ R, 0 < ringQ n ms r) → 0 < R.foldl (fun a r => Nat.lcm a (ringQ n ms r)) a ∧ ∀ m, (R.foldl (fun a r => Nat.lcm a (ringQ n ms r)) a ∣ m ↔ a ∣ m ∧ ∀ r ∈ R, ringQ n ms r ∣ m) := by
  induction R with
  | nil => intro a ha _; exact ⟨ha, fun m => by simp⟩
  | cons r R ih =>
    intro a ha hR
    have h1 := hR r List.mem_cons_self
    obtain ⟨q1, q2⟩ := ih (Nat.lcm a (ringQ n ms r)) (Nat.lcm_pos ha h1) fun t ht => hR t (List.mem_cons_of_mem _ ht)
    refine ⟨q1, fun m => ?_⟩
    rw [List.foldl_cons, q2 m]
    constructor
    · rintro ⟨k1, k2⟩
      refine ⟨Nat.dvd_trans (Nat.dvd_lcm_left _ _) k1, fun t ht => ?_⟩
      rcases List.mem_cons.mp ht with rfl | ht
      · exact Nat.dvd_trans (Nat.dvd_lcm_right _ _) k1
      · exact k2 t ht
    · rintro ⟨k1, k2⟩
      exact ⟨Nat.lcm_dvd k1 (k2 r List.mem_cons_self), fun t ht => k2 t (List.mem_cons_of_mem _ ht)⟩
theorem perR_pos {R : List (List Nat)} (h : ∀ r ∈ R, 0 < ringQ n ms r) : 0 < perR n ms R := (perR_aux 1 (by omega) h).1
theorem perR_dvd {R : List (List Nat)} (h : ∀ r ∈ R, 0 < ringQ n ms r) {m : Nat} : perR n ms R ∣ m ↔ ∀ r ∈ R, ringQ n ms r ∣ m := by
  have := (perR_aux 1 (by omega) h).2 m
  unfold perR
  rw [this]
  simp
theorem perR_le {R : List (List Nat)} (h : ∀ r ∈ R, 0 < ringQ n ms r ∧ ringQ n ms r ≤ r.length) : perR n ms R ≤ 2 ^ R.flatten.length := by
  have key : ∀ (R : List (List Nat)) (a b : Nat), (∀ r ∈ R, 0 < ringQ n ms r ∧ ringQ n ms r ≤ r.length) → 0 < a → a ≤ 2 ^ b → R.foldl (fun a r => Nat.lcm a (ringQ n ms r)) a ≤ 2 ^ (b + R.flatten.length) := by
    intro R
    induction R with
    | nil => intro a b _ _ h; simpa using h
    | cons r R ih =>
      intro a b hR ha hb
      obtain ⟨h1, h2⟩ := hR r List.mem_cons_self
      have h3 : Nat.lcm a (ringQ n ms r) ≤ a * ringQ n ms r := Nat.le_of_dvd (Nat.mul_pos ha h1) (Nat.lcm_dvd (Nat.dvd_mul_right _ _) (Nat.dvd_mul_left _ _))
      have h4 : ringQ n ms r ≤ 2 ^ r.length := Nat.le_trans h2 (Nat.le_of_lt Nat.lt_two_pow_self)
      have := ih (Nat.lcm a (ringQ n ms r)) (b + r.length) (fun t ht => hR t (List.mem_cons_of_mem _ ht)) (Nat.lcm_pos ha h1) (by
        rw [Nat.pow_add]
        exact Nat.le_trans h3 (Nat.mul_le_mul hb h4))
      rw [List.foldl_cons, List.flatten_cons, List.length_append, ← Nat.add_assoc]
      exact this
  have := key R 1 0 h (by omega) (by simp)
  simpa [perR] using this
theorem flat_rings (G : Gr n g) : (ringsOf g).flatten.length ≤ n := by
  refine nodup_le ?_ fun x hx => ?_
  · exact nodup_flat (fun r hr => (ring_cyc G hr).nd) (fun a ha b hb x hx hy => ring_uniq G ha hb hx hy) (rings_nodup G)
  · obtain ⟨r, h1, h2⟩ := List.mem_flatten.mp hx
    exact ring_lt G h1 x h2
/-- the period behind n + 1 passes -/
def perS (n : Nat) (ms : List (Nat × Nat)) (s : St) : Nat := perR n ms (ringsOf (wish (iterP ms 2 s) ms))
theorem late_iff (hn : 1 ≤ n) (hg : Good n s) (hp : Pass n ms) {k m : Nat} (hk : n + 1 ≤ k) : iterP ms (k + m) s = iterP ms k s ↔ perS n ms s ∣ m := by
  have h := settled_iter hg hp 0
  have g2 := hg.iter hp 2
  have e1 : iterP ms k s = iterP ms (k - 2) (iterP ms 2 s) := by rw [← iterP_add, show 2 + (k - 2) = k by omega]
  have e2 : iterP ms (k + m) s = iterP ms (k - 2 + m) (iterP ms 2 s) := by rw [← iterP_add, show 2 + (k - 2 + m) = k + m by omega]
  rw [e1, e2]
  have h' : Settled (iterP ms 2 s) ms := h
  rw [same_iff_rings h' g2 hp (by omega)]
  unfold perS
  rw [perR_dvd fun r hr => (ring_per h' g2 hp hr).1]
  exact forall_congr' fun r => forall_congr' fun _ => ⟨fun z => Nat.dvd_of_mod_eq_zero z, fun z => Nat.mod_eq_zero_of_dvd z⟩
theorem perS_pos (hg : Good n s) (hp : Pass n ms) : 0 < perS n ms s := perR_pos fun r hr => (ring_per (settled_iter hg hp 0) (hg.iter hp 2) hp hr).1
theorem perS_le (hg : Good n s) (hp : Pass n ms) : perS n ms s ≤ 2 ^ n := by
  refine Nat.le_trans (perR_le fun r hr => ?_) (Nat.pow_le_pow_right (by omega) (flat_rings (wish_gr hp (hg.iter hp 2).gr)))
  obtain ⟨a, b, _⟩ := ring_per (settled_iter hg hp 0) (hg.iter hp 2) hp hr
  exact ⟨a, b⟩
end
end Lw

/-! Tail and period. -/
namespace Lw
section
variable {n : Nat} {s g : St} {r : List Nat} {ms : List (Nat × Nat)}
/-- p states from a passes on -/
def track (ms : List (Nat × Nat)) (s : St) (a p : Nat) : List St := (List.range p).map fun j => iterP ms (a + j) s
theorem track_len {a p : Nat} : (track ms s a p).length = p := by unfold track; simp
theorem track_get {a p j : Nat} (h : j < p) : (track ms s a p)[j]? = some (iterP ms (a + j) s) := by
  unfold track; simp [h]
theorem track_mem {a p : Nat} {t : St} : t ∈ track ms s a p ↔ ∃ j, j < p ∧ iterP ms (a + j) s = t := by
  unfold track; simp
theorem track_succ {a p : Nat} : track ms s a p ++ [iterP ms (a + p) s] = track ms s a (p + 1) := by
  unfold track; rw [List.range_succ, List.map_append]; rfl
theorem track_take {a p q : Nat} (h : q ≤ p) : (track ms s a p).take q = track ms s a q := by
  unfold track; rw [← List.map_take, List.take_range, Nat.min_eq_left h]
theorem track_drop {p q : Nat} (h : q ≤ p) : (track ms s 0 p).drop q = track ms s q (p - q) := by
  refine List.ext_getElem? fun j => ?_
  rw [List.getElem?_drop]
  by_cases hj : j < p - q
  · rw [track_get (show q + j < p by omega), track_get hj, Nat.zero_add]
  · rw [List.getElem?_eq_none (by rw [track_len]; omega), List.getElem?_eq_none (by rw [track_len]; omega)]
theorem track_app {a p q : Nat} : track ms s a p ++ track ms s (a + p) q = track ms s a (p + q) := by
  refine List.ext_getElem? fun j => ?_
  rw [List.getElem?_append, track_len]
  split
  · rename_i h
    rw [track_get h, track_get (by omega)]
  · rename_i h
    by_cases hj : j < p + q
    · rw [track_get hj, track_get (by omega), show a + p + (j - p) = a + j by omega]
    · rw [List.getElem?_eq_none (by rw [track_len]; omega), List.getElem?_eq_none (by rw [track_len]; omega)]
/-- a tail of a passes, then a round of p -/
structure Rnd (ms : List (Nat × Nat)) (s : St) (a p : Nat) : Prop where
  pos : 0 < p
  back : iterP ms (a + p) s = iterP ms a s
  new : ∀ i j, i < j → j < a + p → iterP ms i s ≠ iterP ms j s
theorem iterP_cong {a b : Nat} (h : iterP ms a s = iterP ms b s) (k : Nat) : iterP ms (a + k) s = iterP ms (b + k) s := by rw [iterP_add, iterP_add, h]
theorem Rnd.again {a p : Nat} (h : Rnd ms s a p) {k : Nat} (hk : a ≤ k) : iterP ms (k + p) s = iterP ms k s := by
  have := iterP_cong h.back (k - a)
  rw [show a + p + (k - a) = k + p by omega, show a + (k - a) = k by omega] at this
  exact this
theorem Rnd.agains {a p : Nat} (h : Rnd ms s a p) {k : Nat} (hk : a ≤ k) : ∀ m, iterP ms (k + m * p) s = iterP ms k s
  | 0 => by simp
  | m + 1 => by
    rw [Nat.succ_mul, ← Nat.add_assoc, h.again (by omega), h.agains hk m]
theorem Rnd.mod {a p : Nat} (h : Rnd ms s a p) {k : Nat} (hk : a ≤ k) : iterP ms (a + (k - a) % p) s = iterP ms k s := by
  have := h.agains (k := a + (k - a) % p) (by omega) ((k - a) / p)
  rw [← this]
  congr 1
  have := Nat.mod_add_div (k - a) p
  rw [Nat.mul_comm] at this
  omega
theorem Rnd.per {a p : Nat} (h : Rnd ms s a p) (hn : 1 ≤ n) (hg : Good n s) (hp : Pass n ms) : p = perS n ms s := by
  have h1 : perS n ms s ∣ p := (late_iff hn hg hp (k := n + 1 + a) (by omega)).mp (h.again (by omega))
  have h0 := perS_pos hg hp
  have h2 : iterP ms (a + perS n ms s) s = iterP ms a s := by
    have e1 := h.agains (k := a + perS n ms s) (by omega) (n + 1)
    have e2 := h.agains (k := a) (Nat.le_refl _) (n + 1)
    rw [← e1, ← e2]
    have hle : n + 1 ≤ (n + 1) * p := Nat.le_mul_of_pos_right _ h.pos
    have := (late_iff hn hg hp (k := a + (n + 1) * p) (m := perS n ms s) (by omega)).mpr (Nat.dvd_refl _)
    rw [show a + perS n ms s + (n + 1) * p = a + (n + 1) * p + perS n ms s by omega]
    exact this
  have h3 := Nat.le_of_dvd h.pos h1
  refine Classical.byContradiction fun hne => ?_
  exact h.new a (a + perS n ms s) (by omega) (by omega) h2.symm
theorem Rnd.tail_le {a p : Nat} (h : Rnd ms s a p) (hn : 1 ≤ n) (hg : Good n s) (hp : Pass n ms) : a ≤ n + 1 := by
  refine Classical.byContradiction fun hlt => ?_
  have h1 : perS n ms s ∣ p := by rw [← h.per hn hg hp]; exact Nat.dvd_refl _
  have h2 := (late_iff hn hg hp (k := a - 1) (m := p) (by omega)).mpr h1
  have := h.pos
  exact h.new (a - 1) (a - 1 + p) (by omega) (by omega) h2.symm
theorem Rnd.least {a p : Nat} (h : Rnd ms s a p) {t : Nat} (ht : t < a) : iterP ms (t + p) s ≠ iterP ms t s := fun e => by
  have := h.pos
  exact h.new t (t + p) (by omega) (by omega) e.symm
/-- the round as seen k passes later -/
theorem Rnd.shift {a p : Nat} (h : Rnd ms s a p) (hn : 1 ≤ n) (hg : Good n s) (hp : Pass n ms) (k : Nat) : Rnd ms (iterP ms k s) (a - k) p := by
  have hper := h.per hn hg hp
  refine ⟨h.pos, ?_, fun i j h1 h2 e => ?_⟩
  · rw [← iterP_add, ← iterP_add, ← Nat.add_assoc]
    exact h.again (by omega)
  · rw [← iterP_add, ← iterP_add] at e
    by_cases hk : k ≤ a
    · exact h.new (k + i) (k + j) (by omega) (by omega) e
    · have e2 := iterP_cong e (n + 1)
      rw [show k + j + (n + 1) = k + i + (n + 1) + (j - i) by omega] at e2
      have h3 := (late_iff hn hg hp (k := k + i + (n + 1)) (m := j - i) (by omega)).mp e2.symm
      rw [← hper] at h3
      have := Nat.le_of_dvd (by omega) h3
      omega
/-- not all of a ring's members are raised before their partners -/
theorem ringQ_lt (h : Settled s ms) (hg : Good n s) (hp : Pass n ms) (hr : r ∈ ringsOf (wish s ms)) (hall : ∀ w ∈ r, w ∈ ms.map (·.1)) : (r.filter fun w => decide (w ∈ soon n ms)).length < r.length := by
  obtain ⟨⟨c, h2, hf⟩, _⟩ := settled_fits h hg hp hr
  refine Nat.lt_of_le_of_ne (List.length_filter_le _ _) fun e => ?_
  have all : ∀ w ∈ r, w ∈ soon n ms := fun w hw => by
    have := (List.length_filter_eq_length_iff.mp e) w hw
    simpa using this
  have key : ∀ k, ∃ i, up (spots n ms) (at' r (k % r.length)) = some i ∧ k ≤ i := by
    intro k
    induction k with
    | zero =>
      obtain ⟨y, i, j, h1, h2, _⟩ := (soonB_iff hp).mp (List.mem_filter.mp (all _ (at_mem (Nat.mod_lt 0 c.pos)))).2
      exact ⟨i, h2, Nat.zero_le _⟩
    | succ k ih =>
      obtain ⟨i, h1, h2⟩ := ih
      have hk := Nat.mod_lt k c.pos
      obtain ⟨y, i2, j, g1, g2, g3, g4⟩ := (soonB_iff hp).mp (List.mem_filter.mp (all _ (at_mem hk))).2
      rw [h1] at g2
      obtain rfl := Option.some.inj g2
      have e1 := hf _ _ g1 (at_mem hk)
      rw [c.nx _ hk] at e1
      have e2 := Option.some.inj e1
      rw [Nat.mod_add_mod] at e2
      exact ⟨j, by rw [e2]; exact g3, by omega⟩
  obtain ⟨i, h1, h2⟩ := key ms.length
  have := spots_lt hp h1
  omega
/-- so far all states are new -/
def New (ms : List (Nat × Nat)) (s : St) (k : Nat) : Prop := ∀ i j, i < j → j < k → iterP ms i s ≠ iterP ms j s
theorem New.le {k : Nat} (h : New ms s k) (hn : 1 ≤ n) (hg : Good n s) (hp : Pass n ms) : k ≤ n + 1 + 2 ^ n := by
  have h1 := perS_le hg hp
  have h0 := perS_pos hg hp
  refine Classical.byContradiction fun hlt => ?_
  have h2 := (late_iff hn hg hp (k := n + 1) (m := perS n ms s) (by omega)).mpr (Nat.dvd_refl _)
  exact h (n + 1) (n + 1 + perS n ms s) (by omega) (by omega) h2.symm
theorem New.succ {k : Nat} (h : New ms s k) (hk : iterP ms k s ∉ track ms s 0 k) : New ms s (k + 1) := fun i j h1 h2 e => by
  by_cases hj : j < k
  · exact h i j h1 hj e
  · obtain rfl : j = k := by omega
    exact hk (track_mem.mpr ⟨i, h1, by rw [Nat.zero_add]; exact e⟩)
theorem New.rnd {k : Nat} (h : New ms s k) (hk : iterP ms k s ∈ track ms s 0 k) : ∃ a p, a + p = k ∧ Rnd ms s a p := by
  obtain ⟨a, h1, h2⟩ := track_mem.mp hk
  rw [Nat.zero_add] at h2
  exact ⟨a, k - a, by omega, ⟨by omega, by rw [show a + (k - a) = k by omega]; exact h2.symm, fun i j hi hj => h i j hi (by omega)⟩⟩
theorem rnd_ex (hn : 1 ≤ n) (hg : Good n s) (hp : Pass n ms) : ∃ a p, Rnd ms s a p := by
  have key : ∀ m k, New ms s k → m + k = n + 2 + 2 ^ n → ∃ a p, Rnd ms s a p := fun m => by
    induction m with
    | zero => intro k hk e; have := hk.le hn hg hp; omega
    | succ m ih =>
      intro k hk e
      by_cases hin : iterP ms k s ∈ track ms s 0 k
      · obtain ⟨a, p, _, h⟩ := hk.rnd hin
        exact ⟨a, p, h⟩
      · exact ih (k + 1) (hk.succ hin) (by omega)
  exact key (n + 2 + 2 ^ n) 0 (fun i j h1 h2 => by omega) rfl
/-- a late state's rings all last -/
theorem late_rings (hn : 1 ≤ n) (hg : Good n s) (hp : Pass n ms) (hr : r ∈ ringsOf (wish (iterP ms (n + 1) s) ms)) : ∀ w ∈ r, w ∈ ms.map (·.1) := by
  intro w hw
  refine Classical.byContradiction fun hm => ?_
  have h2 := settled_iter hg hp 0
  have g2 := hg.iter hp 2
  have h2' : Settled (iterP ms 2 s) ms := h2
  have eL : iterP ms (n + 1) s = iterP ms (n - 1) (iterP ms 2 s) := by rw [← iterP_add, show 2 + (n - 1) = n + 1 by omega]
  have gl := hg.iter hp (n + 1)
  have GL := wish_gr hp gl.gr
  have G2 := wish_gr hp g2.gr
  have sub : Sub (wish (iterP ms (n + 1) s) ms) (wish (iterP ms 2 s) ms) := by rw [eL]; exact wish_subs h2' g2 hp (n - 1)
  have c := ring_cyc GL hr
  have c' : Cyc (wish (iterP ms 2 s) ms) r := ⟨c.pos, c.nd, fun i hi => sub _ _ (c.nx i hi)⟩
  obtain ⟨r2, hr2, hw2⟩ := ring_of G2 (c'.onR hw)
  have c2 := ring_cyc G2 hr2
  have hl := ring_len G2 hr2
  rcases ring_history h2' g2 hp hr2 with ⟨h1, _⟩ | ⟨f, f1, f2, f3⟩
  · exact hm (h1 w hw2)
  · have hb := f3 (n - 1) (by omega)
    rw [← eL] at hb
    have hf : at' r2 f ∈ r := c'.mem hw (c2.rchs hw2 (at_mem f1))
    obtain ⟨y, e, _⟩ := c.step hf
    rw [wish_out f2, hb _ (at_mem f1), if_pos rfl] at e
    cases e
/-- the period, from the late state's rings -/
theorem per_late (hn : 1 ≤ n) (hg : Good n s) (hp : Pass n ms) : perR n ms (ringsOf (wish (iterP ms (n + 1) s) ms)) = perS n ms s := by
  have hs : Settled (iterP ms (n + 1) s) ms := by
    have := settled_iter hg hp (n - 1)
    rw [show n - 1 + 2 = n + 1 by omega] at this
    exact this
  have gl := hg.iter hp (n + 1)
  have key : ∀ m, perR n ms (ringsOf (wish (iterP ms (n + 1) s) ms)) ∣ m ↔ perS n ms s ∣ m := fun m => by
    rw [perR_dvd fun r hr => (ring_per hs gl hp hr).1, ← late_iff hn hg hp (k := n + 1 + n) (by omega)]
    have := same_iff_rings hs gl hp (k := n) (m := m) (by omega)
    rw [← iterP_add, ← iterP_add, ← Nat.add_assoc] at this
    rw [this]
    exact forall_congr' fun r => forall_congr' fun _ => ⟨fun z => Nat.mod_eq_zero_of_dvd z, fun z => Nat.dvd_of_mod_eq_zero z⟩
  exact Nat.dvd_antisymm ((key _).mpr (Nat.dvd_refl _)) ((key _).mp (Nat.dvd_refl _))
theorem ringQ_late (h : ∀ w ∈ r, w ∈ ms.map (·.1)) : ringQ n ms r = (r.filter fun w => decide (w ∈ soon n ms)).length := by
  unfold ringQ; rw [if_pos h]
end
/-! ### encodings -/
open MP PySem
def stD (s : St) : D := .tuple (ocs s)
def sts (L : List St) : List D := L.map stD
theorem stD_inj {s t : St} (h : stD s = stD t) : s = t := by
  unfold stD at h
  injection h with h
  exact ocs_inj.mp h
theorem sts_len {L : List St} : (sts L).length = L.length := List.length_map _
theorem sts_app {L T : List St} : sts L ++ sts T = sts (L ++ T) := by unfold sts; rw [List.map_append]
theorem sts_app1 {L : List St} {s : St} : sts L ++ [.tuple (ocs s)] = sts (L ++ [s]) := by unfold sts; rw [List.map_append]; rfl
theorem sts_take {L : List St} {k : Nat} : (sts L).take k = sts (L.take k) := by unfold sts; rw [List.map_take]
theorem sts_drop {L : List St} {k : Nat} : (sts L).drop k = sts (L.drop k) := by unfold sts; rw [List.map_drop]
theorem sts_get {L : List St} {k : Nat} {s : St} (h : L[k]? = some s) : (sts L)[k]? = some (.tuple (ocs s)) := by unfold sts; rw [List.getElem?_map, h]; rfl
theorem okD_stD {k : Nat} {s : St} : okD (k + 1) (stD s) := okD.tuple ok_ocs
theorem okD_sts {k : Nat} {L : List St} : ∀ x ∈ sts L, okD (k + 1) x := fun x hx => by
  obtain ⟨c, _, rfl⟩ := List.mem_map.mp hx
  exact okD_stD
theorem p_inSts {s : St} {L : List St} : Op.run .isin [.tuple (ocs s), .list (sts L)] = some (.bool (decide (s ∈ L))) := by
  show Op.run .isin [stD s, .list (sts L)] = _
  rw [p_isin (okD_stD (k := 59)) (okD_sts (k := 58))]
  have : ((sts L).any fun z => same z (stD s)) = decide (s ∈ L) := by
    rw [Bool.eq_iff_iff, decide_eq_true_iff]
    exact any_same fun _ _ => stD_inj
  exact congrArg (fun b => some (PyData.bool b)) this
theorem p_notinSts {s : St} {L : List St} : Op.run .notin [.tuple (ocs s), .list (sts L)] = some (.bool (!decide (s ∈ L))) := p_notinOf p_inSts
theorem p_idxSts {L : List St} {k : Nat} {s : St} (h : L[k]? = some s) : Op.run .idx [.list (sts L), .int (k : Int)] = some (.tuple (ocs s)) := by
  rw [p_idxL, sts_get h]
theorem m_indexSts {L : List St} {k : Nat} {s : St} (h : L[k]? = some s) (hn : ∀ j, j < k → L[j]? ≠ some s) : Mth.run .index (.list (sts L)) [.tuple (ocs s)] = some (.int (k : Int)) := by
  have e : Mth.run .index (.list (sts L)) [.tuple (ocs s)] = if SeqAt.shaped (.tuple (ocs s)) = true ∧ SeqAt.shaped (.list (sts L)) = true ∧ ((sts L).any fun z => PyData.eqv z (.tuple (ocs s))) = true then some (.int (((sts L).findIdx fun z => PyData.eqv z (.tuple (ocs s)) : Nat) : Int)) else none := rfl
  have hq : ∀ t : St, PyData.eqv (.tuple (ocs t)) (.tuple (ocs s)) = true ↔ t = s := fun t => by
    show PyData.eqv (stD t) (stD s) = true ↔ _
    rw [eqv_plain (okD_stD (k := 0) (s := t)).1 (okD_stD (k := 0) (s := s)).1]
    exact ⟨fun z => stD_inj z, fun z => by rw [z]⟩
  have hl : k < L.length := (List.getElem?_eq_some_iff.mp h).1
  have hk : ((sts L).findIdx fun z => PyData.eqv z (.tuple (ocs s))) = k := by
    rw [List.findIdx_eq (by rw [sts_len]; exact hl)]
    have ge : ∀ j (hj : j < (sts L).length), (sts L)[j] = .tuple (ocs (L[j]'(by rw [sts_len] at hj; exact hj))) := fun j hj => by
      exact List.getElem_map stD (l := L)
    constructor
    · rw [ge]
      exact (hq _).mpr (List.getElem?_eq_some_iff.mp h).2
    · intro j hj
      rw [ge, Bool.eq_false_iff]
      intro z
      have := (hq _).mp z
      exact hn j hj (by rw [List.getElem?_eq_getElem (by omega), this])
  rw [e, if_pos ⟨(okD_stD (k := 59) (s := s)).shaped (by omega), (okD.list (k := 59) (okD_sts (k := 58))).shaped (by omega), List.any_eq_true.mpr ⟨_, List.mem_map.mpr ⟨s, List.mem_of_getElem? h, rfl⟩, (hq s).mpr rfl⟩⟩, hk]
theorem rep_intS {i : Nat} (h : i < 10 ^ 12) : Rep 40 (.int i) := by
  have hl : (i : Int).natAbs.log2 < 40 := by
    rw [Int.natAbs_natCast]
    by_cases h0 : i = 0
    · subst h0; decide
    · exact (Nat.log2_lt h0).mpr (by omega)
  refine ⟨ok_int, ?_, ?_, ?_⟩
  · simp only [PyData.intsShort, decide_eq_true_eq]
    have e : (PyData.shown (.int (i : Int))).length = (toString (i : Int)).length := by
      simp only [PyData.shown]
      exact ofString_length _
    rw [e]
    exact int_text_length_le10 (a := (i : Int)) (k := 12) (by decide) (by rw [Int.natAbs_natCast]; exact h)
  · simp only [PyData.showable, decide_eq_true_eq]; omega
  · simp only [PyData.weight]
    split <;> omega
theorem lcm_div {a b : Nat} : a / Nat.gcd a b * b = Nat.lcm a b := by
  unfold Nat.lcm
  rw [Nat.div_mul_right_comm (Nat.gcd_dvd_left a b)]
end Lw

/-! Two states meet, or never do. -/
namespace Lw
section
variable {n : Nat} {s t g : St} {r : List Nat} {ms : List (Nat × Nat)}
theorem Good.cut (h : Good n s) {x : Nat} (hx : x < n) : Good n (s.set x none) := by
  have hu : ∀ z y, up (s.set x none) z = some y → up s z = some y := fun z y e => by
    by_cases hz : z = x
    · rw [hz, up_set_eq (by rw [h.len]; exact hx)] at e; cases e
    · rw [up_set_ne (fun q => hz q.symm)] at e; exact e
  obtain ⟨r, hr⟩ := h.rk
  exact ⟨by rw [List.length_set, h.len], fun i y e => h.lt _ _ (hu _ _ e), ⟨r, fun i y e => hr _ _ (hu _ _ e)⟩⟩
theorem set_slices {x : Nat} {c : Option Nat} (hx : x < s.length) : s.take x ++ [c] ++ s.drop (x + 1) = s.set x c := by
  rw [List.set_eq_take_append_cons_drop, if_pos hx]; simp
/-- the first of m passes that finds them equal -/
def meetN (ms : List (Nat × Nat)) (s t : St) (m : Nat) : Option Nat := (List.range m).find? fun k => decide (iterP ms k s = iterP ms k t)
theorem meetN_zero : meetN ms s t 0 = none := rfl
theorem meetN_old {m k : Nat} (h : meetN ms s t m = some k) : meetN ms s t (m + 1) = some k := by
  unfold meetN at *
  rw [List.range_succ, List.find?_append, h]; rfl
theorem meetN_new {m : Nat} (h : meetN ms s t m = none) (e : iterP ms m s = iterP ms m t) : meetN ms s t (m + 1) = some m := by
  unfold meetN at *
  rw [List.range_succ, List.find?_append, h]
  simp [e]
theorem meetN_no {m : Nat} (h : meetN ms s t m = none) (e : iterP ms m s ≠ iterP ms m t) : meetN ms s t (m + 1) = none := by
  unfold meetN at *
  rw [List.range_succ, List.find?_append, h]
  simp [e]
theorem meetN_comm {m : Nat} : meetN ms t s m = meetN ms s t m := by
  unfold meetN
  congr 1
  funext k
  exact decide_eq_decide.mpr ⟨fun e => e.symm, fun e => e.symm⟩
theorem meetN_lt {m k : Nat} (h : meetN ms s t m = some k) : k < m := by
  unfold meetN at h
  simpa using List.mem_of_find?_eq_some h
theorem meetN_none {m : Nat} (h : meetN ms s t m = none) {k : Nat} (hk : k < m) : iterP ms k s ≠ iterP ms k t := by
  unfold meetN at h
  rw [List.find?_eq_none] at h
  have := h k (by simpa using hk)
  simpa using this
/-- once a round has begun they meet no more -/
theorem never_meet (hn : 1 ≤ n) (hs : Good n s) (ht : Good n t) (hp : Pass n ms) (h : iterP ms (n + 1) s ≠ iterP ms (n + 1) t) (k : Nat) : iterP ms (n + 1 + k) s ≠ iterP ms (n + 1 + k) t := fun e => by
  have h1 := perS_pos hs hp
  have h2 := perS_pos ht hp
  obtain ⟨P, hP⟩ : ∃ P, P = k * (perS n ms s * perS n ms t) := ⟨_, rfl⟩
  have hle : k ≤ P := by rw [hP]; exact Nat.le_mul_of_pos_right _ (Nat.mul_pos h1 h2)
  have e1 := (late_iff hn hs hp (k := n + 1) (m := P) (Nat.le_refl _)).mpr (by rw [hP]; exact Nat.dvd_mul_left_of_dvd (Nat.dvd_mul_right _ _) _)
  have e2 := (late_iff hn ht hp (k := n + 1) (m := P) (Nat.le_refl _)).mpr (by rw [hP]; exact Nat.dvd_mul_left_of_dvd (Nat.dvd_mul_left _ _) _)
  refine h ?_
  rw [← e1, ← e2, show n + 1 + P = n + 1 + k + (P - k) by omega, iterP_add (P - k), iterP_add (P - k), e]
/-- where they differ -/
def dif (n : Nat) (s t : St) : List Nat := (List.range n).filter fun i => !decide (up s i = up t i)
theorem dif_comm : dif n t s = dif n s t := by
  unfold dif
  congr 1
  funext i
  congr 1
  exact decide_eq_decide.mpr ⟨fun e => e.symm, fun e => e.symm⟩
theorem dif_some (hs : s.length = n) (ht : t.length = n) (h : s ≠ t) : ∃ x l, dif n s t = x :: l ∧ x < n := by
  cases e : dif n s t with
  | nil =>
    refine absurd (up_ext (by rw [hs, ht]) fun x => ?_) h
    by_cases hx : x < n
    · refine Classical.byContradiction fun hne => ?_
      have : x ∈ dif n s t := List.mem_filter.mpr ⟨by simpa using hx, by simpa using hne⟩
      rw [e] at this; cases this
    · have q : ∀ u : St, u.length = n → up u x = none := fun u hu => by
        unfold up; rw [List.getElem?_eq_none (by omega)]; rfl
      rw [q s hs, q t ht]
  | cons x l =>
    have : x ∈ dif n s t := by rw [e]; exact List.mem_cons_self
    exact ⟨x, l, rfl, by simpa using (List.mem_filter.mp this).1⟩
end
/-! ### encodings -/
open MP PySem
theorem p_addT {xs ys : List D} (h : xs.length + ys.length ≤ sizeLine) : Op.run .add [.tuple xs, .tuple ys] = some (.tuple (xs ++ ys)) := if_pos h
theorem ocs_app {a b : St} : ocs a ++ ocs b = ocs (a ++ b) := by unfold ocs; rw [List.map_append]
theorem cut_add {s : St} {x : Nat} {c : Option Nat} (hx : x < s.length) (hl : s.length ≤ 1000) : Op.run .add [.tuple (ocs (s.take x)), .tuple [oc c]] = some (.tuple (ocs (s.take x ++ [c]))) ∧ Op.run .add [.tuple (ocs (s.take x ++ [c])), .tuple (ocs (s.drop (x + 1)))] = some (.tuple (ocs (s.set x c))) := by
  have e1 : (ocs (s.take x)).length = x := by rw [ocs_len, List.length_take]; omega
  have e2 : (ocs (s.take x ++ [c])).length = x + 1 := by rw [ocs_len, List.length_append, List.length_take]; simp; omega
  have e3 : (ocs (s.drop (x + 1))).length = s.length - (x + 1) := by rw [ocs_len, List.length_drop]
  refine ⟨?_, ?_⟩
  · rw [p_addT (by rw [e1, sizeLine_eq]; simp; omega), ← ocs_app]; rfl
  · rw [p_addT (by rw [e2, e3, sizeLine_eq]; omega), ocs_app, set_slices hx]
theorem rep_triple {w : Nat} {a b c : D} (ha : Rep w a) (hb : Rep w b) (hc : Rep w c) (ka : okD 58 a) (kb : okD 58 b) (kc : okD 58 c) : Rep (3 * (w + 1)) (.tuple [a, b, c]) :=
  rep_tuple (w := w) (xs := [a, b, c]) (fun x hx => by
    simp at hx
    rcases hx with rfl | rfl | rfl
    · exact ha
    · exact hb
    · exact hc) (fun x hx => by
    simp at hx
    rcases hx with rfl | rfl | rfl
    · exact ka
    · exact kb
    · exact kc)
/-- a word and a small number -/
def wordD (w : Bool) (k : Nat) : D := .tuple [.str (if w then Str.ofString "after" else Str.ofString "never"), .int (k : Int)]
theorem word_small : ∀ w : Bool, ∀ k < 64, (PyData.shown (wordD w k)).length ≤ 40 ∧ PyData.showable (wordD w k) = true ∧ (wordD w k).depth ≤ 60 ∧ PyData.strOk (PyData.shown (wordD w k)) = true ∧ SeqAt.shaped (wordD w k) = true ∧ PyData.eqv (wordD w k) (wordD w k) = true := by decide +kernel
theorem p_reprW {w : Bool} {k : Nat} (h : k < 64) : Op.run .repr [wordD w k] = some (.str (PyData.shown (wordD w k))) := by
  obtain ⟨h1, h2, h3, _⟩ := word_small w k h
  have e : Op.run .repr [wordD w k] = if PyData.showable (wordD w k) = true ∧ (wordD w k).depth ≤ 60 ∧ (PyData.shown (wordD w k)).length ≤ sizeLine then some (.str (PyData.shown (wordD w k))) else none := rfl
  rw [e, if_pos ⟨h2, h3, by rw [sizeLine_eq]; omega⟩]
theorem p_neReprW {w : Bool} {k : Nat} (h : k < 64) : Op.run .ne [.str (PyData.shown (wordD w k)), .str (PyData.shown (wordD w k))] = some (.bool false) := by
  obtain ⟨_, _, _, h4, _⟩ := word_small w k h
  rw [p_neS h4 h4]; simp
theorem p_neW {w : Bool} {k : Nat} (h : k < 64) : Op.run .ne [wordD w k, wordD w k] = some (.bool false) := by
  obtain ⟨_, _, _, _, h5, h6⟩ := word_small w k h
  have e : Op.run .ne [wordD w k, wordD w k] = if SeqAt.shaped (wordD w k) = true ∧ SeqAt.shaped (wordD w k) = true then some (.bool (!PyData.eqv (wordD w k) (wordD w k))) else none := rfl
  rw [e, if_pos ⟨h5, h5⟩, h6]; rfl
theorem p_eqW {w : Bool} {k : Nat} (h : k < 64) : Op.run .eq [wordD w k, wordD w k] = some (.bool true) := by
  obtain ⟨_, _, _, _, h5, h6⟩ := word_small w k h
  have e : Op.run .eq [wordD w k, wordD w k] = if SeqAt.shaped (wordD w k) = true ∧ SeqAt.shaped (wordD w k) = true then some (.bool (PyData.eqv (wordD w k) (wordD w k))) else none := rfl
  rw [e, if_pos ⟨h5, h5⟩, h6]
end Lw

/-! Rings that fade; graphs without rings. -/
namespace Lw
section
variable {n : Nat} {s t g : St} {r : List Nat} {ms : List (Nat × Nat)}
theorem filt_le {p q : Nat → Bool} : ∀ {l : List Nat}, (∀ x ∈ l, p x = true → q x = true) → (l.filter p).length ≤ (l.filter q).length
  | [], _ => Nat.le_refl _
  | x :: l, h => by
    have ih := filt_le (l := l) fun y hy => h y (List.mem_cons_of_mem _ hy)
    have h0 := h x List.mem_cons_self
    rw [List.filter_cons, List.filter_cons]
    cases hp : p x <;> cases hq : q x <;> simp_all <;> omega
theorem filt_lt {p q : Nat → Bool} {a : Nat} (h1 : q a = true) (h2 : p a = false) : ∀ {l : List Nat}, (∀ x ∈ l, p x = true → q x = true) → a ∈ l → (l.filter p).length < (l.filter q).length
  | x :: l, h, ha => by
    have hl := fun y (hy : y ∈ l) => h y (List.mem_cons_of_mem _ hy)
    have h0 := h x List.mem_cons_self
    rw [List.filter_cons, List.filter_cons]
    by_cases hx : a = x
    · subst hx
      have := filt_le hl
      rw [h1, h2]
      simp
      omega
    · have ih := filt_lt h1 h2 hl ((List.mem_cons.mp ha).resolve_left hx)
      cases hp : p x <;> cases hq : q x <;> simp_all <;> omega
theorem Rch.tr {x y z : Nat} (h1 : Rch g x y) (h2 : Rch g y z) : Rch g x z := by
  induction h1 with
  | refl => exact h2
  | step e _ ih => exact .step e (ih h2)
/-- no ring: a state -/
theorem good_of_none (G : Gr n g) (h : ∀ x, ¬ OnR g x) : Good n g := by
  classical
  refine ⟨G.len, G.lt, ⟨fun x => ((List.range n).filter fun y => decide (Rch g x y)).length, fun x y e => ?_⟩⟩
  have hx : x < n := by rw [← G.len]; exact up_lt e
  refine filt_lt (a := x) (by simpa using Rch.refl x) (by simpa using fun q => h x ⟨y, e, q⟩) (fun z _ hz => ?_) (by simpa using hx)
  simp only [decide_eq_true_eq] at hz ⊢
  exact .step e hz
theorem Cyc.sub (c : Cyc s r) (h : Sub s g) : Cyc g r := ⟨c.pos, c.nd, fun i hi => h _ _ (c.nx i hi)⟩
/-- the rings are the cycles that begin with their least member -/
theorem rings_iff (G : Gr n g) : r ∈ ringsOf g ↔ Cyc g r ∧ ∀ w ∈ r, at' r 0 ≤ w := by
  have fwd : ∀ r, r ∈ ringsOf g → ∀ w ∈ r, at' r 0 ≤ w := fun r hr => by
    obtain ⟨x, hx, rfl, h1, h2⟩ := (rings_mem G).mp hr
    rw [(trail_spec G hx).2.2.2.1]
    exact h2
  refine ⟨fun h => ⟨ring_cyc G h, fwd r h⟩, fun ⟨c, hl⟩ => ?_⟩
  obtain ⟨r2, hr2, hm⟩ := ring_of G (c.onR (at_mem c.pos))
  have c2 := ring_cyc G hr2
  have h0 : at' r 0 = at' r2 0 := by
    have a := fwd r2 hr2 _ hm
    have b := hl _ (c.mem (at_mem c.pos) (c2.rchs hm (at_mem c2.pos)))
    omega
  have key : ∀ k, at' r (k % r.length) = at' r2 (k % r2.length) := fun k => by
    induction k with
    | zero => rw [Nat.zero_mod, Nat.zero_mod]; exact h0
    | succ k ih =>
      have e1 := c.nx _ (Nat.mod_lt k c.pos)
      have e2 := c2.nx _ (Nat.mod_lt k c2.pos)
      rw [Nat.mod_add_mod] at e1 e2
      rw [ih, e2] at e1
      exact (Option.some.inj e1).symm
  have len : r.length = r2.length := by
    rcases Nat.lt_trichotomy r.length r2.length with h | h | h
    · have := key r.length
      rw [Nat.mod_self, Nat.mod_eq_of_lt h, h0] at this
      have := at_inj c2.nd c2.pos h this
      have := c.pos
      omega
    · exact h
    · have := key r2.length
      rw [Nat.mod_self, Nat.mod_eq_of_lt h, ← h0] at this
      have := at_inj c.nd h c.pos this
      have := c2.pos
      omega
  have : r = r2 := by
    refine List.ext_getElem? fun k => ?_
    by_cases hk : k < r.length
    · have := key k
      rw [Nat.mod_eq_of_lt hk, Nat.mod_eq_of_lt (by omega)] at this
      rw [at_get hk, at_get (by omega), this]
    · rw [List.getElem?_eq_none (by omega), List.getElem?_eq_none (by omega)]
  rw [this]; exact hr2
/-- no ring is new -/
theorem rings_later (h : Settled s ms) (hg : Good n s) (hp : Pass n ms) (k : Nat) (hr : r ∈ ringsOf (wish (iterP ms k s) ms)) : r ∈ ringsOf (wish s ms) := by
  obtain ⟨c, hl⟩ := (rings_iff (wish_gr hp (hg.iter hp k).gr)).mp hr
  exact (rings_iff (wish_gr hp hg.gr)).mpr ⟨c.sub (wish_subs h hg hp k), hl⟩
theorem ring_stays (h : Settled s ms) (hg : Good n s) (hp : Pass n ms) (k : Nat) (hr : r ∈ ringsOf (wish s ms)) (he : ∀ w ∈ r, w ∉ ms.map (·.1) → up (iterP ms k s) w = up (wish s ms) w) : r ∈ ringsOf (wish (iterP ms k s) ms) := by
  obtain ⟨c, hl⟩ := (rings_iff (wish_gr hp hg.gr)).mp hr
  refine (rings_iff (wish_gr hp (hg.iter hp k).gr)).mpr ⟨⟨c.pos, c.nd, fun i hi => ?_⟩, hl⟩
  rw [← c.nx i hi]
  by_cases hm : at' r i ∈ ms.map (·.1)
  · obtain ⟨m, m1, m2⟩ := List.mem_map.mp hm
    have hm' : (at' r i, m.2) ∈ ms := by rw [← m2]; exact m1
    rw [wish_in hp (hg.iter hp k).len hm', wish_in hp hg.len hm']
  · rw [wish_out hm, he _ (at_mem hi) hm]
theorem ring_lasts (h : Settled s ms) (hg : Good n s) (hp : Pass n ms) (k : Nat) (hr : r ∈ ringsOf (wish s ms)) (ha : ∀ w ∈ r, w ∈ ms.map (·.1)) : r ∈ ringsOf (wish (iterP ms k s) ms) :=
  ring_stays h hg hp k hr fun w hw hm => absurd (ha w hw) hm
theorem ring_fades (h : Settled s ms) (hg : Good n s) (hp : Pass n ms) {k : Nat} (hk : r.length - 1 ≤ k) (hr : r ∈ ringsOf (wish s ms)) (ha : ¬ ∀ w ∈ r, w ∈ ms.map (·.1)) : r ∉ ringsOf (wish (iterP ms k s) ms) := fun hr2 => by
  rcases ring_history h hg hp hr with ⟨h1, _⟩ | ⟨f, f1, f2, f3⟩
  · exact ha h1
  · have c := ring_cyc (wish_gr hp (hg.iter hp k).gr) hr2
    have e := c.nx f f1
    rw [wish_out f2, f3 k hk _ (at_mem f1), if_pos rfl] at e
    cases e
theorem filter_one {a : Nat} {p : Nat → Bool} : ∀ {l : List Nat}, l.Nodup → a ∈ l → (∀ x ∈ l, p x = true ↔ x = a) → l.filter p = [a]
  | x :: l, nd, ha, h => by
    rw [List.nodup_cons] at nd
    rw [List.filter_cons]
    by_cases hx : x = a
    · subst hx
      rw [if_pos ((h x List.mem_cons_self).mpr rfl)]
      have : l.filter p = [] := List.filter_eq_nil_iff.mpr fun y hy q => nd.1 ((h y (List.mem_cons_of_mem _ hy)).mp q ▸ hy)
      rw [this]
    · rw [if_neg fun q => hx ((h x List.mem_cons_self).mp q)]
      exact filter_one nd.2 ((List.mem_cons.mp ha).resolve_left fun q => hx q.symm) fun y hy => h y (List.mem_cons_of_mem _ hy)
/-- a ring that is gone: one member without context, and that one is not raised -/
theorem ring_ended (h : Settled s ms) (hg : Good n s) (hp : Pass n ms) {k : Nat} (hk : 1 ≤ k) (hr : r ∈ ringsOf (wish s ms)) (hn : r ∉ ringsOf (wish (iterP ms k s) ms)) :
    ∃ i, i < r.length ∧ gaps (iterP ms k s) r = [at' r i] ∧ at' r i ∉ ms.map (·.1) ∧ But (iterP ms k s) (wish s ms) r i := by
  obtain ⟨hf, i, hi, e1, hb, hm⟩ := settled_fits h hg hp hr
  obtain ⟨_, _, _, p4⟩ := lapse_after h hg hp hf hi hb hm
  obtain ⟨j, hj, _, hbj⟩ := p4 k hk
  have c := hf.1
  refine ⟨j, hj, ?_, fun hmj => ?_, hbj⟩
  · unfold gaps
    refine filter_one c.nd (at_mem hj) fun x hx => ?_
    rw [decide_eq_true_eq, hbj x hx]
    obtain ⟨y, e, _⟩ := c.step hx
    constructor
    · intro q
      split at q
      · assumption
      · rw [e] at q; cases q
    · intro q; rw [if_pos q]
  · refine hn (ring_stays h hg hp k hr fun w hw hm => ?_)
    rw [hbj w hw, if_neg fun q => hm (by rw [q]; exact hmj)]
/-- part of a graph that lacks an edge of each of its rings: a state -/
theorem good_near (G : Gr n g) (hl : s.length = n) (hs : Sub s g) (h : ∀ r ∈ ringsOf g, ∃ w ∈ r, up s w = none) : Good n s := by
  have Gs : Gr n s := ⟨hl, fun i y e => G.lt i y (hs i y e)⟩
  refine good_of_none Gs fun x hx => ?_
  obtain ⟨r', hr', hx'⟩ := ring_of Gs hx
  have c := ring_cyc Gs hr'
  have cg := c.sub hs
  obtain ⟨r, hr, hxr⟩ := ring_of G (cg.onR hx')
  obtain ⟨w, hw, e⟩ := h r hr
  have hwr : w ∈ r' := cg.mem hx' ((ring_cyc G hr).rchs hxr hw)
  obtain ⟨y, e2, _⟩ := c.step hwr
  rw [e] at e2; cases e2
end
/-! ### encodings -/
open MP PySem
theorem rg_inj {a b : List Nat} (h : rg a = rg b) : a = b := by
  unfold rg at h
  injection h with h
  exact nats_inj.mp h
theorem p_inRgs {r : List Nat} {R : List (List Nat)} : Op.run .isin [.tuple (nats r), .list (rgs R)] = some (.bool (decide (r ∈ R))) := by
  show Op.run .isin [rg r, .list (rgs R)] = _
  rw [p_isin (okD_rg (k := 59)) (okD_rgs (k := 58))]
  have : ((rgs R).any fun z => same z (rg r)) = decide (r ∈ R) := by
    rw [Bool.eq_iff_iff, decide_eq_true_iff]
    exact any_same fun _ _ => rg_inj
  rw [this]
theorem p_notinRgs {r : List Nat} {R : List (List Nat)} : Op.run .notin [.tuple (nats r), .list (rgs R)] = some (.bool (!decide (r ∈ R))) := p_notinOf p_inRgs
theorem Gr.ofA {n : Nat} {a : St} (h : GoodA n a) : Gr n a := ⟨h.len, fun i y e => (h.ok _ _ (up_some.mp e)).1⟩
end Lw

namespace G
open PySem MP
/-! _law_pen -/
def N_lpen : List Str := [(Str.ofString "_law_script")]
def P_lpen : List Str := [(Str.ofString "_law_script")]
def M_lpen : List Bool := [false]
def m_lpen : List Bool := [false]
def K_lpen : List (Nat × List Str × List Pk) := []
def B_lpen : Ss := (.cons (.ret (.prim .lst (.cons (.val (.prim .list (.cons (.val (.prim (.slice false false true) (.cons (.val (.var 0)) (.cons (.val (.con (.int 63))) .nil)))) .nil))) (.cons (.val (.con (.int 0))) (.cons (.val (.con (.int 0))) .nil))))) .nil)
def R_lpen : Mir := runF m_lpen true N_lpen.length B_lpen
def F_lpen : Fn := ⟨(Str.ofString "_law_pen"), m_lpen, true, R_lpen, K_lpen, true⟩
theorem ex_lpen (x0 : D) {Q : D → List D → Prop} (h : Rns (RetP [false] true Q) (evSs B_lpen [some x0])) : ∃ d outs, R_lpen [x0] = .ok d outs ∧ Q d outs := runF_ex (n := N_lpen.length) rfl h
theorem is_lpen (x0 : D) {d : D} {outs : List D} (h : Rns (RetP [false] true fun d' o => d' = d ∧ o = outs) (evSs B_lpen [some x0])) : R_lpen [x0] = .ok d outs := runF_is (n := N_lpen.length) rfl h
theorem call_lpen {os : List (Option Nat)} {ds : List D} {env : MP.Env} : runCall F_lpen os ds env = callOut [false] true os env (R_lpen ds) := runCall_eq
/-! _law_draw -/
def N_ldraw : List Str := [(Str.ofString "_law_pen_here"), (Str.ofString "_law_bound"), (Str.ofString "_law_at"), (Str.ofString "_law_cell"), (Str.ofString "_law_mixed"), (Str.ofString "_law_digit"), (Str.ofString "_law_large")]
def P_ldraw : List Str := [(Str.ofString "_law_pen_here"), (Str.ofString "_law_bound")]
def M_ldraw : List Bool := [true, false, false, false, false, false, false]
def m_ldraw : List Bool := [true, false]
def K_ldraw : List (Nat × List Str × List Pk) := []
def T_ldraw_1 : Ss := (.cons (.asg (.name 4) (.prim .mod (.cons (.val (.prim .pow (.cons (.val (.prim .add (.cons (.val (.prim .add (.cons (.val (.prim .mod (.cons (.val (.var 3)) (.cons (.val (.con (.int 2147483549))) .nil)))) (.cons (.val (.prim .mul (.cons (.val (.con (.int 40693))) (.cons (.val (.var 2)) .nil)))) .nil)))) (.cons (.val (.con (.int 97))) .nil)))) (.cons (.val (.con (.int 5))) .nil)))) (.cons (.val (.con (.int 2147483647))) .nil)))) (.cons (.asg (.name 4) (.prim .mod (.cons (.val (.prim .pow (.cons (.val (.prim .add (.cons (.val (.prim .mul (.cons (.val (.var 4)) (.cons (.val (.prim .add (.cons (.val (.var 2)) (.cons (.val (.con (.int 52774))) .nil)))) .nil)))) (.cons (.val (.prim .mul (.cons (.val (.prim .mul (.cons (.val (.con (.int 75403))) (.cons (.val (.var 2)) .nil)))) (.cons (.val (.var 2)) .nil)))) .nil)))) (.cons (.val (.con (.int 3))) .nil)))) (.cons (.val (.con (.int 2147483563))) .nil)))) (.cons (.ret (.prim .mod (.cons (.val (.prim .fdiv (.cons (.val (.var 4)) (.cons (.val (.con (.int 32))) .nil)))) (.cons (.val (.var 1)) .nil)))) .nil)))
def T_ldraw_2 : Ss := (.cons (.iff (.and (.prim .lt (.cons (.val (.var 2)) (.cons (.val (.prim .len (.cons (.val (.prim .idx (.cons (.own 0) (.cons (.val (.con (.int 0))) .nil)))) .nil))) .nil))) (.prim .ge (.cons (.val (.prim .abs (.cons (.val (.var 3)) .nil))) (.cons (.val (.prim .pow (.cons (.val (.con (.int 10))) (.cons (.val (.con (.int 18))) .nil)))) .nil)))) (.cons (.asg (.name 6) (.prim .add (.cons (.val (.prim .mul (.cons (.val (.con (.int 2))) (.cons (.val (.prim .abs (.cons (.val (.var 3)) .nil))) .nil)))) (.cons (.val (.prim .int (.cons (.val (.prim .lt (.cons (.val (.var 3)) (.cons (.val (.con (.int 0))) .nil)))) .nil))) .nil)))) (.cons (.setI 0 (.con (.int 2)) (.prim .fdiv (.cons (.val (.var 6)) (.cons (.val (.var 1)) .nil)))) (.cons (.ret (.prim .mod (.cons (.val (.var 6)) (.cons (.val (.var 1)) .nil)))) .nil))) .nil) T_ldraw_1)
def T_ldraw_3 : Ss := (.cons (.asg (.name 2) (.prim .idx (.cons (.own 0) (.cons (.val (.con (.int 1))) .nil)))) (.cons (.setI 0 (.con (.int 1)) (.prim .add (.cons (.val (.var 2)) (.cons (.val (.con (.int 1))) .nil)))) (.cons (.asg (.name 3) (.prim .add (.cons (.val (.prim .mul (.cons (.val (.con (.int 6151))) (.cons (.val (.var 2)) .nil)))) (.cons (.val (.con (.int 523))) .nil)))) (.cons (.iff (.prim .ne (.cons (.val (.prim .idx (.cons (.own 0) (.cons (.val (.con (.int 0))) .nil)))) (.cons (.val (.prim .lst .nil)) .nil))) (.cons (.asg (.name 3) (.prim .idx (.cons (.val (.prim .idx (.cons (.own 0) (.cons (.val (.con (.int 0))) .nil)))) (.cons (.val (.prim .mod (.cons (.val (.var 2)) (.cons (.val (.prim .len (.cons (.val (.prim .idx (.cons (.own 0) (.cons (.val (.con (.int 0))) .nil)))) .nil))) .nil)))) .nil)))) .nil) .nil) T_ldraw_2))))
def B_ldraw : Ss := (.cons (.iff (.prim .gt (.cons (.val (.prim .idx (.cons (.own 0) (.cons (.val (.con (.int 2))) .nil)))) (.cons (.val (.con (.int 0))) .nil))) (.cons (.asg (.name 5) (.prim .mod (.cons (.val (.prim .idx (.cons (.own 0) (.cons (.val (.con (.int 2))) .nil)))) (.cons (.val (.var 1)) .nil)))) (.cons (.setI 0 (.con (.int 2)) (.prim .fdiv (.cons (.val (.prim .idx (.cons (.own 0) (.cons (.val (.con (.int 2))) .nil)))) (.cons (.val (.var 1)) .nil)))) (.cons (.ret (.var 5)) .nil))) .nil) T_ldraw_3)
def R_ldraw : Mir := runF m_ldraw false N_ldraw.length B_ldraw
def F_ldraw : Fn := ⟨(Str.ofString "_law_draw"), m_ldraw, false, R_ldraw, K_ldraw, true⟩
theorem ex_ldraw (x0 x1 : D) {Q : D → List D → Prop} (h : Rns (RetP [true, false] false Q) (evSs B_ldraw [some x0, some x1, none, none, none, none, none])) : ∃ d outs, R_ldraw [x0, x1] = .ok d outs ∧ Q d outs := runF_ex (n := N_ldraw.length) rfl h
theorem is_ldraw (x0 x1 : D) {d : D} {outs : List D} (h : Rns (RetP [true, false] false fun d' o => d' = d ∧ o = outs) (evSs B_ldraw [some x0, some x1, none, none, none, none, none])) : R_ldraw [x0, x1] = .ok d outs := runF_is (n := N_ldraw.length) rfl h
theorem call_ldraw {os : List (Option Nat)} {ds : List D} {env : MP.Env} : runCall F_ldraw os ds env = callOut [true, false] false os env (R_ldraw ds) := runCall_eq
/-! _law_order -/
def N_lorder : List Str := [(Str.ofString "_law_pen_here"), (Str.ofString "_law_count_here"), (Str.ofString "_law_left"), (Str.ofString "_law_k")]
def P_lorder : List Str := [(Str.ofString "_law_pen_here"), (Str.ofString "_law_count_here")]
def M_lorder : List Bool := [true, false, true, false]
def m_lorder : List Bool := [true, false]
def K_lorder : List (Nat × List Str × List Pk) := []
def L_lorder_1 : E := (.lc (.mut .popAt 2 (.cons (.val (.call F_ldraw (.cons (.own 0) (.cons (.val (.prim .len (.cons (.own 2) .nil))) .nil)))) .nil)) (.name 3) .rng1 (.cons (.val (.var 1)) .nil) (.con (.bool true)))
def B_lorder : Ss := (.cons (.asgO 2 (.prim .lrng (.cons (.val (.var 1)) .nil))) (.cons (.ret L_lorder_1) .nil))
def R_lorder : Mir := runF m_lorder false N_lorder.length B_lorder
def F_lorder : Fn := ⟨(Str.ofString "_law_order"), m_lorder, false, R_lorder, K_lorder, true⟩
theorem ex_lorder (x0 x1 : D) {Q : D → List D → Prop} (h : Rns (RetP [true, false] false Q) (evSs B_lorder [some x0, some x1, none, none])) : ∃ d outs, R_lorder [x0, x1] = .ok d outs ∧ Q d outs := runF_ex (n := N_lorder.length) rfl h
theorem is_lorder (x0 x1 : D) {d : D} {outs : List D} (h : Rns (RetP [true, false] false fun d' o => d' = d ∧ o = outs) (evSs B_lorder [some x0, some x1, none, none])) : R_lorder [x0, x1] = .ok d outs := runF_is (n := N_lorder.length) rfl h
theorem call_lorder {os : List (Option Nat)} {ds : List D} {env : MP.Env} : runCall F_lorder os ds env = callOut [true, false] false os env (R_lorder ds) := runCall_eq
/-! _law_forest -/
def N_lforest : List Str := [(Str.ofString "_law_pen_here"), (Str.ofString "_law_count_here"), (Str.ofString "_law_order_here"), (Str.ofString "_law_contexts"), (Str.ofString "_law_way"), (Str.ofString "_law_k"), (Str.ofString "_law_some")]
def P_lforest : List Str := [(Str.ofString "_law_pen_here"), (Str.ofString "_law_count_here")]
def M_lforest : List Bool := [true, false, false, true, false, false, false]
def m_lforest : List Bool := [true, false]
def K_lforest : List (Nat × List Str × List Pk) := []
def D_lforest_1 : Ss := (.cons (.asg (.name 6) (.prim .lst (.cons (.val (.prim .idx (.cons (.val (.var 2)) (.cons (.val (.prim .sub (.cons (.val (.var 5)) (.cons (.val (.con (.int 1))) .nil)))) .nil)))) (.cons (.val (.prim .idx (.cons (.val (.var 2)) (.cons (.val (.call F_ldraw (.cons (.own 0) (.cons (.val (.var 5)) .nil)))) .nil)))) (.cons (.val (.prim .idx (.cons (.val (.var 2)) (.cons (.val (.con (.int 0))) .nil)))) (.cons (.val (.con .none)) .nil)))))) (.cons (.setI 3 (.prim .idx (.cons (.val (.var 2)) (.cons (.val (.var 5)) .nil))) (.prim .idx (.cons (.val (.var 6)) (.cons (.val (.prim .idx (.cons (.val (.prim .lst (.cons (.val (.con (.int 0))) (.cons (.val (.con (.int 1))) (.cons (.val (.call F_ldraw (.cons (.own 0) (.cons (.val (.con (.int 4))) .nil)))) (.cons (.val (.call F_ldraw (.cons (.own 0) (.cons (.val (.con (.int 2))) .nil)))) .nil)))))) (.cons (.val (.var 4)) .nil)))) .nil)))) .nil))
def W_lforest_1 : S := (.forr (.name 5) .rng2 (.cons (.val (.con (.int 1))) (.cons (.val (.var 1)) .nil)) D_lforest_1)
def T_lforest_1 : Ss := (.cons (.retO 3) .nil)
def B_lforest : Ss := (.cons (.asg (.name 2) (.call F_lorder (.cons (.own 0) (.cons (.val (.var 1)) .nil)))) (.cons (.asgO 3 (.prim .rep (.cons (.val (.prim .lst (.cons (.val (.con .none)) .nil))) (.cons (.val (.var 1)) .nil)))) (.cons (.asg (.name 4) (.call F_ldraw (.cons (.own 0) (.cons (.val (.con (.int 4))) .nil)))) (.cons W_lforest_1 T_lforest_1))))
def R_lforest : Mir := runF m_lforest false N_lforest.length B_lforest
def F_lforest : Fn := ⟨(Str.ofString "_law_forest"), m_lforest, false, R_lforest, K_lforest, true⟩
theorem ex_lforest (x0 x1 : D) {Q : D → List D → Prop} (h : Rns (RetP [true, false] false Q) (evSs B_lforest [some x0, some x1, none, none, none, none, none])) : ∃ d outs, R_lforest [x0, x1] = .ok d outs ∧ Q d outs := runF_ex (n := N_lforest.length) rfl h
theorem is_lforest (x0 x1 : D) {d : D} {outs : List D} (h : Rns (RetP [true, false] false fun d' o => d' = d ∧ o = outs) (evSs B_lforest [some x0, some x1, none, none, none, none, none])) : R_lforest [x0, x1] = .ok d outs := runF_is (n := N_lforest.length) rfl h
theorem call_lforest {os : List (Option Nat)} {ds : List D} {env : MP.Env} : runCall F_lforest os ds env = callOut [true, false] false os env (R_lforest ds) := runCall_eq
/-! _law_count -/
def N_lcount : List Str := [(Str.ofString "_law_pen_here")]
def P_lcount : List Str := [(Str.ofString "_law_pen_here")]
def M_lcount : List Bool := [true]
def m_lcount : List Bool := [true]
def K_lcount : List (Nat × List Str × List Pk) := []
def B_lcount : Ss := (.cons (.ret (.prim .idx (.cons (.val (.prim .lst (.cons (.val (.con (.int 1))) (.cons (.val (.con (.int 2))) (.cons (.val (.con (.int 3))) (.cons (.val (.prim .add (.cons (.val (.con (.int 1))) (.cons (.val (.call F_ldraw (.cons (.own 0) (.cons (.val (.con (.int 12))) .nil)))) .nil)))) (.cons (.val (.prim .add (.cons (.val (.con (.int 1))) (.cons (.val (.call F_ldraw (.cons (.own 0) (.cons (.val (.con (.int 40))) .nil)))) .nil)))) (.cons (.val (.prim .add (.cons (.val (.con (.int 39))) (.cons (.val (.call F_ldraw (.cons (.own 0) (.cons (.val (.con (.int 2))) .nil)))) .nil)))) .nil)))))))) (.cons (.val (.call F_ldraw (.cons (.own 0) (.cons (.val (.con (.int 6))) .nil)))) .nil)))) .nil)
def R_lcount : Mir := runF m_lcount false N_lcount.length B_lcount
def F_lcount : Fn := ⟨(Str.ofString "_law_count"), m_lcount, false, R_lcount, K_lcount, true⟩
theorem ex_lcount (x0 : D) {Q : D → List D → Prop} (h : Rns (RetP [true] false Q) (evSs B_lcount [some x0])) : ∃ d outs, R_lcount [x0] = .ok d outs ∧ Q d outs := runF_ex (n := N_lcount.length) rfl h
theorem is_lcount (x0 : D) {d : D} {outs : List D} (h : Rns (RetP [true] false fun d' o => d' = d ∧ o = outs) (evSs B_lcount [some x0])) : R_lcount [x0] = .ok d outs := runF_is (n := N_lcount.length) rfl h
theorem call_lcount {os : List (Option Nat)} {ds : List D} {env : MP.Env} : runCall F_lcount os ds env = callOut [true] false os env (R_lcount ds) := runCall_eq
/-! _law_closed -/
def N_lclosed : List Str := [(Str.ofString "_law_contexts"), (Str.ofString "_law_at"), (Str.ofString "_law_here")]
def P_lclosed : List Str := [(Str.ofString "_law_contexts"), (Str.ofString "_law_at")]
def M_lclosed : List Bool := [false, false, false]
def m_lclosed : List Bool := [false, false]
def K_lclosed : List (Nat × List Str × List Pk) := []
def D_lclosed_1 : Ss := (.cons (.asg (.name 2) (.prim .idx (.cons (.val (.var 0)) (.cons (.val (.var 2)) .nil)))) .nil)
def W_lclosed_1 : S := (.whl (fun _ => 100000) (.prim .notNone (.cons (.val (.prim .idx (.cons (.val (.var 0)) (.cons (.val (.var 2)) .nil)))) .nil)) D_lclosed_1)
def T_lclosed_1 : Ss := (.cons (.ret (.prim .add (.cons (.val (.prim .add (.cons (.val (.prim (.slice false false true) (.cons (.val (.var 0)) (.cons (.val (.var 2)) .nil)))) (.cons (.val (.prim .lst (.cons (.val (.var 1)) .nil))) .nil)))) (.cons (.val (.prim (.slice false true false) (.cons (.val (.var 0)) (.cons (.val (.prim .add (.cons (.val (.var 2)) (.cons (.val (.con (.int 1))) .nil)))) .nil)))) .nil)))) .nil)
def B_lclosed : Ss := (.cons (.asg (.name 2) (.var 1)) (.cons W_lclosed_1 T_lclosed_1))
def R_lclosed : Mir := runF m_lclosed false N_lclosed.length B_lclosed
def F_lclosed : Fn := ⟨(Str.ofString "_law_closed"), m_lclosed, false, R_lclosed, K_lclosed, true⟩
theorem ex_lclosed (x0 x1 : D) {Q : D → List D → Prop} (h : Rns (RetP [false, false] false Q) (evSs B_lclosed [some x0, some x1, none])) : ∃ d outs, R_lclosed [x0, x1] = .ok d outs ∧ Q d outs := runF_ex (n := N_lclosed.length) rfl h
theorem is_lclosed (x0 x1 : D) {d : D} {outs : List D} (h : Rns (RetP [false, false] false fun d' o => d' = d ∧ o = outs) (evSs B_lclosed [some x0, some x1, none])) : R_lclosed [x0, x1] = .ok d outs := runF_is (n := N_lclosed.length) rfl h
theorem call_lclosed {os : List (Option Nat)} {ds : List D} {env : MP.Env} : runCall F_lclosed os ds env = callOut [false, false] false os env (R_lclosed ds) := runCall_eq
/-! _law_near -/
def N_lnear : List Str := [(Str.ofString "_law_pen_here"), (Str.ofString "_law_contexts"), (Str.ofString "_law_count_here"), (Str.ofString "_law_at"), (Str.ofString "_law_odd"), (Str.ofString "_law_entry"), (Str.ofString "_law_way")]
def P_lnear : List Str := [(Str.ofString "_law_pen_here"), (Str.ofString "_law_contexts")]
def M_lnear : List Bool := [true, false, false, false, false, false, false]
def m_lnear : List Bool := [true, false]
def K_lnear : List (Nat × List Str × List Pk) := []
def T_lnear_1 : Ss := (.cons (.ret (.var 1)) .nil)
def T_lnear_2 : Ss := (.cons (.iff (.prim .eq (.cons (.val (.var 6)) (.cons (.val (.con (.int 7))) .nil))) (.cons (.ret (.prim .idx (.cons (.val (.prim .lst (.cons (.val (.con .none)) (.cons (.val (.con (.int 0))) (.cons (.val (.con (.str (Str.ofString "")))) (.cons (.val (.prim .dnew .nil)) (.cons (.val (.con (.bool true))) (.cons (.val (.prim .lst (.cons (.val (.prim .lst (.cons (.val (.con .none)) .nil))) .nil))) (.cons (.val (.prim .lst (.cons (.val (.prim .tup (.cons (.val (.con .none)) .nil))) .nil))) (.cons (.val (.prim .pow (.cons (.val (.con (.int 10))) (.cons (.val (.con (.int 30))) .nil)))) .nil)))))))))) (.cons (.val (.call F_ldraw (.cons (.own 0) (.cons (.val (.con (.int 8))) .nil)))) .nil)))) .nil) .nil) T_lnear_1)
def T_lnear_3 : Ss := (.cons (.iff (.prim .eq (.cons (.val (.var 6)) (.cons (.val (.con (.int 6))) .nil))) (.cons (.ret (.prim (.slice false false true) (.cons (.val (.var 1)) (.cons (.val (.var 3)) .nil)))) .nil) .nil) T_lnear_2)
def T_lnear_4 : Ss := (.cons (.iff (.prim .eq (.cons (.val (.var 6)) (.cons (.val (.con (.int 5))) .nil))) (.cons (.ret (.prim (.slice false false true) (.cons (.val (.prim .add (.cons (.val (.call F_lclosed (.cons (.val (.var 1)) (.cons (.val (.var 3)) .nil)))) (.cons (.val (.prim .mul (.cons (.val (.prim .lst (.cons (.val (.con .none)) .nil))) (.cons (.val (.con (.int 40))) .nil)))) .nil)))) (.cons (.val (.prim .add (.cons (.val (.con (.int 1))) (.cons (.val (.call F_ldraw (.cons (.own 0) (.cons (.val (.con (.int 42))) .nil)))) .nil)))) .nil)))) .nil) .nil) T_lnear_3)
def T_lnear_5 : Ss := (.cons (.iff (.prim .lt (.cons (.val (.var 6)) (.cons (.val (.con (.int 5))) .nil))) (.cons (.ret (.call F_lclosed (.cons (.val (.var 1)) (.cons (.val (.var 3)) .nil)))) .nil) .nil) T_lnear_4)
def B_lnear : Ss := (.cons (.asg (.name 2) (.prim .len (.cons (.val (.var 1)) .nil))) (.cons (.asg (.name 3) (.call F_ldraw (.cons (.own 0) (.cons (.val (.var 2)) .nil)))) (.cons (.asg (.name 4) (.prim .lst (.cons (.val (.var 3)) (.cons (.val (.var 2)) (.cons (.val (.prim .neg (.cons (.val (.con (.int 1))) .nil))) (.cons (.val (.con (.bool true))) (.cons (.val (.con (.bool false))) (.cons (.val (.con .none)) (.cons (.val (.con (.str (Str.ofString "0")))) (.cons (.val (.con (.str (Str.ofString "")))) (.cons (.val (.prim .tup .nil)) (.cons (.val (.prim .lst .nil)) (.cons (.val (.prim .dnew .nil)) (.cons (.val (.prim .tup (.cons (.val (.con (.int 0))) .nil))) (.cons (.val (.prim .lst (.cons (.val (.con (.int 0))) .nil))) (.cons (.val (.prim .pow (.cons (.val (.con (.int 10))) (.cons (.val (.con (.int 40))) .nil)))) (.cons (.val (.prim .sub (.cons (.val (.con (.int 0))) (.cons (.val (.var 2)) .nil)))) (.cons (.val (.con (.int 40))) (.cons (.val (.con (.int 0))) (.cons (.val (.prim (.dlit 0 (some 1)) .nil)) .nil)))))))))))))))))))) (.cons (.asg (.name 5) (.prim .idx (.cons (.val (.prim .add (.cons (.val (.var 4)) (.cons (.val (.prim .lst (.cons (.val (.call F_ldraw (.cons (.own 0) (.cons (.val (.var 2)) .nil)))) (.cons (.val (.prim .sub (.cons (.val (.var 2)) (.cons (.val (.con (.int 1))) .nil)))) .nil)))) .nil)))) (.cons (.val (.call F_ldraw (.cons (.own 0) (.cons (.val (.con (.int 20))) .nil)))) .nil)))) (.cons (.asg (.name 6) (.call F_ldraw (.cons (.own 0) (.cons (.val (.con (.int 9))) .nil)))) (.cons (.iff (.prim .lt (.cons (.val (.var 6)) (.cons (.val (.con (.int 3))) .nil))) (.cons (.ret (.prim .add (.cons (.val (.prim .add (.cons (.val (.prim (.slice false false true) (.cons (.val (.var 1)) (.cons (.val (.var 3)) .nil)))) (.cons (.val (.prim .lst (.cons (.val (.var 5)) .nil))) .nil)))) (.cons (.val (.prim (.slice false true false) (.cons (.val (.var 1)) (.cons (.val (.prim .add (.cons (.val (.var 3)) (.cons (.val (.con (.int 1))) .nil)))) .nil)))) .nil)))) .nil) .nil) T_lnear_5))))))
def R_lnear : Mir := runF m_lnear false N_lnear.length B_lnear
def F_lnear : Fn := ⟨(Str.ofString "_law_near"), m_lnear, false, R_lnear, K_lnear, true⟩
theorem ex_lnear (x0 x1 : D) {Q : D → List D → Prop} (h : Rns (RetP [true, false] false Q) (evSs B_lnear [some x0, some x1, none, none, none, none, none])) : ∃ d outs, R_lnear [x0, x1] = .ok d outs ∧ Q d outs := runF_ex (n := N_lnear.length) rfl h
theorem is_lnear (x0 x1 : D) {d : D} {outs : List D} (h : Rns (RetP [true, false] false fun d' o => d' = d ∧ o = outs) (evSs B_lnear [some x0, some x1, none, none, none, none, none])) : R_lnear [x0, x1] = .ok d outs := runF_is (n := N_lnear.length) rfl h
theorem call_lnear {os : List (Option Nat)} {ds : List D} {env : MP.Env} : runCall F_lnear os ds env = callOut [true, false] false os env (R_lnear ds) := runCall_eq
/-! _law_is_state -/
def N_lis_state : List Str := [(Str.ofString "_law_item"), (Str.ofString "_law_here"), (Str.ofString "_law_step"), (Str.ofString "_law_index"), (Str.ofString "_law_entry"), (Str.ofString "_law_one")]
def P_lis_state : List Str := [(Str.ofString "_law_item")]
def M_lis_state : List Bool := [false, false, false, false, false, false]
def m_lis_state : List Bool := [false]
def K_lis_state : List (Nat × List Str × List Pk) := []
def T_lis_state_1 : Ss := (.cons (.iff (.and (.prim .notNone (.cons (.val (.var 4)) .nil)) (.or (.prim .eq (.cons (.val (.var 4)) (.cons (.val (.var 3)) .nil))) (.not (.chain .le .lt (.con (.int 0)) (.var 4) (.prim .len (.cons (.val (.var 0)) .nil)))))) (.cons (.ret (.con (.bool false))) .nil) .nil) .nil)
def D_lis_state_1 : Ss := (.cons (.iff (.and (.prim .notNone (.cons (.val (.var 4)) .nil)) (.or (.not (.prim (.isi ["int"] true) (.cons (.val (.var 4)) .nil))) (.prim (.isi ["bool"] true) (.cons (.val (.var 4)) .nil)))) (.cons (.ret (.con (.bool false))) .nil) .nil) T_lis_state_1)
def W_lis_state_1 : S := (.forr (.two (.name 3) (.name 4)) .enum (.cons (.val (.var 0)) .nil) D_lis_state_1)
def L_lis_state_1 : E := (.lc (.prim .idx (.cons (.val (.var 0)) (.cons (.val (.var 5)) .nil))) (.name 5) .seq (.cons (.val (.var 1)) .nil) (.prim .notNone (.cons (.val (.var 5)) .nil)))
def D_lis_state_2 : Ss := (.cons (.asg (.name 1) L_lis_state_1) .nil)
def W_lis_state_2 : S := (.forr (.name 2) .rng1 (.cons (.val (.prim .len (.cons (.val (.var 0)) .nil))) .nil) D_lis_state_2)
def L_lis_state_2 : E := (.lc (.var 5) (.name 5) .seq (.cons (.val (.var 1)) .nil) (.prim .notNone (.cons (.val (.var 5)) .nil)))
def T_lis_state_2 : Ss := (.cons (.ret (.prim .eq (.cons (.val L_lis_state_2) (.cons (.val (.prim .lst .nil)) .nil)))) .nil)
def T_lis_state_3 : Ss := (.cons (.asg (.name 1) (.prim .lrng (.cons (.val (.prim .len (.cons (.val (.var 0)) .nil))) .nil))) (.cons W_lis_state_2 T_lis_state_2))
def T_lis_state_4 : Ss := (.cons W_lis_state_1 T_lis_state_3)
def B_lis_state : Ss := (.cons (.iff (.or (.not (.prim (.isi ["tuple"] true) (.cons (.val (.var 0)) .nil))) (.not (.chain .le .le (.con (.int 1)) (.prim .len (.cons (.val (.var 0)) .nil)) (.con (.int 40))))) (.cons (.ret (.con (.bool false))) .nil) .nil) T_lis_state_4)
def R_lis_state : Mir := runF m_lis_state false N_lis_state.length B_lis_state
def F_lis_state : Fn := ⟨(Str.ofString "_law_is_state"), m_lis_state, false, R_lis_state, K_lis_state, true⟩
theorem ex_lis_state (x0 : D) {Q : D → List D → Prop} (h : Rns (RetP [false] false Q) (evSs B_lis_state [some x0, none, none, none, none, none])) : ∃ d outs, R_lis_state [x0] = .ok d outs ∧ Q d outs := runF_ex (n := N_lis_state.length) rfl h
theorem is_lis_state (x0 : D) {d : D} {outs : List D} (h : Rns (RetP [false] false fun d' o => d' = d ∧ o = outs) (evSs B_lis_state [some x0, none, none, none, none, none])) : R_lis_state [x0] = .ok d outs := runF_is (n := N_lis_state.length) rfl h
theorem call_lis_state {os : List (Option Nat)} {ds : List D} {env : MP.Env} : runCall F_lis_state os ds env = callOut [false] false os env (R_lis_state ds) := runCall_eq
/-! leads_back -/
def N_leads_back : List Str := [(Str.ofString "contexts"), (Str.ofString "exception"), (Str.ofString "here"), (Str.ofString "step")]
def P_leads_back : List Str := [(Str.ofString "contexts"), (Str.ofString "exception")]
def M_leads_back : List Bool := [false, false, false, false]
def m_leads_back : List Bool := [false, false]
def K_leads_back : List (Nat × List Str × List Pk) := []
def T_leads_back_1 : Ss := (.cons (.asg (.name 2) (.prim .idx (.cons (.val (.var 0)) (.cons (.val (.var 2)) .nil)))) .nil)
def D_leads_back_1 : Ss := (.cons (.iff (.or (.prim .isNone (.cons (.val (.var 2)) .nil)) (.prim .eq (.cons (.val (.var 2)) (.cons (.val (.var 1)) .nil)))) (.cons (.ret (.prim .eq (.cons (.val (.var 2)) (.cons (.val (.var 1)) .nil)))) .nil) .nil) T_leads_back_1)
def W_leads_back_1 : S := (.forr (.name 3) .rng1 (.cons (.val (.prim .len (.cons (.val (.var 0)) .nil))) .nil) D_leads_back_1)
def T_leads_back_2 : Ss := (.cons (.ret (.con (.bool false))) .nil)
def B_leads_back : Ss := (.cons (.asg (.name 2) (.prim .idx (.cons (.val (.var 0)) (.cons (.val (.var 1)) .nil)))) (.cons W_leads_back_1 T_leads_back_2))
def R_leads_back : Mir := runF m_leads_back false N_leads_back.length B_leads_back
def F_leads_back : Fn := ⟨(Str.ofString "leads_back"), m_leads_back, false, R_leads_back, K_leads_back, true⟩
theorem ex_leads_back (x0 x1 : D) {Q : D → List D → Prop} (h : Rns (RetP [false, false] false Q) (evSs B_leads_back [some x0, some x1, none, none])) : ∃ d outs, R_leads_back [x0, x1] = .ok d outs ∧ Q d outs := runF_ex (n := N_leads_back.length) rfl h
theorem is_leads_back (x0 x1 : D) {d : D} {outs : List D} (h : Rns (RetP [false, false] false fun d' o => d' = d ∧ o = outs) (evSs B_leads_back [some x0, some x1, none, none])) : R_leads_back [x0, x1] = .ok d outs := runF_is (n := N_leads_back.length) rfl h
theorem call_leads_back {os : List (Option Nat)} {ds : List D} {env : MP.Env} : runCall F_leads_back os ds env = callOut [false, false] false os env (R_leads_back ds) := runCall_eq
/-! least_on_cycle -/
def N_least_on_cycle : List Str := [(Str.ofString "contexts"), (Str.ofString "exception")]
def P_least_on_cycle : List Str := [(Str.ofString "contexts")]
def M_least_on_cycle : List Bool := [false, false]
def m_least_on_cycle : List Bool := [false]
def K_least_on_cycle : List (Nat × List Str × List Pk) := []
def D_least_on_cycle_1 : Ss := (.cons (.iff (.call F_leads_back (.cons (.val (.var 0)) (.cons (.val (.var 1)) .nil))) (.cons (.ret (.var 1)) .nil) .nil) .nil)
def W_least_on_cycle_1 : S := (.forr (.name 1) .rng1 (.cons (.val (.prim .len (.cons (.val (.var 0)) .nil))) .nil) D_least_on_cycle_1)
def T_least_on_cycle_1 : Ss := (.cons (.ret (.con .none)) .nil)
def B_least_on_cycle : Ss := (.cons W_least_on_cycle_1 T_least_on_cycle_1)
def R_least_on_cycle : Mir := runF m_least_on_cycle false N_least_on_cycle.length B_least_on_cycle
def F_least_on_cycle : Fn := ⟨(Str.ofString "least_on_cycle"), m_least_on_cycle, false, R_least_on_cycle, K_least_on_cycle, true⟩
theorem ex_least_on_cycle (x0 : D) {Q : D → List D → Prop} (h : Rns (RetP [false] false Q) (evSs B_least_on_cycle [some x0, none])) : ∃ d outs, R_least_on_cycle [x0] = .ok d outs ∧ Q d outs := runF_ex (n := N_least_on_cycle.length) rfl h
theorem is_least_on_cycle (x0 : D) {d : D} {outs : List D} (h : Rns (RetP [false] false fun d' o => d' = d ∧ o = outs) (evSs B_least_on_cycle [some x0, none])) : R_least_on_cycle [x0] = .ok d outs := runF_is (n := N_least_on_cycle.length) rfl h
theorem call_least_on_cycle {os : List (Option Nat)} {ds : List D} {env : MP.Env} : runCall F_least_on_cycle os ds env = callOut [false] false os env (R_least_on_cycle ds) := runCall_eq
/-! is_integer -/
def N_is_integer : List Str := [(Str.ofString "value")]
def P_is_integer : List Str := [(Str.ofString "value")]
def M_is_integer : List Bool := [false]
def m_is_integer : List Bool := [false]
def K_is_integer : List (Nat × List Str × List Pk) := []
def B_is_integer : Ss := (.cons (.ret (.and (.prim (.isi ["int"] true) (.cons (.val (.var 0)) .nil)) (.not (.prim (.isi ["bool"] true) (.cons (.val (.var 0)) .nil))))) .nil)
def R_is_integer : Mir := runF m_is_integer false N_is_integer.length B_is_integer
def F_is_integer : Fn := ⟨(Str.ofString "is_integer"), m_is_integer, false, R_is_integer, K_is_integer, true⟩
theorem ex_is_integer (x0 : D) {Q : D → List D → Prop} (h : Rns (RetP [false] false Q) (evSs B_is_integer [some x0])) : ∃ d outs, R_is_integer [x0] = .ok d outs ∧ Q d outs := runF_ex (n := N_is_integer.length) rfl h
theorem is_is_integer (x0 : D) {d : D} {outs : List D} (h : Rns (RetP [false] false fun d' o => d' = d ∧ o = outs) (evSs B_is_integer [some x0])) : R_is_integer [x0] = .ok d outs := runF_is (n := N_is_integer.length) rfl h
theorem call_is_integer {os : List (Option Nat)} {ds : List D} {env : MP.Env} : runCall F_is_integer os ds env = callOut [false] false os env (R_is_integer ds) := runCall_eq
/-! is_exception -/
def N_is_exception : List Str := [(Str.ofString "count"), (Str.ofString "value")]
def P_is_exception : List Str := [(Str.ofString "count"), (Str.ofString "value")]
def M_is_exception : List Bool := [false, false]
def m_is_exception : List Bool := [false, false]
def K_is_exception : List (Nat × List Str × List Pk) := []
def B_is_exception : Ss := (.cons (.ret (.and (.call F_is_integer (.cons (.val (.var 1)) .nil)) (.chain .le .lt (.con (.int 0)) (.var 1) (.var 0)))) .nil)
def R_is_exception : Mir := runF m_is_exception false N_is_exception.length B_is_exception
def F_is_exception : Fn := ⟨(Str.ofString "is_exception"), m_is_exception, false, R_is_exception, K_is_exception, true⟩
theorem ex_is_exception (x0 x1 : D) {Q : D → List D → Prop} (h : Rns (RetP [false, false] false Q) (evSs B_is_exception [some x0, some x1])) : ∃ d outs, R_is_exception [x0, x1] = .ok d outs ∧ Q d outs := runF_ex (n := N_is_exception.length) rfl h
theorem is_is_exception (x0 x1 : D) {d : D} {outs : List D} (h : Rns (RetP [false, false] false fun d' o => d' = d ∧ o = outs) (evSs B_is_exception [some x0, some x1])) : R_is_exception [x0, x1] = .ok d outs := runF_is (n := N_is_exception.length) rfl h
theorem call_is_exception {os : List (Option Nat)} {ds : List D} {env : MP.Env} : runCall F_is_exception os ds env = callOut [false, false] false os env (R_is_exception ds) := runCall_eq
/-! wrong_entry -/
def N_wrong_entry : List Str := [(Str.ofString "contexts"), (Str.ofString "index"), (Str.ofString "entry")]
def P_wrong_entry : List Str := [(Str.ofString "contexts")]
def M_wrong_entry : List Bool := [false, false, false]
def m_wrong_entry : List Bool := [false]
def K_wrong_entry : List (Nat × List Str × List Pk) := []
def D_wrong_entry_1 : Ss := (.cons (.iff (.and (.prim .notNone (.cons (.val (.var 2)) .nil)) (.or (.not (.call F_is_exception (.cons (.val (.prim .len (.cons (.val (.var 0)) .nil))) (.cons (.val (.var 2)) .nil)))) (.prim .eq (.cons (.val (.var 2)) (.cons (.val (.var 1)) .nil))))) (.cons (.ret (.var 1)) .nil) .nil) .nil)
def W_wrong_entry_1 : S := (.forr (.two (.name 1) (.name 2)) .enum (.cons (.val (.var 0)) .nil) D_wrong_entry_1)
def T_wrong_entry_1 : Ss := (.cons (.ret (.con .none)) .nil)
def B_wrong_entry : Ss := (.cons W_wrong_entry_1 T_wrong_entry_1)
def R_wrong_entry : Mir := runF m_wrong_entry false N_wrong_entry.length B_wrong_entry
def F_wrong_entry : Fn := ⟨(Str.ofString "wrong_entry"), m_wrong_entry, false, R_wrong_entry, K_wrong_entry, true⟩
theorem ex_wrong_entry (x0 : D) {Q : D → List D → Prop} (h : Rns (RetP [false] false Q) (evSs B_wrong_entry [some x0, none, none])) : ∃ d outs, R_wrong_entry [x0] = .ok d outs ∧ Q d outs := runF_ex (n := N_wrong_entry.length) rfl h
theorem is_wrong_entry (x0 : D) {d : D} {outs : List D} (h : Rns (RetP [false] false fun d' o => d' = d ∧ o = outs) (evSs B_wrong_entry [some x0, none, none])) : R_wrong_entry [x0] = .ok d outs := runF_is (n := N_wrong_entry.length) rfl h
theorem call_wrong_entry {os : List (Option Nat)} {ds : List D} {env : MP.Env} : runCall F_wrong_entry os ds env = callOut [false] false os env (R_wrong_entry ds) := runCall_eq
/-! is_state -/
def N_is_state : List Str := [(Str.ofString "value")]
def P_is_state : List Str := [(Str.ofString "value")]
def M_is_state : List Bool := [false]
def m_is_state : List Bool := [false]
def K_is_state : List (Nat × List Str × List Pk) := [(0, [(Str.ofString "value")], [.arg 0])]
def T_is_state_1 : Ss := (.cons (.ret (.and (.prim .isNone (.cons (.val (.call F_wrong_entry (.cons (.val (.var 0)) .nil))) .nil)) (.prim .isNone (.cons (.val (.call F_least_on_cycle (.cons (.val (.var 0)) .nil))) .nil)))) .nil)
def B_is_state : Ss := (.cons (.iff (.or (.not (.prim (.isi ["tuple"] true) (.cons (.val (.var 0)) .nil))) (.not (.chain .le .le (.con (.int 1)) (.prim .len (.cons (.val (.var 0)) .nil)) (.glb (Str.ofString "MOST_COUNT") (.int 40))))) (.cons (.ret (.con (.bool false))) .nil) .nil) T_is_state_1)
def R_is_state : Mir := runF m_is_state false N_is_state.length B_is_state
def F_is_state : Fn := ⟨(Str.ofString "is_state"), m_is_state, false, R_is_state, K_is_state, true⟩
theorem ex_is_state (x0 : D) {Q : D → List D → Prop} (h : Rns (RetP [false] false Q) (evSs B_is_state [some x0])) : ∃ d outs, R_is_state [x0] = .ok d outs ∧ Q d outs := runF_ex (n := N_is_state.length) rfl h
theorem is_is_state (x0 : D) {d : D} {outs : List D} (h : Rns (RetP [false] false fun d' o => d' = d ∧ o = outs) (evSs B_is_state [some x0])) : R_is_state [x0] = .ok d outs := runF_is (n := N_is_state.length) rfl h
theorem call_is_state {os : List (Option Nat)} {ds : List D} {env : MP.Env} : runCall F_is_state os ds env = callOut [false] false os env (R_is_state ds) := runCall_eq
/-! _law_told -/
def N_ltold : List Str := [(Str.ofString "_law_item"), (Str.ofString "_law_kept"), (Str.ofString "_law_due")]
def P_ltold : List Str := [(Str.ofString "_law_item")]
def M_ltold : List Bool := [false, false, false]
def m_ltold : List Bool := [false]
def K_ltold : List (Nat × List Str × List Pk) := []
def B_ltold : Ss := (.cons (.asg (.name 1) (.prim .repr (.cons (.val (.var 0)) .nil))) (.cons (.asg (.name 2) (.prim .repr (.cons (.val (.call F_lis_state (.cons (.val (.var 0)) .nil))) .nil))) (.cons (.ret (.and (.prim .eq (.cons (.val (.prim .repr (.cons (.val (.call F_is_state (.cons (.val (.var 0)) .nil))) .nil))) (.cons (.val (.var 2)) .nil))) (.and (.prim .eq (.cons (.val (.prim .repr (.cons (.val (.callK F_is_state .nil (.cons (.val (.var 0)) .nil) [(Str.ofString "value")] [.arg 0])) .nil))) (.cons (.val (.var 2)) .nil))) (.prim .eq (.cons (.val (.prim .repr (.cons (.val (.var 0)) .nil))) (.cons (.val (.var 1)) .nil)))))) .nil)))
def R_ltold : Mir := runF m_ltold false N_ltold.length B_ltold
def F_ltold : Fn := ⟨(Str.ofString "_law_told"), m_ltold, false, R_ltold, K_ltold, true⟩
theorem ex_ltold (x0 : D) {Q : D → List D → Prop} (h : Rns (RetP [false] false Q) (evSs B_ltold [some x0, none, none])) : ∃ d outs, R_ltold [x0] = .ok d outs ∧ Q d outs := runF_ex (n := N_ltold.length) rfl h
theorem is_ltold (x0 : D) {d : D} {outs : List D} (h : Rns (RetP [false] false fun d' o => d' = d ∧ o = outs) (evSs B_ltold [some x0, none, none])) : R_ltold [x0] = .ok d outs := runF_is (n := N_ltold.length) rfl h
theorem call_ltold {os : List (Option Nat)} {ds : List D} {env : MP.Env} : runCall F_ltold os ds env = callOut [false] false os env (R_ltold ds) := runCall_eq
/-! law -/
def N_law : List Str := [(Str.ofString "_law_script"), (Str.ofString "_law_pen_here"), (Str.ofString "_law_turn"), (Str.ofString "_law_odd"), (Str.ofString "_law_contexts"), (Str.ofString "_law_some"), (Str.ofString "_law_k"), (Str.ofString "_law_near_here"), (Str.ofString "_law_item")]
def P_law : List Str := [(Str.ofString "_law_script")]
def M_law : List Bool := [false, true, false, false, false, true, false, false, false]
def m_law : List Bool := [false]
def K_law : List (Nat × List Str × List Pk) := []
def D_law_1 : Ss := (.cons (.asg (.name 7) (.call F_lnear (.cons (.own 1) (.cons (.val (.var 4)) .nil)))) (.cons (.exp (.mut .append 5 (.cons (.val (.var 7)) .nil))) (.cons (.iff (.prim (.isi ["list"] true) (.cons (.val (.var 7)) .nil)) (.cons (.asgO 5 (.prim .cat (.cons (.own 5) (.cons (.val (.prim .lst (.cons (.val (.prim .tuple (.cons (.val (.var 7)) .nil))) (.cons (.val (.prim .tup (.cons (.val (.prim .tuple (.cons (.val (.var 7)) .nil))) .nil))) (.cons (.val (.ddv 0 7)) .nil))))) .nil)))) .nil) .nil) .nil)))
def W_law_1 : S := (.forr (.name 6) .rng1 (.cons (.val (.con (.int 4))) .nil) D_law_1)
def L_law_1 : E := (.lc (.var 8) (.name 8) .seq (.cons (.own 5) .nil) (.not (.call F_ltold (.cons (.val (.var 8)) .nil))))
def T_law_1 : Ss := (.cons (.iff (.prim .ne (.cons (.val L_law_1) (.cons (.val (.prim .lst .nil)) .nil))) (.cons (.ret (.con (.bool false))) .nil) .nil) .nil)
def D_law_2 : Ss := (.cons (.asg (.name 4) (.call F_lforest (.cons (.own 1) (.cons (.val (.call F_lcount (.cons (.own 1) .nil))) .nil)))) (.cons (.asgO 5 (.prim .lst (.cons (.val (.prim .tuple (.cons (.val (.var 4)) .nil))) (.cons (.val (.var 4)) (.cons (.val (.prim .tuple (.cons (.val (.call F_lclosed (.cons (.val (.var 4)) (.cons (.val (.call F_ldraw (.cons (.own 1) (.cons (.val (.prim .len (.cons (.val (.var 4)) .nil))) .nil)))) .nil)))) .nil))) .nil))))) (.cons W_law_1 T_law_1)))
def W_law_2 : S := (.forr (.name 2) .rng1 (.cons (.val (.con (.int 6))) .nil) D_law_2)
def L_law_2 : E := (.lc (.var 8) (.name 8) .seq (.cons (.val (.var 3)) .nil) (.not (.call F_ltold (.cons (.val (.var 8)) .nil))))
def T_law_2 : Ss := (.cons (.asg (.name 3) (.prim .lst (.cons (.val (.con .none)) (.cons (.val (.con (.bool true))) (.cons (.val (.con (.int 0))) (.cons (.val (.con (.int 1))) (.cons (.val (.con (.str (Str.ofString "")))) (.cons (.val (.con (.str (Str.ofString "None")))) (.cons (.val (.prim .tup .nil)) (.cons (.val (.prim .lst .nil)) (.cons (.val (.prim .dnew .nil)) (.cons (.val (.prim .tup (.cons (.val (.con .none)) .nil))) (.cons (.val (.prim .tup (.cons (.val (.con (.int 0))) .nil))) (.cons (.val (.prim .mul (.cons (.val (.prim .tup (.cons (.val (.con .none)) .nil))) (.cons (.val (.con (.int 40))) .nil)))) (.cons (.val (.prim .mul (.cons (.val (.prim .tup (.cons (.val (.con .none)) .nil))) (.cons (.val (.con (.int 41))) .nil)))) (.cons (.val (.prim .tup (.cons (.val (.con .none)) (.cons (.val (.con (.int 0))) (.cons (.val (.con (.int 3))) (.cons (.val (.con (.int 2))) .nil)))))) .nil)))))))))))))))) (.cons (.asg (.name 3) (.prim .add (.cons (.val (.var 3)) (.cons (.val (.prim .lst (.cons (.val (.prim .tup (.cons (.val (.con .none)) (.cons (.val (.con (.bool true))) .nil)))) (.cons (.val (.prim .tup (.cons (.val (.con .none)) (.cons (.val (.con (.bool false))) .nil)))) (.cons (.val (.prim .tup (.cons (.val (.con (.int 1))) (.cons (.val (.con .none)) (.cons (.val (.con .none)) .nil))))) (.cons (.val (.prim .tup (.cons (.val (.prim .tup (.cons (.val (.con .none)) .nil))) .nil))) (.cons (.val (.prim .tup (.cons (.val (.con .none)) (.cons (.val (.prim .tup (.cons (.val (.con (.int 0))) .nil))) .nil)))) (.cons (.val (.prim .tup (.cons (.val (.con .none)) (.cons (.val (.prim .lst (.cons (.val (.con (.int 0))) .nil))) .nil)))) (.cons (.val (.prim .tup (.cons (.val (.con .none)) (.cons (.val (.prim .dnew .nil)) .nil)))) .nil))))))))) .nil)))) (.cons (.ret (.prim .eq (.cons (.val L_law_2) (.cons (.val (.prim .lst .nil)) .nil)))) .nil)))
def B_law : Ss := (.cons (.asgO 1 (.call F_lpen (.cons (.val (.var 0)) .nil))) (.cons W_law_2 T_law_2))
def R_law : Mir := runF m_law false N_law.length B_law
def F_law : Fn := ⟨(Str.ofString "law"), m_law, false, R_law, K_law, true⟩
theorem ex_law (x0 : D) {Q : D → List D → Prop} (h : Rns (RetP [false] false Q) (evSs B_law [some x0, none, none, none, none, none, none, none, none])) : ∃ d outs, R_law [x0] = .ok d outs ∧ Q d outs := runF_ex (n := N_law.length) rfl h
theorem is_law (x0 : D) {d : D} {outs : List D} (h : Rns (RetP [false] false fun d' o => d' = d ∧ o = outs) (evSs B_law [some x0, none, none, none, none, none, none, none, none])) : R_law [x0] = .ok d outs := runF_is (n := N_law.length) rfl h
theorem call_law {os : List (Option Nat)} {ds : List D} {env : MP.Env} : runCall F_law os ds env = callOut [false] false os env (R_law ds) := runCall_eq
end G
namespace G
open PySem MP Lw
local macro_rules | `(tactic| simp! [$xs,*]) => `(tactic| simp -implicitDefEqProofs only [m_bind, m_go, m_next, m_ret, m_brk, m_cnt, m_exc, m_excE, m_excB, m_kThen, m_gogo, m_isT, m_isTx, m_get0, m_getS, m_get, m_gets, m_nxt, m_iteSt, m_iteSf, m_iteRt, m_iteRf, m_iteRb, m_iteRo, m_set0, m_setS, m_kDdv, e_ddv, e_var, e_con, e_glb, m_kRun, e_prim, m_primK, m_kAnd, m_kOr, m_kNot, m_kIte, m_iteQt, m_iteQf, e_and, e_or, e_not, e_ite, m_kOrv0, m_kOrvS, e_orv, m_kRun2, m_chK, m_kCh2, m_kCh1, e_chain, m_callK, m_kPut, m_callOut, m_lends0, m_lendsF, m_lendsS, m_lendsT, m_inouts0, m_inoutsF, m_inoutsN, m_inoutsS, m_putAll0, m_putAllS, m_plainI, m_plainN, m_plainB, m_kCall, e_call, m_callE, m_kKw, e_callK, m_putM, m_kMut2, m_kMut1, m_mutK, m_kMut0, e_mut, as_nil, m_kCons, m_kAs, as_cons, o_val, m_kOwn, o_own, fx_nil, fxC_some, fx_val, fxO_some, fx_own, own_nil, own_val, own_own, tl_nil, tl_cons, m_sl2K, m_kSl3, m_kSl2, m_sl2L, m_kSl1, e_sl2, m_kMthR, m_mthG, m_kMth2, m_mthGet1, m_mthGet2, m_mthIndex, m_mthIndexT, m_mthCount, m_kMth1, e_mth, fixO_val, fixO_own, m_kIt2, m_kIt1, m_evI, ss_nil, ss_cons, m_kAsg, s_asg, m_kAsgO, s_asgO, m_kSwp2, m_kSwp1, s_swp, m_kMov, s_mov, m_kSet3, m_kSet2, m_kSet1, s_setI, setK0, setK1, setK2, m_kAug1, m_kAug, s_augm, m_augI, m_augS, m_kAugO2, m_kAugO1, s_augmO, m_kExp, s_exp, m_kIff, s_iff, m_kRet, s_ret, s_retO, m_retT1, m_retT2, m_retT3, m_retT4, m_kRetT, s_retT, s_retN, s_brk, s_cnt, s_pass, b_name, b_two, b_three, m_wipe0, m_wipeS, m_back0, m_backS, m_slots1, m_slots2, m_slots3, m_slots21, m_nox, m_kLc2, m_kLc1t, m_kLc1f, m_lcA, m_lcT, out_nil, out_f, out_t, p_isi_int_int, p_isi_int_bool, p_isi_int_tuple, p_isi_int_list, p_isi_int_str, p_isi_int_none, p_isi_int_dict, p_isi_bool_int, p_isi_bool_bool, p_isi_bool_tuple, p_isi_bool_list, p_isi_bool_str, p_isi_bool_none, p_isi_bool_dict, p_isi_tuple_int, p_isi_tuple_bool, p_isi_tuple_tuple, p_isi_tuple_list, p_isi_tuple_str, p_isi_tuple_none, p_isi_tuple_dict, p_isi_list_int, p_isi_list_bool, p_isi_list_tuple, p_isi_list_list, p_isi_list_str, p_isi_list_none, p_isi_list_dict, p_isi_str_int, p_isi_str_bool, p_isi_str_tuple, p_isi_str_list, p_isi_str_str, p_isi_str_none, p_isi_str_dict, lit_a0, lit_b0, lit_c0, lit_d0, lit_e0, lit_a1, lit_b1, lit_c1, lit_d1, lit_e1, lit_a2, lit_b2, lit_c2, lit_d2, lit_e2, lit_a3, lit_b3, lit_c3, lit_d3, lit_e3, lit_a4, lit_b4, lit_c4, lit_d4, lit_e4, lit_a5, lit_b5, lit_c5, lit_d5, lit_e5, lit_a6, lit_b6, lit_c6, lit_d6, lit_e6, lit_a7, lit_b7, lit_c7, lit_d7, lit_e7, lit_a8, lit_b8, lit_c8, lit_d8, lit_e8, lit_a9, lit_b9, lit_c9, lit_d9, lit_e9, lit_a10, lit_b10, lit_c10, lit_d10, lit_e10, lit_a11, lit_b11, lit_c11, lit_d11, lit_e11, lit_a12, lit_b12, lit_c12, lit_d12, lit_e12, lit_a13, lit_b13, lit_c13, lit_d13, lit_e13, lit_a20, lit_b20, lit_c20, lit_d20, lit_e20, lit_a30, lit_b30, lit_c30, lit_d30, lit_e30, lit_a39, lit_b39, lit_c39, lit_d39, lit_e39, lit_a40, lit_b40, lit_c40, lit_d40, lit_e40, lit_a41, lit_b41, lit_c41, lit_d41, lit_e41, lit_a60, lit_b60, lit_c60, lit_d60, lit_e60, lit_a63, lit_b63, lit_c63, lit_d63, lit_e63, lit_a200, lit_b200, lit_c200, lit_d200, lit_e200, lit_a201, lit_b201, lit_c201, lit_d201, lit_e201, m_plainSt, m_plainLc, m_plainLn, m_plainLr, forT, i_enumR, i_enumC, i_enumCL, p_add, p_sub, p_lt, p_le, p_gt, p_ge, p_neg, p_len, p_lenT, p_tuple, p_tupleT, p_list, p_listT, p_abs, p_intB, p_intI, p_rev, p_isB, p_notB, p_min2, p_max2, p_eqI, p_neI, p_eqC, p_neC, p_neC_r, p_eqC_r, p_neNI, p_neIN, p_eqNI, p_eqIN, p_neNN, p_eqNN, p_eqNilC, p_neNilC, p_eqCC, p_neCC, p_eqSt, p_neSt, p_eqNats, p_neNats, p_isNone, p_notNone, p_isNoneI, p_notNoneI, p_isNoneN, p_notNoneN, p_idxL, p_idxT, p_idxL0, p_idxT0, p_idxL1, p_idxT1, p_idxL2, p_tup0, p_tup1, p_tup2, p_tup3, p_lst0, p_lst1, p_lst2, p_lst3, p_lst4, p_tup4, p_lst5, p_tup5, p_lst6, p_tup6, p_lst7, p_tup7, p_lst8, p_tup8, p_lst9, p_tup9, p_lst10, p_tup10, p_lst11, p_tup11, p_lst12, p_tup12, p_lst13, p_tup13, p_lst14, p_tup14, p_lst15, p_tup15, p_lst16, p_tup16, p_lst17, p_tup17, p_lst18, p_tup18, p_lst19, p_tup19, p_lst20, p_tup20, p_slL1, p_slL2, p_slH1, p_slH2, p_dnew, p_dlit, m_dlv0, m_dlv1, m_pop0, p_notinR, p_inR, p_inN, p_notinN, p_neNilI, p_neNilN, p_eqNilN, p_neNilR, p_modN, p_fdivN, p_mod, p_fdiv, p_mulL, p_mulR, p_mulK, p_mul2K, p_mulN, p_pow, p_pow5, p_powA, p_powB, p_powC, nat1, nat1', nat2, nat2', zls_len, zls_get, p_slL, p_slH, p_slB, p_slLT, p_slHT, p_slBT, p_sl0, nats_drop, nats_take, ocs_drop, ocs_take, rzs_drop, rzs_take, natD_eq, ocs_set, ocs_setI, ocs_setN, setK_nat, i_rng, Int.natCast_pos, Int.mul_one, Int.mul_zero, Nat.reduceEqDiff, eq_self, Int.reduceNeg, Int.reducePow, Int.reduceLT, Int.reduceLE, Int.reduceToNat, nmod, ndiv, nmul, Int.reduceMod, Int.reduceDiv, Int.reduceMul, Int.reduceAdd, Int.reduceSub, Nat.reduceLT, Nat.reduceLeDiff, Nat.reducePow, and_self, i_seqL, i_seqT, oc_none, oc_some, ocs_len, rzs_len, nats_len, ocs_get, rzs_get, nats_get, Option.map_some, Option.bind_some, List.getElem?_cons_zero, List.getElem?_cons_succ, Bool.false_and, Bool.true_and, Bool.false_eq_true, Bool.not_false, Bool.not_true, Bool.or_false, Bool.or_true, Bool.and_true, Bool.and_false, Bool.true_or, Bool.false_or, decide_true, decide_false, if_true, if_false, Nat.zero_add, Nat.reduceAdd, ↓reduceIte, reduceCtorEq, Bool.not_eq_true', natsum, Int.ofNat_lt, Int.ofNat_le, Int.ofNat_inj, permO, permD, callKK, List.cons_append, List.nil_append, $xs,*])
theorem lpen_is (ns : List Int) (h : ns.length ≤ 63) : R_lpen [.list (ns.map .int)] = .ok (pen ⟨ns, 0, 0⟩) [] := by
  refine is_lpen _ ?_
  unfold B_lpen
  have e : Op.run (.slice false false true) [.list (ns.map .int), .int 63] = some (.list (zls ns)) := by
    have := p_slH (f := false) (xs := ns.map PyData.int) (a := 63)
    rw [List.take_of_length_le (by simpa using h)] at this
    exact this
  simp! [e]
  exact okX rfl ⟨rfl, rfl⟩

theorem ldraw_ex (p : Pen) (n : Nat) (h : 0 < n) (hn : n < 1073741824) (hp : p.i < 1000000) : ∃ x q, R_ldraw [pen p, .int n] = .ok (.int ((x : Nat) : Int)) [pen q] ∧ x < n ∧ q.i ≤ p.i + 1 := by
  refine drawn_of (ex_ldraw _ _ ?_)
  have h3 : (n : Int) < 1073741824 := by omega
  unfold B_ldraw pen
  by_cases hc : 0 < p.c
  · simp! [hc, h, h3]
    first | exact okX rfl (drawn h _ _ _ _ (Nat.le_refl _)) | exact okX rfl (drawn h _ _ _ _ (Nat.le_add_right _ _))
  · by_cases hl : p.cells.length = 0
    · simp! [hc, h, h3, hl, Nat.not_lt_zero, T_ldraw_3, T_ldraw_2, T_ldraw_1, hp]
      first | exact okX rfl (drawn h _ _ _ _ (Nat.le_refl _)) | exact okX rfl (drawn h _ _ _ _ (Nat.le_add_right _ _))
    · have hlt : p.i % p.cells.length < p.cells.length := Nat.mod_lt _ (by omega)
      by_cases hi : p.i < p.cells.length ∧ 1000000000000000000 ≤ (if p.cells[p.i % p.cells.length] < 0 then -p.cells[p.i % p.cells.length] else p.cells[p.i % p.cells.length])
      · simp! [hc, h, h3, hl, hi, List.getElem?_eq_getElem hlt, Nat.pos_of_ne_zero hl, T_ldraw_3, T_ldraw_2, T_ldraw_1, hp]
        first | exact okX rfl (drawn h _ _ _ _ (Nat.le_refl _)) | exact okX rfl (drawn h _ _ _ _ (Nat.le_add_right _ _))
      · have hi' := and_ff hi
        simp! [hc, h, h3, hl, hi', List.getElem?_eq_getElem hlt, Nat.pos_of_ne_zero hl, T_ldraw_3, T_ldraw_2, T_ldraw_1, hp]
        first | exact okX rfl (drawn h _ _ _ _ (Nat.le_refl _)) | exact okX rfl (drawn h _ _ _ _ (Nat.le_add_right _ _))

theorem lorder_ex (p : Pen) (n : Nat) (hn : n ≤ 1000) (hp : p.i ≤ 900000) : ∃ ord q, R_lorder [pen p, .int n] = .ok (.list (nats ord)) [pen q] ∧ ord.Perm (List.range n) ∧ q.i ≤ p.i + n := by
  obtain ⟨_, _, h1, ord, q, rfl, rfl, h2, h3⟩ : Gives (fun d env' => ∃ (ord : List Nat) (q : Pen), d = .list (nats ord) ∧ env' = [some (pen q), some (.int n), some (.list []), none] ∧ ord.Perm (List.range n) ∧ q.i ≤ p.i + n) (evE L_lorder_1 [some (pen p), some (.int n), some (.list (nats (List.range n))), none]) := by
    unfold L_lorder_1
    refine g_lcR (n := n) (env1 := [some (pen p), some (.int n), some (.list (nats (List.range n))), none]) ?_ rfl
      (fun j acc env => ∃ (left : List D) (q : Pen), env = [some (pen q), some (.int n), some (.list left), none] ∧ (acc.reverse ++ left).Perm (nats (List.range n)) ∧ left.length + j = n ∧ q.i ≤ p.i + j)
      ⟨_, p, rfl, by simp, by simp [nats_len], by omega⟩ ?_ ?_ ?_
    · simp! [show n < 2 ^ 62 by omega]
    · rintro j acc env hj ⟨left, q, rfl, h1, h2, h3⟩
      obtain ⟨x, q', e, hx, hq⟩ := ldraw_ex q left.length (by omega) (by omega) (by omega)
      obtain ⟨y, hy⟩ : ∃ y, left[x]? = some y := ⟨_, List.getElem?_eq_getElem hx⟩
      simp! [e, call_ldraw, m_popAt hy (by omega)]
      refine okG ⟨left.eraseIdx x, q', rfl, ?_, ?_, by omega⟩
      · have := perm_erase hy
        simp only [List.reverse_cons, List.append_assoc, List.singleton_append]
        exact ((List.Perm.refl _).append this).trans h1
      · rw [List.length_eraseIdx_of_lt hx]; omega
    · rintro acc env ⟨left, q, _, h1, h2, _⟩
      have := h1.length_eq
      rw [List.length_append, List.length_reverse, nats_len, List.length_range] at this
      rw [sizeLine_eq]; omega
    · rintro acc env ⟨left, q, rfl, h1, h2, h3⟩
      obtain rfl : left = [] := List.eq_nil_of_length_eq_zero (by omega)
      obtain ⟨ord, e, hord⟩ := perm_nats (show acc.reverse.Perm (nats (List.range n)) by simpa using h1)
      simp! [e]
      exact ⟨_, q, rfl, rfl, hord, h3⟩
  refine ⟨ord, q, is_lorder _ _ ?_, h2, h3⟩
  unfold B_lorder
  simp! [p_lrng (show n ≤ 2 ^ 24 by omega), h1]
  exact okX rfl ⟨rfl, rfl⟩

theorem lcount_ex (p : Pen) (hp : p.i ≤ 900000) : ∃ n q, R_lcount [pen p] = .ok (.int ((n : Nat) : Int)) [pen q] ∧ 1 ≤ n ∧ n ≤ 40 ∧ q.i ≤ p.i + 4 := by
  obtain ⟨a, q1, e1, h1, g1⟩ := ldraw_ex p 12 (by omega) (by omega) (by omega)
  obtain ⟨b, q2, e2, h2, g2⟩ := ldraw_ex q1 40 (by omega) (by omega) (by omega)
  obtain ⟨c, q3, e3, h3, g3⟩ := ldraw_ex q2 2 (by omega) (by omega) (by omega)
  obtain ⟨d, q4, e4, h4, g4⟩ := ldraw_ex q3 6 (by omega) (by omega) (by omega)
  obtain ⟨n, hn, hn1, hn2⟩ : ∃ n : Nat, ([.int 1, .int 2, .int 3, .int ((1 + a : Nat) : Int), .int ((1 + b : Nat) : Int), .int ((39 + c : Nat) : Int)] : List D)[d]? = some (.int (n : Int)) ∧ 1 ≤ n ∧ n ≤ 40 := by
    have : d = 0 ∨ d = 1 ∨ d = 2 ∨ d = 3 ∨ d = 4 ∨ d = 5 := by omega
    rcases this with rfl | rfl | rfl | rfl | rfl | rfl
    · exact ⟨1, rfl, by omega, by omega⟩
    · exact ⟨2, rfl, by omega, by omega⟩
    · exact ⟨3, rfl, by omega, by omega⟩
    · exact ⟨1 + a, rfl, by omega, by omega⟩
    · exact ⟨1 + b, rfl, by omega, by omega⟩
    · exact ⟨39 + c, rfl, by omega, by omega⟩
  suffices key : ∃ d outs, R_lcount [pen p] = .ok d outs ∧ ∃ n q, d = .int ((n : Nat) : Int) ∧ outs = [pen q] ∧ 1 ≤ n ∧ n ≤ 40 ∧ q.i ≤ p.i + 4 by
    obtain ⟨_, _, h1, n, q, rfl, rfl, h2, h3, h4⟩ := key
    exact ⟨n, q, h1, h2, h3, h4⟩
  refine ex_lcount _ ?_
  unfold B_lcount
  simp! [show R_ldraw [pen p, .int 12] = _ from e1, show R_ldraw [pen q1, .int 40] = _ from e2, show R_ldraw [pen q2, .int 2] = _ from e3, show R_ldraw [pen q3, .int 6] = _ from e4, call_ldraw, show (39 : Int) + (c : Int) = ((39 + c : Nat) : Int) by omega, p_lst (show ([.int 1, .int 2, .int 3, .int ((1 + a : Nat) : Int), .int ((1 + b : Nat) : Int), .int ((39 + c : Nat) : Int)] : List D).length ≤ sizeLine by rw [sizeLine_eq]; simp), hn]
  exact okX rfl ⟨n, q4, rfl, rfl, hn1, hn2, by omega⟩

theorem lforest_ex (p : Pen) (n : Nat) (h1 : 1 ≤ n) (hn : n ≤ 40) (hp : p.i ≤ 800000) : ∃ s q, R_lforest [pen p, .int n] = .ok (.list (ocs s)) [pen q] ∧ Good n s ∧ q.i ≤ p.i + 200 := by
  obtain ⟨ord, p1, e1, hord, hp1⟩ := lorder_ex p n (by omega) (by omega)
  have hol : ord.length = n := by have := hord.length_eq; simpa using this
  obtain ⟨way, p2, e2, hway, hp2⟩ := ldraw_ex p1 4 (by omega) (by omega) (by omega)
  suffices key : ∃ d outs, R_lforest [pen p, .int n] = .ok d outs ∧ ∃ s q, d = .list (ocs s) ∧ outs = [pen q] ∧ Good n s ∧ q.i ≤ p.i + 200 by
    obtain ⟨_, _, h1, s, q, rfl, rfl, h2, h3⟩ := key
    exact ⟨s, q, h1, h2, h3⟩
  refine ex_lforest _ _ ?_
  unfold B_lforest
  simp! [e1, call_lorder, show R_ldraw [pen p1, .int 4] = _ from e2, call_ldraw, p_rep1N (show n ≤ sizeLine by rw [sizeLine_eq]; omega)]
  unfold W_lforest_1
  refine go_forM (xs := List.range (n - 1)) (f := fun k => .int ((1 + k : Nat) : Int)) (env1 := [some (pen p2), some (.int n), some (.list (nats ord)), some (.list (ocs (List.replicate n none))), some (.int way), none, none]) (by simp! [show IOp.run .rng2 [.int 1, .int n] = some ((List.range (n - 1)).map fun k => .int ((1 + k : Nat) : Int)) from i_rng2 (m := 1) (by omega) h1]) rfl
    (fun j env => ∃ (q : Pen) (s : St) (u5 u6 : Option D), env = [some (pen q), some (.int n), some (.list (nats ord)), some (.list (ocs s)), some (.int way), u5, u6] ∧ s.length = n ∧ Below ord s ∧ q.i ≤ p2.i + 3 * j)
    ⟨p2, _, none, none, rfl, List.length_replicate, .empty, by omega⟩ ?_ ?_
  · rintro j x env hx ⟨q, s, u5, u6, rfl, hs, hb, hq⟩
    obtain ⟨hj, hxj⟩ := List.getElem?_eq_some_iff.mp hx
    simp at hj hxj
    subst hxj
    obtain ⟨d, q1, e3, hd, hq1⟩ := ldraw_ex q (1 + j) (by omega) (by omega) (by omega)
    obtain ⟨d4, q2, e4, hd4, hq2⟩ := ldraw_ex q1 4 (by omega) (by omega) (by omega)
    obtain ⟨d2, q3, e5, hd2, hq3⟩ := ldraw_ex q2 2 (by omega) (by omega) (by omega)
    obtain ⟨x, hx⟩ : ∃ x, ord[1 + j]? = some x := ⟨_, List.getElem?_eq_getElem (by omega)⟩
    obtain ⟨o1, ho1⟩ : ∃ x, ord[j]? = some x := ⟨_, List.getElem?_eq_getElem (by omega)⟩
    obtain ⟨o2, ho2⟩ : ∃ x, ord[d]? = some x := ⟨_, List.getElem?_eq_getElem (by omega)⟩
    obtain ⟨o3, ho3⟩ : ∃ x, ord[0]? = some x := ⟨_, List.getElem?_eq_getElem (by omega)⟩
    have hxn := perm_range_lt hord hx
    obtain ⟨w, hw, hw4⟩ : ∃ w : Nat, ([.int 0, .int 1, .int (d4 : Int), .int (d2 : Int)] : List D)[way]? = some (.int (w : Int)) ∧ w < 4 := by
      have : way = 0 ∨ way = 1 ∨ way = 2 ∨ way = 3 := by omega
      rcases this with rfl | rfl | rfl | rfl
      · exact ⟨0, rfl, by omega⟩
      · exact ⟨1, rfl, by omega⟩
      · exact ⟨d4, rfl, by omega⟩
      · exact ⟨d2, rfl, by omega⟩
    obtain ⟨c, hc, hc2⟩ : ∃ c : Option Nat, ([.int (o1 : Int), .int (o2 : Int), .int (o3 : Int), .none] : List D)[w]? = some (oc c) ∧ Below ord (s.set x c) := by
      have : w = 0 ∨ w = 1 ∨ w = 2 ∨ w = 3 := by omega
      rcases this with rfl | rfl | rfl | rfl
      · exact ⟨some o1, rfl, hb.set hx ho1 (by omega)⟩
      · exact ⟨some o2, rfl, hb.set hx ho2 (by omega)⟩
      · exact ⟨some o3, rfl, hb.set hx ho3 (by omega)⟩
      · exact ⟨none, rfl, hb.clear⟩
    unfold D_lforest_1
    simp! [show (((1 + j : Nat) : Int)) - 1 = (j : Int) by omega, ho1, ho2, ho3, e3, show R_ldraw [pen q1, .int 4] = _ from e4, show R_ldraw [pen q2, .int 2] = _ from e5, call_ldraw, hx, hw, hc, p_lst (show ([.int (o1 : Int), .int (o2 : Int), .int (o3 : Int), .none] : List D).length ≤ sizeLine by rw [sizeLine_eq]; simp), p_lst (show ([.int 0, .int 1, .int (d4 : Int), .int (d2 : Int)] : List D).length ≤ sizeLine by rw [sizeLine_eq]; simp), show x < s.length by omega]
    exact okN ⟨q3, _, _, _, rfl, by rw [List.length_set]; exact hs, hc2, by omega⟩
  · rintro env ⟨q, s, u5, u6, rfl, hs, hb, hq⟩
    unfold T_lforest_1
    simp! []
    rw [List.length_range] at hq
    exact okX rfl ⟨s, q, rfl, rfl, hb.good hord hs, by omega⟩

def inB (n : Nat) : D → Bool
  | .int i => decide (0 ≤ i) && decide (i < n)
  | _ => false
def intB : D → Bool
  | .int _ => true
  | _ => false
theorem is_integer_any (d : D) : R_is_integer [d] = .ok (.bool (intB d)) [] := by
  refine is_is_integer _ ?_
  unfold B_is_integer
  cases d <;> simp! [intB] <;> exact okX rfl ⟨rfl, rfl⟩
theorem is_exception_any (n : Nat) (d : D) : R_is_exception [.int n, d] = .ok (.bool (inB n d)) [] := by
  refine is_is_exception _ _ ?_
  unfold B_is_exception
  cases d with
  | int i =>
    by_cases h : 0 ≤ i
    · simp! [is_integer_any, call_is_integer, intB, inB, h]
      exact okX rfl ⟨rfl, rfl⟩
    · simp! [is_integer_any, call_is_integer, intB, inB, h]
      exact okX rfl ⟨rfl, rfl⟩
  | _ =>
    simp! [is_integer_any, call_is_integer, intB, inB]
    exact okX rfl ⟨rfl, rfl⟩

/-- an entry that may stand at place i of a state of n -/
def okE (n i : Nat) : D → Bool
  | .none => true
  | .int z => decide (0 ≤ z) && (decide (z < n) && !decide (z = i))
  | _ => false
theorem p_notNoneD {d : D} : Op.run .notNone [d] = some (.bool (!isNon d)) := rfl
theorem p_isNoneD {d : D} : Op.run .isNone [d] = some (.bool (isNon d)) := rfl
theorem i_enumDT {xs : List D} : IOp.run .enum [.tuple xs] = some (xs.zipIdx.map fun q => .tuple [.int (q.2 : Int), q.1]) := rfl
theorem zip_at {xs : List D} {j : Nat} {x : D × Nat} (h : xs.zipIdx[j]? = some x) : x.2 = j ∧ xs[j]? = some x.1 := by
  rw [List.getElem?_zipIdx] at h
  obtain ⟨y, h1, h2⟩ := Option.map_eq_some_iff.mp h
  subst h2
  exact ⟨by simp, h1⟩
theorem wrong_entry_any (xs : List D) : ∃ c, R_wrong_entry [.tuple xs] = .ok (oc c) [] ∧ (c = none ↔ ∀ i x, xs[i]? = some x → okE xs.length i x = true) := by
  suffices key : ∃ d outs, R_wrong_entry [.tuple xs] = .ok d outs ∧ ∃ c, d = oc c ∧ outs = [] ∧ (c = none ↔ ∀ i x, xs[i]? = some x → okE xs.length i x = true) by
    obtain ⟨_, _, h1, c, rfl, rfl, h2⟩ := key
    exact ⟨c, h1, h2⟩
  refine ex_wrong_entry _ ?_
  unfold B_wrong_entry
  simp! []
  unfold W_wrong_entry_1
  refine go_forM (xs := xs.zipIdx) (f := fun q => .tuple [.int (q.2 : Int), q.1]) (env1 := [some (.tuple xs), none, none]) (by simp! [i_enumDT]) rfl
    (fun j env => ∃ (u1 u2 : Option D), env = [some (.tuple xs), u1, u2] ∧ ∀ i x, i < j → xs[i]? = some x → okE xs.length i x = true) ⟨none, none, rfl, by omega⟩ ?_ ?_
  · rintro j ⟨d, k⟩ env hx ⟨u1, u2, rfl, hall⟩
    obtain ⟨rfl, hd⟩ := zip_at hx
    have hd : xs[k]? = some d := hd
    have good : okE xs.length k d = true → ∀ i x, i < k + 1 → xs[i]? = some x → okE xs.length i x = true := fun h i x hi hix => by
      rcases Nat.lt_succ_iff_lt_or_eq.mp hi with hi | hi
      · exact hall i x hi hix
      · subst hi
        rw [hd] at hix
        injection hix with e
        rw [← e]; exact h
    have bad : okE xs.length k d = false → ((some k : Option Nat) = none ↔ ∀ i x, xs[i]? = some x → okE xs.length i x = true) := fun h => by
      refine ⟨(fun z => nomatch z), fun z => ?_⟩
      rw [z k d hd] at h; cases h
    unfold D_wrong_entry_1
    cases d with
    | none =>
      simp! []
      exact okN ⟨_, _, rfl, good rfl⟩
    | int z =>
      by_cases h1 : inB xs.length (.int z) = true
      · by_cases h2 : z = k
        · simp! [p_notNoneD, isNon, is_exception_any, call_is_exception, h1, h2]
          exact okR (okX' rfl ⟨some k, rfl, rfl, bad (by simp [okE, h2])⟩)
        · simp! [p_notNoneD, isNon, is_exception_any, call_is_exception, h1, h2]
          refine okN ⟨_, _, rfl, good ?_⟩
          simp only [inB, Bool.and_eq_true, decide_eq_true_eq] at h1
          simp [okE, h1, h2]
      · have h1 : inB xs.length (.int z) = false := by simpa using h1
        simp! [p_notNoneD, isNon, is_exception_any, call_is_exception, h1]
        refine okR (okX' rfl ⟨some k, rfl, rfl, bad ?_⟩)
        show (decide (0 ≤ z) && (decide (z < (xs.length : Int)) && !decide (z = (k : Int)))) = false
        have h2 : (decide (0 ≤ z) && decide (z < (xs.length : Int))) = false := h1
        rw [← Bool.and_assoc, h2]; rfl
    | _ =>
      simp! [p_notNoneD, isNon, is_exception_any, call_is_exception, inB]
      exact okR (okX' rfl ⟨some k, rfl, rfl, bad rfl⟩)
  · rintro env ⟨u1, u2, rfl, hall⟩
    unfold T_wrong_entry_1
    simp! []
    refine okX rfl ⟨none, rfl, rfl, ⟨fun _ i x hx => ?_, fun _ => rfl⟩⟩
    have hi := (List.getElem?_eq_some_iff.mp hx).1
    exact hall i x (by simpa using hi) hx
/-- entries that may stand there: contexts -/
theorem okE_state {xs : List D} (h : ∀ i x, xs[i]? = some x → okE xs.length i x = true) : ∃ s, xs = ocs s ∧ GoodA xs.length s := by
  have one : ∀ n i x, okE n i x = true → ∃ c : Option Nat, x = oc c ∧ ∀ y, c = some y → y < n ∧ y ≠ i := fun n i x hx => by
    cases x with
    | none => exact ⟨none, rfl, fun y e => nomatch e⟩
    | int z =>
      simp only [okE, Bool.and_eq_true, decide_eq_true_eq, Bool.not_eq_true', decide_eq_false_iff_not] at hx
      obtain ⟨h1, h2, h3⟩ := hx
      refine ⟨some z.toNat, ?_, fun y e => ?_⟩
      · show PyData.int z = .int ((z.toNat : Nat) : Int)
        rw [Int.toNat_of_nonneg h1]
      · cases e
        omega
    | _ => cases hx
  have build : ∀ (l : List D) (k : Nat) (n : Nat), (∀ i x, l[i]? = some x → okE n (k + i) x = true) → ∃ s : List (Option Nat), l = ocs s ∧ ∀ i y, s[i]? = some (some y) → y < n ∧ y ≠ k + i := by
    intro l
    induction l with
    | nil => exact fun k n _ => ⟨[], rfl, fun i y e => by simp at e⟩
    | cons a l ih =>
      intro k n hl
      obtain ⟨c, rfl, hc⟩ := one n k a (hl 0 a rfl)
      obtain ⟨s, rfl, hs⟩ := ih (k + 1) n fun i x hx => by
        have := hl (i + 1) x (by simpa using hx)
        rw [show k + 1 + i = k + (i + 1) by omega]; exact this
      refine ⟨c :: s, rfl, fun i y e => ?_⟩
      cases i with
      | zero => simp at e; exact hc y e
      | succ i =>
        have := hs i y (by simpa using e)
        rw [show k + (i + 1) = k + 1 + i by omega]; exact this
  obtain ⟨s, e, hs⟩ := build xs 0 xs.length fun i x hx => by rw [Nat.zero_add]; exact h i x hx
  refine ⟨s, e, ⟨?_, fun i y hy => by have := hs i y hy; rw [Nat.zero_add] at this; exact this⟩⟩
  rw [e, ocs_len]
theorem leads_back_is {n : Nat} {s : St} (G : Gr n s) (hn : n ≤ 1000) (x : Nat) (hx : x < n) : ∃ b : Bool, R_leads_back [.tuple (ocs s), .int x] = .ok (.bool b) [] ∧ (b = true ↔ OnR s x) := by
  suffices key : ∃ d outs, R_leads_back [.tuple (ocs s), .int x] = .ok d outs ∧ ∃ b : Bool, d = .bool b ∧ outs = [] ∧ (b = true ↔ OnR s x) by
    obtain ⟨_, _, h1, c, rfl, rfl, h2⟩ := key
    exact ⟨c, h1, h2⟩
  have hsl := G.len
  have hxs : x < s.length := by omega
  refine ex_leads_back _ _ ?_
  unfold B_leads_back
  simp! [up_get hxs]
  unfold W_leads_back_1
  refine go_forR (n := n) (env1 := [some (.tuple (ocs s)), some (.int x), some (oc (up s x)), none]) (by simp! [hsl, show n < 2 ^ 62 by omega]) rfl
    (fun j env => ∃ (c u3 : Option D) (h : Option Nat), env = [some (.tuple (ocs s)), some (.int x), some (oc h), u3] ∧ (∀ y, h = some y → y < n) ∧
      (OnR s x → j < (trail s x).length ∧ h = up s (at' (trail s x) j)) ∧ (¬ OnR s x → ∀ y, h = some y → ∃ z, up s x = some z ∧ Rch s z y)) ⟨none, none, up s x, rfl, fun y e => G.lt _ _ e, fun hr => ?_, fun _ y e => ⟨y, e, .refl y⟩⟩ ?_ ?_
  · have c1 := cyc_trail G hx (tend_onR G hx hr)
    refine ⟨c1.pos, by rw [(trail_spec G hx).2.2.2.1]⟩
  · rintro j env hj ⟨_, u3, h, rfl, hlt, ha, hb⟩
    unfold D_leads_back_1
    cases h with
    | none =>
      simp! []
      refine okR (okX' rfl ⟨false, rfl, rfl, ⟨(fun z => nomatch z), fun hr => ?_⟩⟩)
      obtain ⟨a1, a2⟩ := ha hr
      have c1 := cyc_trail G hx (tend_onR G hx hr)
      have := c1.nx j a1
      rw [← a2] at this; cases this
    | some y =>
      by_cases hy : y = x
      · subst hy
        simp! []
        refine okR (okX' rfl ⟨true, rfl, rfl, ⟨fun _ => ?_, fun _ => rfl⟩⟩)
        by_cases hr : OnR s y
        · exact hr
        · obtain ⟨z, e1, e2⟩ := hb hr y rfl
          exact ⟨z, e1, e2⟩
      · have hyn := hlt y rfl
        simp! [hy, T_leads_back_1, up_get (show y < s.length by omega)]
        refine okN ⟨none, _, up s y, rfl, fun w e => G.lt _ _ e, fun hr => ?_, fun hr w e => ?_⟩
        · obtain ⟨a1, a2⟩ := ha hr
          have c1 := cyc_trail G hx (tend_onR G hx hr)
          have hnx := c1.nx j a1
          rw [← a2] at hnx
          injection hnx with hnx
          have h0 := (trail_spec G hx).2.2.2.1
          by_cases hf : j + 1 = (trail s x).length
          · rw [hf, Nat.mod_self, h0] at hnx
            exact absurd hnx hy
          · rw [Nat.mod_eq_of_lt (by omega)] at hnx
            exact ⟨by omega, by rw [hnx]⟩
        · obtain ⟨z, e1, e2⟩ := hb hr y rfl
          exact ⟨z, e1, e2.tr (.step e (.refl w))⟩
  · rintro env ⟨_, u3, h, rfl, hlt, ha, hb⟩
    unfold T_leads_back_2
    simp! []
    refine okX rfl ⟨false, rfl, rfl, ⟨(fun z => nomatch z), fun hr => ?_⟩⟩
    obtain ⟨a1, _⟩ := ha hr
    have c1 := cyc_trail G hx (tend_onR G hx hr)
    have := nodup_le c1.nd fun z hz => onR_lt G (c1.onR hz)
    omega
theorem least_on_cycle_is {n : Nat} {s : St} (G : Gr n s) (hn : n ≤ 1000) : ∃ c, R_least_on_cycle [.tuple (ocs s)] = .ok (oc c) [] ∧ (c = none ↔ ∀ x, ¬ OnR s x) := by
  suffices key : ∃ d outs, R_least_on_cycle [.tuple (ocs s)] = .ok d outs ∧ ∃ c, d = oc c ∧ outs = [] ∧ (c = none ↔ ∀ x, ¬ OnR s x) by
    obtain ⟨_, _, h1, c, rfl, rfl, h2⟩ := key
    exact ⟨c, h1, h2⟩
  refine ex_least_on_cycle _ ?_
  unfold B_least_on_cycle
  simp! []
  unfold W_least_on_cycle_1
  refine go_forR (n := n) (env1 := [some (.tuple (ocs s)), none]) (by simp! [G.len, show n < 2 ^ 62 by omega]) rfl
    (fun j env => ∃ (u : Option D), env = [some (.tuple (ocs s)), u] ∧ ∀ x, x < j → ¬ OnR s x) ⟨none, rfl, by omega⟩ ?_ ?_
  · rintro j env hj ⟨u, rfl, hall⟩
    obtain ⟨b, e, hb⟩ := leads_back_is G hn j hj
    unfold D_least_on_cycle_1
    cases b with
    | true =>
      simp! [e, call_leads_back]
      exact okR (okX' rfl ⟨some j, rfl, rfl, ⟨(fun z => nomatch z), fun z => absurd (hb.mp rfl) (z j)⟩⟩)
    | false =>
      simp! [e, call_leads_back]
      refine okN ⟨_, rfl, fun x hx hr => ?_⟩
      rcases Nat.lt_succ_iff_lt_or_eq.mp hx with hx | rfl
      · exact hall x hx hr
      · have := hb.mpr hr
        cases this
  · rintro env ⟨u, rfl, hall⟩
    unfold T_least_on_cycle_1
    simp! []
    exact okX rfl ⟨none, rfl, rfl, ⟨fun _ x hr => hall x (onR_lt G hr) hr, fun _ => rfl⟩⟩
/-- what a state is, told of any value -/
def IsSt (d : D) : Prop := ∃ n s, d = .tuple (ocs s) ∧ 1 ≤ n ∧ n ≤ 40 ∧ Good n s ∧ ∀ i y, up s i = some y → y ≠ i
theorem is_state_any (d : D) : ∃ b : Bool, R_is_state [d] = .ok (.bool b) [] ∧ (b = true ↔ IsSt d) := by
  suffices key : ∃ r outs, R_is_state [d] = .ok r outs ∧ ∃ b : Bool, r = .bool b ∧ outs = [] ∧ (b = true ↔ IsSt d) by
    obtain ⟨_, _, h1, c, rfl, rfl, h2⟩ := key
    exact ⟨c, h1, h2⟩
  refine ex_is_state _ ?_
  unfold B_is_state
  cases d with
  | tuple xs =>
    have no : ¬ (1 ≤ xs.length ∧ xs.length ≤ 40) → (false = true ↔ IsSt (.tuple xs)) := fun h => by
      refine ⟨(fun z => nomatch z), fun ⟨n, s, e, h1, h2, g, _⟩ => absurd ?_ h⟩
      cases e
      rw [ocs_len, g.len]; exact ⟨h1, h2⟩
    by_cases l1 : 1 ≤ xs.length
    · by_cases l2 : xs.length ≤ 40
      · obtain ⟨c, e1, hc⟩ := wrong_entry_any xs
        cases c with
        | some k =>
          simp! [l1, l2, T_is_state_1, e1, call_wrong_entry]
          refine okX rfl ⟨false, rfl, rfl, ⟨(fun z => nomatch z), fun ⟨n, s, e, h1, h2, g, hne⟩ => ?_⟩⟩
          cases e
          have := hc.mpr fun i x hx => by
            rw [ocs_get] at hx
            obtain ⟨c, hc1, rfl⟩ := Option.map_eq_some_iff.mp hx
            cases c with
            | none => rfl
            | some y =>
              have hu := up_some.mpr hc1
              have h3 := g.lt _ _ hu
              have h4 := hne _ _ hu
              show (decide (0 ≤ (y : Int)) && (decide ((y : Int) < ((ocs s).length : Nat)) && !decide ((y : Int) = (i : Nat)))) = true
              rw [ocs_len, g.len]
              simp
              exact ⟨h3, fun z => h4 (by omega)⟩
          cases this
        | none =>
          obtain ⟨s, rfl, ha⟩ := okE_state (hc.mp rfl)
          have G := Gr.ofA ha
          rw [ocs_len] at l1 l2
          have hl := ha.len
          obtain ⟨c, e2, hc2⟩ := least_on_cycle_is G (by rw [ocs_len]; omega)
          cases c with
          | some k =>
            simp! [l1, l2, T_is_state_1, e1, call_wrong_entry, e2, call_least_on_cycle]
            refine okX rfl ⟨false, rfl, rfl, ⟨(fun z => nomatch z), fun ⟨n, t, e, h1, h2, g, hne⟩ => ?_⟩⟩
            cases ocs_inj.mp (show ocs s = ocs t by injection e)
            have := hc2.mpr fun x => not_onR g
            cases this
          | none =>
            simp! [l1, l2, T_is_state_1, e1, call_wrong_entry, e2, call_least_on_cycle]
            refine okX rfl ⟨true, rfl, rfl, ⟨fun _ => ⟨(ocs s).length, s, rfl, by rw [ocs_len]; exact l1, by rw [ocs_len]; exact l2, good_of_none G (hc2.mp rfl), fun i y e => (ha.ok _ _ (up_some.mp e)).2⟩, fun _ => rfl⟩⟩
      · simp! [l1, l2]
        exact okX rfl ⟨false, rfl, rfl, no fun z => l2 z.2⟩
    · simp! [l1]
      exact okX rfl ⟨false, rfl, rfl, no fun z => l1 z.1⟩
  | _ =>
    simp! []
    exact okX rfl ⟨false, rfl, rfl, ⟨(fun z => nomatch z), fun ⟨n, s, e, _⟩ => nomatch e⟩⟩

theorem nats_ocs {l : List Nat} : nats l = ocs (l.map some) := by unfold nats ocs; rw [List.map_map]; rfl
theorem lis_state_any (d : D) : ∃ b : Bool, R_lis_state [d] = .ok (.bool b) [] ∧ (b = true ↔ IsSt d) := by
  suffices key : ∃ r outs, R_lis_state [d] = .ok r outs ∧ ∃ b : Bool, r = .bool b ∧ outs = [] ∧ (b = true ↔ IsSt d) by
    obtain ⟨_, _, h1, c, rfl, rfl, h2⟩ := key
    exact ⟨c, h1, h2⟩
  refine ex_lis_state _ ?_
  unfold B_lis_state
  cases d with
  | tuple xs =>
    have no : ¬ (1 ≤ xs.length ∧ xs.length ≤ 40) → (false = true ↔ IsSt (.tuple xs)) := fun h => by
      refine ⟨(fun z => nomatch z), fun ⟨n, s, e, h1, h2, g, _⟩ => absurd ?_ h⟩
      cases e
      rw [ocs_len, g.len]; exact ⟨h1, h2⟩
    by_cases l1 : 1 ≤ xs.length
    · by_cases l2 : xs.length ≤ 40
      · simp! [l1, l2, T_lis_state_4]
        unfold W_lis_state_1
        refine go_forM (xs := xs.zipIdx) (f := fun q => .tuple [.int (q.2 : Int), q.1]) (env1 := [some (.tuple xs), none, none, none, none, none]) (by simp! [i_enumDT]) rfl
          (fun j env => ∃ (u1 u2 : Option D), env = [some (.tuple xs), none, none, u1, u2, none] ∧ ∀ i x, i < j → xs[i]? = some x → okE xs.length i x = true) ⟨none, none, rfl, by omega⟩ ?_ ?_
        · rintro j ⟨d, k⟩ env hx ⟨u1, u2, rfl, hall⟩
          obtain ⟨rfl, hd⟩ := zip_at hx
          have hd : xs[k]? = some d := hd
          have good : okE xs.length k d = true → ∀ i x, i < k + 1 → xs[i]? = some x → okE xs.length i x = true := fun h i x hi hix => by
            rcases Nat.lt_succ_iff_lt_or_eq.mp hi with hi | hi
            · exact hall i x hi hix
            · subst hi
              rw [hd] at hix
              injection hix with e
              rw [← e]; exact h
          have bad : okE xs.length k d = false → (false = true ↔ IsSt (.tuple xs)) := fun h => by
            refine ⟨(fun z => nomatch z), fun ⟨n, s, e, h1, h2, g, hne⟩ => ?_⟩
            cases e
            rw [ocs_get] at hd
            obtain ⟨c, hc1, rfl⟩ := Option.map_eq_some_iff.mp hd
            cases c with
            | none => cases h
            | some y =>
              have hu := up_some.mpr hc1
              have h3 := g.lt _ _ hu
              have h4 := hne _ _ hu
              have h5 : (decide (0 ≤ (y : Int)) && (decide ((y : Int) < ((ocs s).length : Nat)) && !decide ((y : Int) = (k : Nat)))) = false := h
              rw [ocs_len, g.len] at h5
              simp at h5
              omega
          unfold D_lis_state_1
          cases d with
          | none =>
            simp! [T_lis_state_1]
            exact okN ⟨_, _, rfl, good rfl⟩
          | int z =>
            by_cases h2 : z = k
            · simp! [p_notNoneD, isNon, T_lis_state_1, h2]
              exact okR (okX' rfl ⟨false, rfl, rfl, bad (by simp [okE, h2])⟩)
            · by_cases h0 : 0 ≤ z
              · by_cases h1 : z < xs.length
                · simp! [p_notNoneD, isNon, T_lis_state_1, h2, h0, h1]
                  exact okN ⟨_, _, rfl, good (by simp [okE, h0, h1, h2])⟩
                · simp! [p_notNoneD, isNon, T_lis_state_1, h2, h0, h1]
                  exact okR (okX' rfl ⟨false, rfl, rfl, bad (by simp [okE, h1])⟩)
              · simp! [p_notNoneD, isNon, T_lis_state_1, h2, h0]
                exact okR (okX' rfl ⟨false, rfl, rfl, bad (by simp [okE, h0])⟩)
          | _ =>
            simp! [p_notNoneD, isNon, T_lis_state_1]
            exact okR (okX' rfl ⟨false, rfl, rfl, bad rfl⟩)
        · rintro env ⟨u1, u2, rfl, hall⟩
          obtain ⟨s, rfl, ha⟩ := okE_state fun i x hx => by
            have hi := (List.getElem?_eq_some_iff.mp hx).1
            exact hall i x (by simpa using hi) hx
          have G := Gr.ofA ha
          rw [ocs_len] at l1 l2
          obtain ⟨n, hn⟩ : ∃ n, s.length = n := ⟨_, rfl⟩
          rw [ocs_len, hn] at G
          rw [hn] at l1 l2
          unfold T_lis_state_3
          simp! [hn, p_lrng (show n ≤ 2 ^ 24 by omega), nats_ocs]
          unfold W_lis_state_2
          refine go_forR (n := n) (env1 := [some (.tuple (ocs s)), some (.list (ocs ((List.range n).map some))), none, u1, u2, none]) (by simp! [hn, show n < 2 ^ 62 by omega]) rfl
            (fun j env => ∃ (l : List (Option Nat)) (u : Option D), env = [some (.tuple (ocs s)), some (.list (ocs l)), u, u1, u2, none] ∧ l.length ≤ n ∧ (∀ y, some y ∈ l → y < n) ∧ (Good n s → ∀ y, some y ∈ l → rnk s y + j ≤ n) ∧ (∀ x, OnR s x → ∃ y, some y ∈ l ∧ OnR s y)) ⟨_, none, rfl, by simp, by simp, fun g y hy => ?_, fun x hx => ⟨x, by simpa using onR_lt G hx, hx⟩⟩ ?_ ?_
          · simp at hy
            exact chn_le g hy
          · rintro j env hj ⟨l, u, rfl, hll, hlt, hA, hB⟩
            have e1 : evE L_lis_state_1 [some (.tuple (ocs s)), some (.list (ocs l)), some (.int (j : Nat)), u1, u2, none] = .ok (.list (ocs ((l.filter fun c => c.isSome).map fun c => c.bind (up s)))) [some (.tuple (ocs s)), some (.list (ocs l)), some (.int (j : Nat)), u1, u2, none] := by
              unfold L_lis_state_1
              refine (lc_pure (xs := l) (f := oc) (env1 := [some (.tuple (ocs s)), some (.list (ocs l)), some (.int (j : Nat)), u1, u2, none]) (fun c => c.isSome) (fun c => oc (c.bind (up s))) (fun c => [some (.tuple (ocs s)), some (.list (ocs l)), some (.int (j : Nat)), u1, u2, some (oc c)])
                (by simp! [] <;> rfl) rfl (fun c hc => by simp! []) (fun c hc => by simp! []) (fun c hc => by
                  cases c <;> simp! [] <;> rfl) (fun c hc h => by
                  cases c with
                  | none => cases h
                  | some y =>
                    simp! [up_get (show y < s.length by rw [hn]; exact hlt y hc)]) (by rw [sizeLine_eq]; omega)).trans ?_
              simp! []
              unfold ocs
              rw [List.map_map]; rfl
            unfold D_lis_state_2
            simp! [e1]
            refine okN ⟨_, _, rfl, ?_, fun y hy => ?_, fun g y hy => ?_, fun x hx => ?_⟩
            · rw [List.length_map]
              exact Nat.le_trans (List.length_filter_le _ _) hll
            · obtain ⟨c, hc, e⟩ := List.mem_map.mp hy
              cases c with
              | none => cases e
              | some x => exact G.lt _ _ e
            · obtain ⟨c, hc, e⟩ := List.mem_map.mp hy
              cases c with
              | none => cases e
              | some x =>
                have e : up s x = some y := e
                have h1 := hA g x (List.mem_filter.mp hc).1
                have h2 := rnk_rank g _ _ e
                omega
            · obtain ⟨y, hy, hr⟩ := hB x hx
              obtain ⟨z, e, _⟩ := id hr
              exact ⟨z, List.mem_map.mpr ⟨some y, List.mem_filter.mpr ⟨hy, rfl⟩, e⟩, (hr.next e).1⟩
          · rintro env ⟨l, u, rfl, hll, hlt, hA, hB⟩
            have e2 : evE L_lis_state_2 [some (.tuple (ocs s)), some (.list (ocs l)), u, u1, u2, none] = .ok (.list (ocs (l.filter fun c => c.isSome))) [some (.tuple (ocs s)), some (.list (ocs l)), u, u1, u2, none] := by
              unfold L_lis_state_2
              refine (lc_pure (xs := l) (f := oc) (env1 := [some (.tuple (ocs s)), some (.list (ocs l)), u, u1, u2, none]) (fun c => c.isSome) (fun c => oc c) (fun c => [some (.tuple (ocs s)), some (.list (ocs l)), u, u1, u2, some (oc c)])
                (by simp! [] <;> rfl) rfl (fun c hc => by simp! []) (fun c hc => by simp! []) (fun c hc => by
                  cases c <;> simp! [] <;> rfl) (fun c hc h => by simp! []) (by rw [sizeLine_eq]; omega)).trans ?_
              simp! []
              rfl
            unfold T_lis_state_2
            simp! [e2]
            refine okX rfl ⟨_, rfl, rfl, ?_⟩
            rw [decide_eq_true_eq]
            constructor
            · intro h0
              have none_ : ∀ x, ¬ OnR s x := fun x hx => by
                obtain ⟨y, hy, _⟩ := hB x hx
                have : some y ∈ l.filter fun c => c.isSome := List.mem_filter.mpr ⟨hy, rfl⟩
                rw [List.eq_nil_of_length_eq_zero h0] at this
                cases this
              exact ⟨n, s, rfl, l1, l2, good_of_none G none_, fun i y e => (ha.ok _ _ (up_some.mp e)).2⟩
            · rintro ⟨m, t, e, _, _, g, _⟩
              cases ocs_inj.mp (show ocs s = ocs t by injection e)
              have hm : m = n := by rw [← g.len, hn]
              subst hm
              refine List.length_eq_zero_iff.mpr (List.filter_eq_nil_iff.mpr fun c hc => ?_)
              cases c with
              | none => simp
              | some y =>
                exfalso
                have h1 := hA g y hc
                have h2 := chn_pos (s := s) (x := y)
                unfold rnk at h1
                omega
      · simp! [l1, l2]
        exact okX rfl ⟨false, rfl, rfl, no fun z => l2 z.2⟩
    · simp! [l1]
      exact okX rfl ⟨false, rfl, rfl, no fun z => l1 z.1⟩
  | _ =>
    simp! []
    exact okX rfl ⟨false, rfl, rfl, ⟨(fun z => nomatch z), fun ⟨n, s, e, _⟩ => nomatch e⟩⟩

theorem lclosed_is {n : Nat} {s : St} (g : Good n s) (hn : n ≤ 1000) (a : Nat) (ha : a < n) : ∃ t, R_lclosed [.list (ocs s), .int a] = .ok (.list (ocs t)) [] ∧ t.length = n ∧ ∀ c ∈ t, ∀ y, c = some y → y < n := by
  suffices key : ∃ d outs, R_lclosed [.list (ocs s), .int a] = .ok d outs ∧ ∃ t, d = .list (ocs t) ∧ outs = [] ∧ t.length = n ∧ ∀ c ∈ t, ∀ y, c = some y → y < n by
    obtain ⟨_, _, h1, c, rfl, rfl, h2⟩ := key
    exact ⟨c, h1, h2⟩
  refine ex_lclosed _ _ ?_
  unfold B_lclosed
  simp! []
  unfold W_lclosed_1
  refine go_whl (fun m env => ∃ x : Nat, env = [some (.list (ocs s)), some (.int a), some (.int x)] ∧ x < n ∧ rnk s x ≤ m) 1001 ⟨a, rfl, ha, Nat.le_trans (chn_le g ha) (by omega)⟩ (by decide) ?_
  rintro m env ⟨x, rfl, hx, hm⟩
  have hxl : x < s.length := by rw [g.len]; exact hx
  cases hu : up s x with
  | none =>
    refine ⟨false, [some (.list (ocs s)), some (.int a), some (.int x)], by simp! [up_get hxl, hu], fun _ => ?_, fun z => (by cases z)⟩
    have a1 : Op.run .add [.list (ocs (s.take x)), .list [.int (a : Nat)]] = some (.list (ocs (s.take x ++ [some a]))) := by
      rw [p_addLL (by rw [ocs_len, List.length_take, List.length_cons, List.length_nil]; have := g.len; omega)]
      simp only [ocs, List.map_append]; rfl
    have a2 : Op.run .add [.list (ocs (s.take x ++ [some a])), .list (ocs (s.drop (x + 1)))] = some (.list (ocs (s.set x (some a)))) := by
      rw [p_addLL (by rw [ocs_len, ocs_len, List.length_append, List.length_take, List.length_drop, List.length_cons, List.length_nil]; have := g.len; omega)]
      have e : s.set x (some a) = (s.take x ++ [some a]) ++ s.drop (x + 1) := by
        rw [List.set_eq_take_append_cons_drop, if_pos hxl]; simp
      rw [e]
      simp only [ocs, List.map_append]
    unfold T_lclosed_1
    simp! [a1, a2]
    refine okX rfl ⟨_, rfl, rfl, by rw [List.length_set, g.len], fun c hc y e => ?_⟩
    obtain ⟨i, hi⟩ := List.mem_iff_getElem?.mp hc
    subst e
    have hi2 := up_some.mpr hi
    by_cases hix : x = i
    · subst hix
      rw [up_set_eq hxl] at hi2
      injection hi2 with hi2
      omega
    · rw [up_set_ne hix] at hi2
      exact g.lt _ _ hi2
  | some y =>
    refine ⟨true, [some (.list (ocs s)), some (.int a), some (.int x)], by simp! [up_get hxl, hu], fun z => (by cases z), fun _ => ?_⟩
    unfold D_lclosed_1
    simp! [up_get hxl, hu]
    have := rnk_rank g _ _ hu
    exact okN ⟨m - 1, by omega, y, rfl, g.lt _ _ hu, by omega⟩

/-- what comes near a state: any value that repr can show -/
def NearOk (d : D) : Prop := Sh 10300 4 d ∧ ∀ xs, d = .list xs → xs.length ≤ 100 ∧ ∀ x ∈ xs, Sh 100 3 x
theorem near_list {xs : List D} (hl : xs.length ≤ 100) (h : ∀ x ∈ xs, Sh 100 3 x) : NearOk (.list xs) := by
  refine ⟨(sh_list h).mono ?_ (by omega), fun ys e => by cases e; exact ⟨hl, h⟩⟩
  have := Nat.mul_le_mul hl (show 102 ≤ 102 by omega)
  omega
theorem sh_ocE {c : Option Nat} (h : ∀ y, c = some y → y < 64) : Sh 100 3 (oc c) := (sh_oc h).mono (by omega) (by omega)
theorem near_ocs {t : List (Option Nat)} (hl : t.length ≤ 100) (h : ∀ c ∈ t, ∀ y, c = some y → y < 64) : NearOk (.list (ocs t)) :=
  near_list (by rw [ocs_len]; exact hl) fun x hx => by
    obtain ⟨c, hc, rfl⟩ := List.mem_map.mp hx
    exact sh_ocE (h c hc)
theorem good_lt {n : Nat} {s : St} (g : Good n s) {c : Option Nat} (hc : c ∈ s) {y : Nat} (e : c = some y) : y < n := by
  obtain ⟨i, hi⟩ := List.mem_iff_getElem?.mp hc
  subst e
  exact g.lt _ _ (up_some.mpr hi)
theorem lnear_ex (p : Pen) {n : Nat} {s : St} (g : Good n s) (h1 : 1 ≤ n) (hn : n ≤ 40) (hp : p.i ≤ 900000) : ∃ d q, R_lnear [pen p, .list (ocs s)] = .ok d [pen q] ∧ NearOk d ∧ q.i ≤ p.i + 6 := by
  suffices key : ∃ d outs, R_lnear [pen p, .list (ocs s)] = .ok d outs ∧ ∃ q, outs = [pen q] ∧ NearOk d ∧ q.i ≤ p.i + 6 by
    obtain ⟨d, _, h1, q, rfl, h2⟩ := key
    exact ⟨d, q, h1, h2⟩
  have hsl := g.len
  obtain ⟨a, p1, e1, ha, hp1⟩ := ldraw_ex p n (by omega) (by omega) (by omega)
  obtain ⟨b, p2, e2, hb, hp2⟩ := ldraw_ex p1 n (by omega) (by omega) (by omega)
  obtain ⟨c, p3, e3, hc, hp3⟩ := ldraw_ex p2 20 (by omega) (by omega) (by omega)
  obtain ⟨w, p4, e4, hw, hp4⟩ := ldraw_ex p3 9 (by omega) (by omega) (by omega)
  have hs : ∀ d ∈ ([.int (a : Nat), .int (n : Nat), .int (-1), .bool true, .bool false, .none, .str (Str.ofString "0"), .str (Str.ofString ""), .tuple [], .list [], .dict [], .tuple [.int 0], .list [.int 0], .int 10000000000000000000000000000000000000000, .int (0 - (n : Int)), .int 40, .int 0, .dict [(.int 0, .int 1)], .int (b : Nat), .int ((n : Int) - 1)] : List D), Sh 100 3 d := by
    intro d hd
    simp only [List.mem_cons, List.not_mem_nil, or_false] at hd
    rcases hd with rfl | rfl | rfl | rfl | rfl | rfl | rfl | rfl | rfl | rfl | rfl | rfl | rfl | rfl | rfl | rfl | rfl | rfl | rfl | rfl
    · exact (sh_nat (by omega)).mono (by omega) (by omega)
    · exact (sh_nat (by omega)).mono (by omega) (by omega)
    iterate 12 exact sh_con (by decide +kernel)
    · exact (sh_neg0 (by omega)).mono (by omega) (by omega)
    · exact sh_con (by decide +kernel)
    · exact sh_con (by decide +kernel)
    · exact sh_con (by decide +kernel)
    · exact (sh_nat (by omega)).mono (by omega) (by omega)
    · have e : ((n : Int) - 1) = ((n - 1 : Nat) : Int) := by omega
      rw [e]
      exact (sh_nat (by omega)).mono (by omega) (by omega)
  obtain ⟨d, hd, hds⟩ := mem_at hs (i := c) (by simpa using hc)
  have add18 : Op.run .add [.list [.int (a : Nat), .int (n : Nat), .int (-1), .bool true, .bool false, .none, .str (Str.ofString "0"), .str (Str.ofString ""), .tuple [], .list [], .dict [], .tuple [.int 0], .list [.int 0], .int 10000000000000000000000000000000000000000, .int (0 - (n : Int)), .int 40, .int 0, .dict [(.int 0, .int 1)]], .list [.int (b : Nat), .int ((n : Int) - 1)]] = some (.list [.int (a : Nat), .int (n : Nat), .int (-1), .bool true, .bool false, .none, .str (Str.ofString "0"), .str (Str.ofString ""), .tuple [], .list [], .dict [], .tuple [.int 0], .list [.int 0], .int 10000000000000000000000000000000000000000, .int (0 - (n : Int)), .int 40, .int 0, .dict [(.int 0, .int 1)], .int (b : Nat), .int ((n : Int) - 1)]) := p_addLL (by simp)
  refine ex_lnear _ _ ?_
  unfold B_lnear
  have hlt : ∀ c ∈ s, ∀ y, c = some y → y < 64 := fun c hc y e => by
    have := good_lt g hc e; omega
  by_cases w3 : w < 3
  · have b1 : Op.run .add [.list (ocs (s.take a)), .list [d]] = some (.list (ocs (s.take a) ++ [d])) := p_addLL (by rw [ocs_len, List.length_take]; simp; omega)
    have b2 : Op.run .add [.list (ocs (s.take a) ++ [d]), .list (ocs (s.drop (a + 1)))] = some (.list ((ocs (s.take a) ++ [d]) ++ ocs (s.drop (a + 1)))) := p_addLL (by rw [List.length_append, ocs_len, ocs_len]; simp; omega)
    simp! [hsl, e1, e2, call_ldraw, add18, show R_ldraw [pen p2, .int 20] = _ from e3, hd, show R_ldraw [pen p3, .int 9] = _ from e4, w3, b1, b2]
    refine okX rfl ⟨p4, rfl, near_list ?_ fun x hx => ?_, by omega⟩
    · rw [List.length_append, List.length_append, ocs_len, ocs_len]; simp; omega
    · rcases List.mem_append.mp hx with hx | hx
      · rcases List.mem_append.mp hx with hx | hx
        · obtain ⟨c, hc, rfl⟩ := List.mem_map.mp hx
          exact sh_ocE (hlt c (List.mem_of_mem_take hc))
        · simp at hx; subst hx; exact hds
      · obtain ⟨c, hc, rfl⟩ := List.mem_map.mp hx
        exact sh_ocE (hlt c (List.mem_of_mem_drop hc))
  obtain ⟨t, e5, htl, ht⟩ := lclosed_is g (by omega) a ha
  have htt : ∀ c ∈ t, ∀ y, c = some y → y < 64 := fun c hc y e => by have := ht c hc y e; omega
  by_cases w5 : w < 5
  · simp! [hsl, e1, e2, call_ldraw, add18, show R_ldraw [pen p2, .int 20] = _ from e3, hd, show R_ldraw [pen p3, .int 9] = _ from e4, w3, T_lnear_5, w5, e5, call_lclosed]
    exact okX rfl ⟨p4, rfl, near_ocs (by omega) htt, by omega⟩
  by_cases w6 : w = 5
  · subst w6
    obtain ⟨k, p5, e6, hk, hp5⟩ := ldraw_ex p4 42 (by omega) (by omega) (by omega)
    have b1 : Op.run .mul [.list [.none], .int 40] = some (.list (ocs (List.replicate 40 none))) := rfl
    have b2 : Op.run .add [.list (ocs t), .list (ocs (List.replicate 40 none))] = some (.list (ocs (t ++ List.replicate 40 none))) := by
      rw [p_addLL (by rw [ocs_len, ocs_len]; simp; omega)]
      simp only [ocs, List.map_append]
    simp! [hsl, e1, e2, call_ldraw, add18, show R_ldraw [pen p2, .int 20] = _ from e3, hd, show R_ldraw [pen p3, .int 9] = _ from e4, T_lnear_5, e5, call_lclosed, T_lnear_4, b1, b2, show R_ldraw [pen p4, .int 42] = _ from e6]
    refine okX rfl ⟨p5, rfl, near_ocs ?_ fun c hc => ?_, by omega⟩
    · rw [List.length_take, List.length_append, List.length_replicate]; omega
    · rcases List.mem_append.mp (List.mem_of_mem_take hc) with h | h
      · exact htt c h
      · rw [List.eq_of_mem_replicate h]; exact fun y e => nomatch e
  by_cases w7 : w = 6
  · subst w7
    simp! [hsl, e1, e2, call_ldraw, add18, show R_ldraw [pen p2, .int 20] = _ from e3, hd, show R_ldraw [pen p3, .int 9] = _ from e4, T_lnear_5, T_lnear_4, T_lnear_3]
    exact okX rfl ⟨p4, rfl, near_ocs (by rw [List.length_take]; omega) (fun c hc => hlt c (List.mem_of_mem_take hc)), by omega⟩
  by_cases w8 : w = 7
  · subst w8
    obtain ⟨k, p5, e6, hk, hp5⟩ := ldraw_ex p4 8 (by omega) (by omega) (by omega)
    have hs2 : ∀ d ∈ ([.none, .int 0, .str (Str.ofString ""), .dict [], .bool true, .list [.list [.none]], .list [.tuple [.none]], .int 1000000000000000000000000000000] : List D), NearOk d := by
      intro d hd
      simp only [List.mem_cons, List.not_mem_nil, or_false] at hd
      rcases hd with rfl | rfl | rfl | rfl | rfl | rfl | rfl | rfl
      · exact ⟨(sh_con (by decide +kernel)).mono (by omega) (by omega), fun _ e => nomatch e⟩
      · exact ⟨(sh_con (by decide +kernel)).mono (by omega) (by omega), fun _ e => nomatch e⟩
      · exact ⟨(sh_con (by decide +kernel)).mono (by omega) (by omega), fun _ e => nomatch e⟩
      · exact ⟨(sh_con (by decide +kernel)).mono (by omega) (by omega), fun _ e => nomatch e⟩
      · exact ⟨(sh_con (by decide +kernel)).mono (by omega) (by omega), fun _ e => nomatch e⟩
      · exact near_list (by simp) fun x hx => by
          simp only [List.mem_cons, List.not_mem_nil, or_false] at hx
          subst hx
          exact sh_con (by decide +kernel)
      · exact near_list (by simp) fun x hx => by
          simp only [List.mem_cons, List.not_mem_nil, or_false] at hx
          subst hx
          exact sh_con (by decide +kernel)
      · exact ⟨(sh_con (by decide +kernel)).mono (by omega) (by omega), fun _ e => nomatch e⟩
    obtain ⟨d2, hd2, hn2⟩ := mem_at hs2 (i := k) (by simpa using hk)
    simp! [hsl, e1, e2, call_ldraw, add18, show R_ldraw [pen p2, .int 20] = _ from e3, hd, show R_ldraw [pen p3, .int 9] = _ from e4, T_lnear_5, T_lnear_4, T_lnear_3, T_lnear_2, show R_ldraw [pen p4, .int 8] = _ from e6, hd2]
    exact okX rfl ⟨p5, rfl, hn2, by omega⟩
  · simp! [hsl, e1, e2, call_ldraw, add18, show R_ldraw [pen p2, .int 20] = _ from e3, hd, show R_ldraw [pen p3, .int 9] = _ from e4, eq_false w3, T_lnear_5, eq_false w5, T_lnear_4, eq_false w6, T_lnear_3, eq_false w7, T_lnear_2, eq_false w8, T_lnear_1]
    exact okX rfl ⟨p4, rfl, near_ocs (by omega) hlt, by omega⟩

theorem sh_conB {w k : Nat} {d : D} (h : (PyData.showable d && decide (d.depth ≤ k) && decide ((PyData.shown d).length ≤ w) && PyData.strOk (PyData.shown d)) = true) : Sh w k d := by
  simp only [Bool.and_eq_true, decide_eq_true_eq] at h
  exact ⟨h.1.1.1, h.1.1.2, h.1.2, h.2⟩
theorem sh_dict0 {w k : Nat} {d : D} (h : Sh w k d) : Sh (w + 10) (k + 1) (.dict [(.int 0, d)]) := by
  have z : PyData.shown (.int 0) = Str.ofString "0" := by decide +kernel
  have e : PyData.shown (.dict [(.int 0, d)]) = (Str.ofString "{" ++ (Str.ofString "0" ++ Str.ofString ": " ++ PyData.shown d)) ++ Str.ofString "}" := by
    simp only [PyData.shown, PyData.shownKv]
    rw [← z]
    simp only [PyData.shown]
    rfl
  refine ⟨?_, ?_, ?_, ?_⟩
  · simp [PyData.showable, PyData.showableKv, h.sh]
  · have := h.dp
    simp only [PyData.depth, PyData.depthKv]
    omega
  · rw [e, len_app, len_app, len_app, len_app]
    have h1 : (Str.ofString "{").length = 1 := by decide
    have h2 : (Str.ofString "0").length = 1 := by decide
    have h3 : (Str.ofString ": ").length = 2 := by decide
    have h4 : (Str.ofString "}").length = 1 := by decide
    have := h.ln
    omega
  · rw [e]
    exact strOk_app (strOk_app (strOk_of _) (strOk_app (strOk_app (strOk_of _) (strOk_of _)) h.so)) (strOk_of _)
theorem ltold_ok {d : D} (h : Sh 120000 7 d) : R_ltold [d] = .ok (.bool true) [] := by
  obtain ⟨b, e1, h1⟩ := lis_state_any d
  obtain ⟨c, e2, h2⟩ := is_state_any d
  have : c = b := by rw [Bool.eq_iff_iff, h1, h2]
  subst this
  refine is_ltold _ ?_
  unfold B_ltold
  simp! [p_reprS h, e1, call_lis_state, p_reprS sh_bool, e2, call_is_state, p_eqReprS sh_bool, callKK_eq, p_eqReprS h]
  exact okX rfl ⟨rfl, rfl⟩

def oddL : List D := [.none, .bool true, .int 0, .int 1, .str (Str.ofString ""), .str (Str.ofString "None"), .tuple [], .list [], .dict [], .tuple [.none], .tuple [.int 0], .tuple (List.replicate 40 .none), .tuple (List.replicate 41 .none), .tuple [.none, .int 0, .int 3, .int 2], .tuple [.none, .bool true], .tuple [.none, .bool false], .tuple [.int 1, .none, .none], .tuple [.tuple [.none]], .tuple [.none, .tuple [.int 0]], .tuple [.none, .list [.int 0]], .tuple [.none, .dict []]]
theorem sh_nones {m : Nat} (hm : m ≤ 100) : Sh 120000 7 (.tuple (List.replicate m .none)) := by
  have e : (List.replicate m PyData.none) = ocs (List.replicate m none) := by unfold ocs; rw [List.map_replicate]; rfl
  rw [e]
  exact (sh_ocsT (s := List.replicate m none) fun c hc => by rw [List.eq_of_mem_replicate hc]; exact fun y e => nomatch e).mono (by rw [List.length_replicate]; omega) (by omega)
theorem sh_con7 {d : D} (h : (PyData.showable d && decide (d.depth ≤ 3) && decide ((PyData.shown d).length ≤ 100) && PyData.strOk (PyData.shown d)) = true) : Sh 120000 7 d := (sh_con h).mono (by omega) (by omega)
theorem oddL_sh : ∀ d ∈ oddL, Sh 120000 7 d := by
  intro d hd
  unfold oddL at hd
  simp only [List.mem_cons, List.not_mem_nil, or_false] at hd
  rcases hd with rfl | rfl | rfl | rfl | rfl | rfl | rfl | rfl | rfl | rfl | rfl | rfl | rfl | rfl | rfl | rfl | rfl | rfl | rfl | rfl | rfl
  iterate 11 exact sh_con7 (by decide +kernel)
  · exact sh_nones (by omega)
  · exact sh_nones (by omega)
  all_goals exact sh_con7 (by decide +kernel)
theorem plain (ns : List Int) (h : ns.length ≤ 63) : F_law.run [.list (ns.map .int)] = .ok (.bool true) [] := by
  show R_law [.list (ns.map .int)] = _
  refine is_law _ ?_
  unfold B_law
  simp! [lpen_is ns h, call_lpen]
  unfold W_law_2
  refine go_forR (n := 6) (env1 := [some (.list (ns.map .int)), some (pen ⟨ns, 0, 0⟩), none, none, none, none, none, none, none]) (by simp! [] <;> rfl) rfl
    (fun j env => ∃ (q : Pen) (u2 u4 u5 u6 u7 : Option D), env = [some (.list (ns.map .int)), some (pen q), u2, none, u4, u5, u6, u7, none] ∧ q.i ≤ 1000 * j) ⟨_, _, _, _, _, _, rfl, Nat.zero_le _⟩ ?_ ?_
  · rintro j env hj ⟨q, u2, u4, u5, u6, u7, rfl, hq⟩
    obtain ⟨n, q1, e1, hn1, hn, hq1⟩ := lcount_ex q (by omega)
    obtain ⟨s, q2, e2, g, hq2⟩ := lforest_ex q1 n hn1 hn (by omega)
    obtain ⟨a, q3, e3, ha, hq3⟩ := ldraw_ex q2 n (by omega) (by omega) (by omega)
    obtain ⟨t, e4, htl, ht⟩ := lclosed_is g (by omega) a ha
    have hsl := g.len
    have hlt : ∀ c ∈ s, ∀ y, c = some y → y < 64 := fun c hc y e => by
      have := good_lt g hc e; omega
    have htt : ∀ c ∈ t, ∀ y, c = some y → y < 64 := fun c hc y e => by have := ht c hc y e; omega
    have t1 : Sh 120000 7 (.tuple (ocs s)) := (sh_ocsT hlt).mono (by omega) (by omega)
    have t2 : Sh 120000 7 (.list (ocs s)) := (sh_ocsL hlt).mono (by omega) (by omega)
    have t3 : Sh 120000 7 (.tuple (ocs t)) := (sh_ocsT htt).mono (by omega) (by omega)
    unfold D_law_2
    simp! [e1, call_lcount, e2, call_lforest, hsl, e3, call_ldraw, e4, call_lclosed]
    unfold W_law_1
    refine go_forR (n := 4) (env1 := [some (.list (ns.map .int)), some (pen q3), some (.int (j : Nat)), none, some (.list (ocs s)), some (.list [.tuple (ocs s), .list (ocs s), .tuple (ocs t)]), u6, u7, none]) (by simp! [] <;> rfl) rfl
      (fun k env => ∃ (q : Pen) (xs : List D) (u6 u7 : Option D), env = [some (.list (ns.map .int)), some (pen q), some (.int (j : Nat)), none, some (.list (ocs s)), some (.list xs), u6, u7, none] ∧ xs.length ≤ 3 + 4 * k ∧ (∀ d ∈ xs, Sh 120000 7 d) ∧ q.i ≤ q3.i + 6 * k) ⟨q3, _, _, _, rfl, by simp, fun d hd => ?_, by omega⟩ ?_ ?_
    · simp only [List.mem_cons, List.not_mem_nil, or_false] at hd
      rcases hd with rfl | rfl | rfl
      · exact t1
      · exact t2
      · exact t3
    · rintro k env hk ⟨q, xs, u6, u7, rfl, hxl, hxs, hq4⟩
      obtain ⟨d, q5, e5, ⟨hd1, hd2⟩, hq5⟩ := lnear_ex q g hn1 hn (by omega)
      have hd0 : Sh 120000 7 d := hd1.mono (by omega) (by omega)
      unfold D_law_1
      cases d with
      | list ys =>
        obtain ⟨hy1, hy2⟩ := hd2 ys rfl
        have hm := Nat.mul_le_mul hy1 (show 102 ≤ 102 by omega)
        have ty : Sh 10300 4 (.tuple ys) := (sh_tuple hy2).mono (by omega) (by omega)
        have ty2 : Sh 120000 7 (.tuple [.tuple ys]) := (sh_tupN (xs := [.tuple ys]) (w := 10300) (k := 4) (fun x hx => by
          simp only [List.mem_cons, List.not_mem_nil, or_false] at hx
          subst hx
          exact ty) (by simp)).mono (by omega) (by omega)
        have td : Sh 120000 7 (.dict [(.int 0, .list ys)]) := (sh_dict0 hd1).mono (by omega) (by omega)
        simp! [e5, call_lnear, m_append (show xs.length < sizeLine by rw [sizeLine_eq]; omega), p_catLL (show (xs ++ [(PyData.list ys)]).length + ([.tuple ys, .tuple [.tuple ys], .dict [(.int 0, .list ys)]] : List D).length ≤ 16000000 by simp; omega)]
        refine okN ⟨q5, (xs ++ [(PyData.list ys)]) ++ [.tuple ys, .tuple [.tuple ys], .dict [(.int 0, .list ys)]], _, _, rfl, by simp; omega, fun z hz => ?_, by omega⟩
        rcases List.mem_append.mp hz with hz | hz
        · rcases List.mem_append.mp hz with hz | hz
          · exact hxs z hz
          · simp at hz; subst hz; exact hd0
        · simp only [List.mem_cons, List.not_mem_nil, or_false] at hz
          rcases hz with rfl | rfl | rfl
          · exact ty.mono (by omega) (by omega)
          · exact ty2
          · exact td
      | _ =>
        simp! [e5, call_lnear, m_append (show xs.length < sizeLine by rw [sizeLine_eq]; omega)]
        refine okN ⟨q5, _, _, _, rfl, by simp; omega, fun z hz => ?_, by omega⟩
        rcases List.mem_append.mp hz with hz | hz
        · exact hxs z hz
        · simp at hz; subst hz; exact hd0
    · rintro env ⟨q, xs, u6, u7, rfl, hxl, hxs, hq4⟩
      have l1 : evE L_law_1 [some (.list (ns.map .int)), some (pen q), some (.int (j : Nat)), none, some (.list (ocs s)), some (.list xs), u6, u7, none] = .ok (.list []) [some (.list (ns.map .int)), some (pen q), some (.int (j : Nat)), none, some (.list (ocs s)), some (.list xs), u6, u7, none] := by
        unfold L_law_1
        refine (lc_pureS (xs := xs) (f := id) (env1 := [some (.list (ns.map .int)), some (pen q), some (.int (j : Nat)), none, some (.list (ocs s)), some (.list xs), u6, u7, none]) (fun _ => false) (fun d => d)
          (fun d => [some (.list (ns.map .int)), some (pen q), some (.int (j : Nat)), none, some (.list (ocs s)), some (.list xs), u6, u7, some d]) (by simp! [] <;> simp) (fun j => stands_own (by simp; rfl)) (fun d _ => by simp! [id]) (fun d _ => by simp! []) (fun d hd => by
            simp! [ltold_ok (hxs d hd), call_ltold]) (fun d hd h => by cases h) (by rw [sizeLine_eq]; omega)).trans ?_
        simp! []
        simp
      unfold T_law_1
      simp! [l1, show Op.run .ne [.list [], .list []] = some (.bool false) from rfl]
      exact okN ⟨q, _, _, _, _, _, rfl, by omega⟩
  · rintro env ⟨q, u2, u4, u5, u6, u7, rfl, hq⟩
    have m1 : Op.run .mul [.tuple [.none], .int 40] = some (.tuple (List.replicate 40 .none)) := rfl
    have m2 : Op.run .mul [.tuple [.none], .int 41] = some (.tuple (List.replicate 41 .none)) := rfl
    obtain ⟨odd, hodd⟩ : ∃ odd : List D, odd = oddL := ⟨_, rfl⟩
    have hall : ∀ d ∈ odd, Sh 120000 7 d := hodd ▸ oddL_sh
    have hol : odd.length = 21 := by rw [hodd]; rfl
    have big : ∀ ds es : List D, ds.length = 14 → es.length = 7 → Op.run .add [.list ds, .list es] = some (.list (ds ++ es)) := fun ds es k1 k2 => p_addLL (by omega)
    have a1 : Op.run .add [.list [.none, .bool true, .int 0, .int 1, .str (Str.ofString ""), .str (Str.ofString "None"), .tuple [], .list [], .dict [], .tuple [.none], .tuple [.int 0], .tuple (List.replicate 40 .none), .tuple (List.replicate 41 .none), .tuple [.none, .int 0, .int 3, .int 2]], .list [.tuple [.none, .bool true], .tuple [.none, .bool false], .tuple [.int 1, .none, .none], .tuple [.tuple [.none]], .tuple [.none, .tuple [.int 0]], .tuple [.none, .list [.int 0]], .tuple [.none, .dict []]]] = some (.list odd) := by
      rw [big _ _ (by rfl) (by rfl), hodd]
      rfl
    have l2 : evE L_law_2 [some (.list (ns.map .int)), some (pen q), u2, some (.list odd), u4, u5, u6, u7, none] = .ok (.list []) [some (.list (ns.map .int)), some (pen q), u2, some (.list odd), u4, u5, u6, u7, none] := by
      unfold L_law_2
      refine (lc_pure (xs := odd) (f := id) (env1 := [some (.list (ns.map .int)), some (pen q), u2, some (.list odd), u4, u5, u6, u7, none]) (fun _ => false) (fun d => d)
        (fun d => [some (.list (ns.map .int)), some (pen q), u2, some (.list odd), u4, u5, u6, u7, some d]) (by simp! [] <;> simp) rfl (fun d _ => by simp! [id]) (fun d _ => by simp! []) (fun d hd => by
          simp! [ltold_ok (hall d hd), call_ltold]) (fun d hd h => by cases h) (by rw [sizeLine_eq]; omega)).trans ?_
      simp! []
      simp
    unfold T_law_2
    simp! [m1, m2, a1, l2, show Op.run .eq [.list [], .list []] = some (.bool true) from rfl]
    exact okX rfl ⟨rfl, rfl⟩

end G
namespace G
open PySem MP L2
def top (i : Nat) : Stmt := PySem.Challenge.pw_lapsewalk_k01_state_of_any_value.main.body.getD i (.Pass ⟨0, 0, 0, 0⟩)
theorem C_lpen : defB N_lpen P_lpen M_lpen m_lpen true B_lpen (top 9) = true := by kernel_rfl
theorem C_ldraw : defB N_ldraw P_ldraw M_ldraw m_ldraw false B_ldraw (top 10) = true := by kernel_rfl
theorem C_lorder : defB N_lorder P_lorder M_lorder m_lorder false B_lorder (top 12) = true := by kernel_rfl
theorem C_lforest : defB N_lforest P_lforest M_lforest m_lforest false B_lforest (top 13) = true := by kernel_rfl
theorem C_lcount : defB N_lcount P_lcount M_lcount m_lcount false B_lcount (top 11) = true := by kernel_rfl
theorem C_lclosed : defB N_lclosed P_lclosed M_lclosed m_lclosed false B_lclosed (top 14) = true := by kernel_rfl
theorem C_lnear : defB N_lnear P_lnear M_lnear m_lnear false B_lnear (top 15) = true := by kernel_rfl
theorem C_lis_state : defB N_lis_state P_lis_state M_lis_state m_lis_state false B_lis_state (top 16) = true := by kernel_rfl
theorem C_leads_back : defB N_leads_back P_leads_back M_leads_back m_leads_back false B_leads_back (top 5) = true := by kernel_rfl
theorem C_least_on_cycle : defB N_least_on_cycle P_least_on_cycle M_least_on_cycle m_least_on_cycle false B_least_on_cycle (top 6) = true := by kernel_rfl
theorem C_is_integer : defB N_is_integer P_is_integer M_is_integer m_is_integer false B_is_integer (top 2) = true := by kernel_rfl
theorem C_is_exception : defB N_is_exception P_is_exception M_is_exception m_is_exception false B_is_exception (top 3) = true := by kernel_rfl
theorem C_wrong_entry : defB N_wrong_entry P_wrong_entry M_wrong_entry m_wrong_entry false B_wrong_entry (top 4) = true := by kernel_rfl
theorem C_is_state : defB N_is_state P_is_state M_is_state m_is_state false B_is_state (top 7) = true := by kernel_rfl
theorem C_ltold : defB N_ltold P_ltold M_ltold m_ltold false B_ltold (top 17) = true := by kernel_rfl
theorem C_law : defB N_law P_law M_law m_law false B_law (top 18) = true := by kernel_rfl
section
variable {l : PySem.W.OpenLaw} {w : World} {K : PySem.W.Frag} {h : Heap} {mg : Str → Option Value}
theorem all_mk (X : K.In h) (G : h.Ns mainGlobals mg) {fa : Addr} (hfa : mg "law" = some (.ref fa))
    {f0 : Addr} {od0 an0 : Option Addr} {sl0 : Array (Option Value)} {oc0 kV0 dc0 pm0 cd0 ct0 : Value}
    (a0 : PySem.W.nsIn K mainGlobals "_law_pen" = some (some (.ref f0)))
    (l0 : K.lookup f0 = some ⟨oc0, od0, .func (PySem.W.fnOf "_law_pen" "_law_pen" (defArgs (top 9)) (defBody (top 9)) (defScope (top 9)) .none kV0 dc0 pm0 an0 cd0 ct0), sl0⟩)
    (c0 : PySem.W.codeIn K cd0 "_law_pen" = true)
    (k0 : PySem.W.keepIn K (.ref f0) = true)
    {f1 : Addr} {od1 an1 : Option Addr} {sl1 : Array (Option Value)} {oc1 kV1 dc1 pm1 cd1 ct1 : Value}
    (a1 : PySem.W.nsIn K mainGlobals "_law_draw" = some (some (.ref f1)))
    (l1 : K.lookup f1 = some ⟨oc1, od1, .func (PySem.W.fnOf "_law_draw" "_law_draw" (defArgs (top 10)) (defBody (top 10)) (defScope (top 10)) .none kV1 dc1 pm1 an1 cd1 ct1), sl1⟩)
    (c1 : PySem.W.codeIn K cd1 "_law_draw" = true)
    (k1 : PySem.W.keepIn K (.ref f1) = true)
    {f2 : Addr} {od2 an2 : Option Addr} {sl2 : Array (Option Value)} {oc2 kV2 dc2 pm2 cd2 ct2 : Value}
    (a2 : PySem.W.nsIn K mainGlobals "_law_order" = some (some (.ref f2)))
    (l2 : K.lookup f2 = some ⟨oc2, od2, .func (PySem.W.fnOf "_law_order" "_law_order" (defArgs (top 12)) (defBody (top 12)) (defScope (top 12)) .none kV2 dc2 pm2 an2 cd2 ct2), sl2⟩)
    (c2 : PySem.W.codeIn K cd2 "_law_order" = true)
    (k2 : PySem.W.keepIn K (.ref f2) = true)
    {f3 : Addr} {od3 an3 : Option Addr} {sl3 : Array (Option Value)} {oc3 kV3 dc3 pm3 cd3 ct3 : Value}
    (a3 : PySem.W.nsIn K mainGlobals "_law_forest" = some (some (.ref f3)))
    (l3 : K.lookup f3 = some ⟨oc3, od3, .func (PySem.W.fnOf "_law_forest" "_law_forest" (defArgs (top 13)) (defBody (top 13)) (defScope (top 13)) .none kV3 dc3 pm3 an3 cd3 ct3), sl3⟩)
    (c3 : PySem.W.codeIn K cd3 "_law_forest" = true)
    (k3 : PySem.W.keepIn K (.ref f3) = true)
    {f4 : Addr} {od4 an4 : Option Addr} {sl4 : Array (Option Value)} {oc4 kV4 dc4 pm4 cd4 ct4 : Value}
    (a4 : PySem.W.nsIn K mainGlobals "_law_count" = some (some (.ref f4)))
    (l4 : K.lookup f4 = some ⟨oc4, od4, .func (PySem.W.fnOf "_law_count" "_law_count" (defArgs (top 11)) (defBody (top 11)) (defScope (top 11)) .none kV4 dc4 pm4 an4 cd4 ct4), sl4⟩)
    (c4 : PySem.W.codeIn K cd4 "_law_count" = true)
    (k4 : PySem.W.keepIn K (.ref f4) = true)
    {f5 : Addr} {od5 an5 : Option Addr} {sl5 : Array (Option Value)} {oc5 kV5 dc5 pm5 cd5 ct5 : Value}
    (a5 : PySem.W.nsIn K mainGlobals "_law_closed" = some (some (.ref f5)))
    (l5 : K.lookup f5 = some ⟨oc5, od5, .func (PySem.W.fnOf "_law_closed" "_law_closed" (defArgs (top 14)) (defBody (top 14)) (defScope (top 14)) .none kV5 dc5 pm5 an5 cd5 ct5), sl5⟩)
    (c5 : PySem.W.codeIn K cd5 "_law_closed" = true)
    (k5 : PySem.W.keepIn K (.ref f5) = true)
    {f6 : Addr} {od6 an6 : Option Addr} {sl6 : Array (Option Value)} {oc6 kV6 dc6 pm6 cd6 ct6 : Value}
    (a6 : PySem.W.nsIn K mainGlobals "_law_near" = some (some (.ref f6)))
    (l6 : K.lookup f6 = some ⟨oc6, od6, .func (PySem.W.fnOf "_law_near" "_law_near" (defArgs (top 15)) (defBody (top 15)) (defScope (top 15)) .none kV6 dc6 pm6 an6 cd6 ct6), sl6⟩)
    (c6 : PySem.W.codeIn K cd6 "_law_near" = true)
    (k6 : PySem.W.keepIn K (.ref f6) = true)
    {f7 : Addr} {od7 an7 : Option Addr} {sl7 : Array (Option Value)} {oc7 kV7 dc7 pm7 cd7 ct7 : Value}
    (a7 : PySem.W.nsIn K mainGlobals "_law_is_state" = some (some (.ref f7)))
    (l7 : K.lookup f7 = some ⟨oc7, od7, .func (PySem.W.fnOf "_law_is_state" "_law_is_state" (defArgs (top 16)) (defBody (top 16)) (defScope (top 16)) .none kV7 dc7 pm7 an7 cd7 ct7), sl7⟩)
    (c7 : PySem.W.codeIn K cd7 "_law_is_state" = true)
    (k7 : PySem.W.keepIn K (.ref f7) = true)
    {f8 : Addr} {od8 an8 : Option Addr} {sl8 : Array (Option Value)} {oc8 kV8 dc8 pm8 cd8 ct8 : Value}
    (a8 : PySem.W.nsIn K mainGlobals "leads_back" = some (some (.ref f8)))
    (l8 : K.lookup f8 = some ⟨oc8, od8, .func (PySem.W.fnOf "leads_back" "leads_back" (defArgs (top 5)) (defBody (top 5)) (defScope (top 5)) .none kV8 dc8 pm8 an8 cd8 ct8), sl8⟩)
    (c8 : PySem.W.codeIn K cd8 "leads_back" = true)
    (k8 : PySem.W.keepIn K (.ref f8) = true)
    {f9 : Addr} {od9 an9 : Option Addr} {sl9 : Array (Option Value)} {oc9 kV9 dc9 pm9 cd9 ct9 : Value}
    (a9 : PySem.W.nsIn K mainGlobals "least_on_cycle" = some (some (.ref f9)))
    (l9 : K.lookup f9 = some ⟨oc9, od9, .func (PySem.W.fnOf "least_on_cycle" "least_on_cycle" (defArgs (top 6)) (defBody (top 6)) (defScope (top 6)) .none kV9 dc9 pm9 an9 cd9 ct9), sl9⟩)
    (c9 : PySem.W.codeIn K cd9 "least_on_cycle" = true)
    (k9 : PySem.W.keepIn K (.ref f9) = true)
    {f10 : Addr} {od10 an10 : Option Addr} {sl10 : Array (Option Value)} {oc10 kV10 dc10 pm10 cd10 ct10 : Value}
    (a10 : PySem.W.nsIn K mainGlobals "is_integer" = some (some (.ref f10)))
    (l10 : K.lookup f10 = some ⟨oc10, od10, .func (PySem.W.fnOf "is_integer" "is_integer" (defArgs (top 2)) (defBody (top 2)) (defScope (top 2)) .none kV10 dc10 pm10 an10 cd10 ct10), sl10⟩)
    (c10 : PySem.W.codeIn K cd10 "is_integer" = true)
    (k10 : PySem.W.keepIn K (.ref f10) = true)
    {f11 : Addr} {od11 an11 : Option Addr} {sl11 : Array (Option Value)} {oc11 kV11 dc11 pm11 cd11 ct11 : Value}
    (a11 : PySem.W.nsIn K mainGlobals "is_exception" = some (some (.ref f11)))
    (l11 : K.lookup f11 = some ⟨oc11, od11, .func (PySem.W.fnOf "is_exception" "is_exception" (defArgs (top 3)) (defBody (top 3)) (defScope (top 3)) .none kV11 dc11 pm11 an11 cd11 ct11), sl11⟩)
    (c11 : PySem.W.codeIn K cd11 "is_exception" = true)
    (k11 : PySem.W.keepIn K (.ref f11) = true)
    {f12 : Addr} {od12 an12 : Option Addr} {sl12 : Array (Option Value)} {oc12 kV12 dc12 pm12 cd12 ct12 : Value}
    (a12 : PySem.W.nsIn K mainGlobals "wrong_entry" = some (some (.ref f12)))
    (l12 : K.lookup f12 = some ⟨oc12, od12, .func (PySem.W.fnOf "wrong_entry" "wrong_entry" (defArgs (top 4)) (defBody (top 4)) (defScope (top 4)) .none kV12 dc12 pm12 an12 cd12 ct12), sl12⟩)
    (c12 : PySem.W.codeIn K cd12 "wrong_entry" = true)
    (k12 : PySem.W.keepIn K (.ref f12) = true)
    {f13 : Addr} {od13 an13 : Option Addr} {sl13 : Array (Option Value)} {oc13 kV13 dc13 pm13 cd13 ct13 : Value}
    (a13 : PySem.W.nsIn K mainGlobals "is_state" = some (some (.ref f13)))
    (l13 : K.lookup f13 = some ⟨oc13, od13, .func (PySem.W.fnOf "is_state" "is_state" (defArgs (top 7)) (defBody (top 7)) (defScope (top 7)) .none kV13 dc13 pm13 an13 cd13 ct13), sl13⟩)
    (c13 : PySem.W.codeIn K cd13 "is_state" = true)
    (k13 : PySem.W.keepIn K (.ref f13) = true)
    {f14 : Addr} {od14 an14 : Option Addr} {sl14 : Array (Option Value)} {oc14 kV14 dc14 pm14 cd14 ct14 : Value}
    (a14 : PySem.W.nsIn K mainGlobals "_law_told" = some (some (.ref f14)))
    (l14 : K.lookup f14 = some ⟨oc14, od14, .func (PySem.W.fnOf "_law_told" "_law_told" (defArgs (top 17)) (defBody (top 17)) (defScope (top 17)) .none kV14 dc14 pm14 an14 cd14 ct14), sl14⟩)
    (c14 : PySem.W.codeIn K cd14 "_law_told" = true)
    (k14 : PySem.W.keepIn K (.ref f14) = true)
    {f15 : Addr} {od15 an15 : Option Addr} {sl15 : Array (Option Value)} {oc15 kV15 dc15 pm15 cd15 ct15 : Value}
    (a15 : PySem.W.nsIn K mainGlobals "law" = some (some (.ref f15)))
    (l15 : K.lookup f15 = some ⟨oc15, od15, .func (PySem.W.fnOf "law" "law" (defArgs (top 18)) (defBody (top 18)) (defScope (top 18)) .none kV15 dc15 pm15 an15 cd15 ct15), sl15⟩)
    (c15 : PySem.W.codeIn K cd15 "law" = true)
    (k15 : PySem.W.keepIn K (.ref f15) = true)
    {t_MOST_COUNT : Tok} (g_MOST_COUNT : PySem.W.nsIn K mainGlobals "MOST_COUNT" = some (some (.int 40 t_MOST_COUNT)))
    (z_len : PySem.W.nsIn K mainGlobals "len" = some none)
    (z_tuple : PySem.W.nsIn K mainGlobals "tuple" = some none)
    (z_list : PySem.W.nsIn K mainGlobals "list" = some none)
    (z_sorted : PySem.W.nsIn K mainGlobals "sorted" = some none)
    (z_min : PySem.W.nsIn K mainGlobals "min" = some none)
    (z_max : PySem.W.nsIn K mainGlobals "max" = some none)
    (z_sum : PySem.W.nsIn K mainGlobals "sum" = some none)
    (z_any : PySem.W.nsIn K mainGlobals "any" = some none)
    (z_all : PySem.W.nsIn K mainGlobals "all" = some none)
    (z_abs : PySem.W.nsIn K mainGlobals "abs" = some none)
    (z_int : PySem.W.nsIn K mainGlobals "int" = some none)
    (z_str : PySem.W.nsIn K mainGlobals "str" = some none)
    (z_repr : PySem.W.nsIn K mainGlobals "repr" = some none)
    (z_isinstance : PySem.W.nsIn K mainGlobals "isinstance" = some none)
    (z_bool : PySem.W.nsIn K mainGlobals "bool" = some none)
    (z_dict : PySem.W.nsIn K mainGlobals "dict" = some none)
    (z_range : PySem.W.nsIn K mainGlobals "range" = some none)
    (z_enumerate : PySem.W.nsIn K mainGlobals "enumerate" = some none)
    (z_zip : PySem.W.nsIn K mainGlobals "zip" = some none)
    : ∃ fd : FuncData, (∀ (s : Shared) (u : Value), BindsTo s fd ⟨[u], []⟩ [("_law_script", u)]) ∧ ∀ base : Heap, K.In base → base.Ns mainGlobals mg → FnG l.prog w K mg base (L2.CX l.prog w) 6 fa fd ["_law_script"] (spM K XN F_law) := by
  have bl : ∀ x ∈ bltNames, mg (Str.ofString x) = none := by
    intro x hx
    simp only [bltNames, List.mem_cons, List.not_mem_nil, or_false] at hx
    rcases hx with rfl | rfl | rfl | rfl | rfl | rfl | rfl | rfl | rfl | rfl | rfl | rfl | rfl | rfl | rfl | rfl | rfl | rfl | rfl
    · exact PySem.W.mg_none_of X G z_len
    · exact PySem.W.mg_none_of X G z_tuple
    · exact PySem.W.mg_none_of X G z_list
    · exact PySem.W.mg_none_of X G z_sorted
    · exact PySem.W.mg_none_of X G z_min
    · exact PySem.W.mg_none_of X G z_max
    · exact PySem.W.mg_none_of X G z_sum
    · exact PySem.W.mg_none_of X G z_any
    · exact PySem.W.mg_none_of X G z_all
    · exact PySem.W.mg_none_of X G z_abs
    · exact PySem.W.mg_none_of X G z_int
    · exact PySem.W.mg_none_of X G z_str
    · exact PySem.W.mg_none_of X G z_repr
    · exact PySem.W.mg_none_of X G z_isinstance
    · exact PySem.W.mg_none_of X G z_bool
    · exact PySem.W.mg_none_of X G z_dict
    · exact PySem.W.mg_none_of X G z_range
    · exact PySem.W.mg_none_of X G z_enumerate
    · exact PySem.W.mg_none_of X G z_zip
  have G_MOST_COUNT : GlbK K mg (Str.ofString "MOST_COUNT") (.int (40)) := ⟨.int (40), _, PySem.W.mg_of X G g_MOST_COUNT, ⟨_, rfl⟩, fun S H => .int (40)⟩
  have e := hfa.symm.trans (PySem.W.mg_of X G a15)
  cases e
  have T0 := fun_mk (st := top 9) l0 c0 k0
  have b0 := T0.binds (ps := P_lpen) fun _ _ _ _ _ _ us hl => match us, hl with | [_], _ => rfl
  have T1 := fun_mk (st := top 10) l1 c1 k1
  have b1 := T1.binds (ps := P_ldraw) fun _ _ _ _ _ _ us hl => match us, hl with | [_, _], _ => rfl
  have T2 := fun_mk (st := top 12) l2 c2 k2
  have b2 := T2.binds (ps := P_lorder) fun _ _ _ _ _ _ us hl => match us, hl with | [_, _], _ => rfl
  have T3 := fun_mk (st := top 13) l3 c3 k3
  have b3 := T3.binds (ps := P_lforest) fun _ _ _ _ _ _ us hl => match us, hl with | [_, _], _ => rfl
  have T4 := fun_mk (st := top 11) l4 c4 k4
  have b4 := T4.binds (ps := P_lcount) fun _ _ _ _ _ _ us hl => match us, hl with | [_], _ => rfl
  have T5 := fun_mk (st := top 14) l5 c5 k5
  have b5 := T5.binds (ps := P_lclosed) fun _ _ _ _ _ _ us hl => match us, hl with | [_, _], _ => rfl
  have T6 := fun_mk (st := top 15) l6 c6 k6
  have b6 := T6.binds (ps := P_lnear) fun _ _ _ _ _ _ us hl => match us, hl with | [_, _], _ => rfl
  have T7 := fun_mk (st := top 16) l7 c7 k7
  have b7 := T7.binds (ps := P_lis_state) fun _ _ _ _ _ _ us hl => match us, hl with | [_], _ => rfl
  have T8 := fun_mk (st := top 5) l8 c8 k8
  have b8 := T8.binds (ps := P_leads_back) fun _ _ _ _ _ _ us hl => match us, hl with | [_, _], _ => rfl
  have T9 := fun_mk (st := top 6) l9 c9 k9
  have b9 := T9.binds (ps := P_least_on_cycle) fun _ _ _ _ _ _ us hl => match us, hl with | [_], _ => rfl
  have T10 := fun_mk (st := top 2) l10 c10 k10
  have b10 := T10.binds (ps := P_is_integer) fun _ _ _ _ _ _ us hl => match us, hl with | [_], _ => rfl
  have T11 := fun_mk (st := top 3) l11 c11 k11
  have b11 := T11.binds (ps := P_is_exception) fun _ _ _ _ _ _ us hl => match us, hl with | [_, _], _ => rfl
  have T12 := fun_mk (st := top 4) l12 c12 k12
  have b12 := T12.binds (ps := P_wrong_entry) fun _ _ _ _ _ _ us hl => match us, hl with | [_], _ => rfl
  have T13 := fun_mk (st := top 7) l13 c13 k13
  have b13 := T13.binds (ps := P_is_state) fun _ _ _ _ _ _ us hl => match us, hl with | [_], _ => rfl
  have s13_0 : KB K _ P_is_state (0, [(Str.ofString "value")], [.arg 0]) := fun s us ws _ h1 h2 => match us, ws, h1, h2 with
    | [], [_], _, _ => ⟨_, .of_eq (show bindArgs (PySem.W.fnOf "is_state" "is_state" (defArgs (top 7)) (defBody (top 7)) (defScope (top 7)) .none kV13 dc13 pm13 an13 cd13 ct13) _ = _ from rfl), (.arg rfl .nil)⟩
  have T14 := fun_mk (st := top 17) l14 c14 k14
  have b14 := T14.binds (ps := P_ltold) fun _ _ _ _ _ _ us hl => match us, hl with | [_], _ => rfl
  have T15 := fun_mk (st := top 18) l15 c15 k15
  have b15 := T15.binds (ps := P_law) fun _ _ _ _ _ _ us hl => match us, hl with | [_], _ => rfl
  refine ⟨_, fun s v => .of_eq (show bindArgs (PySem.W.fnOf "law" "law" (defArgs (top 18)) (defBody (top 18)) (defScope (top 18)) .none kV15 dc15 pm15 an15 cd15 ct15) _ = _ from rfl), fun base _ _ => ?_⟩
  have D0 : DefOk l.prog w K mg base XN 1 F_lpen := def_mp xn_ok T0 (PySem.W.mg_of X G a0) true (fun _ => b0) C_lpen bl (by
    show ∀ g ∈ ([] : List Fn), _
    intro g hg; cases hg)
    (by intro q hq; cases hq)
    (by intro sh hsh; cases hsh)
  have D1 : DefOk l.prog w K mg base XN 1 F_ldraw := def_mp xn_ok T1 (PySem.W.mg_of X G a1) true (fun _ => b1) C_ldraw bl (by
    show ∀ g ∈ ([] : List Fn), _
    intro g hg; cases hg)
    (by intro q hq; cases hq)
    (by intro sh hsh; cases hsh)
  have D2 : DefOk l.prog w K mg base XN 2 F_lorder := def_mp xn_ok T2 (PySem.W.mg_of X G a2) true (fun _ => b2) C_lorder bl (by
    show ∀ g ∈ ([F_ldraw] : List Fn), _
    intro g hg
    simp only [List.mem_cons, List.not_mem_nil, or_false] at hg
    rcases hg with rfl
    · exact D1.mono (by decide)
    )
    (by intro q hq; cases hq)
    (by intro sh hsh; cases hsh)
  have D3 : DefOk l.prog w K mg base XN 3 F_lforest := def_mp xn_ok T3 (PySem.W.mg_of X G a3) true (fun _ => b3) C_lforest bl (by
    show ∀ g ∈ ([F_lorder, F_ldraw, F_ldraw, F_ldraw, F_ldraw] : List Fn), _
    intro g hg
    simp only [List.mem_cons, List.not_mem_nil, or_false] at hg
    rcases hg with rfl | rfl | rfl | rfl | rfl
    · exact D2.mono (by decide)
    · exact D1.mono (by decide)
    · exact D1.mono (by decide)
    · exact D1.mono (by decide)
    · exact D1.mono (by decide)
    )
    (by intro q hq; cases hq)
    (by intro sh hsh; cases hsh)
  have D4 : DefOk l.prog w K mg base XN 2 F_lcount := def_mp xn_ok T4 (PySem.W.mg_of X G a4) true (fun _ => b4) C_lcount bl (by
    show ∀ g ∈ ([F_ldraw, F_ldraw, F_ldraw, F_ldraw] : List Fn), _
    intro g hg
    simp only [List.mem_cons, List.not_mem_nil, or_false] at hg
    rcases hg with rfl | rfl | rfl | rfl
    · exact D1.mono (by decide)
    · exact D1.mono (by decide)
    · exact D1.mono (by decide)
    · exact D1.mono (by decide)
    )
    (by intro q hq; cases hq)
    (by intro sh hsh; cases hsh)
  have D5 : DefOk l.prog w K mg base XN 1 F_lclosed := def_mp xn_ok T5 (PySem.W.mg_of X G a5) true (fun _ => b5) C_lclosed bl (by
    show ∀ g ∈ ([] : List Fn), _
    intro g hg; cases hg)
    (by intro q hq; cases hq)
    (by intro sh hsh; cases hsh)
  have D6 : DefOk l.prog w K mg base XN 2 F_lnear := def_mp xn_ok T6 (PySem.W.mg_of X G a6) true (fun _ => b6) C_lnear bl (by
    show ∀ g ∈ ([F_ldraw, F_ldraw, F_ldraw, F_ldraw, F_lclosed, F_lclosed, F_ldraw, F_ldraw] : List Fn), _
    intro g hg
    simp only [List.mem_cons, List.not_mem_nil, or_false] at hg
    rcases hg with rfl | rfl | rfl | rfl | rfl | rfl | rfl | rfl
    · exact D1.mono (by decide)
    · exact D1.mono (by decide)
    · exact D1.mono (by decide)
    · exact D1.mono (by decide)
    · exact D5.mono (by decide)
    · exact D5.mono (by decide)
    · exact D1.mono (by decide)
    · exact D1.mono (by decide)
    )
    (by intro q hq; cases hq)
    (by intro sh hsh; cases hsh)
  have D7 : DefOk l.prog w K mg base XN 1 F_lis_state := def_mp xn_ok T7 (PySem.W.mg_of X G a7) true (fun _ => b7) C_lis_state bl (by
    show ∀ g ∈ ([] : List Fn), _
    intro g hg; cases hg)
    (by intro q hq; cases hq)
    (by intro sh hsh; cases hsh)
  have D8 : DefOk l.prog w K mg base XN 1 F_leads_back := def_mp xn_ok T8 (PySem.W.mg_of X G a8) true (fun _ => b8) C_leads_back bl (by
    show ∀ g ∈ ([] : List Fn), _
    intro g hg; cases hg)
    (by intro q hq; cases hq)
    (by intro sh hsh; cases hsh)
  have D9 : DefOk l.prog w K mg base XN 2 F_least_on_cycle := def_mp xn_ok T9 (PySem.W.mg_of X G a9) true (fun _ => b9) C_least_on_cycle bl (by
    show ∀ g ∈ ([F_leads_back] : List Fn), _
    intro g hg
    simp only [List.mem_cons, List.not_mem_nil, or_false] at hg
    rcases hg with rfl
    · exact D8.mono (by decide)
    )
    (by intro q hq; cases hq)
    (by intro sh hsh; cases hsh)
  have D10 : DefOk l.prog w K mg base XN 1 F_is_integer := def_mp xn_ok T10 (PySem.W.mg_of X G a10) true (fun _ => b10) C_is_integer bl (by
    show ∀ g ∈ ([] : List Fn), _
    intro g hg; cases hg)
    (by intro q hq; cases hq)
    (by intro sh hsh; cases hsh)
  have D11 : DefOk l.prog w K mg base XN 2 F_is_exception := def_mp xn_ok T11 (PySem.W.mg_of X G a11) true (fun _ => b11) C_is_exception bl (by
    show ∀ g ∈ ([F_is_integer] : List Fn), _
    intro g hg
    simp only [List.mem_cons, List.not_mem_nil, or_false] at hg
    rcases hg with rfl
    · exact D10.mono (by decide)
    )
    (by intro q hq; cases hq)
    (by intro sh hsh; cases hsh)
  have D12 : DefOk l.prog w K mg base XN 3 F_wrong_entry := def_mp xn_ok T12 (PySem.W.mg_of X G a12) true (fun _ => b12) C_wrong_entry bl (by
    show ∀ g ∈ ([F_is_exception] : List Fn), _
    intro g hg
    simp only [List.mem_cons, List.not_mem_nil, or_false] at hg
    rcases hg with rfl
    · exact D11.mono (by decide)
    )
    (by intro q hq; cases hq)
    (by intro sh hsh; cases hsh)
  have D13 : DefOk l.prog w K mg base XN 4 F_is_state := def_mp xn_ok T13 (PySem.W.mg_of X G a13) true (fun _ => b13) C_is_state bl (by
    show ∀ g ∈ ([F_wrong_entry, F_least_on_cycle] : List Fn), _
    intro g hg
    simp only [List.mem_cons, List.not_mem_nil, or_false] at hg
    rcases hg with rfl | rfl
    · exact D12.mono (by decide)
    · exact D9.mono (by decide)
    )
    (by
    show ∀ q ∈ ([(Str.ofString "MOST_COUNT", .int (40))] : List (Str × D)), _
    intro q hq
    simp only [List.mem_cons, List.not_mem_nil, or_false] at hq
    rcases hq with rfl
    · exact G_MOST_COUNT
    )
    (by intro sh hsh; simp only [K_is_state, List.mem_cons, List.not_mem_nil, or_false] at hsh; rcases hsh with rfl
        · exact s13_0
    )
  have D14 : DefOk l.prog w K mg base XN 5 F_ltold := def_mp xn_ok T14 (PySem.W.mg_of X G a14) true (fun _ => b14) C_ltold bl (by
    show ∀ g ∈ ([F_lis_state, F_is_state, F_is_state] : List Fn), _
    intro g hg
    simp only [List.mem_cons, List.not_mem_nil, or_false] at hg
    rcases hg with rfl | rfl | rfl
    · exact D7.mono (by decide)
    · exact D13.mono (by decide)
    · exact D13.mono (by decide)
    )
    (by intro q hq; cases hq)
    (by intro sh hsh; cases hsh)
  exact def_g xn_ok T15 C_law bl (by
    show ∀ g ∈ ([F_lpen, F_lforest, F_lcount, F_lclosed, F_ldraw, F_lnear, F_ltold, F_ltold] : List Fn), _
    intro g hg
    simp only [List.mem_cons, List.not_mem_nil, or_false] at hg
    rcases hg with rfl | rfl | rfl | rfl | rfl | rfl | rfl | rfl
    · exact D0.mono (by decide)
    · exact D3.mono (by decide)
    · exact D4.mono (by decide)
    · exact D5.mono (by decide)
    · exact D1.mono (by decide)
    · exact D6.mono (by decide)
    · exact D14.mono (by decide)
    · exact D14.mono (by decide)
    )
    (by intro q hq; cases hq)
end
end G
open PySem PySem.W PyProof.Rows in
set_option maxRecDepth 100000 in
set_option maxHeartbeats 0 in
theorem PySem.Challenge.cw_lapsewalk_k01_state_of_any_value_holds : PySem.Challenge.rw_lapsewalk_k01_state_of_any_value.Holds := by
  w_on; o_law; k_head; (case hw => w_witness2)
  k_fill
  refine MP.walk_mp (l := PySem.Challenge.rw_lapsewalk_k01_state_of_any_value) (n := 63) (k := 6) (x := "_law_script") G.F_law rfl (by decide) rfl ⟨rfl, by decide, by decide⟩ (fun w h Y => PySem.W.kIn_of Y) ?F rfl rfl G.plain
  case F =>
    intro w mg fa h KX GG hmg
    refine' G.all_mk KX GG hmg ?a0 ?l0 ?c0 ?k0 ?a1 ?l1 ?c1 ?k1 ?a2 ?l2 ?c2 ?k2 ?a3 ?l3 ?c3 ?k3 ?a4 ?l4 ?c4 ?k4 ?a5 ?l5 ?c5 ?k5 ?a6 ?l6 ?c6 ?k6 ?a7 ?l7 ?c7 ?k7 ?a8 ?l8 ?c8 ?k8 ?a9 ?l9 ?c9 ?k9 ?a10 ?l10 ?c10 ?k10 ?a11 ?l11 ?c11 ?k11 ?a12 ?l12 ?c12 ?k12 ?a13 ?l13 ?c13 ?k13 ?a14 ?l14 ?c14 ?k14 ?a15 ?l15 ?c15 ?k15 ?g_MOST_COUNT ?z_len ?z_tuple ?z_list ?z_sorted ?z_min ?z_max ?z_sum ?z_any ?z_all ?z_abs ?z_int ?z_str ?z_repr ?z_isinstance ?z_bool ?z_dict ?z_range ?z_enumerate ?z_zip
    (case a0 => k_is)
    (case l0 => k_is)
    (case c0 => k_is)
    (case k0 => k_is)
    (case a1 => k_is)
    (case l1 => k_is)
    (case c1 => k_is)
    (case k1 => k_is)
    (case a2 => k_is)
    (case l2 => k_is)
    (case c2 => k_is)
    (case k2 => k_is)
    (case a3 => k_is)
    (case l3 => k_is)
    (case c3 => k_is)
    (case k3 => k_is)
    (case a4 => k_is)
    (case l4 => k_is)
    (case c4 => k_is)
    (case k4 => k_is)
    (case a5 => k_is)
    (case l5 => k_is)
    (case c5 => k_is)
    (case k5 => k_is)
    (case a6 => k_is)
    (case l6 => k_is)
    (case c6 => k_is)
    (case k6 => k_is)
    (case a7 => k_is)
    (case l7 => k_is)
    (case c7 => k_is)
    (case k7 => k_is)
    (case a8 => k_is)
    (case l8 => k_is)
    (case c8 => k_is)
    (case k8 => k_is)
    (case a9 => k_is)
    (case l9 => k_is)
    (case c9 => k_is)
    (case k9 => k_is)
    (case a10 => k_is)
    (case l10 => k_is)
    (case c10 => k_is)
    (case k10 => k_is)
    (case a11 => k_is)
    (case l11 => k_is)
    (case c11 => k_is)
    (case k11 => k_is)
    (case a12 => k_is)
    (case l12 => k_is)
    (case c12 => k_is)
    (case k12 => k_is)
    (case a13 => k_is)
    (case l13 => k_is)
    (case c13 => k_is)
    (case k13 => k_is)
    (case a14 => k_is)
    (case l14 => k_is)
    (case c14 => k_is)
    (case k14 => k_is)
    (case a15 => k_is)
    (case l15 => k_is)
    (case c15 => k_is)
    (case k15 => k_is)
    (case g_MOST_COUNT => k_is)
    (case z_len => k_is)
    (case z_tuple => k_is)
    (case z_list => k_is)
    (case z_sorted => k_is)
    (case z_min => k_is)
    (case z_max => k_is)
    (case z_sum => k_is)
    (case z_any => k_is)
    (case z_all => k_is)
    (case z_abs => k_is)
    (case z_int => k_is)
    (case z_str => k_is)
    (case z_repr => k_is)
    (case z_isinstance => k_is)
    (case z_bool => k_is)
    (case z_dict => k_is)
    (case z_range => k_is)
    (case z_enumerate => k_is)
    (case z_zip => k_is)
