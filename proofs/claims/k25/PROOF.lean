import PyProof.Rows.All
import Wide.All
import OpenK.AllK
import Wide.FinOn
import HandS.SetFor
import HandS.Strs
import HandS.Iter
import KE.GoesEnum
import HandS.ForMost
import HandS.ForExc
import HandS.TupLe
import HandS.TupAny
import HandS.TupMul
import HandS.Style
import HandS.SortInts
import HandS.Deep
import HandS.IsInst
import HandS.Conv
import HandS.Flow
import HandS.HotCalls
import HandS.ExcCtx
import KE.KTupSum
import PyProof.ConsumeS
import KE.KIndexOf
import KE.KRevSl
import HandS.WordsExc
import HandS.Codes
import HandS.ExcIs
import HandS.Small
import HandS.Zip
import HandS.Ends
import PySem.Challenge.RW_needlehouse_k25_strands_of_plaits
set_option Elab.async false
set_option linter.all false
set_option maxRecDepth 100000
set_option maxHeartbeats 4000000
/-! NHs: set(xs), xs a list of ints. -/
namespace L2
open PySem PySem.Spec PyProof.Rows
abbrev newSet (w : World) : Obj := { cls := .type "set", dict := none, data := .set #[] 0 (.fresh 0 0 (!w.params.followText "set-order")) }
section
variable {P : Program} {w : World} {A : Around} {E : Value → Shared → Prop} {s : Shared}
theorem call_set_lstI {l : Addr} {items : Array Value} (ns : List Int) {Q : Value → Shared → Prop} (hh : A.handled = none) (hl : s.heap.IsList l items) (hit : IntsAre items.toList ns) (hb : ns.length + 1 < scanBound)
    (h : ∀ (h' : Heap) (tk c : Nat), SetR w h' s.heap.objs.size (fun j => decide (j ∈ ns)) c → c ≤ ns.length → (∀ b o, s.heap.get? b = some o → h'.get? b = some o) → Q (.ref s.heap.objs.size) { s with heap := h', toks := tk }) :
    wpAny (model P w) A (call (.type "set") [.ref l]) Q E s := by
  have sz : items.size = ns.length := by rw [← Array.length_toList]; exact IntsAre.length hit
  have ⟨c0, tl0, m0⟩ := F.called_set.mro
  have m1 := F.called_set.made; have m2 := F.called_set.sub
  refine wpAny_call (codeAny_of_tree (show wpAny _ _ (callAny (.type "set") _) _ _ _ from ?_))
  refine wpAny_pure ⟨Code.quiet_builtin _ (by decide +kernel), codeAny_builtin F.entry_type_call (by
    rw [Around.under_plain (weight_type_call_type "set" [.ref l] []) rfl]
    have m3 := F.called_set.notType; have m4 := F.called_set.canCreate; have m5 := F.typeCall_set_1 (.ref l)
    repeat (any_goals (first | assumption | wp_step))
    refine codeAny_mono (code_set_led1 (.ref l) (E := E) (Q₁ := fun obj s₁ => obj = .ref s.heap.objs.size ∧ s₁ = { s with heap := s.heap.push (newSet w) }) ⟨rfl, rfl⟩) fun r s₁ hr => ?_
    match r, hr with
    | .error e, hr => exact hr
    | .ok (.ret obj), hr =>
      obtain ⟨rfl, rfl⟩ := hr
      have g0 : (s.heap.push (newSet w)).get? s.heap.objs.size = some (newSet w) := Heap.get?_push_size _ rfl
      have t0 : Shared.TypeIs { s with heap := s.heap.push (newSet w) } (.ref s.heap.objs.size) "set" := ⟨_, g0, rfl⟩
      have i1 := F.called_set.init.lookup; have i2 := F.called_set.init.bind (.ref s.heap.objs.size)
      repeat (any_goals (first | assumption | wp_step))
      refine codeAny_mono (codeAny_call_builtin (R := wants (fun r s₂ => r = .none ∧ ∃ h' tk c, s₂ = { s with heap := h', toks := tk } ∧ SetR w h' s.heap.objs.size (fun j => decide (j ∈ ns)) c ∧ c ≤ ns.length ∧ (∀ b o, s.heap.get? b = some o → h'.get? b = some o)) E)
        F.called_set.init.plain F.entry_set_init (check_set_init_1 t0 ?_)) fun r₂ s₂ hr₂ => ?_
      · obtain ⟨⟨cl, dc, dt, slo⟩, hol, hcl, nl, hdl⟩ := hl
        simp only at hcl hdl
        subst hcl hdl
        have g1 : (s.heap.push (newSet w)).get? l = some { cls := .type "list", dict := dc, data := .seq items nl, slots := slo } := Heap.get?_push_of_some _ hol
        have s1 := F.sub_list_set; have s2 := F.sub_list_frozenset
        have s3 : (Value.type "list" == Value.type "dict") = false := by decide
        have l1 : (s.heap.push (newSet w)).IsList l items := ⟨_, g1, rfl, nl, rfl⟩
        unfold Builtin.«set.__init__» noKeywords Builtin.Frozenset.updateFrom
        generalize hPI : pyIter = PI; wp_walk; subst hPI
        refine wpAny_pyIter_list l1 (wpAny_bind (wpAny_runValue ?_))
        have lt : l < s.heap.objs.size := Heap.lt_size hol
        have hz : (s.heap.push (newSet w)).objs.size = s.heap.objs.size + 1 := Heap.size_push ..
        have nI : l ≠ (s.heap.push (newSet w)).objs.size := by rw [hz]; exact Nat.ne_of_lt (Nat.lt_succ_of_lt lt)
        have nS : s.heap.objs.size ∉ [(s.heap.push (newSet w)).objs.size, l] := by
          rw [hz]; simp only [List.mem_cons, List.not_mem_nil, or_false, not_or]; exact ⟨Nat.ne_of_lt (Nat.lt_succ_self _), Nat.ne_of_gt lt⟩
        have val : ∀ (i : Nat) (v : Value), items[i]? = some v → ∃ k t, ns[i]? = some k ∧ v = .int k t := fun i v hv => by
          have hi : i < ns.length := by rw [← sz]; exact (Array.getElem?_eq_some_iff.mp hv).1
          obtain ⟨t, e⟩ := IntsAre.int_at hit i v (by rw [Array.getElem?_toList]; exact hv)
          exact ⟨ns[i], t, List.getElem?_eq_getElem hi, by rw [e, List.getD_eq_getElem?_getD, List.getElem?_eq_getElem hi] <;> rfl⟩
        refine set_update_ints ((Walks.list (by simp [hh]) _ l nI items).toS) s.heap.objs.size nS ns sz hb val (items.size - 0) 0 _ (by omega) (Nat.zero_le _) ⟨⟨_, Heap.get?_push_size _ rfl, rfl, rfl⟩, (l1.push _)⟩ ⟨0, Nat.le_refl 0, setR_new_at (Heap.get?_push_of_some _ g0)⟩ ?_
        intro ⟨h', g2, d', tk', os'⟩ c' hm hc' hS'
        have eg : g2 = s.gens := hm.gens
        have ed : d' = s.drawn := hm.drawn
        have eo : os' = s.os := hm.os
        subst eg ed eo
        refine show wpAny _ _ _ _ _ _ from wpAny_pure (show wpAny _ _ (ret Value.none) _ _ _ from ?_)
        rw [sz] at hc'
        refine wpAny_pure ⟨rfl, h', tk', c', rfl, hS', hc', fun b o e => ?_⟩
        have b0 : b < s.heap.objs.size := Heap.lt_size e
        exact hm.heap b o (by rw [hz]; simp only [List.mem_cons, List.not_mem_nil, or_false, not_or]; exact ⟨Nat.ne_of_lt b0, Nat.ne_of_lt (Nat.lt_succ_of_lt b0)⟩) (Heap.get?_push_of_some _ (Heap.get?_push_of_some _ e))
      · match r₂, hr₂ with
        | .error e, hr₂ => exact hr₂
        | .ok (.ret r), hr₂ =>
          obtain ⟨rfl, h', tk, c', rfl, hS', hc', hk'⟩ := hr₂
          repeat (any_goals (first | assumption | wp_step))
          exact h _ _ _ hS' hc' hk'
        | .ok (.next), hr₂ => exact hr₂.elim)⟩
end
section
variable {X : Cx}
/-- set(xs) -/
def rSetLI (K : PySem.W.Frag) (w : World) : List V → Hp → VK → Prop := fun xs H Q => ∃ (p : Addr) (ns : List Int), xs = [.ref p] ∧ SqL K H p (ns.map V.int) ∧ ns.length < 64 ∧ ∀ (a : Addr) (c : Nat), H a = none → c ≤ ns.length → Q (.ref a) (upd H a (SetO w a (fun j => decide (j ∈ ns)) c))
theorem cr_setL (hc : X.calm = true) : CallR X (.type "set") (rSetLI X.K X.w) := by
  intro pins s σ H xs us Q I r h
  obtain ⟨p, ns, rfl, hq, hl, q⟩ := h
  rw [Vals.ref1 r]
  obtain ⟨its, rv, pl, hz⟩ := I.list hq
  refine call_set_lstI (P := X.prog) (w := X.w) ns (I.ok.hd hc) pl.isList (by simpa using rv.ints) (by unfold scanBound; omega) fun h' tk c R hcn k => ?_
  exact ⟨.ref s.heap.objs.size, upd H s.heap.objs.size (SetO X.w s.heap.objs.size (fun j => decide (j ∈ ns)) c), I.laid (t' := tk) k (Nat.le_refl _) (setO_new R), rfl, q _ c (I.hok.fresh (Nat.le_refl _)) hcn⟩
/-- len(s), s a set of ints -/
def rLenSetO (w : World) : List V → Hp → VK → Prop := fun xs H Q => ∃ (a : Addr) (S : Int → Bool) (n : Nat), xs = [.ref a] ∧ H a = some (SetO w a S n) ∧ ∀ l : List Int, l.Nodup → (∀ k, k ∈ l ↔ S k = true) → Q (.int l.length) H
theorem cr_lenSetO : CallR X (.builtin "len") (rLenSetO X.w) := by
  intro pins s σ H xs us Q I r h
  obtain ⟨a, S, n, rfl, ha, q⟩ := h
  rw [Vals.ref1 r]
  obtain ⟨o, es, ep, t, ho, hex, hd, _, hnd, hS, hb, hf, hn, _, _⟩ := setO_get I ha
  have q1 := q _ hnd fun k => (hS k).symm
  rw [List.length_map, Array.length_toList] at q1
  exact call_len_set ho hex hd hf (by unfold scanBound at hb; omega) ⟨.int es.size, H, I.tok _, ⟨_, rfl⟩, q1⟩
end
end L2
set_option Elab.async false
set_option linter.all false
set_option maxRecDepth 100000
set_option maxHeartbeats 4000000
/-! NHn: for i, x in enumerate(t), t a tuple. -/
namespace L2
open PySem PySem.Spec PyProof.Rows
abbrev enumObj (it : Addr) : Obj := { cls := .type "enumerate", data := .fields #[.none, .bool false, .ref it, rawInt 0, .none, .none] }
theorem enum_one {v : Value} {o : Obj} {J : Heap → Prop} (B : Begins v o J) : Meets (Builtin.«enumerate.__new__» ⟨[.type "enumerate", v], []⟩) (fun _ R s => J s.heap ∧ R (.ok (.ret (.ref (s.heap.push o).objs.size))) { s with heap := (s.heap.push o).push (enumObj s.heap.objs.size) }) := .of_wp fun prog w A R s hs => by
  obtain ⟨hp, g, d, tk, os⟩ := s
  have sub := sub_enumerate
  have go : ∀ {A' : Around} {E : Value → Shared → Prop} {Q : Value → Shared → Prop}, Q (.ref hp.objs.size) ⟨hp.push o, g, d, tk, os⟩ → wpAny (model prog w) A' (pyIter v) Q E ⟨hp, g, d, tk, os⟩ := fun q => B.iter prog w _ _ ⟨hp, g, d, tk, os⟩ _ hs.1 q
  have h := hs.2
  wp_walk using go
  refine wpAny_stack_any fun st => wpAny_pure ?_
  split
  · rename_i c _ _ _ _ _
    cases (c == Value.type "enumerate") <;> (wp_walk using go; exact ⟨_, rfl, h⟩)
  · wp_walk using go; exact ⟨_, rfl, h⟩
section
variable {prog : Program} {w : World} {A : Around} {E : Value → Shared → Prop} {s : Shared}
theorem call_enum_one {v : Value} {o : Obj} {J : Heap → Prop} {Q : Value → Shared → Prop} (B : Begins v o J) (h1 : J s.heap)
    (h : ∀ h', IsEnum h' (s.heap.objs.size + 1) s.heap.objs.size 0 .none → h'.get? s.heap.objs.size = some o → (∀ b o, s.heap.get? b = some o → h'.get? b = some o) → Q (.ref (s.heap.objs.size + 1)) { s with heap := h' }) :
    wpAny (model prog w) A (call (.type "enumerate") [v]) Q E s := by
  refine callType_new F.called_enumerate (by decide) (F.typeCall_enumerate_1 _) (F.newCall_enumerate_1 _) (fun obj => F.args_object_init_2 obj _) F.entry_enumerate_new (enum_one B) ⟨h1, ?_⟩
  have z1 : (s.heap.push o).objs.size = s.heap.objs.size + 1 := Heap.size_push ..
  refine show _ ∧ _ from ?_
  rw [z1]
  have e1 : IsEnum ((s.heap.push o).push (enumObj s.heap.objs.size)) (s.heap.objs.size + 1) s.heap.objs.size 0 .none := by
    have e0 := Heap.get?_push_size (s.heap.push o) (o := enumObj s.heap.objs.size) rfl
    rw [z1] at e0
    exact e0
  exact ⟨⟨_, e1, rfl⟩, h _ e1 (Heap.get?_push_of_some _ (Heap.get?_push_size _ B.free)) fun b u x => Heap.get?_push_of_some _ (Heap.get?_push_of_some _ x)⟩
end
/-- the tuple at a, each item in a new pair -/
def IteT (K : PySem.W.Frag) (a : Addr) : It :=
  ⟨fun i H => ∃ (xs : List V) (x : V), SqT K H a xs ∧ xs[i]? = some x, fun i H v H' => ∃ T x, v = .ref T ∧ H T = none ∧ H' = upd H T (.tup [.int (i : Nat), x]) ∧ ∀ xs, SqT K H a xs → xs[i]? = some x, fun i H => ∃ xs : List V, SqT K H a xs ∧ xs.length = i⟩
theorem enum_apart {h : Heap} {e it a : Addr} {c : Int} {old : Value} {items : Array Value} {i : Nat} (he : IsEnum h e it c old) (hi : h.IsTupleIter it a i) (ht : h.IsTuple a items) : e ≠ it ∧ e ≠ a ∧ a ≠ it := by
  obtain ⟨o1, g1, c1, d1⟩ := hi
  obtain ⟨o2, g2, c2, n, d2⟩ := ht
  have g0 : h.get? e = some _ := he
  have ne : ∀ {x y : String}, Value.type x = Value.type y → x ≠ y → False := fun q r => r (by injection q)
  refine ⟨fun q => ?_, fun q => ?_, fun q => ?_⟩
  · subst q; rw [g1] at g0; cases g0; exact ne c1 (by decide)
  · subst q; rw [g2] at g0; cases g0; exact ne c2 (by decide)
  · subst q; rw [g1] at g2; cases g2; rw [c1] at c2; exact ne c2 (by decide)
theorem turn_enumT {P : Program} {w : World} {K : PySem.W.Frag} {elts : List Expr} {kk : Nat} {tpos : Pos} (a e it : Addr) :
    Turn P w K (.Tuple elts kk tpos) (IteT K a) [e, it] e (fun i h => (∃ old, IsEnum h e it ((i : Nat) : Int) old) ∧ h.IsTupleIter it a i) where
  mem := by simp
  obj := fun i h st b hb => by
    obtain ⟨⟨old, he⟩, o, ho, hc, hd⟩ := st
    rcases (show b = e ∨ b = it by simpa using hb) with z | z <;> subst z
    · exact ⟨_, he, fun v q => nomatch q⟩
    · exact ⟨o, ho, fun v q => by rw [hd] at q; cases q⟩
  keep := fun i h h' st k => by
    obtain ⟨⟨old, he⟩, hi⟩ := st
    exact ⟨⟨old, k e (by simp) _ he⟩, hi.at fun o q => k it (by simp) o q⟩
  item := by
    intro X hP hw hK hc i pins s σ H E I hf st ⟨xs, x, hq, hx⟩
    subst hP hw hK
    obtain ⟨⟨old, he⟩, hit⟩ := st
    obtain ⟨its, rv, p, hz⟩ := I.tuple hq
    obtain ⟨n1, n2, n3⟩ := enum_apart he hit p
    have lt : i < its.toArray.size := by
      have := (List.getElem?_eq_some_iff.mp hx).1
      rw [List.size_toArray, ← rv.length]; exact this
    have le : e < s.heap.objs.size := Heap.lt_size he
    have li : it < s.heap.objs.size := by obtain ⟨_, q, _⟩ := hit; exact Heap.lt_size q
    have hh : X.A.in1.handled = none := I.ok.hd hc
    refine wpAny_pyNext_enum_itemC (Draws.tuple hh it a n3 its.toArray) he ⟨hit, p⟩ lt n1 (by simp [n1, n2]) fun u h1 tk hu ho st1 hT hsz hk => ?_
    obtain ⟨u', hu', ru⟩ := rv.get hx
    have hu2 : its[i]? = some u := by simpa using hu
    obtain rfl : u' = u := by rw [hu2] at hu'; exact (Option.some.inj hu').symm
    refine ⟨_, rfl, wpAny_letOwnedTupleGo_enum (s := { s with heap := h1, toks := tk + 1 }) ho fun h2 he' sb => ?_⟩
    have T2 : h2.get? s.heap.objs.size = some { cls := .type "tuple", data := .seq #[.int i tk, u'] } := (sb.2 _ (Nat.ne_of_gt le)).trans hT
    have ok2 : ObjOk X.prog X.w (upd H s.heap.objs.size (.tup [.int (i : Nat), x])) h2 s.heap.objs.size (.tup [.int (i : Nat), x]) := ⟨by show 2 ≤ sizeLine; decide, [.int i tk, u'], .cons ⟨_, rfl⟩ (.cons ru .nil), ⟨_, T2, rfl, _, rfl⟩⟩
    have I2 : Inv X pins σ (upd H s.heap.objs.size (.tup [.int (i : Nat), x])) { s with heap := h2, toks := tk + 1 } :=
      I.turnedNew (ch := [e, it]) (fun b ob hb q => (sb.2 b fun z => hb (by simp [z])).trans (hk b ob (fun z => hb (by simp [z])) (fun z => hb (by simp [z])) q)) hf (Nat.le_refl _) ok2
    refine ⟨.ref s.heap.objs.size, _, I2, rfl, ⟨_, x, rfl, I.hok.fresh (Nat.le_refl _), rfl, fun ys hy => by rw [I.tuple_inj hy hq]; exact hx⟩, ⟨⟨u', ?_⟩, st1.1.at fun o q => (sb.2 it (Ne.symm n1)).trans q⟩, fun b hb => ?_⟩
    · rw [show ((i + 1 : Nat) : Int) = (i : Int) + 1 by omega]
      exact he'
    · have lb : b < s.heap.objs.size := by
        rcases (show b = e ∨ b = it by simpa using hb) with z | z <;> subst z <;> assumption
      rw [upd_ne (Nat.ne_of_lt lb)]
      exact (hf b hb).1
  done := by
    intro X hP hw hK hc i pins s σ H E I hf st ⟨xs, hq, hx⟩
    subst hP hw hK
    obtain ⟨⟨old, he⟩, hit⟩ := st
    obtain ⟨its, rv, p, hz⟩ := I.tuple hq
    obtain ⟨n1, n2, n3⟩ := enum_apart he hit p
    obtain ⟨f0, f1, f2, f3, f4, f5⟩ := hf it (by simp)
    have hh : X.A.in1.handled = none := I.ok.hd hc
    have hl : i = its.toArray.size := by rw [List.size_toArray, ← rv.length]; exact hx.symm
    subst hl
    exact wpAny_pyNext_enum_endD (Draws.tuple hh it a n3 its.toArray) he ⟨hit, p⟩ fun h1 eb => ⟨rfl, I.turned (t' := s.toks) (fun b o hb q => eb b o hb q) f0 f1 f3 f4 f5⟩
  self := fun A i s Q E st h => by
    obtain ⟨⟨_, he⟩, _⟩ := st
    exact wpAny_pyIter_enum he h
def iEnumT (K : PySem.W.Frag) (ta : TA) : TI := fun σ H R => ta σ H fun vs H1 => ∃ a xs, vs = [.ref a] ∧ SqT K H1 a xs ∧ R (IteT K a) H1
theorem pi_enumT {X : Cx} {e : Expr} {ta : TA} {p pos tpos : Pos} {elts : List Expr} {kk : Nat} (hg : Gl X "enumerate") (hm : X.mg "enumerate" = none) (ha : PA X [e] ta) (hs : starEach [e] X.env = [(false, eval e X.env)]) :
    PI X (.Tuple elts kk tpos) (.Call (.Name "enumerate" p) [e] [] pos) (iEnumT X.K ta) := ⟨fun pins s σ H R I h => Call_ (ld_blt I hg hm boot_enumerate (PyProof.Rows.callWith_type1 (thn (ha.run pos pins s σ H _ I h) fun us s1 ⟨vs, H1, I1, r1, a, xs, ex, hq, q⟩ => by
    subst ex
    obtain ⟨u0, rfl, rx⟩ := vals1 r1
    obtain rfl : u0 = Value.ref a := rx
    obtain ⟨its, rv, p', hz⟩ := I1.tuple hq
    refine call_enum_one (begins_tuple a its.toArray) p' fun h1 he hit hk => wpAny_pyIter_enum he ?_
    have I2 : Inv X pins σ H1 { s1 with heap := h1 } := I1.kept (t' := s1.toks) hk
    refine ⟨s1.heap.objs.size + 1, [s1.heap.objs.size + 1, s1.heap.objs.size], _, _, H1, rfl, I2, turn_enumT a (s1.heap.objs.size + 1) s1.heap.objs.size, ⟨⟨.none, he⟩, ⟨_, hit, rfl, rfl⟩⟩, fun b hb => ?_, q⟩
    have lb : s1.heap.objs.size ≤ b := by
      rcases (show b = s1.heap.objs.size + 1 ∨ b = s1.heap.objs.size by simpa using hb) with z | z <;> rw [z]
      · exact Nat.le_add_right _ _
      · exact Nat.le_refl _
    exact I1.fpOk lb (I1.hok.fresh lb)) hs rfl))⟩
end L2
set_option Elab.async false
set_option linter.all false
set_option maxRecDepth 100000
set_option maxHeartbeats 2000000
/-! NHa: data, the small interpreter. Nothing of the machine here but V, Key, Str, PyData. -/
namespace NH
open PySem L2

/-- plain data: what a value stands for -/
inductive D where
  | non | bl (b : Bool) | int (i : Int) | str (s : Str)
  | tup (xs : List D) | lst (xs : List D)
  | dk (ks : List L2.Key) (vs : List D) | dt (ks : List (List L2.Key)) (vs : List D)
  | fn (i : Nat) | cl (i : Nat)
  | ktup (xs : List D)
  | klst (xs : List D)
  | ntup (xs : List D)
  deriving Inhabited

/-- a result -/
inductive R (α : Type) where
  | ok (a : α) | exc (c : Nat) (p : List D) | stk
def R.bind {α β : Type} : R α → (α → R β) → R β
  | .ok a, f => f a
  | .exc c p, _ => .exc c p
  | .stk, _ => .stk
@[simp] theorem R.bind_ok {α β : Type} (a : α) (f : α → R β) : (R.ok a).bind f = f a := rfl
@[simp] theorem R.bind_exc {α β : Type} (c : Nat) (p : List D) (f : α → R β) : (R.exc c p).bind f = .exc c p := rfl
@[simp] theorem R.bind_stk {α β : Type} (f : α → R β) : (R.stk : R α).bind f = .stk := rfl
theorem R.bind_assoc {α β γ : Type} (r : R α) (f : α → R β) (k : β → R γ) : (r.bind f).bind k = r.bind fun x => (f x).bind k := by cases r <;> rfl
theorem R.bind_pure {α : Type} (r : R α) : r.bind R.ok = r := by cases r <;> rfl
def R.guard (c : Bool) : R Unit := if c then .ok () else .stk
@[simp] theorem R.guard_true : R.guard true = .ok () := rfl
@[simp] theorem R.guard_false : R.guard false = .stk := rfl
def R.of {α : Type} : Option α → R α
  | some a => .ok a
  | none => .stk
@[simp] theorem R.of_some {α : Type} (a : α) : R.of (some a) = .ok a := rfl
@[simp] theorem R.of_none {α : Type} : R.of (none : Option α) = .stk := rfl

/-- how a value came: z as it stands (no list or dict in it is changed any more), o a new list or dict that nobody else holds, b a list or dict that the frame still changes, lent for reading -/
inductive EV where
  | z (d : D) | o (d : D) | b (d : D)
  deriving Inhabited
def EV.d : EV → D
  | .z d => d
  | .o d => d
  | .b d => d
/-- kept by somebody: no longer changed -/
def EV.keep : EV → R D
  | .z d => .ok d
  | .o d => .ok d
  | .b _ => .stk
def EV.lent : EV → Bool
  | .b _ => true
  | _ => false

/-- a slot -/
inductive Sl where
  | v (d : D) | o (d : D)
  deriving Inhabited
abbrev En := List (Option Sl)

/-! ### tools on data -/
mutual
/-- no list, no dict anywhere -/
def D.pure : D → Bool
  | .non | .bl _ | .int _ | .str _ | .fn _ | .cl _ => true
  | .tup xs => D.pureL xs
  | .ktup xs => D.pureL xs
  | .ntup xs => D.pureL xs
  | .lst _ | .dk _ _ | .dt _ _ | .klst _ => false
def D.pureL : List D → Bool
  | [] => true
  | x :: xs => x.pure && D.pureL xs
end
mutual
def D.py : D → PyData
  | .non => .none
  | .bl b => .bool b
  | .int i => .int i
  | .str s => .str s
  | .tup xs => .tuple (D.pyL xs)
  | .ktup xs => .tuple (D.pyL xs)
  | .lst xs => .list (D.pyL xs)
  | .dk _ _ | .dt _ _ | .fn _ | .cl _ | .klst _ | .ntup _ => .dict []
def D.pyL : List D → List PyData
  | [] => []
  | x :: xs => x.py :: D.pyL xs
end
/-- comparable by ==, as data of a depth that the machine bears -/
def D.shp (d : D) : Bool := SeqAt.shaped d.py

def D.items : D → Option (List D)
  | .tup xs => some xs
  | .lst xs => some xs
  | _ => none
def D.int? : D → Option Int
  | .int i => some i
  | _ => none
def D.bl? : D → Option Bool
  | .bl b => some b
  | _ => none
def D.str? : D → Option Str
  | .str s => some s
  | _ => none
def allInt : List D → Option (List Int)
  | [] => some []
  | .int i :: r => (allInt r).map (i :: ·)
  | _ :: _ => none
def allBl : List D → Option (List Bool)
  | [] => some []
  | .bl i :: r => (allBl r).map (i :: ·)
  | _ :: _ => none
def allStr : List D → Option (List Str)
  | [] => some []
  | .str i :: r => (allStr r).map (i :: ·)
  | _ :: _ => none

/-- equality -/
def eqD : D → D → R Bool
  | .int i, .int j => .ok (i == j)
  | .str s, .str t => .ok (s == t)
  | .bl a, .bl b => .ok (a == b)
  | a, b => if a.shp && b.shp then .ok (PyData.eqv a.py b.py) else .stk

/-- truth -/
def truD : D → R Bool
  | .non => .ok false
  | .bl b => .ok b
  | .int i => .ok (i != 0)
  | .str s => .ok ((s.length : Int) != 0)
  | .tup xs => .ok (!xs.isEmpty)
  | .lst xs => .ok (!xs.isEmpty)
  | .dk ks _ => .ok (!ks.isEmpty)
  | _ => .stk

/-! ### the program's text -/
inductive Op | add | sub | mul | fdiv | mod | pow | band | bxor | bor
  deriving DecidableEq
inductive Cm | eq | ne | lt | le | gt | ge | is | isnot | mem | nmem
  deriving DecidableEq
/-- built-in functions by values -/
inductive Bi | len | abs | max | min | sum | sorted | all | any | tuple | list | int | str | dict
  deriving DecidableEq
/-- methods that read -/
inductive Me | index | count | join | split | get | replace | items | values
  deriving DecidableEq
/-- types asked for by isinstance -/
inductive Ty | int | bool | str | tuple | list | dict | cl (i : Nat)
  deriving DecidableEq
/-- targets -/
inductive Tg | n (i : Nat) | t (ts : List Tg)

inductive E where
  | c (d : D)
  | var (i : Nat)
  | gl (i : Nat)
  | fn (i : Nat)
  | bin (op : Op) (a b : E)
  | neg (a : E)
  | cmp (op : Cm) (a b : E)
  | chain (o1 o2 : Cm) (a b c : E)
  | and (es : List E)
  | or (es : List E)
  | not (a : E)
  | ite (c a b : E)
  | tup (es : List E)
  | lst (es : List E)
  | d0 (t : Bool)
  | dict (ks vs : List E)
  | ix (a b : E)
  | no
  | sl (a lo hi : E)
  | rev (a : E)
  | call (f : Nat) (es : List E)
  | callv (i : Nat) (es : List E)
  | bi (f : Bi) (es : List E)
  | me (m : Me) (o : E) (es : List E)
  | isi (a : E) (t : Ty)
  | lc (elt : E) (tg : Tg) (it : E) (ifs : List E)
  | lc2 (elt : E) (tg : Tg) (it : E) (ifs : List E) (tg1 : Tg) (it1 : E) (ifs1 : List E)
  | seq (a : E)
  | rng1 (a : E)
  | rng2 (a b : E)
  | rng3 (a b c : E)
  | rl1 (t : Bool) (a : E)
  | rl2 (t : Bool) (a b : E)
  | enum (a : E)
  | zip (a b : E)
  | sset (a : E)
  | lset (a : E)
  | ntup (a : E)
  | never

/-- what an except suite gives back: of the caught error -/
inductive Hn where
  | isE (C : Nat)                                   -- isinstance(e, C)
  | law (f j : Nat) (ps : List (Str × Nat))         -- f(e, name in slot j), f tells by names
  | k (d : D)
  | cond (C : Nat) (a b : D)                        -- a if isinstance(e, C) else b
  | pair (a : D) (C : Nat)                          -- (a, isinstance(e, C))
inductive S where
  | pass
  | asg (tg : Tg) (e : E)
  | par (is : List Nat) (es : List E)
  | ix (i : Nat) (k e : E)                    -- x[k] = e
  | ixAug (i : Nat) (k : E) (op : Op) (e : E)
  | swp (i : Nat) (k1 k2 e : E)                -- x[k1], x[k2] = a pair
  | aug (i : Nat) (op : Op) (e : E)
  | expr (e : E)
  | app (i : Nat) (e : E)                      -- x.append(e)
  | ext (i : Nat) (e : E)                      -- x.extend(e)
  | pop (i j : Nat)                            -- x = y.pop()
  | popAt (i j : Nat) (e : E)
  | appPop (i j : Nat)                         -- x.append(y.pop())
  | appPopAt (i j : Nat) (e : E)
  | popX (j : Nat)
  | frz (i : Nat)                              -- nothing in the text: x is changed no more
  | ret (e : E)
  | retN
  | ite (c : E) (a b : List S)
  | for_ (tg : Tg) (it : E) (body : List S)
  | while_ (c : E) (body : List S)
  | never
  | brk
  | cont
  | raise (c : Nat)
  | try_ (nx : Nat) (body : List S) (C : Nat) (i : Nat) (h : Hn)

/-- a def -/
structure Df where
  name : Str
  gn : Str
  N : List Str
  np : Nat
  body : List S

/-! ### operations -/
def cmulB (i j : Int) : Bool := (decide (-(2 ^ 64) < i) && decide (i < 2 ^ 64)) || (decide (-(2 ^ 64) < j) && decide (j < 2 ^ 64))
def powB (i j : Int) : Bool := decide (0 ≤ j) && decide (j ≤ 1000000) && decide (i.natAbs < 2 ^ 64)
def binD : Op → D → D → R EV
  | .add, .int i, .int j => .ok (.z (.int (i + j)))
  | .add, .str s, .str t => if s.length + t.length ≤ sizeLine then .ok (.z (.str (s ++ t))) else .stk
  | .add, .tup xs, .tup ys => if xs.length + ys.length ≤ sizeLine then .ok (.z (.tup (xs ++ ys))) else .stk
  | .add, .lst xs, .lst ys => if xs.length + ys.length ≤ sizeLine then .ok (.o (.lst (xs ++ ys))) else .stk
  | .sub, .int i, .int j => .ok (.z (.int (i - j)))
  | .mul, .int i, .int j => if cmulB i j then .ok (.z (.int (i * j))) else .stk
  | .mul, .lst xs, .int k => if decide (-(2 ^ 63) ≤ k) && decide (k < 2 ^ 63) && decide (xs.length * k.toNat ≤ sizeLine) then .ok (.o (.lst (List.replicate k.toNat xs).flatten)) else .stk
  | .mul, .tup xs, .int k => if k = 1 then .ok (.z (.tup xs)) else if !xs.isEmpty && decide (2 ≤ k) && decide (k ≤ 1000) && decide (xs.length ≤ 1000) then .ok (.z (.tup (List.replicate k.toNat xs).flatten)) else .stk
  | .fdiv, .int i, .int j => if decide (0 < j) && decide (j < 1073741824) then .ok (.z (.int (i / j))) else .stk
  | .mod, .int i, .int j => if decide (0 < j) then .ok (.z (.int (i % j))) else .stk
  | .pow, .int i, .int j => if powB i j then .ok (.z (.int (i ^ j.toNat))) else .stk
  | .band, .int i, .int j => .ok (.z (.int (Builtin.bitAnd i j)))
  | .bxor, .int i, .int j => .ok (.z (.int (Builtin.bitXor i j)))
  | .bor, .int i, .int j => .ok (.z (.int (Builtin.bitOr i j)))
  | _, _, _ => .stk

def negD : D → R D
  | .int i => .ok (.int (-i))
  | _ => .stk

/-- in -/
def memL (d : D) (xs : List D) : R Bool := if d.shp && (D.lst xs).shp then .ok (xs.any fun z => PyData.eqv z.py d.py) else .stk
def keyOf : D → Option L2.Key
  | .int i => some (.inl i)
  | .str s => some (.inr s)
  | _ => none
def keysOf : List D → Option (List L2.Key)
  | [] => some []
  | d :: r => match keyOf d, keysOf r with
    | some k, some ks => some (k :: ks)
    | _, _ => none
def memD : D → D → R Bool
  | d, .lst xs => memL d xs
  | d, .tup xs => memL d xs
  | d, .ktup xs => memL d xs
  | .str a, .str b => .ok (!(Builtin.Str.occurrences b a 0 b.length 1).isEmpty)
  | d, .dk ks _ => match keyOf d with
    | some k => .ok (ks.any fun j => decide (j = k))
    | none => .stk
  | .tup xs, .dt ks _ => match keysOf xs with
    | some k => .ok (ks.any fun j => decide (j = k))
    | none => .stk
  | _, _ => .stk
def isNon : D → Bool
  | .non => true
  | _ => false
def isBl (b : Bool) : D → Bool
  | .bl a => a == b
  | _ => false
def cmpD : Cm → D → D → R Bool
  | .eq, a, b => eqD a b
  | .ne, a, b => (eqD a b).bind fun r => .ok (!r)
  | .lt, .int i, .int j => .ok (decide (i < j))
  | .le, .int i, .int j => .ok (decide (i ≤ j))
  | .gt, .int i, .int j => .ok (decide (j < i))
  | .ge, .int i, .int j => .ok (decide (j ≤ i))
  | .lt, .str i, .str j => .ok (decide (i.cps.toList < j.cps.toList))
  | .is, d, .non => .ok (isNon d)
  | .isnot, d, .non => .ok (!isNon d)
  | .is, d, .bl b => .ok (isBl b d)
  | .isnot, d, .bl b => .ok (!isBl b d)
  | .mem, a, b => memD a b
  | .nmem, a, b => (memD a b).bind fun r => .ok (!r)
  | _, _, _ => .stk

def ixD : D → D → R D
  | .tup xs, .int i => R.of (atI xs i)
  | .ktup xs, .int i => R.of (atI xs i)
  | .klst xs, .int i => R.of (atI xs i)
  | .lst xs, .int i => R.of (atI xs i)
  | .str s, .int i => R.of ((atI s.cps.toList i).map fun c => .str ⟨#[c]⟩)
  | .dk ks vs, d => match keyOf d with
    | some k => R.of (((ks.zip vs).find? fun p => decide (p.1 = k)).map (·.2))
    | none => .stk
  | .dt ks vs, .tup xs => match keysOf xs with
    | some k => R.of (((ks.zip vs).find? fun p => decide (p.1 = k)).map (·.2))
    | none => .stk
  | _, _ => .stk
/-- a slice's part -/
def partD : D → R (Option Int)
  | .int i => .ok (some i)
  | _ => .stk
def cutD {α : Type} (xs : List α) (lo hi : Option Int) : List α := (xs.drop (HT.sIx xs.length 0 lo)).take (HT.sIx xs.length xs.length hi - HT.sIx xs.length 0 lo)
def slD : D → Option Int → Option Int → R EV
  | .tup xs, lo, hi => .ok (.z (.tup (cutD xs lo hi)))
  | .lst xs, lo, hi => .ok (.o (.lst (cutD xs lo hi)))
  | .str s, lo, hi => .ok (.z (.str (cutS s lo hi)))
  | _, _, _ => .stk
def revD : D → R EV
  | .lst xs => .ok (.o (.lst xs.reverse))
  | .tup xs => .ok (.z (.tup xs.reverse))
  | .str s => .ok (.z (.str ⟨s.cps.toList.reverse.toArray⟩))
  | _ => .stk

/-! ### built-in functions -/
def insI (x : Int) : List Int → List Int
  | [] => [x]
  | y :: r => if x ≤ y then x :: y :: r else y :: insI x r
def sortI : List Int → List Int
  | [] => []
  | x :: r => insI x (sortI r)
/-- the members of a list, ascending -/
def insU (x : Int) : List Int → List Int
  | [] => [x]
  | y :: r => if x < y then x :: y :: r else if x = y then y :: r else y :: insU x r
def setI : List Int → List Int
  | [] => []
  | x :: r => insU x (setI r)
def maxI : List Int → Option Int
  | [] => none
  | x :: r => match maxI r with
    | none => some x
    | some y => some (if x < y then y else x)
def minI : List Int → Option Int
  | [] => none
  | x :: r => match minI r with
    | none => some x
    | some y => some (if y < x then y else x)
def lenD : D → R D
  | .ktup xs => .ok (.int xs.length)
  | .klst xs => .ok (.int xs.length)
  | .tup xs => .ok (.int xs.length)
  | .lst xs => .ok (.int xs.length)
  | .str s => .ok (.int s.length)
  | .dk ks _ => .ok (.int ks.length)
  | _ => .stk
def biD : Bi → List D → R EV
  | .len, [d] => (lenD d).bind fun r => .ok (.z r)
  | .abs, [.int i] => .ok (.z (.int (if i < 0 then -i else i)))
  | .max, [.int i, .int j] => .ok (.z (.int (if j > i then j else i)))
  | .min, [.int i, .int j] => .ok (.z (.int (if j < i then j else i)))
  | .max, [.lst xs] => (R.of ((allInt xs).bind maxI)).bind fun m => .ok (.z (.int m))
  | .min, [.lst xs] => (R.of ((allInt xs).bind minI)).bind fun m => .ok (.z (.int m))
  | .max, [.tup xs] => (R.of ((allInt xs).bind maxI)).bind fun m => .ok (.z (.int m))
  | .max, [.ntup xs] => (R.of ((allInt xs).bind maxI)).bind fun m => .ok (.z (.int m))
  | .min, [.tup xs] => (R.of ((allInt xs).bind minI)).bind fun m => .ok (.z (.int m))
  | .sum, [.tup xs] => (R.of (allInt xs)).bind fun ns => .ok (.z (.int ns.sum))
  | .sum, [.lst xs] => (R.of (allInt xs)).bind fun ns => .ok (.z (.int ns.sum))
  | .sorted, [.lst xs] => (R.of (allInt xs)).bind fun ns => .ok (.o (.lst ((sortI ns).map .int)))
  | .all, [.lst xs] => (R.of (allBl xs)).bind fun bs => .ok (.z (.bl (bs.all id)))
  | .any, [.lst xs] => (R.of (allBl xs)).bind fun bs => .ok (.z (.bl (bs.any id)))
  | .tuple, [.lst xs] => .ok (.z (.tup xs))
  | .tuple, [.tup xs] => .ok (.z (.tup xs))
  | .list, [.lst xs] => .ok (.o (.lst xs))
  | .list, [.tup xs] => .ok (.o (.lst xs))
  | .int, [.int i] => .ok (.z (.int i))
  | .int, [.bl b] => .ok (.z (.int (if b then 1 else 0)))
  | _, _ => .stk
def isiD : D → Ty → R Bool
  | d, .int => match d with
    | .int _ => .ok true
    | .bl _ => .ok true
    | .fn _ => .stk
    | .klst _ => .stk
    | .ntup _ => .stk
    | .dt _ _ => .stk
    | .cl _ => .stk
    | _ => .ok false
  | d, .bool => match d with
    | .bl _ => .ok true
    | .fn _ => .stk
    | .klst _ => .stk
    | .ntup _ => .stk
    | .dt _ _ => .stk
    | .cl _ => .stk
    | _ => .ok false
  | d, .str => match d with
    | .str _ => .ok true
    | .fn _ => .stk
    | .klst _ => .stk
    | .ntup _ => .stk
    | .dt _ _ => .stk
    | .cl _ => .stk
    | _ => .ok false
  | d, .tuple => match d with
    | .tup _ => .ok true
    | .ktup _ => .ok true
    | .fn _ => .stk
    | .klst _ => .stk
    | .ntup _ => .stk
    | .dt _ _ => .stk
    | .cl _ => .stk
    | _ => .ok false
  | d, .list => match d with
    | .lst _ => .ok true
    | .fn _ => .stk
    | .klst _ => .stk
    | .ntup _ => .stk
    | .dt _ _ => .stk
    | .cl _ => .stk
    | _ => .ok false
  | d, .dict => match d with
    | .dk _ _ => .ok true
    | .fn _ => .stk
    | .klst _ => .stk
    | .ntup _ => .stk
    | .dt _ _ => .stk
    | .cl _ => .stk
    | _ => .ok false
  | _, .cl _ => .stk

/-! ### what is walked -/
def rngI (lo hi : Int) : List D := (List.range (hi - lo).toNat).map fun k => .int (lo + (k : Nat))
def rngOk (a b : Int) : Bool := decide (-(2 ^ 62) ≤ a) && decide (a < 2 ^ 62) && decide (-(2 ^ 62) ≤ b) && decide (b < 2 ^ 62) && decide ((b - a).toNat ≤ 2 ^ 24)
def enumD : Nat → List D → List D
  | _, [] => []
  | n, x :: r => .tup [.int n, x] :: enumD (n + 1) r
def zipD : List D → List D → List D
  | x :: r, y :: s => .tup [x, y] :: zipD r s
  | _, _ => []
def seqD : D → R (List D)
  | .ktup xs => .ok xs
  | .tup xs => .ok xs
  | .lst xs => .ok xs
  | .str s => .ok (s.cps.toList.map fun c => .str ⟨#[c]⟩)
  | _ => .stk

def lstD : D → R (List D)
  | .lst xs => .ok xs
  | _ => .stk
def enuD : D → R (List D)
  | .lst xs => .ok xs
  | .tup xs => .ok xs
  | _ => .stk
def zipQ : D → D → R (List D)
  | .lst xs, .lst ys => .ok (zipD xs ys)
  | .tup xs, .tup ys => .ok (zipD xs ys)
  | _, _ => .stk

/-! ### targets -/
def setE (env : En) (i : Nat) (s : Sl) : En := env.set i (some s)
mutual
def asgT : Tg → D → En → R En
  | .n i, d, env => .ok (setE env i (.v d))
  | .t ts, .tup xs, env => asgTs ts xs env
  | .t _, _, _ => .stk
def asgTs : List Tg → List D → En → R En
  | [], [], env => .ok env
  | t :: ts, x :: xs, env => (asgT t x env).bind fun env' => asgTs ts xs env'
  | _, _, _ => .stk
end
mutual
def Tg.slots : Tg → List Nat
  | .n i => [i]
  | .t ts => Tg.slotsL ts
def Tg.slotsL : List Tg → List Nat
  | [] => []
  | g :: gs => g.slots ++ Tg.slotsL gs
end

/-- a block's own names have no value yet -/
def wipeE (env : En) : List Nat → En
  | [] => env
  | i :: is => (wipeE env is).set i none

/-! ### expressions -/
/-- the elements that a comprehension keeps -/
def lcD (tg : Tg) (tt : En → R Bool) (el : En → R (List D)) (env : En) : List D → R (List D)
  | [] => .ok []
  | x :: r => (asgT tg x env).bind fun env' => (tt env').bind fun b =>
    if b then (el env').bind fun y => (lcD tg tt el env r).bind fun ys => .ok (y ++ ys) else lcD tg tt el env r
/-- an exception that leaves a comprehension: no rule -/
def R.calm {α : Type} : R α → R α
  | .exc _ _ => .stk
  | r => r

def gets (env : En) (i : Nat) : R EV := match env[i]? with
  | some (some (.v d)) => .ok (.z d)
  | some (some (.o d)) => .ok (.b d)
  | _ => .stk

/-- methods that read; what they are asked of -/
def meT : Me → D → R Unit
  | .index, .lst _ => .ok ()
  | .index, .ntup _ => .ok ()
  | _, _ => .stk
def meD : Me → D → List D → R EV
  | .index, .lst xs, [.int i] => (R.of (allInt xs)).bind fun ns => (R.of (ns.findIdx? fun j => decide (j = i))).bind fun k => .ok (.z (.int (k : Nat)))
  | .index, .ntup xs, [.int i] => (R.of (allInt xs)).bind fun ns => (R.of (ns.findIdx? fun j => decide (j = i))).bind fun k => .ok (.z (.int (k : Nat)))
  | _, _, _ => .stk
def fnS (env : En) (i : Nat) : R Nat := match env[i]? with
  | some (some (.v (.fn f))) => .ok f
  | _ => .stk
section
variable (gl : List D) (cf : Nat → List D → R EV)
mutual
def ev : E → En → R EV
  | .c d, _ => .ok (.z d)
  | .var i, env => gets env i
  | .gl i, _ => (R.of gl[i]?).bind fun d => .ok (.z d)
  | .fn i, _ => .ok (.z (.fn i))
  | .bin op a b, env => (ev a env).bind fun x => (ev b env).bind fun y => binD op x.d y.d
  | .neg a, env => (ev a env).bind fun x => (negD x.d).bind fun r => .ok (.z r)
  | .cmp op a b, env => (ev a env).bind fun x => (ev b env).bind fun y => (cmpD op x.d y.d).bind fun r => .ok (.z (.bl r))
  | .chain o1 o2 a b c, env => (ev a env).bind fun x => (ev b env).bind fun y => (cmpD o1 x.d y.d).bind fun r =>
    if r then (ev c env).bind fun z => (cmpD o2 y.d z.d).bind fun r => .ok (.z (.bl r)) else .ok (.z (.bl false))
  | .and es, env => evAnd es env
  | .or es, env => evOr es env
  | .not a, env => (ev a env).bind fun x => (truD x.d).bind fun r => .ok (.z (.bl (!r)))
  | .ite c a b, env => (ev c env).bind fun x => (truD x.d).bind fun r => if r then ev a env else ev b env
  | .tup es, env => (evs es env).bind fun ds => if ds.length ≤ sizeLine then .ok (.z (.tup ds)) else .stk
  | .lst es, env => (evs es env).bind fun ds => if ds.length ≤ sizeLine then .ok (.o (.lst ds)) else .stk
  | .d0 t, _ => .ok (.o (if t then .dt [] [] else .dk [] []))
  | .dict _ _, _ => .stk
  | .ix a b, env => (ev a env).bind fun x => (ev b env).bind fun y => (ixD x.d y.d).bind fun r => .ok (.z r)
  | .no, _ => .ok (.z .non)
  | .sl a lo hi, env => (ev a env).bind fun x => (match lo with | .no => R.ok none | _ => (ev lo env).bind fun l => partD l.d).bind fun l => (match hi with | .no => R.ok none | _ => (ev hi env).bind fun h => partD h.d).bind fun h => slD x.d l h
  | .rev a, env => (ev a env).bind fun x => revD x.d
  | .call f es, env => (evA es env).bind fun xs => (cf f (xs.map EV.d)).bind fun r =>
    match r with
    | .b _ => .stk
    | r => if xs.any EV.lent then (if r.d.pure then .ok r else .stk) else .ok r
  | .callv i es, env => (fnS env i).bind fun f => (evA es env).bind fun xs => (cf f (xs.map EV.d)).bind fun r =>
    match r with
    | .b _ => .stk
    | r => if xs.any EV.lent then (if r.d.pure then .ok r else .stk) else .ok r
  | .never, _ => .stk
  | .bi f es, env => (evA es env).bind fun xs => biD f (xs.map EV.d)
  | .me m o es, env => (ev o env).bind fun x => (meT m x.d).bind fun _ => (evA es env).bind fun xs => meD m x.d (xs.map EV.d)
  | .sset a, env => (ev a env).bind fun x => (lstD x.d).bind fun xs => (R.of (allInt xs)).bind fun ns => if ns.length < 64 then .ok (.o (.lst ((setI ns).map .int))) else .stk
  | .ntup a, env => (ev a env).bind fun x => (lstD x.d).bind fun xs => .ok (.z (.ntup xs))
  | .lset a, env => (ev a env).bind fun x => (lstD x.d).bind fun xs => (R.of (allInt xs)).bind fun ns => if ns.length < 64 then .ok (.z (.int (setI ns).length)) else .stk
  | .isi a t, env => (ev a env).bind fun x => (isiD x.d t).bind fun r => .ok (.z (.bl r))
  | .lc elt tg it ifs, env => (ev it env).bind fun x => (x.keep).bind fun d => (seqD d).bind fun xs => (lcD tg (fun e => evIfs ifs e) (fun e => (ev elt e).bind fun y => (y.keep).bind fun d => .ok [d]) (wipeE env tg.slots) xs).calm.bind fun ys =>
      if ys.length ≤ sizeLine then .ok (.o (.lst ys)) else .stk
  | .lc2 elt tg it ifs tg1 it1 ifs1, env => (ev it env).bind fun x => (x.keep).bind fun d => (seqD d).bind fun xs => (lcD tg (fun e => evIfs ifs e)
      (fun e => (ev it1 e).bind fun x => (x.keep).bind fun d => (seqD d).bind fun ys => lcD tg1 (fun e => evIfs ifs1 e) (fun e => (ev elt e).bind fun y => (y.keep).bind fun d => .ok [d]) (wipeE e tg1.slots) ys) (wipeE env (tg.slots ++ tg1.slots)) xs).calm.bind fun ys =>
      if ys.length ≤ sizeLine then .ok (.o (.lst ys)) else .stk
  | .seq a, env => (ev a env).bind fun x => (x.keep).bind fun d => .ok (.z d)
  | .rng1 a, env => (ev a env).bind fun x => (R.of x.d.int?).bind fun n => if rngOk 0 n then .ok (.z (.lst (rngI 0 n))) else .stk
  | .rng2 a b, env => (ev a env).bind fun x => (ev b env).bind fun y => (R.of x.d.int?).bind fun m => (R.of y.d.int?).bind fun n => if rngOk m n then .ok (.z (.lst (rngI m n))) else .stk
  | .rng3 _ _ _, _ => .stk
  | .rl1 t a, env => (ev a env).bind fun x => (R.of x.d.int?).bind fun n => if rngOk 0 n then .ok (if t then .z (.tup (rngI 0 n)) else .o (.lst (rngI 0 n))) else .stk
  | .rl2 t a b, env => (ev a env).bind fun x => (ev b env).bind fun y => (R.of x.d.int?).bind fun m => (R.of y.d.int?).bind fun n => if rngOk m n then .ok (if t then .z (.tup (rngI m n)) else .o (.lst (rngI m n))) else .stk
  | .enum a, env => (ev a env).bind fun x => (x.keep).bind fun d => (enuD d).bind fun xs => .ok (.z (.lst (enumD 0 xs)))
  | .zip a b, env => (ev a env).bind fun x => (x.keep).bind fun d => (ev b env).bind fun y => (y.keep).bind fun d' => (zipQ d d').bind fun zs => .ok (.z (.lst zs))
/-- displays: each item is kept -/
def evs : List E → En → R (List D)
  | [], _ => .ok []
  | e :: es, env => (ev e env).bind fun x => (x.keep).bind fun d => (evs es env).bind fun ds => .ok (d :: ds)
/-- arguments: lent ones too -/
def evA : List E → En → R (List EV)
  | [], _ => .ok []
  | e :: es, env => (ev e env).bind fun x => (evA es env).bind fun xs => .ok (x :: xs)
def evAnd : List E → En → R EV
  | [], _ => .stk
  | e :: es, env => (ev e env).bind fun x => (match es with
    | [] => .ok x
    | _ => (truD x.d).bind fun r => if r then evAnd es env else .ok x)
def evOr : List E → En → R EV
  | [], _ => .stk
  | e :: es, env => (ev e env).bind fun x => (match es with
    | [] => .ok x
    | _ => (truD x.d).bind fun r => if r then .ok x else evOr es env)
def evIfs : List E → En → R Bool
  | [], _ => .ok true
  | e :: es, env => (ev e env).bind fun x => (truD x.d).bind fun r => if r then evIfs es env else .ok false
end
end

/-! ### statements -/
inductive Fl where
  | nx (env : En) | ret (v : EV) | bk (env : En) | ct (env : En) | ex (c : Nat) (p : List D) (env : En)
def stE {α : Type} (env : En) : R α → (α → R Fl) → R Fl
  | .ok a, k => k a
  | .exc c p, _ => .ok (.ex c p env)
  | .stk, _ => .stk
@[simp] theorem stE_ok {α : Type} (env : En) (a : α) (k : α → R Fl) : stE env (.ok a) k = k a := rfl
@[simp] theorem stE_exc {α : Type} (env : En) (c : Nat) (p : List D) (k : α → R Fl) : stE env (.exc c p) k = .ok (.ex c p env) := rfl
@[simp] theorem stE_stk {α : Type} (env : En) (k : α → R Fl) : stE env .stk k = .stk := rfl
/-- a value into a slot -/
def putS (env : En) (i : Nat) : EV → R En
  | .z d => .ok (setE env i (.v d))
  | .o d => .ok (setE env i (.o d))
  | .b _ => .stk
def putSs (env : En) : List Nat → List EV → R En
  | [], [] => .ok env
  | i :: is, x :: xs => (putS env i x).bind fun env' => putSs env' is xs
  | _, _ => .stk
/-- the list in slot i that the frame may change -/
def own (env : En) (i : Nat) : R D := match env[i]? with
  | some (some (.o d)) => .ok d
  | _ => .stk
def putK (ks : List L2.Key) (vs : List D) (k : L2.Key) (v : D) : List L2.Key × List D :=
  if ks.any (fun j => decide (j = k)) then (ks, (ks.zip vs).map fun p => if p.1 = k then v else p.2) else (ks ++ [k], vs ++ [v])
def putT (ks : List (List L2.Key)) (vs : List D) (k : List L2.Key) (v : D) : List (List L2.Key) × List D :=
  if ks.any (fun j => decide (j = k)) then (ks, (ks.zip vs).map fun p => if p.1 = k then v else p.2) else (ks ++ [k], vs ++ [v])
/-- x op= y -/
def augD : Op → D → D → R D
  | .add, .int i, .int j => .ok (.int (i + j))
  | .sub, .int i, .int j => .ok (.int (i - j))
  | _, _, _ => .stk
/-- c[k] = v -/
def storeD : D → D → D → R D
  | .lst xs, .int i, v => (R.of (ixN xs.length i)).bind fun j => .ok (.lst (xs.set j v))
  | .dk ks vs, k, v => (R.of (keyOf k)).bind fun k => if ks.length < sizeLine then .ok (.dk (putK ks vs k v).1 (putK ks vs k v).2) else .stk
  | .dt ks vs, .tup k, v => (R.of (keysOf k)).bind fun k => if ks.length < sizeLine then .ok (.dt (putT ks vs k v).1 (putT ks vs k v).2) else .stk
  | _, _, _ => .stk
def pairD : D → R (D × D)
  | .tup [a, b] => .ok (a, b)
  | _ => .stk
def forF (tg : Tg) (b : En → R Fl) : List D → En → R Fl
  | [], env => .ok (.nx env)
  | x :: r, env => (asgT tg x env).bind fun env1 => (b env1).bind fun f => match f with
    | .nx e => forF tg b r e
    | .ct e => forF tg b r e
    | .bk e => .ok (.nx e)
    | f => .ok f
def whileF (t : En → R Bool) (b : En → R Fl) : Nat → En → R Fl
  | 0, _ => .stk
  | n + 1, env => stE env (t env) fun c => if c then (b env).bind fun f => match f with
    | .nx e => whileF t b n e
    | .ct e => whileF t b n e
    | .bk e => .ok (.nx e)
    | f => .ok f
    else .ok (.nx env)
/-- a new list -/
def newL : EV → R (List D)
  | .o (.lst xs) => .ok xs
  | _ => .stk
/-- the exception classes: number 0 is the parent of all -/
def subx (c C : Nat) : Bool := C == 0 || c == C
def hnD (h : Hn) (c : Nat) (p : List D) (env : En) : R D := if p.isEmpty then (match h with
    | .isE C => .ok (.bl (subx c C))
    | .law _ j ps => match env[j]? with
      | some (some (.v (.str s))) => .ok (.bl (match ps.lookup s with
        | some C => subx c C
        | none => false))
      | _ => .stk
    | .k d => .ok d
    | .cond C a b => .ok (if subx c C then a else b)
    | .pair a C => .ok (.tup [a, .bl (subx c C)])) else .stk
/-- every list and dict of the frame is changed no more -/
def frzAll (env : En) : En := env.map fun s => s.map fun s => match s with
  | .v d => .v d
  | .o d => .v d

section
variable (gl : List D) (cf : Nat → List D → R EV) (wf : Nat)
def retV (e : E) (env : En) : R EV := match e with
  | .var i => match env[i]? with
    | some (some (.v d)) => .ok (.z d)
    | some (some (.o d)) => .ok (.o d)
    | _ => .stk
  | e => ev gl cf e (frzAll env)
mutual
def ex : S → En → R Fl
  | .pass, env => .ok (.nx env)
  | .asg (.n i) e, env => stE env (ev gl cf e env) fun x => (putS env i x).bind fun env' => .ok (.nx env')
  | .asg (.t ts) e, env => stE env (ev gl cf e env) fun x => (x.keep).bind fun d => (asgT (.t ts) d env).bind fun env' => .ok (.nx env')
  | .par is es, env => stE env (evA gl cf es env) fun xs => (putSs env is xs).bind fun env' => .ok (.nx env')
  | .ix i k e, env => stE env (ev gl cf e env) fun x => (x.keep).bind fun d => (own env i).bind fun c => stE env (ev gl cf k env) fun y => (storeD c y.d d).bind fun c' => .ok (.nx (setE env i (.o c')))
  | .ixAug i k op e, env => (own env i).bind fun c => (lstD c).bind fun xs => stE env (ev gl cf k env) fun y => (R.of y.d.int?).bind fun j => (R.of (atI xs j)).bind fun old => stE env (ev gl cf e env) fun x => (augD op old x.d).bind fun z => (storeD c y.d z).bind fun c' => .ok (.nx (setE env i (.o c')))
  | .swp i k1 k2 e, env => stE env (ev gl cf e env) fun x => (x.keep).bind fun d => (pairD d).bind fun p => (own env i).bind fun c => stE env (ev gl cf k1 env) fun y => (storeD c y.d p.1).bind fun c1 => stE (setE env i (.o c1)) (ev gl cf k2 (setE env i (.o c1))) fun z => (storeD c1 z.d p.2).bind fun c2 => .ok (.nx (setE (setE env i (.o c1)) i (.o c2)))
  | .aug i op e, env => (gets env i).bind fun x => stE env (ev gl cf e env) fun y => (augD op x.d y.d).bind fun z => (putS env i (.z z)).bind fun env' => .ok (.nx env')
  | .expr e, env => stE env (ev gl cf e env) fun _ => .ok (.nx env)
  | .app i e, env => (own env i).bind fun c => (lstD c).bind fun xs => stE env (ev gl cf e env) fun x => (x.keep).bind fun d => if xs.length < sizeLine then .ok (.nx (setE env i (.o (.lst (xs ++ [d]))))) else .stk
  | .ext i e, env => (own env i).bind fun c => (lstD c).bind fun xs => stE env (ev gl cf e env) fun x => (newL x).bind fun ys => if xs.length + ys.length ≤ sizeLine then .ok (.nx (setE env i (.o (.lst (xs ++ ys))))) else .stk
  | .pop i j, env => (own env j).bind fun c => (lstD c).bind fun xs => (R.of (xs[xs.length - 1]?)).bind fun y => .ok (.nx (setE (setE env j (.o (.lst xs.dropLast))) i (.v y)))
  | .popAt i j e, env => (own env j).bind fun c => (lstD c).bind fun xs => stE env (ev gl cf e env) fun k => (R.of k.d.int?).bind fun k => (R.of (ixN xs.length k)).bind fun k => (R.of (xs[k]?)).bind fun y => if xs.length ≤ sizeLine then .ok (.nx (setE (setE env j (.o (.lst (xs.eraseIdx k)))) i (.v y))) else .stk
  | .appPop i j, env => if i = j then .stk else (own env i).bind fun a => (lstD a).bind fun ys => (own env j).bind fun c => (lstD c).bind fun xs => (R.of (xs[xs.length - 1]?)).bind fun y => if ys.length < sizeLine then .ok (.nx (setE (setE env j (.o (.lst xs.dropLast))) i (.o (.lst (ys ++ [y]))))) else .stk
  | .appPopAt i j e, env => if i = j then .stk else (own env i).bind fun a => (lstD a).bind fun ys => (own env j).bind fun c => (lstD c).bind fun xs => stE env (ev gl cf e env) fun k => (R.of k.d.int?).bind fun k => (R.of (ixN xs.length k)).bind fun k => (R.of (xs[k]?)).bind fun y => if ys.length < sizeLine ∧ xs.length ≤ sizeLine then .ok (.nx (setE (setE env j (.o (.lst (xs.eraseIdx k)))) i (.o (.lst (ys ++ [y]))))) else .stk
  | .popX j, env => (own env j).bind fun c => (lstD c).bind fun xs => (R.of (xs[xs.length - 1]?)).bind fun _ => .ok (.nx (setE env j (.o (.lst xs.dropLast))))
  | .frz i, env => (own env i).bind fun c => .ok (.nx (setE env i (.v c)))
  | .ret e, env => stE env (retV gl cf e env) fun v => match v with
    | .b _ => .stk
    | v => .ok (.ret v)
  | .retN, _ => .ok (.ret (.z .non))
  | .ite c a b, env => stE env (ev gl cf c env) fun x => (truD x.d).bind fun r => if r then exs a env else exs b env
  | .for_ tg it body, env => stE env (ev gl cf it env) fun x => (x.keep).bind fun d => (seqD d).bind fun xs => forF tg (fun e => exs body e) xs env
  | .while_ c body, env => whileF (fun e => (ev gl cf c e).bind fun x => truD x.d) (fun e => exs body e) wf env
  | .never, _ => .stk
  | .brk, env => .ok (.bk env)
  | .cont, env => .ok (.ct env)
  | .raise c, env => .ok (.ex c [] env)
  | .try_ nx body C i h, env => (exs body env).bind fun f => match f with
    | .ex c p e => if nx ≤ c ∨ e.length ≤ i then .stk else if subx c C then (hnD h c p e).bind fun d => .ok (.ret (.z d)) else .ok (.ex c p e)
    | f => .ok f
def exs : List S → En → R Fl
  | [], env => .ok (.nx env)
  | s :: r, env => (ex s env).bind fun f => match f with
    | .nx e => exs r e
    | f => .ok f
end
/-- a def called -/
def runD (d : Df) (args : List D) : R EV :=
  if args.length = d.np then (exs gl cf wf d.body ((args.map fun a => some (Sl.v a)) ++ List.replicate (d.N.length - d.np) none)).calm.bind fun f => match f with
    | .nx _ => .ok (.z .non)
    | .ret v => .ok v
    | .ex c p _ => .exc c p
    | _ => .stk
  else .stk
end
/-- the program: the def number f called with data, n calls deep at most -/
def callF (gl : List D) (T : List Df) (wf : Nat) : Nat → Nat → List D → R EV
  | 0, _, _ => .stk
  | n + 1, f, args => match T[f]? with
    | some d => runD gl (callF gl T wf n) wf d args
    | none => .stk
end NH
set_option Elab.async false
set_option linter.all false
set_option maxRecDepth 100000
set_option maxHeartbeats 2000000
/-! NHb: how data stand in the abstract heap; the frame. -/
namespace NH
open PySem PySem.Spec PyProof.Rows L2

abbrev St := L2.St
structure Ga where
  K : PySem.W.Frag
  fa : Nat → Addr
  ca : Nat → Addr
  fld : Nat → Str
  nf : Nat

mutual
/-- v is the data d; Z: the lists and dicts that nobody changes any more -/
inductive Rp (g : Ga) (H : Hp) (Z : Addr → Prop) : V → D → Prop
  | non : Rp g H Z .non .non
  | bl (b : Bool) : Rp g H Z (.bl b) (.bl b)
  | int (i : Int) : Rp g H Z (.int i) (.int i)
  | str (s : Str) (h : s.length ≤ sizeLine) : Rp g H Z (.str s) (.str s)
  | tup {a : Addr} {vs : List V} {ds : List D} (h : H a = some (.tup vs)) (r : RpL g H Z vs ds) : Rp g H Z (.ref a) (.tup ds)
  | lst {a : Addr} {vs : List V} {ds : List D} (z : Z a) (h : Rd H a (.lst vs)) (r : RpL g H Z vs ds) : Rp g H Z (.ref a) (.lst ds)
  | dk {a : Addr} {kvs : List (L2.Key × V)} {ks : List L2.Key} {ds : List D} (z : Z a) (h : Rd H a (.dK kvs)) (e : kvs.map (·.1) = ks) (r : RpL g H Z (kvs.map (·.2)) ds) : Rp g H Z (.ref a) (.dk ks ds)
  | dt {a : Addr} {kvs : List (List L2.Key × V)} {ks : List (List L2.Key)} {ds : List D} (z : Z a) (h : Rd H a (.dT kvs)) (e : kvs.map (·.1) = ks) (r : RpL g H Z (kvs.map (·.2)) ds) : Rp g H Z (.ref a) (.dt ks ds)
  | fn (i : Nat) (h : i < g.nf) : Rp g H Z (.ref (g.fa i)) (.fn i)
  | cl (i : Nat) : Rp g H Z (.ref (g.ca i)) (.cl i)
  | ktup {a : Addr} {vs : List V} {ds : List D} (h : SqT g.K (fun _ => none) a vs) (r : RpL g H Z vs ds) : Rp g H Z (.ref a) (.ktup ds)
  | ntup {a : Addr} {o : Obj} {vs : List V} {ds : List D} (h : H a = some (.frz o (.tup vs))) (k : o.dict = none) (r : RpL g H Z vs ds) : Rp g H Z (.ref a) (.ntup ds)
  | klst {a : Addr} {vs : List V} {ds : List D} (h : (Z a ∧ Rd H a (.lst vs)) ∨ SqL g.K (fun _ => none) a vs) (r : RpL g H Z vs ds) : Rp g H Z (.ref a) (.klst ds)
inductive RpL (g : Ga) (H : Hp) (Z : Addr → Prop) : List V → List D → Prop
  | nil : RpL g H Z [] []
  | cons {v : V} {vs : List V} {d : D} {ds : List D} (h : Rp g H Z v d) (t : RpL g H Z vs ds) : RpL g H Z (v :: vs) (d :: ds)
end

/-- what Z bears, and tuples, stay -/
structure Evo (Z : Addr → Prop) (H H' : Hp) : Prop where
  rd : ∀ a u, Z a → Rd H a u → Rd H' a u
  tup : ∀ a xs, H a = some (.tup xs) → H' a = some (.tup xs)
  frz : ∀ a o u, H a = some (.frz o u) → H' a = some (.frz o u)
theorem Same.evo {Z : Addr → Prop} {H H' : Hp} (s : Same H H') : Evo Z H H' := ⟨fun a u _ r => by
  rcases r with r | ⟨o, r⟩
  · exact .inl (s _ _ r)
  · exact .inr ⟨o, s _ _ r⟩, fun _ _ r => s _ _ r, fun _ _ _ r => s _ _ r⟩
theorem Evo.refl {Z : Addr → Prop} {H : Hp} : Evo Z H H := ⟨fun _ _ _ r => r, fun _ _ r => r, fun _ _ _ r => r⟩
theorem Evo.trans {Z Z' : Addr → Prop} {H H1 H2 : Hp} (a : Evo Z H H1) (b : Evo Z' H1 H2) (h : ∀ x, Z x → Z' x) : Evo Z H H2 :=
  ⟨fun c u z r => b.rd c u (h _ z) (a.rd c u z r), fun c xs r => b.tup c xs (a.tup c xs r), fun c o u r => b.frz c o u (a.frz c o u r)⟩
theorem sqL_none {K : PySem.W.Frag} {H : Hp} {Z : Addr → Prop} {a : Addr} {vs : List V} (h : (Z a ∧ Rd H a (.lst vs)) ∨ SqL K (fun _ => none) a vs) : SqL K H a vs := by
  rcases h with h | (h | ⟨o, h⟩) | h
  · exact .inl h.2
  · exact nomatch h
  · exact nomatch h
  · exact .inr h
theorem sqT_none {K : PySem.W.Frag} {H : Hp} {a : Addr} {vs : List V} (h : SqT K (fun _ => none) a vs) : SqT K H a vs := by
  rcases h with (h | ⟨o, h⟩) | h
  · exact nomatch h
  · exact nomatch h
  · exact .inr h
section
variable {g : Ga} {H H' : Hp} {Z Z' : Addr → Prop}
mutual
theorem Rp.evo (ev : Evo Z H H') (hz : ∀ a, Z a → Z' a) : ∀ (d : D) (v : V), Rp g H Z v d → Rp g H' Z' v d
  | .non, _, h => by cases h; exact .non
  | .bl _, _, h => by cases h; exact .bl _
  | .int _, _, h => by cases h; exact .int _
  | .str _, _, h => by cases h with | str _ h => exact .str _ h
  | .tup ds, _, h => by cases h with | tup h r => exact .tup (ev.tup _ _ h) (RpL.evo ev hz ds _ r)
  | .lst ds, _, h => by cases h with | lst z h r => exact .lst (hz _ z) (ev.rd _ _ z h) (RpL.evo ev hz ds _ r)
  | .dk ks ds, _, h => by cases h with | dk z h e r => exact .dk (hz _ z) (ev.rd _ _ z h) e (RpL.evo ev hz ds _ r)
  | .dt ks ds, _, h => by cases h with | dt z h e r => exact .dt (hz _ z) (ev.rd _ _ z h) e (RpL.evo ev hz ds _ r)
  | .fn _, _, h => by cases h with | fn _ h => exact .fn _ h
  | .cl _, _, h => by cases h; exact .cl _
  | .ktup ds, _, h => by cases h with | ktup h r => exact .ktup h (RpL.evo ev hz ds _ r)
  | .ntup ds, _, h => by cases h with | ntup h k r => exact .ntup (ev.frz _ _ _ h) k (RpL.evo ev hz ds _ r)
  | .klst ds, _, h => by cases h with | klst h r => exact .klst (h.imp (fun h => ⟨hz _ h.1, ev.rd _ _ h.1 h.2⟩) id) (RpL.evo ev hz ds _ r)
theorem RpL.evo (ev : Evo Z H H') (hz : ∀ a, Z a → Z' a) : ∀ (ds : List D) (vs : List V), RpL g H Z vs ds → RpL g H' Z' vs ds
  | [], _, h => by cases h; exact .nil
  | d :: ds, _, h => by cases h with | cons h t => exact .cons (Rp.evo ev hz d _ h) (RpL.evo ev hz ds _ t)
end
mutual
theorem Rp.pure (ev : Evo (fun _ => False) H H') : ∀ (d : D) (v : V), d.pure = true → Rp g H Z v d → Rp g H' Z' v d
  | .non, _, _, h => by cases h; exact .non
  | .bl _, _, _, h => by cases h; exact .bl _
  | .int _, _, _, h => by cases h; exact .int _
  | .str _, _, _, h => by cases h with | str _ h => exact .str _ h
  | .tup ds, _, p, h => by cases h with | tup h r => exact .tup (ev.tup _ _ h) (RpL.pure ev ds _ (by simpa [D.pure] using p) r)
  | .lst ds, _, p, h => by simp [D.pure] at p
  | .dk ks ds, _, p, h => by simp [D.pure] at p
  | .dt ks ds, _, p, h => by simp [D.pure] at p
  | .fn _, _, _, h => by cases h with | fn _ h => exact .fn _ h
  | .cl _, _, _, h => by cases h; exact .cl _
  | .ktup ds, _, p, h => by cases h with | ktup h r => exact .ktup h (RpL.pure ev ds _ (by simpa [D.pure] using p) r)
  | .ntup ds, _, p, h => by cases h with | ntup h k r => exact .ntup (ev.frz _ _ _ h) k (RpL.pure ev ds _ (by simpa [D.pure] using p) r)
  | .klst ds, _, p, h => by simp [D.pure] at p
theorem RpL.pure (ev : Evo (fun _ => False) H H') : ∀ (ds : List D) (vs : List V), D.pureL ds = true → RpL g H Z vs ds → RpL g H' Z' vs ds
  | [], _, _, h => by cases h; exact .nil
  | d :: ds, _, p, h => by
    have q : d.pure = true ∧ D.pureL ds = true := by simpa [D.pureL] using p
    cases h with | cons h t => exact .cons (Rp.pure ev d _ q.1 h) (RpL.pure ev ds _ q.2 t)
end
theorem RpL.length : ∀ {vs : List V} {ds : List D}, RpL g H Z vs ds → vs.length = ds.length
  | [], [], _ => rfl
  | _ :: _, _ :: _, .cons _ t => by simp [RpL.length t]
  | [], _ :: _, h => nomatch h
  | _ :: _, [], h => nomatch h
theorem RpL.get : ∀ {vs : List V} {ds : List D} {i : Nat} {d : D}, RpL g H Z vs ds → ds[i]? = some d → ∃ v, vs[i]? = some v ∧ Rp g H Z v d
  | _ :: _, _ :: _, 0, d, .cons h _, e => by simp at e; subst e; exact ⟨_, rfl, h⟩
  | _ :: _, _ :: _, i + 1, d, .cons _ t, e => by simpa using RpL.get (i := i) t (by simpa using e)
  | _, [], _, _, _, e => by simp at e
theorem RpL.getV : ∀ {vs : List V} {ds : List D} {i : Nat} {v : V}, RpL g H Z vs ds → vs[i]? = some v → ∃ d, ds[i]? = some d ∧ Rp g H Z v d
  | _ :: _, _ :: _, 0, v, .cons h _, e => by simp at e; subst e; exact ⟨_, rfl, h⟩
  | _ :: _, _ :: _, i + 1, v, .cons _ t, e => by simpa using RpL.getV (i := i) t (by simpa using e)
  | [], _, _, _, _, e => by simp at e
theorem RpL.append : ∀ {vs ws : List V} {ds es : List D}, RpL g H Z vs ds → RpL g H Z ws es → RpL g H Z (vs ++ ws) (ds ++ es)
  | [], _, [], _, _, h => h
  | _ :: _, _, _ :: _, _, .cons h t, k => .cons h (RpL.append t k)
  | [], _, _ :: _, _, h, _ => nomatch h
  | _ :: _, _, [], _, h, _ => nomatch h
theorem RpL.take : ∀ {vs : List V} {ds : List D} (n : Nat), RpL g H Z vs ds → RpL g H Z (vs.take n) (ds.take n)
  | _, _, 0, _ => .nil
  | [], [], n + 1, _ => .nil
  | _ :: _, _ :: _, n + 1, .cons h t => .cons h (RpL.take n t)
  | [], _ :: _, _ + 1, h => nomatch h
  | _ :: _, [], _ + 1, h => nomatch h
theorem RpL.drop : ∀ {vs : List V} {ds : List D} (n : Nat), RpL g H Z vs ds → RpL g H Z (vs.drop n) (ds.drop n)
  | _, _, 0, h => h
  | [], [], n + 1, _ => .nil
  | _ :: _, _ :: _, n + 1, .cons _ t => RpL.drop n t
  | [], _ :: _, _ + 1, h => nomatch h
  | _ :: _, [], _ + 1, h => nomatch h
theorem RpL.set : ∀ {vs : List V} {ds : List D} (n : Nat) {v : V} {d : D}, RpL g H Z vs ds → Rp g H Z v d → RpL g H Z (vs.set n v) (ds.set n d)
  | [], [], _, _, _, _, _ => .nil
  | _ :: _, _ :: _, 0, _, _, .cons _ t, k => .cons k t
  | _ :: _, _ :: _, n + 1, _, _, .cons h t, k => .cons h (RpL.set n t k)
  | [], _ :: _, _, _, _, h, _ => nomatch h
  | _ :: _, [], _, _, _, h, _ => nomatch h
theorem RpL.rev {vs : List V} {ds : List D} (h : RpL g H Z vs ds) : RpL g H Z vs.reverse ds.reverse := by
  have key : ∀ (vs : List V) (ds : List D), RpL g H Z vs ds → RpL g H Z vs.reverse ds.reverse := by
    intro vs
    induction vs with
    | nil => intro ds h; cases h; exact .nil
    | cons v vs ih =>
      intro ds h
      cases h with
      | cons h t =>
        rw [List.reverse_cons, List.reverse_cons]
        exact (ih _ t).append (.cons h .nil)
  exact key _ _ h
theorem RpL.rep {vs : List V} {ds : List D} (h : RpL g H Z vs ds) : ∀ k : Nat, RpL g H Z (List.replicate k vs).flatten (List.replicate k ds).flatten
  | 0 => .nil
  | k + 1 => by
    rw [List.replicate_succ, List.replicate_succ, List.flatten_cons, List.flatten_cons]
    exact h.append (RpL.rep h k)
theorem RpL.ints : ∀ {ns : List Int} {vs : List V} {ds : List D}, RpL g H Z vs ds → allInt ds = some ns → vs = ns.map V.int
  | ns, [], [], _, e => by simp [allInt] at e; subst e; rfl
  | ns, v :: vs, d :: ds, .cons h t, e => by
    cases h with
    | int i =>
      simp only [allInt, Option.map_eq_some_iff] at e
      obtain ⟨r, e, rfl⟩ := e
      rw [RpL.ints t e]; rfl
    | _ => simp [allInt] at e
  | _, [], _ :: _, h, _ => nomatch h
  | _, _ :: _, [], h, _ => nomatch h
theorem RpL.bls : ∀ {ns : List Bool} {vs : List V} {ds : List D}, RpL g H Z vs ds → allBl ds = some ns → vs = ns.map V.bl
  | ns, [], [], _, e => by simp [allBl] at e; subst e; rfl
  | ns, v :: vs, d :: ds, .cons h t, e => by
    cases h with
    | bl i =>
      simp only [allBl, Option.map_eq_some_iff] at e
      obtain ⟨r, e, rfl⟩ := e
      rw [RpL.bls t e]; rfl
    | _ => simp [allBl] at e
  | _, [], _ :: _, h, _ => nomatch h
  | _, _ :: _, [], h, _ => nomatch h
theorem RpL.ofInts : ∀ ns : List Int, RpL g H Z (ns.map V.int) (ns.map D.int)
  | [] => .nil
  | _ :: r => .cons (.int _) (RpL.ofInts r)
end

/-! ### what a frame owns -/
/-- the object at a holds the data -/
def Top (g : Ga) (H : Hp) (Z : Addr → Prop) (a : Addr) : D → Prop
  | .lst xs => ∃ vs, H a = some (.lst vs) ∧ RpL g H Z vs xs
  | .dk ks ds => ∃ kvs, H a = some (.dK kvs) ∧ kvs.map (·.1) = ks ∧ RpL g H Z (kvs.map (·.2)) ds
  | .dt ks ds => ∃ kvs, H a = some (.dT kvs) ∧ kvs.map (·.1) = ks ∧ RpL g H Z (kvs.map (·.2)) ds
  | _ => False
theorem Top.there {g : Ga} {H : Hp} {Z : Addr → Prop} {a : Addr} {d : D} (t : Top g H Z a d) : ∃ u, H a = some u ∧ Mut (some u) := by
  cases d <;> first | exact (show False from t).elim | skip
  · obtain ⟨vs, h, _⟩ := t; exact ⟨_, h, trivial⟩
  · obtain ⟨vs, h, _⟩ := t; exact ⟨_, h, trivial⟩
  · obtain ⟨vs, h, _⟩ := t; exact ⟨_, h, trivial⟩
theorem Top.step {g : Ga} {H H' : Hp} {Z Z' : Addr → Prop} {a : Addr} {d : D} (ev : Evo Z H H') (hz : ∀ a, Z a → Z' a) (e : ∀ u, H a = some u → H' a = some u) (t : Top g H Z a d) : Top g H' Z' a d := by
  cases d <;> first | exact (show False from t).elim | skip
  · obtain ⟨vs, h, r⟩ := t; exact ⟨vs, e _ h, RpL.evo ev hz _ _ r⟩
  · obtain ⟨vs, h, k, r⟩ := t; exact ⟨vs, e _ h, k, RpL.evo ev hz _ _ r⟩
  · obtain ⟨vs, h, k, r⟩ := t; exact ⟨vs, e _ h, k, RpL.evo ev hz _ _ r⟩
/-- given up: changed no more -/
theorem Top.rp {g : Ga} {H : Hp} {Z : Addr → Prop} {a : Addr} {d : D} (t : Top g H Z a d) (z : Z a) : Rp g H Z (.ref a) d := by
  cases d <;> first | exact (show False from t).elim | skip
  · obtain ⟨vs, h, r⟩ := t; exact .lst z (.inl h) r
  · obtain ⟨vs, h, k, r⟩ := t; exact .dk z (.inl h) k r
  · obtain ⟨vs, h, k, r⟩ := t; exact .dt z (.inl h) k r

def EVr (g : Ga) (H0 H : Hp) (Z : Addr → Prop) (v : V) : EV → Prop
  | .z d => Rp g H Z v d
  | .o d => ∃ a, v = .ref a ∧ H0 a = none ∧ ¬ Z a ∧ Top g H Z a d
  | .b d => ∃ a, v = .ref a ∧ Top g H Z a d
/-- to be read -/
def Pk (g : Ga) (H : Hp) (Z : Addr → Prop) (v : V) (d : D) : Prop := Rp g H Z v d ∨ ∃ a, v = .ref a ∧ Top g H Z a d
theorem EVr.pk {g : Ga} {H0 H : Hp} {Z : Addr → Prop} {v : V} {x : EV} (h : EVr g H0 H Z v x) : Pk g H Z v x.d := by
  cases x with
  | z d => exact .inl h
  | o d => obtain ⟨a, e, _, _, t⟩ := h; exact .inr ⟨a, e, t⟩
  | b d => exact .inr h

/-- an expression's step: nothing that was there changes -/
structure Ext (H : Hp) (Z : Addr → Prop) (H' : Hp) (Z' : Addr → Prop) : Prop where
  same : Same H H'
  mono : ∀ a, Z a → Z' a
  new : ∀ a, Z' a → Z a ∨ H a = none
  there : ∀ a, Z' a → H' a ≠ none
theorem Ext.evo {H H' : Hp} {Z Z' : Addr → Prop} (e : Ext H Z H' Z') {Y : Addr → Prop} : Evo Y H H' := Same.evo e.same
theorem Ext.refl {H : Hp} {Z : Addr → Prop} (h : ∀ a, Z a → H a ≠ none) : Ext H Z H Z := ⟨Same.refl _, fun _ z => z, fun _ z => .inl z, h⟩
theorem Ext.trans {H H1 H2 : Hp} {Z Z1 Z2 : Addr → Prop} (a : Ext H Z H1 Z1) (b : Ext H1 Z1 H2 Z2) : Ext H Z H2 Z2 :=
  ⟨a.same.trans b.same, fun x z => b.mono _ (a.mono _ z), fun x z => (b.new x z).elim (fun z => a.new x z) fun n => .inr (a.same.free n), b.there⟩
/-- a new object -/
theorem Ext.laid {H : Hp} {Z : Addr → Prop} (hz : ∀ a, Z a → H a ≠ none) {p : Addr} {o : HO} (n : H p = none) : Ext H Z (upd H p o) Z :=
  ⟨fun b u e => by rw [upd_ne (ne_of_none e n)]; exact e, fun _ z => z, fun _ z => .inl z, fun a z => by
    by_cases h : a = p
    · rw [h, upd_same]; exact fun q => nomatch q
    · rw [upd_ne h]; exact hz a z⟩
/-- an object is given up -/
theorem Ext.give {H H1 : Hp} {Z Z1 : Addr → Prop} (e : Ext H Z H1 Z1) {a : Addr} (n : H a = none) (h : H1 a ≠ none) : Ext H Z H1 (fun x => Z1 x ∨ x = a) :=
  ⟨e.same, fun x z => .inl (e.mono x z), fun x z => z.elim (e.new x) fun q => .inr (by rw [q]; exact n), fun x z => z.elim (e.there x) fun q => by rw [q]; exact h⟩

theorem Pk.ext {g : Ga} {H H' : Hp} {Z Z' : Addr → Prop} {v : V} {d : D} (e : Ext H Z H' Z') (p : Pk g H Z v d) : Pk g H' Z' v d := by
  rcases p with p | ⟨a, q, t⟩
  · exact .inl (Rp.evo e.evo e.mono _ _ p)
  · exact .inr ⟨a, q, t.step e.evo e.mono fun u h => e.same _ _ h⟩
theorem EVr.ext {g : Ga} {H0 H H' : Hp} {Z Z' : Addr → Prop} {v : V} {x : EV} (e : Ext H Z H' Z') (p : EVr g H0 H Z v x) : EVr g H0 H' Z' v x := by
  cases x with
  | z d => exact Rp.evo e.evo e.mono _ _ p
  | o d =>
    obtain ⟨a, q, n, nz, t⟩ := p
    refine ⟨a, q, n, fun z => ?_, t.step e.evo e.mono fun u h => e.same _ _ h⟩
    rcases e.new a z with z | z
    · exact nz z
    · obtain ⟨u, h, _⟩ := t.there; rw [z] at h; cases h
  | b d => obtain ⟨a, q, t⟩ := p; exact ⟨a, q, t.step e.evo e.mono fun u h => e.same _ _ h⟩
/-- kept -/
theorem EVr.keep {g : Ga} {H H' : Hp} {Z Z' : Addr → Prop} {v : V} {x : EV} {d : D} (e : Ext H Z H' Z') (p : EVr g H H' Z' v x) (k : x.keep = .ok d) : ∃ Z2, Ext H Z H' Z2 ∧ Ext H' Z' H' Z' ∧ Evo Z' H' H' ∧ (∀ a, Z' a → Z2 a) ∧ Rp g H' Z2 v d := by
  have hr : Ext H' Z' H' Z' := Ext.refl e.there
  cases x with
  | z d' => cases k; exact ⟨Z', e, hr, .refl, fun _ z => z, p⟩
  | o d' =>
    cases k
    obtain ⟨a, q, n, nz, t⟩ := p
    obtain ⟨u, hu, _⟩ := t.there
    refine ⟨_, e.give n (by rw [hu]; exact fun q => nomatch q), hr, .refl, fun _ z => .inl z, ?_⟩
    rw [q]
    exact (t.step (Z' := fun x => Z' x ∨ x = a) .refl (fun _ z => .inl z) fun _ h => h).rp (.inr rfl)
  | b d' => cases k

/-! ### the frame -/
def Slr (g : Ga) (H : Hp) (Z : Addr → Prop) (v : V) : Sl → Prop
  | .v d => Rp g H Z v d
  | .o d => ∃ a, v = .ref a ∧ ¬ Z a ∧ Top g H Z a d
structure SR (g : Ga) (B : Hp) (Z0 : Addr → Prop) (env : En) (Z : Addr → Prop) (σ : St) (H : Hp) : Prop where
  len : env.length = σ.length
  sl : ∀ (i : Nat) (s : Sl), env[i]? = some (some s) → ∃ v, σ[i]? = some (some v) ∧ Slr g H Z v s
  sep : ∀ (i j : Nat) (a : Addr) (d d' : D), env[i]? = some (some (.o d)) → env[j]? = some (some (.o d')) → σ[i]? = some (some (.ref a)) → σ[j]? = some (some (.ref a)) → i = j
  new : ∀ (i : Nat) (d : D) (a : Addr), env[i]? = some (some (.o d)) → σ[i]? = some (some (.ref a)) → B a = none
  base : Same B H
  zz : ∀ a, Z a → H a ≠ none
  z0 : ∀ a, Z0 a → Z a
  zn : ∀ a, Z a → Z0 a ∨ B a = none
section
variable {g : Ga} {B H H' : Hp} {Z0 Z Z' : Addr → Prop} {env : En} {σ : St}
theorem SR.ext (s : SR g B Z0 env Z σ H) (e : Ext H Z H' Z') : SR g B Z0 env Z' σ H' where
  len := s.len
  sl := fun i sl h => by
    obtain ⟨v, q, r⟩ := s.sl i sl h
    refine ⟨v, q, ?_⟩
    cases sl with
    | v d => exact Rp.evo e.evo e.mono _ _ r
    | o d =>
      obtain ⟨a, q, nz, t⟩ := r
      refine ⟨a, q, fun z => ?_, t.step e.evo e.mono fun u h => e.same _ _ h⟩
      rcases e.new a z with z | z
      · exact nz z
      · obtain ⟨u, h, _⟩ := t.there; rw [z] at h; cases h
  sep := s.sep
  new := s.new
  base := s.base.trans e.same
  zz := e.there
  z0 := fun a z => e.mono a (s.z0 a z)
  zn := fun a z => (e.new a z).elim (s.zn a) fun n => .inr (s.base.free n)
theorem SR.refl (s : SR g B Z0 env Z σ H) : Ext H Z H Z := Ext.refl s.zz
/-- the frame gives up what it owns -/
theorem SR.frz (s : SR g B Z0 env Z σ H) {i : Nat} {d : D} (h : env[i]? = some (some (.o d))) : ∃ Z', SR g B Z0 (setE env i (.v d)) Z' σ H ∧ ∀ a, Z a → Z' a := by
  obtain ⟨v, q, a, rfl, nz, t⟩ := s.sl i _ h
  obtain ⟨u, hu, _⟩ := t.there
  have hi : i < env.length := (List.getElem?_eq_some_iff.mp h).1
  have up : ∀ {d : D} {b : Addr}, Top g H Z b d → Top g H (fun x => Z x ∨ x = a) b d := fun t => t.step .refl (fun _ z => .inl z) fun _ h => h
  refine ⟨fun x => Z x ∨ x = a, ⟨?_, fun j sl hj => ?_, fun j k b d1 d2 hj hk ej ek => ?_, fun j d1 b hj ej => ?_, s.base, (fun b z => z.elim (s.zz b) fun e => (by rw [e, hu]; exact fun q => nomatch q)), (fun b z => .inl (s.z0 b z)), (fun b z => z.elim (s.zn b) fun e => .inr (by rw [e]; exact s.new i d a h q))⟩, fun _ z => .inl z⟩
  · unfold setE; rw [List.length_set]; exact s.len
  · unfold setE at hj
    by_cases e : i = j
    · subst e
      rw [List.getElem?_set_self hi] at hj
      cases hj
      exact ⟨_, q, (up t).rp (.inr rfl)⟩
    · rw [List.getElem?_set_ne e] at hj
      obtain ⟨v, qv, r⟩ := s.sl j sl hj
      refine ⟨v, qv, ?_⟩
      cases sl with
      | v d' => exact Rp.evo .refl (fun _ z => .inl z) _ _ r
      | o d' =>
        obtain ⟨b, rfl, nb, tb⟩ := r
        refine ⟨b, rfl, fun z => ?_, up tb⟩
        rcases z with z | z
        · exact nb z
        · subst z; exact e (s.sep i j _ _ _ h hj q qv)
  · unfold setE at hj hk
    have nj : i ≠ j := fun e => by subst e; rw [List.getElem?_set_self hi] at hj; cases hj
    have nk : i ≠ k := fun e => by subst e; rw [List.getElem?_set_self hi] at hk; cases hk
    rw [List.getElem?_set_ne nj] at hj
    rw [List.getElem?_set_ne nk] at hk
    exact s.sep j k b d1 d2 hj hk ej ek
  · unfold setE at hj
    have nj : i ≠ j := fun e => by subst e; rw [List.getElem?_set_self hi] at hj; cases hj
    rw [List.getElem?_set_ne nj] at hj
    exact s.new j d1 b hj ej
/-- a value is put into a slot -/
theorem SR.put (s : SR g B Z0 env Z σ H) {i : Nat} {v : V} {x : EV} {env' : En} {H0 : Hp} (hi : i < env.length) (r : EVr g H0 H Z v x) (fr : ∀ a d, x = .o d → v = .ref a → B a = none ∧ ∀ (j : Nat) d', env[j]? = some (some (.o d')) → σ[j]? = some (some (.ref a)) → False) (p : putS env i x = .ok env') :
    SR g B Z0 env' Z (σ.set i (some v)) H := by
  have hs : i < σ.length := by rw [← s.len]; exact hi
  have main : ∀ sl : Sl, Slr g H Z v sl → (∀ d a, sl = .o d → v = .ref a → B a = none ∧ ∀ (j : Nat) d', env[j]? = some (some (.o d')) → σ[j]? = some (some (.ref a)) → False) → SR g B Z0 (setE env i sl) Z (σ.set i (some v)) H := fun sl r fr => by
    refine ⟨by unfold setE; rw [List.length_set, List.length_set]; exact s.len, fun j sj hj => ?_, fun j k b d1 d2 hj hk ej ek => ?_, fun j d1 b hj ej => ?_, s.base, s.zz, s.z0, s.zn⟩
    · unfold setE at hj
      by_cases e : i = j
      · subst e
        rw [List.getElem?_set_self hi] at hj
        cases hj
        exact ⟨v, by rw [List.getElem?_set_self hs], r⟩
      · rw [List.getElem?_set_ne e] at hj
        obtain ⟨w, q, r⟩ := s.sl j sj hj
        exact ⟨w, by rw [List.getElem?_set_ne e]; exact q, r⟩
    · unfold setE at hj hk
      by_cases e : i = j
      · subst e
        by_cases e' : i = k
        · exact e'
        · rw [List.getElem?_set_self hi] at hj
          rw [List.getElem?_set_self hs] at ej
          rw [List.getElem?_set_ne e'] at hk ek
          cases hj; cases ej
          exact ((fr d1 b rfl rfl).2 k d2 hk ek).elim
      · by_cases e' : i = k
        · subst e'
          rw [List.getElem?_set_self hi] at hk
          rw [List.getElem?_set_self hs] at ek
          rw [List.getElem?_set_ne e] at hj ej
          cases hk; cases ek
          exact ((fr d2 b rfl rfl).2 j d1 hj ej).elim
        · rw [List.getElem?_set_ne e] at hj ej
          rw [List.getElem?_set_ne e'] at hk ek
          exact s.sep j k b d1 d2 hj hk ej ek
    · unfold setE at hj
      by_cases e : i = j
      · subst e
        rw [List.getElem?_set_self hi] at hj
        rw [List.getElem?_set_self hs] at ej
        cases hj; cases ej
        exact (fr d1 b rfl rfl).1
      · rw [List.getElem?_set_ne e] at hj ej
        exact s.new j d1 b hj ej
  cases x with
  | z d => cases p; exact main (.v d) r fun _ _ q => nomatch q
  | o d =>
    cases p
    obtain ⟨a, e, _, nz, t⟩ := r
    exact main (.o d) ⟨a, e, nz, t⟩ fun d' a' q e' => fr a' d rfl e'
  | b d => cases p
/-- a new object is nobody's -/
theorem SR.fresh (s : SR g B Z0 env Z σ H) {a : Addr} (n : H a = none) : B a = none ∧ ∀ (j : Nat) d', env[j]? = some (some (.o d')) → σ[j]? = some (some (.ref a)) → False :=
  ⟨s.base.free n, fun j d' h q => by
    obtain ⟨v, q', b, e, _, t⟩ := s.sl j _ h
    rw [q] at q'; cases q'; cases e
    obtain ⟨u, hu, _⟩ := t.there
    rw [n] at hu; cases hu⟩
/-- the frame changes what it owns -/
theorem SR.write (s : SR g B Z0 env Z σ H) {i : Nat} {d d' : D} {a : Addr} {o : HO} (h : env[i]? = some (some (.o d))) (q : σ[i]? = some (some (.ref a))) (t : Top g (upd H a o) Z a d') : SR g B Z0 (setE env i (.o d')) Z σ (upd H a o) := by
  obtain ⟨v, q', b, e, nz, t0⟩ := s.sl i _ h
  rw [q] at q'; cases q'; cases e
  obtain ⟨u, hu, mu⟩ := t0.there
  have hi : i < env.length := (List.getElem?_eq_some_iff.mp h).1
  have ev : Evo Z H (upd H a o) := ⟨fun c w z r => by
    have nc : c ≠ a := fun e => nz (e ▸ z)
    rcases r with r | ⟨w', r⟩
    · exact .inl (by rw [upd_ne nc]; exact r)
    · exact .inr ⟨w', by rw [upd_ne nc]; exact r⟩, fun c xs r => by
    have nc : c ≠ a := fun e => by
      subst e
      rw [hu] at r; cases r; exact mu
    rw [upd_ne nc]; exact r, fun c o w r => by
    have nc : c ≠ a := fun e => by
      subst e
      rw [hu] at r; cases r; exact mu
    rw [upd_ne nc]; exact r⟩
  refine ⟨by unfold setE; rw [List.length_set]; exact s.len, fun j sj hj => ?_, fun j k b d1 d2 hj hk ej ek => ?_, fun j d1 b hj ej => ?_, fun b w e => ?_, fun b z => ?_, s.z0, s.zn⟩
  · unfold setE at hj
    by_cases e : i = j
    · subst e
      rw [List.getElem?_set_self hi] at hj
      cases hj
      exact ⟨_, q, a, rfl, nz, t⟩
    · rw [List.getElem?_set_ne e] at hj
      obtain ⟨w, qw, r⟩ := s.sl j sj hj
      refine ⟨w, qw, ?_⟩
      cases sj with
      | v dj => exact Rp.evo ev (fun _ z => z) _ _ r
      | o dj =>
        obtain ⟨b, rfl, nb, tb⟩ := r
        refine ⟨b, rfl, nb, tb.step ev (fun _ z => z) fun w hw => ?_⟩
        rw [upd_ne fun z => e (by subst z; exact s.sep i j _ _ _ h hj q qw)]
        exact hw
  · unfold setE at hj hk
    have lift : ∀ (k : Nat) d2, (env.set i (some (.o d')))[k]? = some (some (.o d2)) → ∃ d3, env[k]? = some (some (.o d3)) := fun k d2 hk => by
      by_cases e : i = k
      · subst e; exact ⟨_, h⟩
      · rw [List.getElem?_set_ne e] at hk; exact ⟨_, hk⟩
    obtain ⟨e1, h1⟩ := lift j d1 hj
    obtain ⟨e2, h2⟩ := lift k d2 hk
    exact s.sep j k b e1 e2 h1 h2 ej ek
  · unfold setE at hj
    by_cases e : i = j
    · subst e
      exact s.new i d b h ej
    · rw [List.getElem?_set_ne e] at hj
      exact s.new j d1 b hj ej
  · rw [upd_ne fun z => by subst z; rw [s.new i d _ h q] at e; cases e]
    exact s.base _ _ e
  · by_cases e : b = a
    · rw [e, upd_same]; exact fun q => nomatch q
    · rw [upd_ne e]; exact s.zz b z
end
end NH
set_option Elab.async false
set_option linter.all false
set_option maxRecDepth 100000
set_option maxHeartbeats 2000000
/-! NHt: sum, max, min of tuples of ints. -/
namespace NH
open PySem PySem.Spec PySem.Calls PyProof.Rows L2
section
variable {prog : Program} {w : World} {A : Around} {E : Value → Shared → Prop} {s : Shared} {t : Addr}
theorem tmax_int {xs : Array (Int × Tok)} {Q : Value → Shared → Prop} (hh : A.handled = none) (ht : s.heap.IsTuple t (intItems xs)) (hne : 0 < xs.size)
    (h : ∀ v h' tk, (intItems xs)[argBest (fun i j => decide (numAt xs i > numAt xs j)) (xs.size - 1)]? = some v → (∀ b o, s.heap.get? b = some o → h'.get? b = some o) → Q v { s with heap := h', toks := tk }) :
    wpAny (model prog w) A (call (.builtin "max") [.ref t]) Q E s := by
  obtain ⟨o, ho, hc, n, hd⟩ := id ht
  have ne : t ≠ s.heap.objs.size := Nat.ne_of_lt (Heap.lt_size ho)
  have hsz : (intItems xs).size = xs.size := by simp [intItems]
  have W := (Walks.tuple (prog := prog) (w := w) (A := A.in1) hh s.heap.objs.size t ne (intItems xs)).toS
  rw [hsz] at W
  refine call_max_walkS (wpAny_pyIter_tuple ht ⟨s.heap.objs.size, _, _, _, _, _, _, _, rfl, W, ⟨⟨_, Heap.get?_push_size _ rfl, rfl, rfl⟩, ht.at fun o e => Heap.get?_push_of_some _ e⟩, fun b hb => ?_, hne, CmpOf.ints_gt (numAt xs) (fun _ _ => intItems_at), fun v s' hP hm => ?_⟩)
  · rcases List.mem_cons.mp hb with rfl | hb
    · exact Heap.lt_size (Heap.get?_push_size _ rfl)
    · obtain rfl := List.mem_singleton.mp hb
      exact Heap.lt_size (Heap.get?_push_of_some _ ho)
  · obtain ⟨h1, g1, d1, tk1, os1⟩ := s'
    obtain ⟨rfl, rfl, rfl⟩ : g1 = s.gens ∧ d1 = s.drawn ∧ os1 = s.os := ⟨hm.gens, hm.drawn, hm.os⟩
    exact h v h1 tk1 hP fun b o e => hm.heap b o (fun hb => absurd (Heap.lt_size e) ((List.mem_singleton.mp hb) ▸ Nat.lt_irrefl _)) (Heap.get?_push_of_some _ e)
theorem tmin_int {xs : Array (Int × Tok)} {Q : Value → Shared → Prop} (hh : A.handled = none) (ht : s.heap.IsTuple t (intItems xs)) (hne : 0 < xs.size)
    (h : ∀ v h' tk, (intItems xs)[argBest (fun i j => decide (numAt xs i < numAt xs j)) (xs.size - 1)]? = some v → (∀ b o, s.heap.get? b = some o → h'.get? b = some o) → Q v { s with heap := h', toks := tk }) :
    wpAny (model prog w) A (call (.builtin "min") [.ref t]) Q E s := by
  obtain ⟨o, ho, hc, n, hd⟩ := id ht
  have ne : t ≠ s.heap.objs.size := Nat.ne_of_lt (Heap.lt_size ho)
  have hsz : (intItems xs).size = xs.size := by simp [intItems]
  have W := (Walks.tuple (prog := prog) (w := w) (A := A.in1) hh s.heap.objs.size t ne (intItems xs)).toS
  rw [hsz] at W
  refine call_min_walkS (wpAny_pyIter_tuple ht ⟨s.heap.objs.size, _, _, _, _, _, _, _, rfl, W, ⟨⟨_, Heap.get?_push_size _ rfl, rfl, rfl⟩, ht.at fun o e => Heap.get?_push_of_some _ e⟩, fun b hb => ?_, hne, CmpOf.ints_lt (numAt xs) (fun _ _ => intItems_at), fun v s' hP hm => ?_⟩)
  · rcases List.mem_cons.mp hb with rfl | hb
    · exact Heap.lt_size (Heap.get?_push_size _ rfl)
    · obtain rfl := List.mem_singleton.mp hb
      exact Heap.lt_size (Heap.get?_push_of_some _ ho)
  · obtain ⟨h1, g1, d1, tk1, os1⟩ := s'
    obtain ⟨rfl, rfl, rfl⟩ : g1 = s.gens ∧ d1 = s.drawn ∧ os1 = s.os := ⟨hm.gens, hm.drawn, hm.os⟩
    exact h v h1 tk1 hP fun b o e => hm.heap b o (fun hb => absurd (Heap.lt_size e) ((List.mem_singleton.mp hb) ▸ Nat.lt_irrefl _)) (Heap.get?_push_of_some _ e)
end
section
variable {X : Cx}
theorem cr_sumT (hc : X.calm = true) : CallR X (.builtin "sum") (fun vs H Q => ∃ (a : Addr) (ns : List Int), vs = [V.ref a] ∧ SqT X.K H a (ns.map V.int) ∧ Q (.int ns.sum) H) := by
  intro pins s σ H vs us Q I r h
  obtain ⟨a, ns, rfl, hs, q⟩ := h
  obtain ⟨its, rv, hl, _⟩ := I.tuple hs
  rw [Vals.ref1 r]
  obtain ⟨xs, e⟩ := rv.ints.allInts.items
  have hn : numsOf (intItems xs).toList = ns := by rw [← e]; exact rv.ints.numsOf
  rw [nums_intItems] at hn
  rw [e] at hl
  refine PySem.W.ktm_sumG (I.ok.hd hc) hl fun h' tk t' hk => ?_
  rw [preSum_eq, List.take_of_length_le (by simp), hn]
  exact ⟨.int _, H, I.kept hk, ⟨_, rfl⟩, q⟩
theorem cr_maxT (hc : X.calm = true) : CallR X (.builtin "max") (fun vs H Q => ∃ (a : Addr) (ns : List Int), vs = [V.ref a] ∧ SqT X.K H a (ns.map V.int) ∧ 0 < ns.length ∧ ∀ m, m ∈ ns → (∀ y, y ∈ ns → y ≤ m) → Q (.int m) H) := by
  intro pins s σ H vs us Q I r h
  obtain ⟨a, ns, rfl, hs, hne, q⟩ := h
  obtain ⟨its, rv, hl, _⟩ := I.tuple hs
  rw [Vals.ref1 r]
  obtain ⟨xs, e⟩ := rv.ints.allInts.items
  have hn : numsOf (intItems xs).toList = ns := by rw [← e]; exact rv.ints.numsOf
  rw [nums_intItems] at hn
  subst hn
  rw [e] at hl
  have hsz : 0 < xs.size := by simpa using hne
  refine tmax_int (I.ok.hd hc) hl hsz fun v h' tk hv hk => ?_
  obtain ⟨t, rfl⟩ := intItems_at hv
  obtain ⟨h1, h2⟩ := argBest_gt (numAt xs) (xs.size - 1)
  refine ⟨.int _, H, I.kept hk, ⟨_, rfl⟩, q _ ?_ fun y hy => ?_⟩
  · rw [numAt_eq]; exact PySem.getD_mem (by rw [List.length_map, Array.length_toList]; omega)
  · obtain ⟨j, hj, rfl⟩ := mem_getD hy
    rw [List.length_map, Array.length_toList] at hj
    rw [← numAt_eq]; exact h2 j (by omega)
theorem cr_minT (hc : X.calm = true) : CallR X (.builtin "min") (fun vs H Q => ∃ (a : Addr) (ns : List Int), vs = [V.ref a] ∧ SqT X.K H a (ns.map V.int) ∧ 0 < ns.length ∧ ∀ m, m ∈ ns → (∀ y, y ∈ ns → m ≤ y) → Q (.int m) H) := by
  intro pins s σ H vs us Q I r h
  obtain ⟨a, ns, rfl, hs, hne, q⟩ := h
  obtain ⟨its, rv, hl, _⟩ := I.tuple hs
  rw [Vals.ref1 r]
  obtain ⟨xs, e⟩ := rv.ints.allInts.items
  have hn : numsOf (intItems xs).toList = ns := by rw [← e]; exact rv.ints.numsOf
  rw [nums_intItems] at hn
  subst hn
  rw [e] at hl
  have hsz : 0 < xs.size := by simpa using hne
  refine tmin_int (I.ok.hd hc) hl hsz fun v h' tk hv hk => ?_
  obtain ⟨t, rfl⟩ := intItems_at hv
  obtain ⟨h1, h2⟩ := argBest_lt (numAt xs) (xs.size - 1)
  refine ⟨.int _, H, I.kept hk, ⟨_, rfl⟩, q _ ?_ fun y hy => ?_⟩
  · rw [numAt_eq]; exact PySem.getD_mem (by rw [List.length_map, Array.length_toList]; omega)
  · obtain ⟨j, hj, rfl⟩ := mem_getD hy
    rw [List.length_map, Array.length_toList] at hj
    rw [← numAt_eq]; exact h2 j (by omega)
end
/-! ### t * 1 -/
theorem tuple_mul1 (l : Addr) (items : Array Value) (n : Nat) (dd : Option Addr) (sl : Array (Option Value)) (u : Tok) :
    Meets (Builtin.«tuple.__mul__» ⟨[.ref l, .int 1 u], []⟩) (fun _ R s => s.heap.get? l = some { cls := .type "tuple", dict := dd, data := .seq items n, slots := sl } ∧ R (.ok (.ret (Value.ref l))) s) :=
  .of_wp fun prog w A R s h => by
    obtain ⟨hp, g, d, tk, os⟩ := s
    obtain ⟨hl, h⟩ := h
    have f1 := AutoSeq1.idx_int
    wp_walk using wpAny_loadPart' hl
    exact ⟨_, rfl, h⟩
theorem op_repT1 {X : Cx} : OpR X (binaryOp .Mult) (fun x y H Q => ∃ l xs, x = .ref l ∧ y = .int 1 ∧ H l = some (.tup xs) ∧ Q (.ref l) H) := by
  intro pins s σ H x y v u Q I rx ry h
  obtain ⟨l, xs, rfl, rfl, hT, q⟩ := h
  cases rx
  obtain ⟨t, rfl⟩ := ry
  obtain ⟨its, r, ⟨⟨cls, dd, data, sl⟩, ho, hc, n, hd⟩, hs⟩ := I.tuple (.of hT)
  simp only at hc hd
  subst hc hd
  exact wpAny_binaryOp_repeat_ref (T := "tuple") (U := "int") (by decide) ⟨_, ho, rfl⟩ (fun s' => typeIs_int s' 1 t) noFill_tuple_mul F.fills_int_mul F.slot_int_rmul repeat_tuple F.slot_int_index.lookup
    (call_meets F.slot_int_rmul (typeIs_int s 1 t) F.entry_int_rmul (F.args_int_rmul_2 _ _) (int_rmul_tuple 1 t l its.toArray n dd sl) ⟨ho, rfl, ⟨_, ho, rfl⟩, call_meets F.slot_tuple_mul ⟨_, ho, rfl⟩ F.entry_tuple_mul (F.args_tuple_mul_2 _ _) (tuple_mul1 l its.toArray n dd sl t) ⟨ho, .ref l, H, I, rfl, q⟩⟩)
end NH
set_option Elab.async false
set_option linter.all false
set_option maxRecDepth 100000
set_option maxHeartbeats 2000000
/-! NHc: the operations' rules by data. -/
namespace NH
open PySem PySem.Spec PyProof.Rows L2

/-- what is wanted of a result -/
def Out (g : Ga) (H : Hp) (Z : Addr → Prop) (Q : VK) (x : EV) : Prop := ∀ v H' Z', Ext H Z H' Z' → EVr g H H' Z' v x → Q v H'
/-- what is wanted of a truth -/
def OutB (H : Hp) (Z : Addr → Prop) (Q : Bool → Hp → Prop) (b : Bool) : Prop := ∀ H' Z', Ext H Z H' Z' → Q b H'
theorem Out.z {g : Ga} {H H1 : Hp} {Z Z1 : Addr → Prop} {Q : VK} {d : D} (q : Out g H Z Q (.z d)) (e : Ext H Z H1 Z1) {v : V} (r : Rp g H1 Z1 v d) : Q v H1 := q v H1 Z1 e r
/-- a new tuple -/
theorem Out.tup {g : Ga} {H H1 : Hp} {Z Z1 : Addr → Prop} {Q : VK} {ds : List D} {vs : List V} (q : Out g H Z Q (.z (.tup ds))) (e : Ext H Z H1 Z1) (r : RpL g H1 Z1 vs ds) : ∀ p, H1 p = none → Q (.ref p) (upd H1 p (.tup vs)) := fun p n =>
  q _ _ _ (e.trans (Ext.laid e.there n)) (.tup upd_same (RpL.evo (Ext.laid (o := .tup vs) e.there n).evo (fun _ z => z) _ _ r))
/-- a new list -/
theorem Out.lst {g : Ga} {H H1 : Hp} {Z Z1 : Addr → Prop} {Q : VK} {ds : List D} {vs : List V} (q : Out g H Z Q (.o (.lst ds))) (e : Ext H Z H1 Z1) (r : RpL g H1 Z1 vs ds) : ∀ p, H1 p = none → Q (.ref p) (upd H1 p (.lst vs)) := fun p n =>
  q _ _ _ (e.trans (Ext.laid e.there n)) ⟨p, rfl, e.same.free n, fun z => e.there p z n, vs, upd_same, RpL.evo (Ext.laid (o := .lst vs) e.there n).evo (fun _ z => z) _ _ r⟩

/-- seen from an earlier heap -/
theorem EVr.weak {g : Ga} {H0 H1 H : Hp} {Z0 Z1 Z : Addr → Prop} {v : V} {x : EV} (e : Ext H0 Z0 H1 Z1) (r : EVr g H1 H Z v x) : EVr g H0 H Z v x := by
  cases x with
  | z d => exact r
  | o d => obtain ⟨a, q, n, nz, t⟩ := r; exact ⟨a, q, e.same.free n, nz, t⟩
  | b d => exact r
theorem Out.back {g : Ga} {H H1 : Hp} {Z Z1 : Addr → Prop} {Q : VK} {x : EV} (q : Out g H Z Q x) (e : Ext H Z H1 Z1) : Out g H1 Z1 Q x := fun v H2 Z2 e2 r2 => q v H2 Z2 (e.trans e2) (r2.weak e)
theorem Pk.ntup {g : Ga} {H : Hp} {Z : Addr → Prop} {v : V} {ds : List D} (p : Pk g H Z v (.ntup ds)) : ∃ a o vs, v = .ref a ∧ H a = some (.frz o (.tup vs)) ∧ o.dict = none ∧ RpL g H Z vs ds := by
  rcases p with p | ⟨a, rfl, t⟩
  · cases p with | ntup h k r => exact ⟨_, _, _, rfl, h, k, r⟩
  · exact (show False from t).elim
theorem Pk.lst {g : Ga} {H : Hp} {Z : Addr → Prop} {v : V} {ds : List D} (p : Pk g H Z v (.lst ds)) : ∃ a vs, v = .ref a ∧ Rd H a (.lst vs) ∧ RpL g H Z vs ds := by
  rcases p with p | ⟨a, rfl, vs, h, r⟩
  · cases p with | lst z h r => exact ⟨_, _, rfl, h, r⟩
  · exact ⟨a, vs, rfl, .inl h, r⟩
theorem Pk.tup {g : Ga} {H : Hp} {Z : Addr → Prop} {v : V} {ds : List D} (p : Pk g H Z v (.tup ds)) : ∃ a vs, v = .ref a ∧ H a = some (.tup vs) ∧ RpL g H Z vs ds := by
  rcases p with p | ⟨a, rfl, h⟩
  · cases p with | tup h r => exact ⟨_, _, rfl, h, r⟩
  · exact (show False from h).elim
theorem Pk.int {g : Ga} {H : Hp} {Z : Addr → Prop} {v : V} {i : Int} (p : Pk g H Z v (.int i)) : v = .int i := by
  rcases p with p | ⟨a, rfl, h⟩
  · cases p; rfl
  · exact (show False from h).elim
theorem Pk.bl {g : Ga} {H : Hp} {Z : Addr → Prop} {v : V} {i : Bool} (p : Pk g H Z v (.bl i)) : v = .bl i := by
  rcases p with p | ⟨a, rfl, h⟩
  · cases p; rfl
  · exact (show False from h).elim
theorem Pk.str {g : Ga} {H : Hp} {Z : Addr → Prop} {v : V} {i : Str} (p : Pk g H Z v (.str i)) : v = .str i ∧ i.length ≤ sizeLine := by
  rcases p with p | ⟨a, rfl, h⟩
  · cases p with | str _ h => exact ⟨rfl, h⟩
  · exact (show False from h).elim
theorem Pk.non {g : Ga} {H : Hp} {Z : Addr → Prop} {v : V} (p : Pk g H Z v .non) : v = .non := by
  rcases p with p | ⟨a, rfl, h⟩
  · cases p; rfl
  · exact (show False from h).elim
theorem Pk.dk {g : Ga} {H : Hp} {Z : Addr → Prop} {v : V} {ks : List L2.Key} {ds : List D} (p : Pk g H Z v (.dk ks ds)) : ∃ a kvs, v = .ref a ∧ Rd H a (.dK kvs) ∧ kvs.map (·.1) = ks ∧ RpL g H Z (kvs.map (·.2)) ds := by
  rcases p with p | ⟨a, rfl, vs, h, e, r⟩
  · cases p with | dk z h e r => exact ⟨_, _, rfl, h, e, r⟩
  · exact ⟨a, vs, rfl, .inl h, e, r⟩
theorem Pk.dt {g : Ga} {H : Hp} {Z : Addr → Prop} {v : V} {ks : List (List L2.Key)} {ds : List D} (p : Pk g H Z v (.dt ks ds)) : ∃ a kvs, v = .ref a ∧ Rd H a (.dT kvs) ∧ kvs.map (·.1) = ks ∧ RpL g H Z (kvs.map (·.2)) ds := by
  rcases p with p | ⟨a, rfl, vs, h, e, r⟩
  · cases p with | dt z h e r => exact ⟨_, _, rfl, h, e, r⟩
  · exact ⟨a, vs, rfl, .inl h, e, r⟩
theorem sqL_of_rd {K : PySem.W.Frag} {H : Hp} {a : Addr} {vs : List V} (h : Rd H a (.lst vs)) : SqL K H a vs := .inl h

/-! ### what comes of a value that is read as PyData -/
section
variable {g : Ga} {H : Hp} {Z : Addr → Prop}
mutual
/-- no dict, def, class in it -/
def D.flat : D → Bool
  | .non | .bl _ | .int _ | .str _ => true
  | .tup xs => D.flatL xs
  | .lst xs => D.flatL xs
  | .ktup xs => D.flatL xs
  | .dk _ _ | .dt _ _ | .fn _ | .cl _ | .klst _ | .ntup _ => false
def D.flatL : List D → Bool
  | [] => true
  | x :: xs => x.flat && D.flatL xs
end
mutual
theorem flat_of : ∀ d : D, PyData.canLay0 d.py = true → d.flat = true
  | .non, _ => rfl
  | .bl _, _ => rfl
  | .int _, _ => rfl
  | .str _, _ => rfl
  | .tup xs, h => by
    simp only [D.py, PyData.canLay0] at h
    simp only [D.flat]
    exact flat_ofL xs h
  | .lst xs, h => by
    simp only [D.py, PyData.canLay0] at h
    simp only [D.flat]
    exact flat_ofL xs h
  | .ktup xs, h => by
    simp only [D.py, PyData.canLay0] at h
    simp only [D.flat]
    exact flat_ofL xs h
  | .dk _ _, h => by simp [D.py, PyData.canLay0] at h
  | .dt _ _, h => by simp [D.py, PyData.canLay0] at h
  | .fn _, h => by simp [D.py, PyData.canLay0] at h
  | .cl _, h => by simp [D.py, PyData.canLay0] at h
  | .klst _, h => by simp [D.py, PyData.canLay0] at h
  | .ntup _, h => by simp [D.py, PyData.canLay0] at h
theorem flat_ofL : ∀ ds : List D, PyData.canLayAll0 (D.pyL ds) = true → D.flatL ds = true
  | [], _ => rfl
  | d :: ds, h => by
    simp only [D.pyL, PyData.canLayAll0, Bool.and_eq_true] at h
    simp only [D.flatL, Bool.and_eq_true]
    exact ⟨flat_of d h.1, flat_ofL ds h.2⟩
end
mutual
theorem Rp.dp : ∀ (d : D) (v : V), d.flat = true → Rp g H Z v d → Dp g.K H v d.py
  | .non, _, _, h => by cases h; exact .non
  | .bl _, _, _, h => by cases h; exact .bl _
  | .int _, _, _, h => by cases h; exact .int _
  | .str _, _, _, h => by cases h; exact .str _
  | .tup ds, _, f, h => by
    simp only [D.flat] at f
    cases h with | tup h r => exact .tup (.of h) (RpL.dp ds _ f r)
  | .ktup ds, _, f, h => by
    simp only [D.flat] at f
    cases h with | ktup h r => exact .tup (sqT_none h) (RpL.dp ds _ f r)
  | .lst ds, _, f, h => by
    simp only [D.flat] at f
    cases h with | lst z h r => exact .lst (sqL_of_rd h) (RpL.dp ds _ f r)
  | .dk _ _, _, f, _ => by simp [D.flat] at f
  | .dt _ _, _, f, _ => by simp [D.flat] at f
  | .fn _, _, f, _ => by simp [D.flat] at f
  | .cl _, _, f, _ => by simp [D.flat] at f
  | .klst _, _, f, _ => by simp [D.flat] at f
  | .ntup _, _, f, _ => by simp [D.flat] at f
theorem RpL.dp : ∀ (ds : List D) (vs : List V), D.flatL ds = true → RpL g H Z vs ds → DpAll g.K H vs (D.pyL ds)
  | [], _, _, h => by cases h; exact .nil
  | d :: ds, _, f, h => by
    simp only [D.flatL, Bool.and_eq_true] at f
    cases h with | cons h t => exact .cons (Rp.dp d _ f.1 h) (RpL.dp ds _ f.2 t)
end
theorem Pk.dp {d : D} {v : V} (s : d.shp = true) (p : Pk g H Z v d) : Dp g.K H v d.py := by
  have f := flat_of d (SeqAt.canLay_of_shaped s)
  rcases p with p | ⟨a, rfl, t⟩
  · exact Rp.dp d v f p
  · cases d <;> first | exact (show False from t).elim | (simp [D.flat] at f; done) | skip
    obtain ⟨vs, h, r⟩ := t
    simp only [D.flat] at f
    exact .lst (.of h) (RpL.dp _ _ f r)
end

/-! ### two-place operators -/
theorem rd_lst {X : Cx} {pins : List (Addr × Obj)} {σ : St} {H : Hp} {s : Shared} {a : Addr} {xs : List V} (I : Inv X pins σ H s) (h : Rd H a (.lst xs)) :
    ∃ (its : List Value) (n : Nat), xs.length ≤ sizeLine ∧ Vals xs its ∧ s.heap.get? a = some { cls := .type "list", data := .seq its.toArray n } := by
  obtain ⟨z, its, n, r, e⟩ := h.ok I.hok
  exact ⟨its, n, z, r, e⟩
def rCatR : R2 := fun x y H Q => ∃ l b xs zs, x = .ref l ∧ y = .ref b ∧ Rd H l (.lst xs) ∧ Rd H b (.lst zs) ∧ xs.length + zs.length ≤ sizeLine ∧ ∀ p, H p = none → Q (.ref p) (upd H p (.lst (xs ++ zs)))
theorem op_catR {X : Cx} : OpR X (binaryOp .Add) rCatR := by
  intro pins s σ H x y v u Q I rx ry h
  obtain ⟨l, b, xs, zs, rfl, rfl, hH, hB, hz, q⟩ := h
  cases rx
  cases ry
  obtain ⟨its, n, z, r, e⟩ := rd_lst I hH
  obtain ⟨its2, n2, z2, r2, e2⟩ := rd_lst I hB
  have hl := r.length
  have hl2 := r2.length
  refine PySem.P.add_list e e2 ?_ (by rw [List.size_toArray, List.size_toArray]; omega)
  have ea : its.toArray ++ its2.toArray = (its ++ its2).toArray := by simp
  rw [ea]
  exact ⟨.ref _, _, I.lnew (t' := s.toks) (r.append r2) (by rw [List.length_append]; omega), rfl, q _ I.fresh⟩

def rRepR : R2 := fun x y H Q => ∃ l k xs, x = .ref l ∧ y = .int k ∧ Rd H l (.lst xs) ∧ -(2 ^ 63) ≤ k ∧ k < 2 ^ 63 ∧ xs.length * k.toNat ≤ sizeLine ∧
  ∀ p, H p = none → Q (.ref p) (upd H p (.lst (List.replicate k.toNat xs).flatten))
theorem op_repR {X : Cx} : OpR X (binaryOp .Mult) rRepR := by
  intro pins s σ H x y v u Q I rx ry h
  obtain ⟨l, k, xs, rfl, rfl, hH, h1, h2, hz, q⟩ := h
  cases rx
  obtain ⟨t, rfl⟩ := ry
  obtain ⟨its, n, z, r, e⟩ := rd_lst I hH
  have hl := r.length
  have hlen : its.toArray.size * k.toNat ≤ sizeLine := by rw [List.size_toArray, ← hl]; exact hz
  have hcap : ¬ its.toArray.size * k.toNat > (2 ^ 63 - 1) / 8 := by
    have : (sizeLine : Nat) ≤ (2 ^ 63 - 1) / 8 := by decide
    omega
  have hfit : ¬ (!Builtin.List.listFitsIndex k) = true := by
    rw [fitsIndex_both h1 h2]
    exact Bool.false_ne_true
  have hlong : ¬ Builtin.List.listTooLong (its.toArray.size * k.toNat) = true := by
    rw [notLongL hlen]
    exact Bool.false_ne_true
  have hnew : List.foldl (fun x1 x2 => x1 ++ x2) #[] (List.replicate (if its.toArray.isEmpty = true then 0 else k.toNat) its.toArray) = (List.replicate k.toNat its).flatten.toArray := by
    have f0 : ∀ m : Nat, List.foldl (fun x1 x2 => x1 ++ x2) #[] (List.replicate m its.toArray) = (List.replicate m its).flatten.toArray := fun m => by
      have := foldl_rep its m []
      rw [List.nil_append] at this
      exact this
    rw [f0]
    cases its with
    | nil => simp
    | cons a r' => rw [if_neg (by simp)]
  refine wpAny_binaryOp_repeat_ref (T := "list") (U := "int") (by decide) ⟨_, e, rfl⟩ (fun s' => typeIs_int s' k t) noFill_list_mul F.fills_int_mul F.slot_int_rmul repeat_list F.slot_int_index.lookup
    (call_meets F.slot_int_rmul (typeIs_int s k t) F.entry_int_rmul (F.args_int_rmul_2 _ _) (int___rmul___int_list k t l its.toArray n)
      ⟨e, rfl, ⟨_, e, rfl⟩, call_meets F.slot_list_mul ⟨_, e, rfl⟩ F.entry_list_mul (F.args_list_mul_2 _ _) (AutoListH.list___mul___list_int_3 l its.toArray n k t hfit hcap hlong) ⟨e, ?_⟩⟩)
  rw [hnew]
  exact ⟨.ref _, _, I.lnew (t' := s.toks) (r.rep k.toNat) (by rw [PyProof.Rows.lm_len_rep_flat, Nat.mul_comm]; exact hz), rfl, q _ I.fresh⟩

def opM : Op → Operator
  | .add => .Add | .sub => .Sub | .mul => .Mult | .fdiv => .FloorDiv | .mod => .Mod | .pow => .Pow | .band => .BitAnd | .bxor => .BitXor | .bor => .BitOr
/-- the rule's question: data in, data out -/
def rB (g : Ga) (op : Op) : R2 := fun x y H Q => ∃ H0 Z0 Z dx dy z, Pk g H Z x dx ∧ Pk g H Z y dy ∧ Ext H0 Z0 H Z ∧ binD op dx dy = .ok z ∧ Out g H0 Z0 Q z
theorem op_bin {X : Cx} {g : Ga} (hK : X.K = g.K) (op : Op) : OpR X (binaryOp (opM op)) (rB g op) := by
  intro pins s σ H x y v u Q I rx ry h
  obtain ⟨H0, Z0, Z, dx, dy, z, px, py, e, hb, q⟩ := h
  unfold binD at hb
  split at hb
  · cases hb
    obtain rfl := px.int
    obtain rfl := py.int
    exact op_add pins s σ H _ _ v u Q I rx ry ⟨_, _, rfl, rfl, q.z e (.int _)⟩
  · split at hb
    · cases hb
      rename_i hz
      obtain ⟨rfl, h1⟩ := px.str
      obtain ⟨rfl, h2⟩ := py.str
      exact op_add_str pins s σ H _ _ v u Q I rx ry ⟨_, _, rfl, rfl, hz, q.z e (.str _ (by rw [PySem.Str.length_append]; exact hz))⟩
    · cases hb
  · split at hb
    · cases hb
      rename_i hz
      obtain ⟨a, vs, rfl, h1, r1⟩ := px.tup
      obtain ⟨b, ws, rfl, h2, r2⟩ := py.tup
      refine op_catA pins s σ H _ _ v u Q I rx ry ⟨a, b, vs, ws, rfl, rfl, .of h1, .of h2, by rw [r1.length, r2.length]; exact hz, fun z => ?_, fun _ z => ?_, fun _ _ => ?_⟩
      · subst z
        cases r1
        exact q.z e (.tup h2 r2)
      · subst z
        cases r2
        exact q.z e (.tup h1 (by rw [List.append_nil]; exact r1))
      · exact q.tup e (r1.append r2)
    · cases hb
  · split at hb
    · cases hb
      rename_i hz
      obtain ⟨a, vs, rfl, h1, r1⟩ := px.lst
      obtain ⟨b, ws, rfl, h2, r2⟩ := py.lst
      exact op_catR pins s σ H _ _ v u Q I rx ry ⟨a, b, vs, ws, rfl, rfl, h1, h2, by rw [r1.length, r2.length]; exact hz, q.lst e (r1.append r2)⟩
    · cases hb
  · cases hb
    obtain rfl := px.int
    obtain rfl := py.int
    exact op_sub pins s σ H _ _ v u Q I rx ry ⟨_, _, rfl, rfl, q.z e (.int _)⟩
  · split at hb
    · cases hb
      rename_i hc
      obtain rfl := px.int
      obtain rfl := py.int
      refine op_mul pins s σ H _ _ v u Q I rx ry ⟨_, _, rfl, rfl, ?_, q.z e (.int _)⟩
      simp only [cmulB, Bool.or_eq_true, Bool.and_eq_true, decide_eq_true_eq] at hc
      exact hc
    · cases hb
  · split at hb
    · cases hb
      rename_i hc
      simp only [Bool.and_eq_true, decide_eq_true_eq] at hc
      obtain ⟨a, vs, rfl, h1, r1⟩ := px.lst
      obtain rfl := py.int
      exact op_repR pins s σ H _ _ v u Q I rx ry ⟨a, _, vs, rfl, rfl, h1, hc.1.1, hc.1.2, by rw [r1.length]; exact hc.2, q.lst e (r1.rep _)⟩
    · cases hb
  · split at hb
    · cases hb
      rename_i hk
      subst hk
      obtain ⟨a, vs, rfl, h1, r1⟩ := px.tup
      obtain rfl := py.int
      exact op_repT1 pins s σ H _ _ v u Q I rx ry ⟨a, vs, rfl, rfl, h1, q.z e (.tup h1 r1)⟩
    split at hb
    · cases hb
      rename_i hc
      simp only [Bool.and_eq_true, decide_eq_true_eq, Bool.not_eq_true'] at hc
      obtain ⟨a, vs, rfl, h1, r1⟩ := px.tup
      obtain rfl := py.int
      refine op_repT pins s σ H _ _ v u Q I rx ry ⟨a, _, vs, rfl, rfl, .of h1, fun e => ?_, hc.1.1.2, hc.1.2, by rw [r1.length]; exact hc.2, q.tup e (r1.rep _)⟩
      have := r1.length
      rw [e] at this
      have h0 := hc.1.1.1
      cases hx : ‹List D› with
      | nil => simp [hx] at h0
      | cons _ _ => simp [hx] at this
    · cases hb
  · split at hb
    · cases hb
      rename_i hc
      simp only [Bool.and_eq_true, decide_eq_true_eq] at hc
      obtain rfl := px.int
      obtain rfl := py.int
      exact op_fdiv pins s σ H _ _ v u Q I rx ry ⟨_, _, rfl, rfl, hc, q.z e (.int _)⟩
    · cases hb
  · split at hb
    · cases hb
      rename_i hc
      simp only [decide_eq_true_eq] at hc
      obtain rfl := px.int
      obtain rfl := py.int
      exact op_mod pins s σ H _ _ v u Q I rx ry ⟨_, _, rfl, rfl, hc, q.z e (.int _)⟩
    · cases hb
  · split at hb
    · cases hb
      rename_i hc
      simp only [powB, Bool.and_eq_true, decide_eq_true_eq] at hc
      obtain rfl := px.int
      obtain rfl := py.int
      exact op_pow pins s σ H _ _ v u Q I rx ry ⟨_, _, rfl, rfl, ⟨hc.1.1, hc.1.2, hc.2⟩, q.z e (.int _)⟩
    · cases hb
  · cases hb
    obtain rfl := px.int
    obtain rfl := py.int
    exact op_and pins s σ H _ _ v u Q I rx ry ⟨_, _, rfl, rfl, q.z e (.int _)⟩
  · cases hb
    obtain rfl := px.int
    obtain rfl := py.int
    exact op_xor pins s σ H _ _ v u Q I rx ry ⟨_, _, rfl, rfl, q.z e (.int _)⟩
  · cases hb
    obtain rfl := px.int
    obtain rfl := py.int
    exact op_or pins s σ H _ _ v u Q I rx ry ⟨_, _, rfl, rfl, q.z e (.int _)⟩
  · cases hb
/-- -a -/
theorem op_negD {X : Cx} {g : Ga} : UnR X (unaryOp .USub) (fun x H Q => ∃ Z d r, Pk g H Z x d ∧ negD d = .ok r ∧ ∀ v, Rp g H Z v r → Q v H) := by
  intro pins s σ H x v Q I rx h
  obtain ⟨Z, d, r, p, e, q⟩ := h
  unfold negD at e
  split at e
  · cases e
    obtain rfl := p.int
    exact un_neg pins s σ H _ v Q I rx ⟨_, rfl, q _ (.int _)⟩
  · cases e

/-! ### comparisons -/
def cmM : Cm → CmpOp
  | .eq => .Eq | .ne => .NotEq | .lt => .Lt | .le => .LtE | .gt => .Gt | .ge => .GtE | .is => .Is | .isnot => .IsNot | .mem => .In | .nmem => .NotIn
theorem plain_bool {v : Value} {x : V} (b : Bool) (r : RelV x v) : plainIs v (.bool b) = true := by
  cases x with
  | non => cases r; rfl
  | bl _ => cases r; rfl
  | int _ => obtain ⟨t, rfl⟩ := r; rfl
  | str _ => obtain ⟨t, rfl⟩ := r; rfl
  | byt _ => obtain ⟨t, rfl⟩ := r; rfl
  | flt _ => obtain ⟨t, rfl⟩ := r; rfl
  | ref _ => cases r; rfl
  | ty _ => cases r; rfl
theorem beq_bool {v : Value} {x : V} (b : Bool) (r : RelV x v) : (v == Value.bool b) = decide (x = .bl b) := by
  cases x with
  | non => cases r; rfl
  | bl c => cases r; cases b <;> cases c <;> rfl
  | int _ => obtain ⟨t, rfl⟩ := r; rfl
  | str _ => obtain ⟨t, rfl⟩ := r; rfl
  | byt _ => obtain ⟨t, rfl⟩ := r; rfl
  | flt _ => obtain ⟨t, rfl⟩ := r; rfl
  | ref _ => cases r; rfl
  | ty _ => cases r; rfl
theorem Pk.isN {g : Ga} {H : Hp} {Z : Addr → Prop} {v : V} {d : D} (p : Pk g H Z v d) : decide (v = .non) = isNon d := by
  rcases p with p | ⟨a, rfl, h⟩
  · cases p <;> simp [isNon]
  · cases d <;> first | exact (show False from h).elim | simp [isNon]
theorem Pk.isB {g : Ga} {H : Hp} {Z : Addr → Prop} {v : V} {d : D} {b : Bool} (p : Pk g H Z v d) : decide (v = .bl b) = isBl b d := by
  rcases p with p | ⟨a, rfl, h⟩
  · cases p <;> first | (simp [isBl]; done) | skip
    rename_i c
    cases b <;> cases c <;> rfl
  · cases d <;> first | exact (show False from h).elim | simp [isBl]
theorem keyOf_kV {g : Ga} {H : Hp} {Z : Addr → Prop} {v : V} {d : D} {k : L2.Key} (p : Pk g H Z v d) (e : keyOf d = some k) : v = kV k := by
  cases d <;> simp only [keyOf] at e <;> cases e
  · exact p.int
  · exact p.str.1
theorem keysOf_kV {g : Ga} {H : Hp} {Z : Addr → Prop} : ∀ {vs : List V} {ds : List D} {ks : List L2.Key}, RpL g H Z vs ds → keysOf ds = some ks → vs = ks.map kV
  | [], [], ks, _, e => by simp [keysOf] at e; subst e; rfl
  | v :: vs, d :: ds, ks, .cons h t, e => by
    simp only [keysOf] at e
    split at e
    · rename_i k ks' e1 e2
      cases e
      rw [keyOf_kV (.inl h) e1, keysOf_kV t e2]; rfl
    · cases e
  | [], _ :: _, _, h, _ => nomatch h
  | _ :: _, [], _, h, _ => nomatch h
theorem any_valV {κ : Type} [DecidableEq κ] {kvs : List (κ × V)} {ks : List κ} {k : κ} (e : kvs.map (·.1) = ks) : (ks.any fun j => decide (j = k)) = (valV kvs k).isSome := by
  rw [← valV_any, ← e, List.any_map]
  rfl
theorem any_pyL (d : D) : ∀ xs : List D, ((D.pyL xs).any fun z => PyData.eqv z d.py) = xs.any fun z => PyData.eqv z.py d.py
  | [] => rfl
  | x :: r => by simp only [D.pyL, List.any_cons, any_pyL d r]
/-- the rule's question of in -/
theorem mem_ok {X : Cx} {g : Ga} (hu : X.A.units + 65 < cLine) {pins : List (Addr × Obj)} {s : Shared} {σ : St} {H : Hp} {x y : V} {v u : Value} {Z : Addr → Prop} {dx dy : D} {b : Bool} {E : Value → Shared → Prop}
    (I : Inv X pins σ H s) (rx : RelV x v) (ry : RelV y u) (hK : X.K = g.K) (px : Pk g H Z x dx) (py : Pk g H Z y dy) (h : memD dx dy = .ok b) :
    (∀ {Q : Value → Shared → Prop}, (∀ s', Inv X pins σ H s' → Q (.bool b) s') → wpAny (model X.prog X.w) X.A (compareOp .In v u) Q E s) ∧
    (∀ {Q : Value → Shared → Prop}, (∀ s', Inv X pins σ H s' → Q (.bool (!b)) s') → wpAny (model X.prog X.w) X.A (compareOp .NotIn v u) Q E s) := by
  have sq : ∀ {xs : List D} {dy : D}, (dy.py = .list (D.pyL xs) ∨ dy.py = .tuple (D.pyL xs)) → Pk g H Z y dy → memL dx xs = .ok b → 
      (∀ {Q : Value → Shared → Prop}, (∀ s', Inv X pins σ H s' → Q (.bool b) s') → wpAny (model X.prog X.w) X.A (compareOp .In v u) Q E s) ∧
      (∀ {Q : Value → Shared → Prop}, (∀ s', Inv X pins σ H s' → Q (.bool (!b)) s') → wpAny (model X.prog X.w) X.A (compareOp .NotIn v u) Q E s) := fun {xs dy} hy py h => by
    unfold memL at h
    split at h
    · rename_i hs
      cases h
      rw [Bool.and_eq_true] at hs
      have sd : SeqAt.shaped dx.py = true := hs.1
      have se : SeqAt.shaped (.list (D.pyL xs)) = true := by simpa [D.shp, D.py] using hs.2
      have sy : dy.shp = true := by
        unfold D.shp
        rcases hy with hy | hy
        · rw [hy]; exact se
        · rw [hy]; exact se
      have hd := px.dp hs.1
      have he := py.dp sy
      rw [← hK] at hd he
      obtain ⟨as, r1⟩ := Dp.reads I _ x v hd rx
      obtain ⟨bs, r2⟩ := Dp.reads I _ y u he ry
      rcases hy with hy | hy
      · rw [hy] at r2
        exact ⟨fun q => SeqAt.in_list_reads r2 r1 (SeqAt.canLay_of_shaped se) (SeqAt.canLay_of_shaped sd) (room_in_shaped sd hu) (by rw [any_pyL]; exact q _ I),
          fun q => SeqAt.notIn_list_reads r2 r1 (SeqAt.canLay_of_shaped se) (SeqAt.canLay_of_shaped sd) (room_in_shaped sd hu) (by rw [any_pyL]; exact q _ I)⟩
      · rw [hy] at r2
        exact ⟨fun q => SeqAt.in_tuple_reads r2 r1 (SeqAt.canLay_of_shaped se) (SeqAt.canLay_of_shaped sd) (room_in_shaped sd hu) (by rw [any_pyL]; exact q _ I),
          fun q => SeqAt.notIn_tuple_reads r2 r1 (SeqAt.canLay_of_shaped se) (SeqAt.canLay_of_shaped sd) (room_in_shaped sd hu) (by rw [any_pyL]; exact q _ I)⟩
    · cases h
  unfold memD at h
  split at h
  · exact sq (.inl rfl) py h
  · exact sq (.inr rfl) py h
  · exact sq (.inr rfl) py h
  · cases h
    obtain ⟨rfl, _⟩ := px.str
    obtain ⟨rfl, _⟩ := py.str
    obtain ⟨t, rfl⟩ := rx
    obtain ⟨t', rfl⟩ := ry
    exact ⟨fun q => in_str (q _ I), fun q => notIn_str (q _ I)⟩
  · split at h
    · rename_i k hk
      cases h
      obtain ⟨a, kvs, rfl, hd, e, _⟩ := py.dk
      cases ry
      have ek := keyOf_kV px hk
      have gt : DGet H a x (valV kvs k) := .inl ⟨kvs, k, hd, ek, rfl⟩
      exact ⟨fun q => d_in (by omega) I gt rx fun s' I' => by rw [← any_valV e]; exact q _ I', fun q => d_notIn (by omega) I gt rx fun s' I' => by rw [← any_valV e]; exact q _ I'⟩
    · cases h
  · split at h
    · rename_i k hk
      cases h
      obtain ⟨a, kvs, rfl, hd, e, _⟩ := py.dt
      obtain ⟨b, vs, rfl, hb, rb⟩ := px.tup
      cases ry
      rw [keysOf_kV rb hk] at hb
      have gt : DGet H a (.ref b) (valV kvs k) := .inr ⟨kvs, k, b, hd, rfl, hb, rfl⟩
      exact ⟨fun q => d_in (by omega) I gt rx fun s' I' => by rw [← any_valV e]; exact q _ I', fun q => d_notIn (by omega) I gt rx fun s' I' => by rw [← any_valV e]; exact q _ I'⟩
    · cases h
  · cases h

theorem eqD_ok {X : Cx} {g : Ga} (hu : X.A.units + 64 < cLine) {pins : List (Addr × Obj)} {s : Shared} {σ : St} {H : Hp} {x y : V} {v u : Value} {Z : Addr → Prop} {dx dy : D} {b : Bool}
    (I : Inv X pins σ H s) (rx : RelV x v) (ry : RelV y u) (hK : X.K = g.K) (px : Pk g H Z x dx) (py : Pk g H Z y dy) (h : eqD dx dy = .ok b) :
    (∀ {Q : VK}, Q (.bl b) H → wpAny (model X.prog X.w) X.A (compareOp .Eq v u) (EP X pins σ Q) X.xe s) ∧
    (∀ {Q : VK}, Q (.bl (!b)) H → wpAny (model X.prog X.w) X.A (compareOp .NotEq v u) (EP X pins σ Q) X.xe s) := by
  unfold eqD at h
  split at h
  · cases h
    obtain rfl := px.int
    obtain rfl := py.int
    exact ⟨fun q => op_eq pins s σ H _ _ v u _ I rx ry ⟨rfl, by rw [dec_int]; exact q⟩, fun q => op_ne pins s σ H _ _ v u _ I rx ry ⟨rfl, by rw [dec_int]; exact q⟩⟩
  · cases h
    obtain ⟨rfl, _⟩ := px.str
    obtain ⟨rfl, _⟩ := py.str
    exact ⟨fun q => op_eq pins s σ H _ _ v u _ I rx ry ⟨rfl, by rw [dec_str]; exact q⟩, fun q => op_ne pins s σ H _ _ v u _ I rx ry ⟨rfl, by rw [dec_str]; exact q⟩⟩
  · cases h
    obtain rfl := px.bl
    obtain rfl := py.bl
    exact ⟨fun q => op_eq pins s σ H _ _ v u _ I rx ry ⟨rfl, by rw [dec_bl]; exact q⟩, fun q => op_ne pins s σ H _ _ v u _ I rx ry ⟨rfl, by rw [dec_bl]; exact q⟩⟩
  · split at h
    · rename_i hs
      cases h
      rw [Bool.and_eq_true] at hs
      have h1 := px.dp hs.1
      have h2 := py.dp hs.2
      rw [← hK] at h1 h2
      exact ⟨fun q => op_eqD hu pins s σ H _ _ v u _ I rx ry ⟨_, _, h1, h2, hs.1, hs.2, q⟩, fun q => op_neD hu pins s σ H _ _ v u _ I rx ry ⟨_, _, h1, h2, hs.1, hs.2, q⟩⟩
    · cases h
def rC (g : Ga) (op : Cm) : R2 := fun x y H Q => ∃ Z dx dy b, Pk g H Z x dx ∧ Pk g H Z y dy ∧ cmpD op dx dy = .ok b ∧ Q (.bl b) H
theorem op_cmpD {X : Cx} {g : Ga} (hu : X.A.units + 65 < cLine) (hK : X.K = g.K) (op : Cm) : OpR X (compareOp (cmM op)) (rC g op) := by
  intro pins s σ H x y v u Q I rx ry h
  obtain ⟨Z, dx, dy, b, px, py, hb, q⟩ := h
  unfold cmpD at hb
  split at hb
  · exact (eqD_ok (by omega) I rx ry hK px py hb).1 q
  · cases e : eqD dx dy with
    | ok r =>
      rw [e] at hb
      simp only [R.bind_ok] at hb
      cases hb
      exact (eqD_ok (by omega) I rx ry hK px py e).2 q
    | exc _ _ => rw [e] at hb; cases hb
    | stk => rw [e] at hb; cases hb
  · cases hb
    obtain rfl := px.int
    obtain rfl := py.int
    exact op_lt pins s σ H _ _ v u Q I rx ry ⟨_, _, rfl, rfl, q⟩
  · cases hb
    obtain rfl := px.int
    obtain rfl := py.int
    exact op_le pins s σ H _ _ v u Q I rx ry ⟨_, _, rfl, rfl, q⟩
  · cases hb
    obtain rfl := px.int
    obtain rfl := py.int
    exact op_gt pins s σ H _ _ v u Q I rx ry ⟨_, _, rfl, rfl, q⟩
  · cases hb
    obtain rfl := px.int
    obtain rfl := py.int
    exact op_ge pins s σ H _ _ v u Q I rx ry ⟨_, _, rfl, rfl, q⟩
  · cases hb
    obtain ⟨rfl, _⟩ := px.str
    obtain ⟨rfl, _⟩ := py.str
    exact op_lt_str pins s σ H _ _ v u Q I rx ry ⟨_, _, rfl, rfl, q⟩
  · cases hb
    obtain rfl := py.non
    exact op_isN pins s σ H _ _ v u Q I rx ry ⟨rfl, by rw [px.isN]; exact q⟩
  · cases hb
    obtain rfl := py.non
    exact op_notN pins s σ H _ _ v u Q I rx ry ⟨rfl, by rw [px.isN]; exact q⟩
  · cases hb
    obtain rfl := py.bl
    cases ry
    refine wpAny_is_plain (plain_bool _ rx) ?_
    rw [beq_bool _ rx, px.isB]
    exact ⟨.bl _, H, I, rfl, q⟩
  · cases hb
    obtain rfl := py.bl
    cases ry
    refine wpAny_isNot_plain (plain_bool _ rx) ?_
    rw [beq_bool _ rx, px.isB]
    exact ⟨.bl _, H, I, rfl, q⟩
  · exact (mem_ok hu I rx ry hK px py hb).1 fun s' I' => ⟨.bl b, H, I', rfl, q⟩
  · cases e : memD dx dy with
    | ok r =>
      rw [e] at hb
      simp only [R.bind_ok] at hb
      cases hb
      exact (mem_ok hu I rx ry hK px py e).2 fun s' I' => ⟨.bl _, H, I', rfl, q⟩
    | exc _ _ => rw [e] at hb; cases hb
    | stk => rw [e] at hb; cases hb
  · cases hb

/-! ### truth -/
theorem tru_okD {X : Cx} {g : Ga} (hK : X.K = g.K) : TruR X (fun x H Q => ∃ Z d b, Pk g H Z x d ∧ truD d = .ok b ∧ Q b H) := by
  intro pins s σ H x v Q I rx h
  obtain ⟨Z, d, b, p, hb, q⟩ := h
  unfold truD at hb
  split at hb
  all_goals first | (cases hb; done) | cases hb
  · obtain rfl := p.non
    exact tru_ok pins s σ H _ v Q I rx ⟨_, rfl, q⟩
  · obtain rfl := p.bl
    exact tru_ok pins s σ H _ v Q I rx ⟨_, rfl, q⟩
  · obtain rfl := p.int
    exact tru_ok pins s σ H _ v Q I rx ⟨_, rfl, q⟩
  · obtain ⟨rfl, hl⟩ := p.str
    exact tru_ok pins s σ H _ v Q I rx ⟨_, ⟨hl, rfl⟩, q⟩
  · obtain ⟨a, vs, rfl, h, r⟩ := p.tup
    refine tru_ok pins s σ H _ v Q I rx ⟨_, .inr (.inl ⟨vs, .of h, rfl⟩), ?_⟩
    cases r <;> exact q
  · obtain ⟨a, vs, rfl, h, r⟩ := p.lst
    refine tru_ok pins s σ H _ v Q I rx ⟨_, .inl ⟨vs, sqL_of_rd h, rfl⟩, ?_⟩
    cases r <;> exact q
  · obtain ⟨a, kvs, rfl, h, e, r⟩ := p.dk
    cases (show v = Value.ref a from rx)
    refine d_truth I h fun s' I' => ⟨H, I', ?_⟩
    have e2 : (!kvs.isEmpty) = !(kvs.map (·.1)).isEmpty := by cases kvs <;> rfl
    rw [e2, e]
    exact q

/-! ### subscripts -/
theorem find_valV {κ : Type} [DecidableEq κ] {g : Ga} {H : Hp} {Z : Addr → Prop} {k : κ} {r : D} : ∀ {kvs : List (κ × V)} {ks : List κ} {ds : List D}, kvs.map (·.1) = ks → RpL g H Z (kvs.map (·.2)) ds → ((ks.zip ds).find? fun p => decide (p.1 = k)).map (·.2) = some r →
    ∃ v, valV kvs k = some v ∧ Rp g H Z v r
  | [], _, ds, e, h, f => by subst e; simp at f
  | (j, v) :: kvs, _, d :: ds, e, .cons h t, f => by
    subst e
    by_cases q : j = k
    · subst q
      simp at f
      subst f
      exact ⟨v, valV_pos rfl, h⟩
    · simp only [List.map_cons, List.zip_cons_cons, List.find?_cons, decide_eq_false q] at f
      obtain ⟨w, e1, e2⟩ := find_valV rfl t f
      exact ⟨w, by rw [valV_neg q]; exact e1, e2⟩
theorem atI_RpL {g : Ga} {H : Hp} {Z : Addr → Prop} {vs : List V} {ds : List D} {i : Int} {r : D} (h : RpL g H Z vs ds) (e : atI ds i = some r) : ∃ v, atI vs i = some v ∧ Rp g H Z v r := by
  unfold atI at e ⊢
  rw [h.length]
  cases q : ixN ds.length i with
  | none => rw [q] at e; cases e
  | some j => rw [q] at e; exact h.get e
theorem of_ok {α : Type} {o : Option α} {a : α} (h : R.of o = .ok a) : o = some a := by
  cases o with
  | none => cases h
  | some b => cases h; rfl
def rI (g : Ga) : R2 := fun x y H Q => ∃ Z dx dy r, Pk g H Z x dx ∧ Pk g H Z y dy ∧ ixD dx dy = .ok r ∧ ∀ v, Rp g H Z v r → Q v H
theorem op_ixD {X : Cx} {g : Ga} (hu : X.A.units + 65 < cLine) (hK : X.K = g.K) : IxR X (rI g) := by
  intro value slice pins s σ H x y v u Q I rx ry h hs
  obtain ⟨Z, dx, dy, r, px, py, e, q⟩ := h
  unfold ixD at e
  split at e
  · obtain ⟨a, vs, rfl, h, rl⟩ := px.tup
    obtain rfl := py.int
    obtain ⟨w, e1, e2⟩ := atI_RpL rl (of_ok e)
    exact ix_tup value slice pins s σ H _ _ v u Q I rx ry ⟨a, vs, _, w, rfl, rfl, .of h, e1, q _ e2⟩ hs
  · obtain rfl := py.int
    rcases px with px | ⟨a, rfl, t⟩
    · cases px with
      | ktup h rl =>
        obtain ⟨w, e1, e2⟩ := atI_RpL rl (of_ok e)
        exact ix_tup value slice pins s σ H _ _ v u Q I rx ry ⟨_, _, _, w, rfl, rfl, by rw [hK]; exact sqT_none h, e1, q _ e2⟩ hs
    · exact (show False from t).elim
  · obtain rfl := py.int
    rcases px with px | ⟨a, rfl, t⟩
    · cases px with
      | klst h rl =>
        obtain ⟨w, e1, e2⟩ := atI_RpL rl (of_ok e)
        exact ix_list value slice pins s σ H _ _ v u Q I rx ry ⟨_, _, _, w, rfl, rfl, by rw [hK]; exact sqL_none h, e1, q _ e2⟩ hs
    · exact (show False from t).elim
  · obtain ⟨a, vs, rfl, h, rl⟩ := px.lst
    obtain rfl := py.int
    obtain ⟨w, e1, e2⟩ := atI_RpL rl (of_ok e)
    exact ix_list value slice pins s σ H _ _ v u Q I rx ry ⟨a, vs, _, w, rfl, rfl, sqL_of_rd h, e1, q _ e2⟩ hs
  · obtain ⟨rfl, hl⟩ := px.str
    obtain rfl := py.int
    have e' := of_ok e
    obtain ⟨c, e1, e2⟩ := Option.map_eq_some_iff.mp e'
    subst e2
    exact ix_str value slice pins s σ H _ _ v u Q I rx ry ⟨_, _, c, rfl, rfl, hl, e1, q _ (.str _ (by show 1 ≤ sizeLine; rw [sizeLine_eq]; decide))⟩ hs
  · split at e
    · rename_i k hk
      obtain ⟨a, kvs, rfl, hd, ek, rl⟩ := px.dk
      cases rx
      obtain ⟨w, e1, e2⟩ := find_valV ek rl (of_ok e)
      have gt : DGet H a y (some w) := .inl ⟨kvs, k, hd, keyOf_kV py hk, e1.symm⟩
      exact tail_any (dict_typeIs I gt) PySem.F.slot_dict_getitem.lookup (d_getItem (by omega) I gt ry fun w' s' I' rw' => ⟨w, H, I', rw', q _ e2⟩) hs
    · cases e
  · split at e
    · rename_i k hk
      obtain ⟨a, kvs, rfl, hd, ek, rl⟩ := px.dt
      obtain ⟨b, vs, rfl, hb, rb⟩ := py.tup
      cases rx
      rw [keysOf_kV rb hk] at hb
      obtain ⟨w, e1, e2⟩ := find_valV ek rl (of_ok e)
      have gt : DGet H a (.ref b) (some w) := .inr ⟨kvs, k, b, hd, rfl, hb, e1.symm⟩
      exact tail_any (dict_typeIs I gt) PySem.F.slot_dict_getitem.lookup (d_getItem (by omega) I gt ry fun w' s' I' rw' => ⟨w, H, I', rw', q _ e2⟩) hs
    · cases e
  · cases e
/-! ### slices -/
theorem RpL.cut {g : Ga} {H : Hp} {Z : Addr → Prop} {vs : List V} {ds : List D} (h : RpL g H Z vs ds) (lo hi : Option Int) : RpL g H Z (cutV vs lo hi) (cutD ds lo hi) := by
  unfold cutV cutD
  rw [h.length]
  exact (h.drop _).take _
theorem cutS_le (z : Str) (lo hi : Option Int) : (cutS z lo hi).length ≤ z.length := by
  unfold cutS
  simp only [Str.length, List.size_toArray, List.length_take, List.length_drop, Array.length_toList]
  omega
def rSl (g : Ga) : V → Option Int → Option Int → Hp → VK → Prop := fun x lo hi H Q => ∃ H0 Z0 Z d z, Pk g H Z x d ∧ Ext H0 Z0 H Z ∧ slD d lo hi = .ok z ∧ Out g H0 Z0 Q z
theorem op_slD {X : Cx} {g : Ga} (hK : X.K = g.K) : SlR X (rSl g) := by
  intro pins s σ H x v vl vu lo hi sl Q I rx hs pl pu h
  obtain ⟨H0, Z0, Z, d, z, px, e, ez, q⟩ := h
  unfold slD at ez
  split at ez
  · cases ez
    obtain ⟨a, vs, rfl, h, r⟩ := px.tup
    refine sl_tupA pins s σ H _ v vl vu _ _ sl Q I rx hs pl pu ?_
    refine ⟨a, vs, rfl, .of h, ?_⟩
    have hc := r.cut lo hi
    refine ⟨fun hw => ?_, fun _ => q.tup e hc⟩
    have ev : cutV vs lo hi = vs := by
      unfold cutV
      rw [hw.1, hw.2]
      simp
    rw [ev] at hc
    exact q.z e (.tup h hc)
  · cases ez
    obtain ⟨a, vs, rfl, h, r⟩ := px.lst
    exact sl_list pins s σ H _ v vl vu _ _ sl Q I rx hs pl pu ⟨a, vs, rfl, sqL_of_rd h, q.lst e (r.cut lo hi)⟩
  · cases ez
    obtain ⟨rfl, hl⟩ := px.str
    exact sl_str pins s σ H _ v vl vu _ _ sl Q I rx hs pl pu ⟨_, rfl, hl, q.z e (.str _ (Nat.le_trans (cutS_le _ _ _) hl))⟩
  · cases ez

/-! ### built-in functions -/
def PkL (g : Ga) (H : Hp) (Z : Addr → Prop) : List V → List D → Prop
  | [], [] => True
  | v :: vs, d :: ds => Pk g H Z v d ∧ PkL g H Z vs ds
  | _, _ => False
theorem PkL.one {g : Ga} {H : Hp} {Z : Addr → Prop} {d : D} : ∀ {vs : List V}, PkL g H Z vs [d] → ∃ v, vs = [v] ∧ Pk g H Z v d
  | [v], h => ⟨v, rfl, h.1⟩
  | [], h => (show False from h).elim
  | _ :: _ :: _, h => (show False from h.2).elim
theorem PkL.two {g : Ga} {H : Hp} {Z : Addr → Prop} {d e : D} : ∀ {vs : List V}, PkL g H Z vs [d, e] → ∃ v w, vs = [v, w] ∧ Pk g H Z v d ∧ Pk g H Z w e
  | [v, w], h => ⟨v, w, rfl, h.1, h.2.1⟩
  | [], h => (show False from h).elim
  | [_], h => (show False from h.2).elim
  | _ :: _ :: _ :: _, h => (show False from h.2.2).elim
theorem insI_perm (x : Int) : ∀ l : List Int, (insI x l).Perm (x :: l)
  | [] => .refl _
  | y :: r => by
    unfold insI
    split
    · exact .refl _
    · exact ((insI_perm x r).cons y).trans (.swap x y r)
theorem insI_sorted (x : Int) : ∀ l : List Int, l.Pairwise (· ≤ ·) → (insI x l).Pairwise (· ≤ ·)
  | [], _ => by simp [insI]
  | y :: r, h => by
    unfold insI
    have hy := List.pairwise_cons.mp h
    split
    · rename_i hxy
      exact List.pairwise_cons.mpr ⟨fun z hz => by
        rcases List.mem_cons.mp hz with rfl | hz
        · exact hxy
        · exact Int.le_trans hxy (hy.1 z hz), h⟩
    · rename_i hxy
      refine List.pairwise_cons.mpr ⟨fun z hz => ?_, insI_sorted x r hy.2⟩
      rcases List.mem_cons.mp ((insI_perm x r).mem_iff.mp hz) with rfl | hz
      · omega
      · exact hy.1 z hz
theorem sortI_perm : ∀ l : List Int, (sortI l).Perm l
  | [] => .refl _
  | x :: r => (insI_perm x _).trans ((sortI_perm r).cons x)
theorem sortI_sorted : ∀ l : List Int, (sortI l).Pairwise (· ≤ ·)
  | [] => .nil
  | x :: r => insI_sorted x _ (sortI_sorted r)
theorem sorted_uniq : ∀ {a b : List Int}, a.Perm b → a.Pairwise (· ≤ ·) → b.Pairwise (· ≤ ·) → a = b
  | [], b, p, _, _ => (List.nil_perm.mp p).symm
  | x :: a, [], p, _, _ => absurd p.length_eq (by simp)
  | x :: a, y :: b, p, h, k => by
    have hx := List.pairwise_cons.mp h
    have hy := List.pairwise_cons.mp k
    have e : x = y := by
      have m1 := p.mem_iff.mp (List.mem_cons_self (a := x))
      have m2 := p.mem_iff.mpr (List.mem_cons_self (a := y))
      rcases List.mem_cons.mp m1 with q | q
      · exact q
      · rcases List.mem_cons.mp m2 with r | r
        · exact r.symm
        · have := hx.1 y r; have := hy.1 x q; omega
    subst e
    rw [sorted_uniq (List.perm_cons x |>.mp p) hx.2 hy.2]
theorem insU_mem (x k : Int) : ∀ l : List Int, k ∈ insU x l ↔ k = x ∨ k ∈ l
  | [] => by simp [insU]
  | y :: r => by
    unfold insU
    split
    · simp
    · split
      · rename_i _ e
        subst e
        simp
      · simp only [List.mem_cons, insU_mem x k r]
        constructor
        · rintro (h | h | h) <;> simp [h]
        · rintro (h | h | h) <;> simp [h]
theorem insU_asc (x : Int) : ∀ l : List Int, l.Pairwise (· < ·) → (insU x l).Pairwise (· < ·)
  | [], _ => by simp [insU]
  | y :: r, h => by
    have hy := List.pairwise_cons.mp h
    unfold insU
    split
    · rename_i hx
      exact List.pairwise_cons.mpr ⟨fun z hz => by
        rcases List.mem_cons.mp hz with rfl | hz
        · exact hx
        · have := hy.1 z hz; omega, h⟩
    · split
      · exact h
      · refine List.pairwise_cons.mpr ⟨fun z hz => ?_, insU_asc x r hy.2⟩
        rcases (insU_mem x z r).mp hz with rfl | hz
        · omega
        · exact hy.1 z hz
theorem setI_mem (k : Int) : ∀ l : List Int, k ∈ setI l ↔ k ∈ l
  | [] => by simp [setI]
  | x :: r => by
    show k ∈ insU x (setI r) ↔ _
    rw [insU_mem, setI_mem k r, List.mem_cons]
theorem setI_asc : ∀ l : List Int, (setI l).Pairwise (· < ·)
  | [] => .nil
  | x :: r => insU_asc x _ (setI_asc r)
theorem asc_uniq : ∀ {a b : List Int}, a.Pairwise (· < ·) → b.Pairwise (· < ·) → (∀ k, k ∈ a ↔ k ∈ b) → a = b
  | [], [], _, _, _ => rfl
  | [], y :: b, _, _, h => by have := (h y).mpr (by simp); simp at this
  | x :: a, [], _, _, h => by have := (h x).mp (by simp); simp at this
  | x :: a, y :: b, ha, hb, h => by
    have pa := List.pairwise_cons.mp ha
    have pb := List.pairwise_cons.mp hb
    have e : x = y := by
      rcases List.mem_cons.mp ((h x).mp (by simp)) with e | e
      · exact e
      · rcases List.mem_cons.mp ((h y).mpr (by simp)) with e' | e'
        · exact e'.symm
        · have := pa.1 y e'; have := pb.1 x e; omega
    subst e
    rw [asc_uniq pa.2 pb.2 fun k => ⟨fun hk => ?_, fun hk => ?_⟩]
    · rcases List.mem_cons.mp ((h k).mp (List.mem_cons_of_mem _ hk)) with e | e
      · subst e; have := pa.1 k hk; omega
      · exact e
    · rcases List.mem_cons.mp ((h k).mpr (List.mem_cons_of_mem _ hk)) with e | e
      · subst e; have := pb.1 k hk; omega
      · exact e
theorem nodup_le : ∀ l m : List Int, l.Nodup → (∀ x ∈ l, x ∈ m) → l.length ≤ m.length
  | [], _, _, _ => Nat.zero_le _
  | x :: l, m, h, s => by
    have hx := s x (by simp)
    have hn := List.nodup_cons.mp h
    have := nodup_le l (m.erase x) hn.2 fun y hy => (List.mem_erase_of_ne (show y ≠ x from fun e => hn.1 (e ▸ hy))).mpr (s y (List.mem_cons_of_mem _ hy))
    rw [List.length_erase_of_mem hx] at this
    have := List.length_pos_of_mem hx
    simp only [List.length_cons]; omega
theorem setI_uniq {l ns : List Int} (s : ns.Pairwise (· < ·)) (m : ∀ k, k ∈ ns ↔ k ∈ l) : ns = setI l := asc_uniq s (setI_asc l) fun k => (m k).trans (setI_mem k l).symm
theorem sortI_uniq {l ns : List Int} (p : ns.Perm l) (s : ns.Pairwise (· ≤ ·)) : ns = sortI l := sorted_uniq (p.trans (sortI_perm l).symm) s (sortI_sorted l)
theorem maxI_of : ∀ {l : List Int} {m : Int}, maxI l = some m → m ∈ l ∧ ∀ y ∈ l, y ≤ m
  | [], _, h => by cases h
  | x :: r, m, h => by
    unfold maxI at h
    cases e : maxI r with
    | none =>
      rw [e] at h
      cases h
      cases r with
      | nil => simp
      | cons y r => simp only [maxI] at e; split at e <;> cases e
    | some y =>
      rw [e] at h
      obtain ⟨h1, h2⟩ := maxI_of e
      simp only [Option.some.injEq] at h
      split at h
      · subst h; exact ⟨List.mem_cons_of_mem _ h1, fun z hz => by rcases List.mem_cons.mp hz with rfl | hz; omega; exact h2 z hz⟩
      · subst h; exact ⟨List.mem_cons_self, fun z hz => by rcases List.mem_cons.mp hz with rfl | hz; omega; have := h2 z hz; omega⟩
theorem minI_of : ∀ {l : List Int} {m : Int}, minI l = some m → m ∈ l ∧ ∀ y ∈ l, m ≤ y
  | [], _, h => by cases h
  | x :: r, m, h => by
    unfold minI at h
    cases e : minI r with
    | none =>
      rw [e] at h
      cases h
      cases r with
      | nil => simp
      | cons y r => simp only [minI] at e; split at e <;> cases e
    | some y =>
      rw [e] at h
      obtain ⟨h1, h2⟩ := minI_of e
      simp only [Option.some.injEq] at h
      split at h
      · subst h; exact ⟨List.mem_cons_of_mem _ h1, fun z hz => by rcases List.mem_cons.mp hz with rfl | hz; omega; exact h2 z hz⟩
      · subst h; exact ⟨List.mem_cons_self, fun z hz => by rcases List.mem_cons.mp hz with rfl | hz; omega; have := h2 z hz; omega⟩
def biV : Bi → Value
  | .len => .builtin "len" | .abs => .builtin "abs" | .max => .builtin "max" | .min => .builtin "min" | .sum => .builtin "sum" | .sorted => .builtin "sorted" | .all => .builtin "all" | .any => .builtin "any"
  | .tuple => .type "tuple" | .list => .type "list" | .int => .type "int" | .str => .type "str" | .dict => .type "dict"
def rBi (g : Ga) (f : Bi) : List V → Hp → VK → Prop := fun xs H Q => ∃ H0 Z0 Z ds z, PkL g H Z xs ds ∧ Ext H0 Z0 H Z ∧ biD f ds = .ok z ∧ Out g H0 Z0 Q z
theorem len_okD {X : Cx} {g : Ga} (hK : X.K = g.K) {pins : List (Addr × Obj)} {s : Shared} {σ : St} {H : Hp} {x : V} {us : List Value} {Z : Addr → Prop} {d r : D} {Q : VK} (I : Inv X pins σ H s) (rx : Vals [x] us) (p : Pk g H Z x d) (e : lenD d = .ok r)
    (q : ∀ v, Rp g H Z v r → Q v H) : wpAny (model X.prog X.w) X.A (call (.builtin "len") us) (EP X pins σ Q) X.xe s := by
  unfold lenD at e
  split at e
  · cases e
    rcases p with p | ⟨a, rfl, t⟩
    · cases p with
      | ktup h rl => exact call_len_seq pins s σ H _ us Q I rx ⟨_, _, rfl, .inr (by rw [hK]; exact sqT_none h), by rw [rl.length]; exact q _ (.int _)⟩
    · exact (show False from t).elim
  · cases e
    rcases p with p | ⟨a, rfl, t⟩
    · cases p with
      | klst h rl => exact call_len_seq pins s σ H _ us Q I rx ⟨_, _, rfl, .inl (by rw [hK]; exact sqL_none h), by rw [rl.length]; exact q _ (.int _)⟩
    · exact (show False from t).elim
  · cases e
    obtain ⟨a, vs, rfl, h, rl⟩ := p.tup
    exact call_len_seq pins s σ H _ us Q I rx ⟨_, _, rfl, .inr (.of h), by rw [rl.length]; exact q _ (.int _)⟩
  · cases e
    obtain ⟨a, vs, rfl, h, rl⟩ := p.lst
    exact call_len_seq pins s σ H _ us Q I rx ⟨_, _, rfl, .inl (sqL_of_rd h), by rw [rl.length]; exact q _ (.int _)⟩
  · cases e
    obtain ⟨rfl, hl⟩ := p.str
    exact call_len_str pins s σ H _ us Q I rx ⟨_, rfl, hl, q _ (.int _)⟩
  · cases e
    obtain ⟨a, kvs, rfl, h, ek, rl⟩ := p.dk
    obtain ⟨u, rfl, r1⟩ := vals1 rx
    cases (show u = Value.ref a from r1)
    refine d_len I h fun t s' I' => ⟨.int kvs.length, H, I', ⟨_, rfl⟩, ?_⟩
    have : kvs.length = (kvs.map (·.1)).length := by simp
    rw [this, ek]
    exact q _ (.int _)
  · cases e
theorem op_biD {X : Cx} {g : Ga} (hc : X.calm = true) (hK : X.K = g.K) (f : Bi) : CallR X (biV f) (rBi g f) := by
  intro pins s σ H xs us Q I rx h
  obtain ⟨H0, Z0, Z, ds, z, pl, e, hz, q⟩ := h
  unfold biD at hz
  split at hz
  · obtain ⟨x, rfl, p⟩ := pl.one
    cases hl : lenD _ with
    | ok r =>
      rw [hl] at hz
      simp only [R.bind_ok] at hz
      cases hz
      exact len_okD hK I rx p hl fun v rv => q.z e rv
    | exc _ _ => rw [hl] at hz; cases hz
    | stk => rw [hl] at hz; cases hz
  · cases hz
    obtain ⟨x, rfl, p⟩ := pl.one
    obtain rfl := p.int
    exact call_abs pins s σ H _ us Q I rx ⟨_, rfl, q.z e (.int _)⟩
  · cases hz
    obtain ⟨x, y, rfl, p1, p2⟩ := pl.two
    obtain rfl := p1.int
    obtain rfl := p2.int
    exact call_max2 hc pins s σ H _ us Q I rx ⟨_, _, rfl, q.z e (.int _)⟩
  · cases hz
    obtain ⟨x, y, rfl, p1, p2⟩ := pl.two
    obtain rfl := p1.int
    obtain rfl := p2.int
    exact call_min2 hc pins s σ H _ us Q I rx ⟨_, _, rfl, q.z e (.int _)⟩
  · rename_i ys
    obtain ⟨x, rfl, p⟩ := pl.one
    obtain ⟨a, vs, rfl, h, rl⟩ := p.lst
    cases hn : allInt ys with
    | none => rw [hn] at hz; cases hz
    | some ns =>
      rw [hn] at hz
      have ev := rl.ints hn
      subst ev
      cases hm : maxI ns with
      | none => simp only [Option.bind_some, hm] at hz; cases hz
      | some m =>
        simp only [Option.bind_some, hm, R.of_some, R.bind_ok] at hz
        cases hz
        obtain ⟨m1, m2⟩ := maxI_of hm
        refine cr_max hc pins s σ H _ us Q I rx ⟨a, ns, rfl, sqL_of_rd h, List.length_pos_of_mem m1, fun m' h1 h2 => ?_⟩
        have : m' = m := Int.le_antisymm (m2 m' h1) (h2 m m1)
        rw [this]
        exact q.z e (.int _)
  · rename_i ys
    obtain ⟨x, rfl, p⟩ := pl.one
    obtain ⟨a, vs, rfl, h, rl⟩ := p.lst
    cases hn : allInt ys with
    | none => rw [hn] at hz; cases hz
    | some ns =>
      rw [hn] at hz
      have ev := rl.ints hn
      subst ev
      cases hm : minI ns with
      | none => simp only [Option.bind_some, hm] at hz; cases hz
      | some m =>
        simp only [Option.bind_some, hm, R.of_some, R.bind_ok] at hz
        cases hz
        obtain ⟨m1, m2⟩ := minI_of hm
        refine cr_min hc pins s σ H _ us Q I rx ⟨a, ns, rfl, sqL_of_rd h, List.length_pos_of_mem m1, fun m' h1 h2 => ?_⟩
        have : m' = m := Int.le_antisymm (h2 m m1) (m2 m' h1)
        rw [this]
        exact q.z e (.int _)
  · rename_i ys
    obtain ⟨x, rfl, p⟩ := pl.one
    obtain ⟨a, vs, rfl, h, rl⟩ := p.tup
    cases hn : allInt ys with
    | none => rw [hn] at hz; cases hz
    | some ns =>
      rw [hn] at hz
      have ev := rl.ints hn
      subst ev
      cases hm : maxI ns with
      | none => simp only [Option.bind_some, hm] at hz; cases hz
      | some m =>
        simp only [Option.bind_some, hm, R.of_some, R.bind_ok] at hz
        cases hz
        obtain ⟨m1, m2⟩ := maxI_of hm
        refine cr_maxT hc pins s σ H _ us Q I rx ⟨a, ns, rfl, SqT.of h, List.length_pos_of_mem m1, fun m' h1 h2 => ?_⟩
        have : m' = m := Int.le_antisymm (m2 m' h1) (h2 m m1)
        rw [this]
        exact q.z e (.int _)
  · rename_i ys
    obtain ⟨x, rfl, p⟩ := pl.one
    obtain ⟨a, o, vs, rfl, h, _, rl⟩ := p.ntup
    cases hn : allInt ys with
    | none => rw [hn] at hz; cases hz
    | some ns =>
      rw [hn] at hz
      have ev := rl.ints hn
      subst ev
      cases hm : maxI ns with
      | none => simp only [Option.bind_some, hm] at hz; cases hz
      | some m =>
        simp only [Option.bind_some, hm, R.of_some, R.bind_ok] at hz
        cases hz
        obtain ⟨m1, m2⟩ := maxI_of hm
        refine cr_maxT hc pins s σ H _ us Q I rx ⟨a, ns, rfl, .inl (.inr ⟨o, h⟩), List.length_pos_of_mem m1, fun m' h1 h2 => ?_⟩
        have : m' = m := Int.le_antisymm (m2 m' h1) (h2 m m1)
        rw [this]
        exact q.z e (.int _)
  · rename_i ys
    obtain ⟨x, rfl, p⟩ := pl.one
    obtain ⟨a, vs, rfl, h, rl⟩ := p.tup
    cases hn : allInt ys with
    | none => rw [hn] at hz; cases hz
    | some ns =>
      rw [hn] at hz
      have ev := rl.ints hn
      subst ev
      cases hm : minI ns with
      | none => simp only [Option.bind_some, hm] at hz; cases hz
      | some m =>
        simp only [Option.bind_some, hm, R.of_some, R.bind_ok] at hz
        cases hz
        obtain ⟨m1, m2⟩ := minI_of hm
        refine cr_minT hc pins s σ H _ us Q I rx ⟨a, ns, rfl, SqT.of h, List.length_pos_of_mem m1, fun m' h1 h2 => ?_⟩
        have : m' = m := Int.le_antisymm (h2 m m1) (m2 m' h1)
        rw [this]
        exact q.z e (.int _)
  · rename_i ys
    obtain ⟨x, rfl, p⟩ := pl.one
    obtain ⟨a, vs, rfl, h, rl⟩ := p.tup
    cases hn : allInt ys with
    | none => rw [hn] at hz; cases hz
    | some ns =>
      rw [hn] at hz
      have ev := rl.ints hn
      subst ev
      simp only [R.of_some, R.bind_ok] at hz
      cases hz
      exact cr_sumT hc pins s σ H _ us Q I rx ⟨a, ns, rfl, SqT.of h, q.z e (.int _)⟩
  · rename_i ys
    obtain ⟨x, rfl, p⟩ := pl.one
    obtain ⟨a, vs, rfl, h, rl⟩ := p.lst
    cases hn : allInt ys with
    | none => rw [hn] at hz; cases hz
    | some ns =>
      rw [hn] at hz
      have ev := rl.ints hn
      subst ev
      simp only [R.of_some, R.bind_ok] at hz
      cases hz
      exact cr_sum hc pins s σ H _ us Q I rx ⟨a, ns, rfl, sqL_of_rd h, q.z e (.int _)⟩
  · rename_i ys
    obtain ⟨x, rfl, p⟩ := pl.one
    obtain ⟨a, vs, rfl, h, rl⟩ := p.lst
    cases hn : allInt ys with
    | none => rw [hn] at hz; cases hz
    | some ns =>
      rw [hn] at hz
      have ev := rl.ints hn
      subst ev
      simp only [R.of_some, R.bind_ok] at hz
      cases hz
      refine cr_sortedI pins s σ H _ us Q I rx ⟨a, ns, rfl, sqL_of_rd h, fun ns' p hp hs hn => ?_⟩
      rw [sortI_uniq hp hs]
      exact q.lst e (RpL.ofInts _) p hn
  · rename_i ys
    obtain ⟨x, rfl, p⟩ := pl.one
    obtain ⟨a, vs, rfl, h, rl⟩ := p.lst
    cases hn : allBl ys with
    | none => rw [hn] at hz; cases hz
    | some ns =>
      rw [hn] at hz
      have ev := rl.bls hn
      subst ev
      simp only [R.of_some, R.bind_ok] at hz
      cases hz
      exact cr_all hc pins s σ H _ us Q I rx ⟨a, ns, rfl, sqL_of_rd h, q.z e (.bl _)⟩
  · rename_i ys
    obtain ⟨x, rfl, p⟩ := pl.one
    obtain ⟨a, vs, rfl, h, rl⟩ := p.lst
    cases hn : allBl ys with
    | none => rw [hn] at hz; cases hz
    | some ns =>
      rw [hn] at hz
      have ev := rl.bls hn
      subst ev
      simp only [R.of_some, R.bind_ok] at hz
      cases hz
      exact cr_any hc pins s σ H _ us Q I rx ⟨a, ns, rfl, sqL_of_rd h, q.z e (.bl _)⟩
  · cases hz
    obtain ⟨x, rfl, p⟩ := pl.one
    obtain ⟨a, vs, rfl, h, rl⟩ := p.lst
    exact call_tuple_of pins s σ H _ us Q I rx ⟨a, vs, rfl, .inl ⟨sqL_of_rd h, q.tup e rl⟩⟩
  · cases hz
    obtain ⟨x, rfl, p⟩ := pl.one
    obtain ⟨a, vs, rfl, h, rl⟩ := p.tup
    exact call_tuple_of pins s σ H _ us Q I rx ⟨a, vs, rfl, .inr ⟨.of h, q.z e (.tup h rl)⟩⟩
  · cases hz
    obtain ⟨x, rfl, p⟩ := pl.one
    obtain ⟨a, vs, rfl, h, rl⟩ := p.lst
    exact call_list_of pins s σ H _ us Q I rx ⟨a, vs, rfl, .inl (sqL_of_rd h), q.lst e rl⟩
  · cases hz
    obtain ⟨x, rfl, p⟩ := pl.one
    obtain ⟨a, vs, rfl, h, rl⟩ := p.tup
    exact call_list_of pins s σ H _ us Q I rx ⟨a, vs, rfl, .inr (.of h), q.lst e rl⟩
  · cases hz
    obtain ⟨x, rfl, p⟩ := pl.one
    obtain rfl := p.int
    exact call_int1 pins s σ H _ us Q I rx (.inl ⟨_, rfl, q.z e (.int _)⟩)
  · cases hz
    obtain ⟨x, rfl, p⟩ := pl.one
    obtain rfl := p.bl
    exact call_int1 pins s σ H _ us Q I rx (.inr ⟨_, rfl, q.z e (.int _)⟩)
  · cases hz

/-! ### isinstance -/
def tyS : Ty → String
  | .int => "int" | .bool => "bool" | .str => "str" | .tuple => "tuple" | .list => "list" | .dict => "dict" | .cl _ => "?"
theorem isi_okD {X : Cx} {g : Ga} (hK : X.K = g.K) {t : Ty} : CallR X (.builtin "isinstance") (fun xs H Q => ∃ x Z d b, xs = [x, .ty (tyS t)] ∧ Pk g H Z x d ∧ isiD d t = .ok b ∧ Q (.bl b) H) := by
  intro pins s σ H xs us Q I r h
  obtain ⟨x, Z, d, b, rfl, p, e, q⟩ := h
  have fin : ∀ T : String, TyX X.K H x (.type T) → kitB T (tyS t) = some b → wpAny (model X.prog X.w) X.A (call (.builtin "isinstance") us) (EP X pins σ Q) X.xe s := fun T ty k =>
    call_isi pins s σ H _ us Q I r ⟨x, _, _, _, b, rfl, .ty _, ty, kit_ty k, q⟩
  have ty : ∀ {T : String}, (match d with | .non => T = "NoneType" | .bl _ => T = "bool" | .int _ => T = "int" | .str _ => T = "str" | .tup _ => T = "tuple" | .ktup _ => T = "tuple" | .lst _ => T = "list" | .dk _ _ => T = "dict" | _ => False) → TyX X.K H x (.type T) := fun {T} h => by
    cases d with
    | non => cases h; cases p.non; exact .base .non
    | bl _ => cases h; cases p.bl; exact .base (.bl _)
    | int _ => cases h; cases p.int; exact .base (.int _)
    | str _ => cases h; cases p.str.1; exact .base (.str _)
    | tup _ => cases h; obtain ⟨a, vs, rfl, h, _⟩ := p.tup; exact .base (.tup h)
    | ktup _ =>
      cases h
      rcases p with p | ⟨a, rfl, t⟩
      · cases p with
        | ktup h rl =>
          rcases h with (h | ⟨o, h⟩) | ⟨o, its, n, h1, h2, _⟩
          · exact nomatch h
          · exact nomatch h
          · exact .kTuple (by rw [hK]; exact h1) h2
      · exact (show False from t).elim
    | lst _ =>
      cases h
      obtain ⟨a, vs, rfl, h, _⟩ := p.lst
      rcases h with h | ⟨o, h⟩
      · exact .base (.lst h)
      · exact .base (.frz h)
    | dk _ _ =>
      cases h
      obtain ⟨a, vs, rfl, h, _⟩ := p.dk
      rcases h with h | ⟨o, h⟩
      · exact .base (.dK h)
      · exact .fDict h
    | dt _ _ => exact h.elim
    | fn _ => exact h.elim
    | cl _ => exact h.elim
    | klst _ => exact h.elim
    | ntup _ => exact h.elim
  cases t <;> cases d <;> simp only [isiD] at e <;> first | (cases e; done) | (cases e; exact fin _ (ty rfl) (by decide +kernel))

/-! ### a tuple whose object is known: t.index(x) -/
theorem call_tuple_frz {X : Cx} : CallR X (.type "tuple") (fun xs H Q => ∃ p ys, xs = [.ref p] ∧ SqL X.K H p ys ∧ ∀ l o, o.dict = none → H l = none → Q (.ref l) (upd H l (.frz o (.tup ys)))) := by
  intro pins s σ H xs us Q I r ⟨p, ys, hx, hq, q⟩
  subst hx
  rw [Vals.ref1 r]
  obtain ⟨its, rv, pl, hz⟩ := I.list hq
  have hlen := rv.length
  refine call_tuple_list pl.isList (fun h1 kp => ?_) (by simp only [List.size_toArray] <;> omega)
  have J := I.kept (t' := s.toks) kp
  exact ⟨.ref h1.objs.size, _, J.laid (o := .frz { cls := .type "tuple", data := .seq its.toArray } (.tup ys)) (t' := s.toks) (fun b o e => Heap.get?_push_of_some _ e) (Nat.le_refl _) ⟨Heap.get?_push_size _ rfl, hz, its, rv, IsTup.new _ _⟩, rfl, q _ _ rfl (J.hok.fresh (Nat.le_refl _))⟩
def rTupN : V → List V → Hp → VK → Prop := fun x xs H Q => ∃ (p : Addr) (o : Obj) (ns : List Int) (k : Int), x = .ref p ∧ xs = [.int k] ∧ H p = some (.frz o (.tup (ns.map V.int))) ∧ k ∈ ns ∧ Q (.int (ns.idxOf k : Nat)) H
theorem mt_tupN {X : Cx} : MtR X "tuple.index" rTupN := by
  intro pins s σ H x xs v us Q I rx rs ⟨p, o, ns, k, ex, exs, hp, hk, q⟩
  subst ex exs
  cases rx
  obtain ⟨u, rfl, t, rfl⟩ := vals1 rs
  obtain ⟨its, rv, pl, hz⟩ := I.tuple (.inl (.inr ⟨o, hp⟩))
  exact SeqAt.tuple_index_ints (vs := its) pl rv.ints hk ⟨.int (ns.idxOf k : Nat), H, I.tok _, ⟨_, rfl⟩, q⟩
/-- a value whose object is known: a tuple without a dict -/
def tBMN (r : V → List V → Hp → VK → Prop) (to : TE) (t : TA) : TE := fun σ H Q => to σ H fun x H1 => (∃ p o u, x = V.ref p ∧ H1 p = some (.frz o (.tup u)) ∧ o.dict = none) ∧ t σ H1 fun xs H2 => r x xs H2 Q
theorem pe_bmN {X : Cx} {o e : Expr} {es : List Expr} {to : TE} {t : TA} {name : Str} {apos cpos : Pos} {id : String} {r : V → List V → Hp → VK → Prop} (pa : PlainAttrs "tuple") (slot : Slot "tuple" name id) (hty : typeOf (.builtin id) = pure (.type "method_descriptor")) (hm : MtR X id r) (ho : PE X o to) (ha : PA X (e :: es) t)
    (hb : attributeBase o name X.env (eval o X.env) = eval o X.env)
    (hf : ((backTo cpos (starEach (e :: es) X.env)).all (fun x => !x.1) && (backToKw cpos (keywordEach [] X.env)).all (fun x => x.1.isSome) && decide ((e :: es).length + ([] : List Keyword).length + (if ([] : List Keyword).isEmpty then 0 else 1) < 30)) = true)
    (hl : (apos.endLine == cpos.line) = true) (hs : starEach (e :: es) X.env = (false, eval e X.env) :: starEach es X.env) (hp : (backTo cpos (starEach es X.env)).any (·.1) = false) :
    PE X (.Call (.Attribute o name apos) (e :: es) [] cpos) (tBMN r to t) := ⟨fun pins s σ H Q I h =>
  wpAny_Call_method_late hb hf hl rfl (thn (ho.run pins s σ H _ I h) fun v s1 ⟨x, H1, I1, r1, ⟨p, ob, u, ex, hob, hd⟩, q1⟩ => by
    subst ex
    obtain rfl : v = Value.ref p := r1
    obtain ⟨g1, _, _, _, o2, g2, g3, _⟩ := I1.hok p _ hob
    obtain rfl : o2 = ob := by rw [g1] at g2; exact (Option.some.inj g2).symm
    refine ⟨"tuple", id, pa, slot, hty, ⟨_, g1, g3⟩, fun a q => by cases q; exact ⟨_, g1, hd⟩, ?_⟩
    have hA := ha.run cpos pins s1 σ H1 _ I1 q1
    rw [hs] at hA ⊢
    exact Calls.callWith_builtin (by show (false || (backTo cpos (starEach es X.env)).any (·.1)) = false; rw [hp] <;> rfl) (Calls.evalArgs_plain (thn hA fun us s2 ⟨vs, H2, I2, r2, q2⟩ => hm pins s2 σ H2 (.ref p) vs _ us Q I2 (show Value.ref p = Value.ref p from rfl) r2 q2)))⟩
end NH
set_option Elab.async false
set_option linter.all false
set_option maxRecDepth 100000
set_option maxHeartbeats 2000000
/-! NHr: x[::-1] of lists, tuples, texts. -/
namespace NH
open PySem PySem.Spec PyProof.Rows L2 HT
section
variable {prog : Program} {w : World} {A : Around} {E : Value → Shared → Prop} {s : Shared}
theorem applied_rev {sl : Addr} {vs : Value} {n : Nat} {Q : Int × Int × Nat → Shared → Prop} (hs : s.heap.IsSliceOf sl .none .none vs) (ps : IsPart vs (some (-1))) (h : Q ((n : Int) - 1, -1, n) s) : wpAny (model prog w) A (Builtin.Slice.sliceApplied (.ref sl) (pure (n : Int))) Q E s := by
  obtain ⟨os, hos, hcs, hds⟩ := id hs
  unfold Builtin.Slice.sliceApplied Builtin.Slice.sliceFields
  refine wpAny_bind (wpAny_bind (wpAny_field hos hds (x := .none) rfl (wpAny_bind (wpAny_field hos hds (x := .none) rfl (wpAny_bind (wpAny_field hos hds (x := vs) rfl (wpAny_pure ?_)))))))
  refine wpAny_bind (slicePart_ ps ?_)
  show wpAny _ _ (if ((-1 : Int) == 0) = true then _ else _) _ _ s
  rw [if_neg (by decide)]
  refine wpAny_bind (slicePart_ .none (wpAny_bind (slicePart_ .none (wpAny_bind (wpAny_pure ?_)))))
  show wpAny _ _ (pure ((n : Int) - 1, (-1 : Int), Builtin.Slice.slicePlaces ((n : Int) - 1) (-1) (-1))) _ _ s
  have e : Builtin.Slice.slicePlaces ((n : Int) - 1) (-1) (-1) = n := by
    unfold Builtin.Slice.slicePlaces
    rw [if_neg (by decide : ¬ (-1 : Int) > 0)]
    split
    · rw [show ((n : Int) - 1 - -1 - 1) / (- -1) = (n : Int) - 1 by rw [show (- -1 : Int) = 1 by decide, Int.ediv_one]; omega]
      omega
    · omega
  rw [e]
  exact wpAny_pure h
theorem fm_congr {α β : Type} {f g : α → Option β} : ∀ {l : List α}, (∀ x ∈ l, f x = g x) → l.filterMap f = l.filterMap g
  | [], _ => rfl
  | x :: l, h => by
    rw [List.filterMap_cons, List.filterMap_cons, h x List.mem_cons_self, fm_congr fun y hy => h y (List.mem_cons_of_mem _ hy)]
theorem pick_rev (xs : Array Value) : ((List.range xs.size).filterMap fun (k : Nat) => xs[(((xs.size : Nat) : Int) - 1 + (k : Int) * (-1)).toNat]?).toArray = xs.toList.reverse.toArray := by
  have e : ∀ k ∈ List.range xs.size, xs[(((xs.size : Nat) : Int) - 1 + (k : Int) * (-1)).toNat]? = (fun i => xs[i]?) (xs.size - 1 - k) := fun k hk => by
    have := List.mem_range.mp hk
    have : (((xs.size : Nat) : Int) - 1 + (k : Int) * (-1)).toNat = xs.size - 1 - k := by omega
    rw [this]
  rw [fm_congr e]
  have := congrArg (List.filterMap fun i => xs[i]?) (PySem.W.krv_range xs.size)
  rw [List.filterMap_map, List.filterMap_reverse, PySem.W.krv_all] at this
  rw [← this]
  rfl
theorem getItem_tuple_rev {t sl : Addr} {items : Array Value} {vs : Value} {Q : Value → Shared → Prop} (ht : IsTup s.heap t items) (hs : s.heap.IsSliceOf sl .none .none vs) (ps : IsPart vs (some (-1)))
    (h : Q (.ref s.heap.objs.size) { s with heap := s.heap.push { cls := .type "tuple", data := .seq items.toList.reverse.toArray } }) (hsz : items.size ≤ sizeLine) : wpAny (model prog w) A (getItem (.ref t) (.ref sl)) Q E s := by
  have ok : sizeOk (.seq items.toList.reverse.toArray) := by
    show items.toList.reverse.toArray.size ≤ sizeLine
    rw [List.size_toArray, List.length_reverse, Array.length_toList]
    exact hsz
  obtain ⟨os, hos, hcs, hds⟩ := id hs
  have hTs : s.TypeIs (.ref sl) "slice" := ⟨os, hos, hcs⟩
  unfold getItem
  try with_reducible refine wpAny_holding ?_
  first | refine wpAny_bind (wpAny_pure ?_) | skip
  refine wpAny_bind (wpAny_sequenceKey ht.typeIs (by decide) ?_)
  refine wpAny_bind (wpAny_callSpecial?_slot (name := Str.ofString "__getitem__") ht.typeIs PyProof.Rows.slot_tuple_getitem (wpAny_call_entry PyProof.Rows.slot_tuple_getitem ht.typeIs entry_tuple_getitem ?_ (args_tuple_getitem _ _)))
  show wpAny _ _ (Builtin.Tuple.tupleItemsOf (.ref t) >>= _) _ _ s
  refine wpAny_bind (tupleItemsOf_ ht ?_)
  refine wpAny_bind (wpAny_typeOf hTs ?_)
  rw [if_pos (by decide)]
  refine wpAny_bind (applied_rev hs ps ?_)
  show wpAny _ _ (if (((items.size : Int) - 1) == 0 && (-1 : Int) == 1 && items.size == items.size) = true then _ else _) _ _ s
  rw [if_neg (by rw [show ((-1 : Int) == 1) = false by decide, Bool.and_false, Bool.false_and]; exact Bool.false_ne_true), pick_rev]
  first
    | exact wpAny_bind (m := Builtin.Tuple.tupleExact _) (wpAny_newObj_type (wpAny_pure ⟨_, rfl, wpAny_pure h⟩) ok)
    | exact wpAny_bind (wpAny_bind (m := Builtin.Tuple.tupleExact _) (wpAny_newObj_type (wpAny_pure ⟨_, rfl, wpAny_pure h⟩) ok))
    | exact wpAny_bind (m := Builtin.Tuple.tupleExact _) (wpAny_newObj_type (wpAny_bind (wpAny_pure (wpAny_pure ⟨_, rfl, wpAny_pure h⟩))) ok)
end
/-- x[::-1], by what x is -/
def tRevD (g : Ga) (te : TE) : TE := fun σ H Q => te σ H fun x H1 => ∃ H0 Z0 Z d z, Pk g H1 Z x d ∧ Ext H0 Z0 H1 Z ∧ revD d = .ok z ∧ Out g H0 Z0 Q z
theorem made_rev (z : Str) (t tk : Tok) : sliceMade z t none none (some (-1, tk)) = .str ⟨z.cps.toList.reverse.toArray⟩ := by
  have e : slicePicked z none none (some (-1, tk)) = (List.range z.cps.size).reverse := by
    show sliceRange ((z.cps.size : Int) - 1) (-1) (-1) = _
    rw [PySem.W.krv_sliceRange, PySem.W.krv_range]
  unfold sliceMade
  rw [e, List.filterMap_reverse, PySem.W.krv_all]
  rfl
theorem pe_revD {X : Cx} {g : Ga} (hK : X.K = g.K) {e : Expr} {te : TE} {k : Nat} {p1 p2 p3 pos : Pos} (he : PE X e te) : PE X (.Subscript e (.Slice none none (some (.UnaryOp .USub (.Constant (.int 1) k p1) p2)) p3) pos) (tRevD g te) := by
  refine ⟨fun pins s σ H Q I h => ?_⟩
  refine Subscript_ (thn (he.run pins s σ H _ I h) fun v s1 ⟨x, H1, I1, r1, q1⟩ => ?_)
  obtain ⟨H0, Z0, Z, d, z, pk, ex, hz0, q⟩ := q1
  have hst : PO X (some (.UnaryOp .USub (.Constant (.int 1) k p1) p2)) (tPart (tUn (rU fun i => .int (-i)) (tC (.int 1)))) := po_some (pe_un un_neg pe_int)
  refine wpAny_Slice (thn (po_none.run pins s1 σ H1 (fun o H2 => o = none ∧ H2 = H1) I1 ⟨rfl, rfl⟩) fun vl s2 ⟨l, H2, I2, pl, el, e2⟩ => ?_)
  subst el e2
  refine thn (po_none.run pins s2 σ H2 (fun o H3 => o = none ∧ H3 = H2) I2 ⟨rfl, rfl⟩) fun vu s3 ⟨u, H3, I3, pu, eu, e3⟩ => ?_
  subst eu e3
  refine thn (hst.run pins s3 σ H3 (fun o H4 => o = some (-1) ∧ H4 = H3) I3 ⟨1, rfl, -1, rfl, rfl, rfl⟩) fun vs s4 ⟨o, H4, I4, ps, eo, e4⟩ => ?_
  subst eo e4
  cases pl
  cases pu
  have I5 : Inv X pins σ H4 { s4 with heap := s4.heap.push { cls := .type "slice", data := .fields #[.none, .none, vs] } } := I4.kept (t' := s4.toks) fun b ob q => Heap.get?_push_of_some _ q
  unfold revD at hz0
  split at hz0
  · cases hz0
    obtain ⟨a, xs, rfl, hx, rl⟩ := pk.lst
    cases r1
    obtain ⟨its, r, ht, hz⟩ := I5.list (sqL_of_rd hx)
    have hlen := r.length
    refine tail_any (ops := [.ref a, .ref s4.heap.objs.size]) ht.isList.typeIs (PySem.slot_list_getitem.lookup) ?_ (by with_unfolding_all rfl)
    refine wpAny_getItem_list_slice ht.isList (Heap.IsSliceOf.new _ .none .none vs) .none .none ps (by decide) ?_ (by rw [List.size_toArray]; omega)
    rw [PySem.W.krv_pick]
    refine ⟨.ref _, _, I5.laid (t' := s4.toks) (o := .lst xs.reverse) (fun b ob q => Heap.get?_push_of_some _ q) (Nat.le_refl _) ?_, rfl, q.lst ex rl.rev _ (I5.hok.fresh (Nat.le_refl _))⟩
    exact ⟨by rw [List.length_reverse]; exact hz, _, 0, r.reverse, Heap.get?_push_size _ rfl⟩
  · cases hz0
    obtain ⟨a, xs, rfl, hx, rl⟩ := pk.tup
    cases r1
    obtain ⟨its, r, ht, hz⟩ := I5.tuple (.of hx)
    have hlen := r.length
    refine tail_any (ops := [.ref a, .ref s4.heap.objs.size]) ht.typeIs (PyProof.Rows.slot_tuple_getitem.lookup) ?_ (by with_unfolding_all rfl)
    refine getItem_tuple_rev ht (Heap.IsSliceOf.new _ .none .none vs) ps ?_ (by rw [List.size_toArray]; omega)
    refine ⟨.ref _, _, I5.laid (t' := s4.toks) (o := .tup xs.reverse) (fun b ob q => Heap.get?_push_of_some _ q) (Nat.le_refl _) ?_, rfl, q.tup ex rl.rev _ (I5.hok.fresh (Nat.le_refl _))⟩
    exact ⟨by rw [List.length_reverse]; exact hz, _, r.reverse, IsTup.new _ _⟩
  · cases hz0
    obtain ⟨rfl, hl⟩ := pk.str
    obtain ⟨t, rfl⟩ := r1
    cases ps with
    | int _ tk =>
    refine tail_any (ops := [.str _ t, .ref s4.heap.objs.size]) (typeIs_str _ _ _) (PySem.F.slot_str_getitem.lookup) ?_ (by with_unfolding_all rfl)
    refine wpAny_getItem_str_slice (l := none) (u := none) (st := some (-1, tk)) (Heap.IsSliceOf.new _ .none .none (.int (-1) tk)) rfl ?_
    rw [made_rev]
    refine ⟨by show (List.toArray _).size ≤ _; rw [List.size_toArray, List.length_reverse, Array.length_toList]; exact hl, .str _, _, I5.tok _, ⟨_, rfl⟩, q.z ex (.str _ ?_)⟩
    show (List.toArray _).size ≤ _
    rw [List.size_toArray, List.length_reverse, Array.length_toList]
    exact hl
  · cases hz0
end NH
set_option Elab.async false
set_option linter.all false
set_option maxRecDepth 100000
set_option maxHeartbeats 2000000
/-! NHd: expressions: the text and its small form; the small interpreter's answer is the machine's. -/
namespace NH
open PySem PySem.Spec PyProof.Rows L2

/-! ### the text is the small form's -/
def visB (sc : Scope) (x : Str) : Bool := match sc.names.lookup x with
  | some .local => true
  | some .cell => true
  | some .free => true
  | _ => false
def glB (sc : Scope) (x : Str) : Bool := match sc.names.lookup x with
  | some .globalImplicit => true
  | _ => false
def locB (sc : Scope) (x : Str) : Bool := match sc.names.lookup x with
  | some .local => true
  | some .cell => true
  | _ => false
def okN (x : Str) : Bool := !(x == ("__debug__" : Str)) && !(x == ("__classdict__" : Str)) && !(x == ("__name__" : Str))
theorem vis_of {sc : Scope} {x : Str} (h : visB sc x = true) : Vis sc x := by
  unfold visB at h
  split at h
  · exact .inl (by assumption)
  · exact .inr (.inl (by assumption))
  · exact .inr (.inr (by assumption))
  · cases h
theorem loc_of {sc : Scope} {x : Str} (h : locB sc x = true) : Loc sc x := by
  unfold locB at h
  split at h
  · exact .inl (by assumption)
  · exact .inr (by assumption)
  · cases h
theorem gl_of {X : Cx} {x : Str} (h : glB X.env.scope x = true) : Gl X x := by
  unfold glB at h
  split at h
  · show X.env.scope.names.lookup x = _
    assumption
  · cases h
theorem okN_of {x : Str} (h : okN x = true) : (x == ("__debug__" : Str)) = false ∧ (x == ("__classdict__" : Str)) = false ∧ x ≠ ("__name__" : Str) := by
  simp only [okN, Bool.and_eq_true, Bool.not_eq_true'] at h
  exact ⟨h.1.1, h.1.2, by simpa using h.2⟩

def mK : D → Const → Bool
  | .non, .none => true
  | .bl a, .bool b => a == b
  | .int a, .int b => a == b
  | .str a, .str b => a == b && decide (a.length ≤ sizeLine)
  | _, _ => false
def biN : Bi → Str
  | .len => "len" | .abs => "abs" | .max => "max" | .min => "min" | .sum => "sum" | .sorted => "sorted" | .all => "all" | .any => "any" | .tuple => "tuple" | .list => "list" | .int => "int" | .str => "str" | .dict => "dict"
def biF : Bi → Bool
  | .tuple | .list | .int | .str | .dict => false
  | _ => true
def meN : Me → Str
  | .index => "index" | .count => "count" | .join => "join" | .split => "split" | .get => "get" | .replace => "replace" | .items => "items" | .values => "values"
/-- the built-in names that a text may call -/
def btN : List Str := ["len", "abs", "max", "min", "sum", "sorted", "all", "any", "tuple", "list", "int", "str", "dict", "isinstance", "bool", "range", "enumerate", "zip", "set", "reversed"]
def tyN : Ty → Option Str
  | .int => some "int" | .bool => some "bool" | .str => some "str" | .tuple => some "tuple" | .list => some "list" | .dict => some "dict" | .cl _ => none
def isSlc : Expr → Bool
  | .Slice .. => true
  | _ => false
def isTupE : Expr → Bool
  | .Tuple .. => true
  | _ => false

structure Tx where
  gn : List Str
  fn : List Str
  xn : List Str := []
  lw : List (Nat × List (Str × Nat)) := []
section
variable (t : Tx) (N : List Str)
mutual
/-- targets; sc: the scope as it is written -/
def mG : Tg → Scope → Expr → Bool
  | .n i, sc, .Name x _ => decide (N[i]? = some x) && locB sc x
  | .t ts, sc, .Tuple es _ _ => mGs ts sc es
  | _, _, _ => false
def mGs : List Tg → Scope → List Expr → Bool
  | [], _, [] => true
  | g :: gs, sc, e :: es => mG g sc e && mGs gs sc es
  | _, _, _ => false
end
def ownOf (g : Tg) : List (Str × Nat) := g.slots.map fun i => (N.getD i (PySem.Str.ofString ""), i)
mutual
def mE : E → Scope → Expr → Bool
  | .c d, _, .Constant k _ _ => mK d k
  | .var i, sc, .Name x _ => decide (N[i]? = some x) && visB sc x && okN x
  | .gl i, sc, .Name x _ => decide (t.gn[i]? = some x) && glB sc x && okN x
  | .fn i, sc, .Name x _ => decide (t.fn[i]? = some x) && glB sc x && okN x
  | .bin op a b, sc, .BinOp l o r _ => decide (o = opM op) && mE a sc l && mE b sc r
  | .neg a, sc, .UnaryOp .USub x _ => mE a sc x
  | .cmp op a b, sc, .Compare l [o] [r] _ => decide (o = cmM op) && mE a sc l && mE b sc r && !(behindInMarks o r)
  | .chain o1 o2 a b c, sc, .Compare l [p1, p2] [r1, r2] _ => decide (p1 = cmM o1) && decide (p2 = cmM o2) && mE a sc l && mE b sc r1 && mE c sc r2 && !(lastMarks [p1, p2] [r1, r2])
  | .and es, sc, .BoolOp .And xs _ => mEs es sc xs && !es.isEmpty
  | .or es, sc, .BoolOp .Or xs _ => mEs es sc xs && !es.isEmpty
  | .not a, sc, .UnaryOp .Not x _ => mE a sc x
  | .ite c a b, sc, .IfExp u x y _ => mE c sc u && mE a sc x && mE b sc y
  | .tup es, sc, .Tuple xs _ _ => mEs es sc xs
  | .lst es, sc, .List xs _ => mEs es sc xs
  | .d0 _, _, .Dict [] [] _ => true
  | .ix a b, sc, .Subscript x y _ => mE a sc x && mE b sc y && !isSlc y
  | .sl a lo hi, sc, .Subscript x (.Slice l h none _) _ => mE a sc x && (match l with
      | none => (match lo with | .no => true | _ => false)
      | some y => mE lo sc y) && (match h with
      | none => (match hi with | .no => true | _ => false)
      | some y => mE hi sc y)
  | .call f es, sc, .Call (.Name x _) xs [] _ => decide (t.fn[f]? = some x) && glB sc x && okN x && mEs es sc xs
  | .rev a, sc, .Subscript x (.Slice none none (some (.UnaryOp .USub (.Constant (.int 1) _ _) _)) _) _ => mE a sc x
  | .me m o es, sc, .Call (.Attribute y a ap) xs [] cp => decide (a = meN m) && decide (m = .index) && (ap.endLine == cp.line) && mE o sc y && mEs es sc xs && decide (xs.length = 1) && (match y with | .Name .. => true | .ListComp .. => true | .Subscript .. => true | _ => false)
  | .rl1 t a, sc, .Call (.Name f _) [.Call (.Name x _) [y] [] _] [] _ => decide (f = if t then "tuple" else "list") && glB sc f && decide (x = "range") && glB sc x && mE a sc y
  | .rl2 t a b, sc, .Call (.Name f _) [.Call (.Name x _) [y, z] [] _] [] _ => decide (f = if t then "tuple" else "list") && glB sc f && decide (x = "range") && glB sc x && mE a sc y && mE b sc z
  | .never, _, x => (match x with | .Starred .. => false | .Set .. => false | .ListComp .. => false | _ => true)
  | .callv i es, sc, .Call (.Name x _) xs [] _ => decide (N[i]? = some x) && visB sc x && okN x && mEs es sc xs
  | .sset a, sc, .Call (.Name x _) [.Call (.Name y _) [z] [] _] [] _ => decide (x = "sorted") && glB sc x && decide (y = "set") && glB sc y && mE a sc z
  | .ntup a, sc, .Call (.Name x _) [y] [] _ => decide (x = "tuple") && glB sc x && mE a sc y
  | .lset a, sc, .Call (.Name x _) [.Call (.Name y _) [z] [] _] [] _ => decide (x = "len") && glB sc x && decide (y = "set") && glB sc y && mE a sc z
  | .bi f es, sc, .Call (.Name x _) xs [] _ => decide (x = biN f) && glB sc x && mEs es sc xs && !es.isEmpty
  | .isi a ty, sc, .Call (.Name x _) [y, .Name z _] [] _ => decide (x = "isinstance") && glB sc x && mE a sc y && decide (tyN ty = some z) && glB sc z
  | .lc elt tg it ifs, sc, .ListComp e [⟨g, i, fs, 0⟩] scope _ => mI it sc g i && blkC N sc scope (ownOf N tg) && mG N tg scope g && mE elt (relS scope sc) e && mEs ifs (relS scope sc) fs && decide (ifs.length ≤ 1)
  | _, _, _ => false
def mEs : List E → Scope → List Expr → Bool
  | [], _, [] => true
  | e :: es, sc, x :: xs => mE e sc x && mEs es sc xs
  | _, _, _ => false
/-- what is walked -/
def mI : E → Scope → Expr → Expr → Bool
  | .rng1 a, sc, _, .Call (.Name x _) [y] [] _ => decide (x = "range") && glB sc x && mE a sc y
  | .rng2 a b, sc, _, .Call (.Name x _) [y, z] [] _ => decide (x = "range") && glB sc x && mE a sc y && mE b sc z
  | .enum a, sc, g, .Call (.Name x _) [y] [] _ => decide (x = "enumerate") && glB sc x && isTupE g && mE a sc y
  | .zip a b, sc, g, .Call (.Name x _) [y, z] [] _ => decide (x = "zip") && glB sc x && isTupE g && mE a sc y && mE b sc z
  | .rng3 _ _ _, _, _, _ => false
  | .seq a, sc, _, x => mE a sc x
  | _, _, _, _ => false
end
end

/-! ### readings -/
/-- an exception's field -/
def XR (g : Ga) (H : Hp) (c : Nat) (p : List D) (d : Option Addr) : Prop := match p with
  | [] => d = none
  | [x] => ∃ a v, d = some a ∧ H a = some (.xd [(g.fld c, v)]) ∧ Rp g H (fun _ => False) v x
  | _ => False
def Fin {α : Type} (g : Ga) (W : WX) (σ : St) (H : Hp) (Z : Addr → Prop) (r : R α) (K : α → Prop) : Prop := match r with
  | .ok x => K x
  | .exc c p => ∀ H' Z' d, Ext H Z H' Z' → XR g H' c p d → W (.ref (g.ca c)) d σ H'
  | .stk => False
section
variable {g : Ga} {W : WX} {σ : St} {H H1 : Hp} {Z Z1 : Addr → Prop} {α β : Type}
theorem Fin.step {r : R α} {K : α → Prop} (e : Ext H Z H1 Z1) (f : Fin g W σ H Z r K) : Fin g W σ H1 Z1 r K := by
  cases r with
  | ok x => exact f
  | exc c p => exact fun H' Z' d e' x => f H' Z' d (e.trans e') x
  | stk => exact f
theorem Fin.mono {r : R α} {K K' : α → Prop} (f : Fin g W σ H Z r K) (k : ∀ x, K x → K' x) : Fin g W σ H Z r K' := by
  cases r with
  | ok x => exact k _ f
  | exc c p => exact f
  | stk => exact f
/-- no exception comes of it -/
def NoX (r : R α) : Prop := ∀ c p, r ≠ .exc c p
theorem NoX.bind {r : R α} {f : α → R β} (h : NoX r) (k : ∀ x, NoX (f x)) : NoX (r.bind f) := by
  cases r with
  | ok x => exact k x
  | exc c p => exact absurd rfl (h c p)
  | stk => exact fun _ _ e => nomatch e
theorem NoX.ok {x : α} : NoX (.ok x : R α) := fun _ _ e => nomatch e
theorem NoX.stk : NoX (.stk : R α) := fun _ _ e => nomatch e
theorem NoX.of {o : Option α} : NoX (R.of o) := by cases o <;> exact fun _ _ e => nomatch e
theorem Fin.nox {r : R α} {K : α → Prop} (n : NoX r) (f : Fin g W σ H Z r K) : ∃ x, r = .ok x ∧ K x := by
  cases r with
  | ok x => exact ⟨x, rfl, f⟩
  | exc c p => exact absurd rfl (n c p)
  | stk => exact f.elim
theorem Fin.bindN {r : R α} {f : α → R β} {K : β → Prop} (n : NoX r) (h : Fin g W σ H Z (r.bind f) K) : ∃ x, r = .ok x ∧ Fin g W σ H Z (f x) K := by
  cases r with
  | ok x => exact ⟨x, rfl, h⟩
  | exc c p => exact absurd rfl (n c p)
  | stk => exact h.elim
end
theorem bind_okE {α β : Type} {r : R α} {f : α → R β} {y : β} (h : r.bind f = .ok y) : ∃ x, r = .ok x ∧ f x = .ok y := by
  cases r with
  | ok x => exact ⟨x, rfl, h⟩
  | exc _ _ => cases h
  | stk => cases h
theorem binD_nox (op : Op) (a b : D) : NoX (binD op a b) := by
  unfold binD
  split <;> first | exact .ok | exact .stk | (split <;> first | exact .ok | exact .stk | (split <;> first | exact .ok | exact .stk))
theorem lstD_nox (a : D) : NoX (lstD a) := by unfold lstD; split <;> first | exact .ok | exact .stk
theorem negD_nox (a : D) : NoX (negD a) := by unfold negD; split <;> first | exact .ok | exact .stk
theorem truD_nox (a : D) : NoX (truD a) := by unfold truD; split <;> first | exact .ok | exact .stk
theorem eqD_nox (a b : D) : NoX (eqD a b) := by unfold eqD; split <;> first | exact .ok | (split <;> first | exact .ok | exact .stk)
theorem memL_nox (a : D) (b : List D) : NoX (memL a b) := by unfold memL; split <;> first | exact .ok | exact .stk
theorem memD_nox (a b : D) : NoX (memD a b) := by
  unfold memD
  split <;> first | exact memL_nox _ _ | exact .ok | exact .stk | (split <;> first | exact .ok | exact .stk)
theorem cmpD_nox (op : Cm) (a b : D) : NoX (cmpD op a b) := by
  unfold cmpD
  split <;> first | exact eqD_nox _ _ | exact memD_nox _ _ | exact .ok | exact .stk | exact (eqD_nox _ _).bind fun _ => .ok | exact (memD_nox _ _).bind fun _ => .ok
theorem ixD_nox (a b : D) : NoX (ixD a b) := by
  unfold ixD
  split <;> first | exact .of | exact .stk | (split <;> first | exact .of | exact .stk)
theorem slD_nox (a : D) (l h : Option Int) : NoX (slD a l h) := by unfold slD; split <;> first | exact .ok | exact .stk
theorem partD_nox (a : D) : NoX (partD a) := by unfold partD; split <;> first | exact .ok | exact .stk
theorem seqD_nox (a : D) : NoX (seqD a) := by unfold seqD; split <;> first | exact .ok | exact .stk
theorem keep_nox (a : EV) : NoX a.keep := by unfold EV.keep; split <;> first | exact .ok | exact .stk
theorem revD_nox (a : D) : NoX (revD a) := by unfold revD; split <;> first | exact .ok | exact .stk
theorem meT_nox (m : Me) (a : D) : NoX (meT m a) := by unfold meT; split <;> first | exact .ok | exact .stk
theorem meD_nox (m : Me) (a : D) (b : List D) : NoX (meD m a b) := by
  unfold meD
  split <;> first | exact .stk | exact NoX.of.bind fun _ => NoX.of.bind fun _ => .ok
theorem lenD_nox (a : D) : NoX (lenD a) := by unfold lenD; split <;> first | exact .ok | exact .stk
theorem biD_nox (f : Bi) (a : List D) : NoX (biD f a) := by
  unfold biD
  split <;> first | exact .ok | exact .stk | exact NoX.of.bind fun _ => .ok | exact (lenD_nox _).bind fun _ => .ok
theorem isiD_nox (a : D) (t : Ty) : NoX (isiD a t) := by
  unfold isiD
  split <;> first | exact .stk | (split <;> first | exact .ok | exact .stk)

section
variable (g : Ga) (gl : List D) (cf : Nat → List D → R EV) (W : WX) (B : Hp) (Z0 : Addr → Prop)
def TEx (e : E) : TE := fun σ H Q => ∃ env Z, SR g B Z0 env Z σ H ∧ Fin g W σ H Z (ev gl cf e env) (Out g H Z Q)
def TTx (e : E) : TT := fun σ H Q => ∃ env Z, SR g B Z0 env Z σ H ∧ Fin g W σ H Z ((ev gl cf e env).bind fun x => truD x.d) (OutB H Z Q)
/-- the items of a display: kept -/
def TAx (es : List E) : TA := fun σ H Q => ∃ env Z, SR g B Z0 env Z σ H ∧ Fin g W σ H Z (evs gl cf es env) (fun ds => ∀ vs H' Z', Ext H Z H' Z' → RpL g H' Z' vs ds → Q vs H')
/-- the new ones among them are unlike -/
def oads : List V → List EV → List Addr
  | .ref a :: vs, .o _ :: xs => a :: oads vs xs
  | _ :: vs, _ :: xs => oads vs xs
  | _, _ => []
def AR (g : Ga) (H0 H : Hp) (Z : Addr → Prop) : List V → List EV → Prop
  | [], [] => True
  | v :: vs, x :: xs => EVr g H0 H Z v x ∧ AR g H0 H Z vs xs
  | _, _ => False
/-- arguments as they come -/
def TLx (es : List E) : TA := fun σ H Q => ∃ env Z, SR g B Z0 env Z σ H ∧ Fin g W σ H Z (evA gl cf es env) (fun xs => ∀ vs H' Z', Ext H Z H' Z' → AR g H H' Z' vs xs → (oads vs xs).Nodup → Q vs H')
end
section
variable {g : Ga} {gl : List D} {cf : Nat → List D → R EV} {W : WX} {B : Hp} {Z0 : Addr → Prop} {σ : St} {H : Hp} {Z : Addr → Prop} {env : En} {α : Type}
theorem te_bindE {e : E} (sr : SR g B Z0 env Z σ H) {F : EV → R α} {K : α → Prop} {P : VK} (f : Fin g W σ H Z ((ev gl cf e env).bind F) K)
    (k : ∀ x v H1 Z1, ev gl cf e env = .ok x → Ext H Z H1 Z1 → EVr g H H1 Z1 v x → Fin g W σ H Z (F x) K → P v H1) : TEx g gl cf W B Z0 e σ H P := by
  refine ⟨env, Z, sr, ?_⟩
  cases h : ev gl cf e env with
  | ok x => rw [h] at f; exact fun v H1 Z1 e r => k x v H1 Z1 h e r f
  | exc c p => rw [h] at f; exact f
  | stk => rw [h] at f; exact f
theorem te_bind {e : E} (sr : SR g B Z0 env Z σ H) {F : EV → R α} {K : α → Prop} {P : VK} (f : Fin g W σ H Z ((ev gl cf e env).bind F) K)
    (k : ∀ x v H1 Z1, Ext H Z H1 Z1 → EVr g H H1 Z1 v x → Fin g W σ H Z (F x) K → P v H1) : TEx g gl cf W B Z0 e σ H P := te_bindE sr f fun x v H1 Z1 _ => k x v H1 Z1
theorem tt_bind {e : E} (sr : SR g B Z0 env Z σ H) {F : Bool → R α} {K : α → Prop} {P : Bool → Hp → Prop} (f : Fin g W σ H Z ((ev gl cf e env).bind fun x => (truD x.d).bind F) K)
    (k : ∀ b H1 Z1, Ext H Z H1 Z1 → Fin g W σ H Z (F b) K → P b H1) : TTx g gl cf W B Z0 e σ H P := by
  refine ⟨env, Z, sr, ?_⟩
  cases h : ev gl cf e env with
  | ok x =>
    rw [h] at f
    simp only [R.bind_ok] at f ⊢
    obtain ⟨b, hb, f⟩ := f.bindN (truD_nox _)
    rw [hb]
    exact fun H1 Z1 e => k b H1 Z1 e f
  | exc c p => rw [h] at f; exact f
  | stk => rw [h] at f; exact f
theorem ta_bind {es : List E} (sr : SR g B Z0 env Z σ H) {F : List D → R α} {K : α → Prop} {P : List V → Hp → Prop} (f : Fin g W σ H Z ((evs gl cf es env).bind F) K)
    (k : ∀ ds vs H1 Z1, Ext H Z H1 Z1 → RpL g H1 Z1 vs ds → Fin g W σ H Z (F ds) K → P vs H1) : TAx g gl cf W B Z0 es σ H P := by
  refine ⟨env, Z, sr, ?_⟩
  cases h : evs gl cf es env with
  | ok x => rw [h] at f; exact fun v H1 Z1 e r => k x v H1 Z1 e r f
  | exc c p => rw [h] at f; exact f
  | stk => rw [h] at f; exact f
theorem tl_bind {es : List E} (sr : SR g B Z0 env Z σ H) {F : List EV → R α} {K : α → Prop} {P : List V → Hp → Prop} (f : Fin g W σ H Z ((evA gl cf es env).bind F) K)
    (k : ∀ xs vs H1 Z1, Ext H Z H1 Z1 → AR g H H1 Z1 vs xs → (oads vs xs).Nodup → Fin g W σ H Z (F xs) K → P vs H1) : TLx g gl cf W B Z0 es σ H P := by
  refine ⟨env, Z, sr, ?_⟩
  cases h : evA gl cf es env with
  | ok x => rw [h] at f; exact fun v H1 Z1 e r n => k x v H1 Z1 e r n f
  | exc c p => rw [h] at f; exact f
  | stk => rw [h] at f; exact f
end
theorem PE.imp {X : Cx} {e : Expr} {t t' : TE} (h : PE X e t) (k : ∀ σ H Q, t' σ H Q → t σ H Q) : PE X e t' := ⟨fun pins s σ H Q I q => h.run pins s σ H Q I (k σ H Q q)⟩
theorem PT.imp {X : Cx} {e : Expr} {t t' : TT} (h : PT X e t) (k : ∀ σ H Q, t' σ H Q → t σ H Q) : PT X e t' := ⟨fun pins s σ H Q I q => h.run pins s σ H Q I (k σ H Q q)⟩
theorem PW.imp {X : Cx} {e : Expr} {t t' : TT} (h : PW X e t) (k : ∀ σ H Q, t' σ H Q → t σ H Q) : PW X e t' := ⟨fun w pins s σ H Q I q => h.run w pins s σ H Q I (k σ H Q q)⟩
theorem PA.imp {X : Cx} {e : List Expr} {t t' : TA} (h : PA X e t) (k : ∀ σ H Q, t' σ H Q → t σ H Q) : PA X e t' := ⟨fun pos pins s σ H Q I q => h.run pos pins s σ H Q I (k σ H Q q)⟩
theorem PS.imp {X : Cx} {e : Stmt} {t t' : TS} (h : PS X e t) (k : ∀ D σ H, t' D σ H → t D σ H) : PS X e t' := ⟨fun pins s σ H D I q => h.run pins s σ H D I (k D σ H q)⟩
theorem PSs.imp {X : Cx} {e : List Stmt} {t t' : TS} (h : PSs X e t) (k : ∀ D σ H, t' D σ H → t D σ H) : PSs X e t' := ⟨fun pins s σ H D I q => h.run pins s σ H D I (k D σ H q)⟩

/-! ### the context -/
/-- what a def promises: the small interpreter's answer -/
def spF (g : Ga) (cf : Nat → List D → R EV) (np f : Nat) : Sp := fun vs H Q E => vs.length = np ∧ ∃ ds Z, (∀ a, Z a → H a ≠ none) ∧ RpL g H Z vs ds ∧ match cf f ds with
  | .ok x => ∀ v H' Z', Ext H Z H' Z' → EVr g H H' Z' v x → Q v H'
  | .exc c p => ∀ H' Z' d, Ext H Z H' Z' → XR g H' c p d → E (.ref (g.ca c)) d H'
  | .stk => False
/-- what an exception class must say -/
structure XcOk (K : PySem.W.Frag) (mg : Str → Option Value) (g : Ga) (t : Tx) (i : Nat) (x : Str) : Prop where
  mgf : mg x = some (.ref (g.ca i))
  kp : PySem.W.keepIn K (.ref (g.ca i)) = true
  q : PySem.W.excIn K (g.ca i) [.type "ValueError", .type "Exception", .type "BaseException", .type "object"] "ValueError.__new__" = true
  sb : PySem.W.subIn K (.ref (g.ca i)) (.type "BaseException") = some true
  ty : PySem.W.typeIn K (.ref (g.ca i)) = some (.type "type")
  ec : ExcC K (g.ca i)
  rel : ∀ (j : Nat) y, t.xn[j]? = some y → PySem.W.exmOne K (.ref (g.ca i)) (.ref (g.ca j)) = some (subx i j) ∧ PySem.W.kitOne K (.ref (g.ca i)) (.ref (g.ca j)) = some (subx i j)
/-- f(e, name): by names -/
def mL (t : Tx) (sc : Scope) : List (Str × Nat) → List Stmt → Bool
  | (s, C) :: r, .If (.Compare (.Name x _) [.Eq] [.Constant (.str s') _ _] _) [.Return (some (.Call (.Name i _) [.Name e _, .Name cn _] [] _)) _] [] _ :: rest =>
    decide (x = "name") && decide (s' = s) && decide (s.length ≤ sizeLine) && decide (i = "isinstance") && glB sc "isinstance" && decide (e = "e") && decide (t.xn[C]? = some cn) && glB sc cn && okN cn && visB sc "name" && visB sc "e" && mL t sc r rest
  | [], [.Return (some (.Constant (.bool false) _ _)) _] => true
  | _, _ => false
structure LwOk (K : PySem.W.Frag) (mg : Str → Option Value) (t : Tx) (f : Addr) (y : Str) (ps : List (Str × Nat)) : Prop where
  ex : ∃ (st : Stmt) (fd : FuncData), Fun K y y st f fd ∧ Binds K fd ["e", "name"] [] ∧ FnScope ["e", "name"] ["e", "name"] (defScope st) ∧ mL t (defScope st) ps (defBody st) = true
  mgf : mg y = some (.ref f)
structure Ct (g : Ga) (gl : List D) (t : Tx) (T : List Df) (cf : Nat → List D → R EV) (n : Nat) (W : WX) (X : Cx) : Prop where
  K : X.K = g.K
  calm : X.calm = true
  nd : X.N.Nodup
  tk : L2N.Takes X W
  room : Room n X.A
  n1 : 1 ≤ n
  tfn : t.fn = T.map (·.gn)
  fns : ∀ (f : Nat) d, T[f]? = some d → X.mg d.gn = some (.ref (g.fa f)) ∧ PySem.W.keepIn X.K (.ref (g.fa f)) = true ∧ ∃ fd, Binds X.K fd (d.N.take d.np) [] ∧ FnOk X.prog X.w X.K X.mg X.base (L2N.CX X.prog X.w) n (g.fa f) fd (d.N.take d.np) (spF g cf d.np f)
  cfl : ∀ (f : Nat) d ds, T[f]? = some d → ds.length ≠ d.np → cf f ds = .stk
  nfT : g.nf = T.length
  xcs : ∀ (i : Nat) x, t.xn[i]? = some x → XcOk X.K X.mg g t i x
  lws : ∀ (f : Nat) ps, t.lw.lookup f = some ps → ∃ y, t.fn[f]? = some y ∧ LwOk X.K X.mg t (g.fa f) y ps
  bts : ∀ x ∈ btN, X.mg x = none
  gls : ∀ (i : Nat) x, t.gn[i]? = some x → ∃ v u d, gl[i]? = some d ∧ X.mg x = some u ∧ RelV v u ∧ ∀ H Z, Rp g H Z v d
theorem Ct.hu {g : Ga} {gl : List D} {t : Tx} {T : List Df} {cf : Nat → List D → R EV} {n : Nat} {W : WX} {X : Cx} (c : Ct g gl t T cf n W X) : X.A.units + 65 < cLine := by
  have := c.room.un
  omega
/-- a comprehension's block -/
theorem Ct.blk {g : Ga} {gl : List D} {t : Tx} {T : List Df} {cf : Nat → List D → R EV} {n : Nat} {W : WX} {X : Cx} (c : Ct g gl t T cf n W X) (s : Shared) (H : Hp) (scope : Scope) (cenv : Env) (fp : List Addr) :
    Ct g gl t T cf n (fun _ _ _ _ => False) (X.blk s H scope cenv fp) :=
  ⟨c.K, c.calm, c.nd, fun _ _ x => by
    obtain ⟨_, _, _, _, _, _, _, _, _, _, _, _, _, _, _, _, z⟩ := x
    exact z.elim, c.room, c.n1, c.tfn, c.fns, c.cfl, c.nfT, c.xcs, c.lws, c.bts, c.gls⟩
end NH
set_option Elab.async false
set_option linter.all false
set_option maxRecDepth 100000
set_option maxHeartbeats 2000000
/-! NHe: the expressions' rules. -/
namespace NH
open PySem PySem.Spec PyProof.Rows L2

section
variable {g : Ga} {gl : List D} {t : Tx} {T : List Df} {cf : Nat → List D → R EV} {n : Nat} {W : WX} {X : Cx} {B : Hp} {Z0 : Addr → Prop} {pos : Pos}
variable (c : Ct g gl t T cf n W X)
include c
theorem se_c {d : D} {k : Const} {j : Nat} (h : mK d k = true) : PE X (.Constant k j pos) (TEx g gl cf W B Z0 (.c d)) := by
  unfold mK at h
  split at h
  · exact PE.imp pe_non fun σ H Q ⟨env, Z, sr, f⟩ => f _ _ _ sr.refl .non
  · rw [beq_iff_eq.mp h]
    exact PE.imp pe_bl fun σ H Q ⟨env, Z, sr, f⟩ => f _ _ _ sr.refl (.bl _)
  · rw [beq_iff_eq.mp h]
    exact PE.imp pe_int fun σ H Q ⟨env, Z, sr, f⟩ => f _ _ _ sr.refl (.int _)
  · simp only [Bool.and_eq_true, decide_eq_true_eq] at h
    rw [beq_iff_eq.mp h.1]
    exact PE.imp pe_str fun σ H Q ⟨env, Z, sr, f⟩ => f _ _ _ sr.refl (.str _ (by rw [← beq_iff_eq.mp h.1]; exact h.2))
  · cases h
theorem se_var {i : Nat} {x : Str} (h : (decide (X.N[i]? = some x) && visB X.env.scope x && okN x) = true) : PE X (.Name x pos) (TEx g gl cf W B Z0 (.var i)) := by
  simp only [Bool.and_eq_true, decide_eq_true_eq] at h
  obtain ⟨⟨h1, h2⟩, h3⟩ := h
  obtain ⟨k1, k2, k3⟩ := okN_of h3
  refine PE.imp (pe_var h1 (vis_of h2) k1 k2) fun σ H Q ⟨env, Z, sr, f⟩ => ?_
  have f : Fin g W σ H Z (gets env i) (Out g H Z Q) := f
  unfold gets at f
  split at f
  · rename_i d hd
    obtain ⟨v, e, r⟩ := sr.sl i _ hd
    exact ⟨v, e, f v H Z sr.refl r⟩
  · rename_i d hd
    obtain ⟨v, e, a, q, nz, tp⟩ := sr.sl i _ hd
    exact ⟨v, e, f v H Z sr.refl ⟨a, q, tp⟩⟩
  · exact f.elim
theorem se_gl {i : Nat} {x : Str} (h : (decide (t.gn[i]? = some x) && glB X.env.scope x && okN x) = true) : PE X (.Name x pos) (TEx g gl cf W B Z0 (.gl i)) := by
  simp only [Bool.and_eq_true, decide_eq_true_eq] at h
  obtain ⟨⟨h1, h2⟩, h3⟩ := h
  obtain ⟨k1, k2, k3⟩ := okN_of h3
  obtain ⟨v, u, d, e1, e2, e3, e4⟩ := c.gls i x h1
  refine PE.imp (pe_glob (gl_of h2) e2 e3 k1) fun σ H Q ⟨env, Z, sr, f⟩ => ?_
  have f : Fin g W σ H Z ((R.of gl[i]?).bind fun d => .ok (.z d)) (Out g H Z Q) := f
  rw [e1] at f
  exact f v H Z sr.refl (e4 H Z)
theorem se_fn {i : Nat} {x : Str} (h : (decide (t.fn[i]? = some x) && glB X.env.scope x && okN x) = true) : PE X (.Name x pos) (TEx g gl cf W B Z0 (.fn i)) := by
  simp only [Bool.and_eq_true, decide_eq_true_eq] at h
  obtain ⟨⟨h1, h2⟩, h3⟩ := h
  obtain ⟨k1, k2, k3⟩ := okN_of h3
  rw [c.tfn, List.getElem?_map] at h1
  obtain ⟨d, hd, rfl⟩ := Option.map_eq_some_iff.mp h1
  obtain ⟨m, _⟩ := c.fns i d hd
  refine PE.imp (pe_glob (v := .ref (g.fa i)) (gl_of h2) m rfl k1) fun σ H Q ⟨env, Z, sr, f⟩ => ?_
  exact f _ H Z sr.refl (.fn i (by rw [c.nfT]; exact (List.getElem?_eq_some_iff.mp hd).1))
section
variable {a b e : E} {x y z : Expr}
theorem se_bin {op : Op} (ha : PE X x (TEx g gl cf W B Z0 a)) (hb : PE X y (TEx g gl cf W B Z0 b)) : PE X (.BinOp x (opM op) y pos) (TEx g gl cf W B Z0 (.bin op a b)) := by
  refine PE.imp (pe_op (op_bin c.K op) ha hb) fun σ H Q ⟨env, Z, sr, f⟩ => ?_
  refine te_bind sr f fun x v H1 Z1 e1 r1 f1 => te_bind (sr.ext e1) (f1.step e1) fun y w H2 Z2 e2 r2 f2 => ?_
  obtain ⟨z, hz, q⟩ := f2.nox (binD_nox _ _ _)
  exact ⟨H, Z, Z2, x.d, y.d, z, r1.pk.ext e2, r2.pk, e1.trans e2, hz, q⟩
theorem se_neg (ha : PE X x (TEx g gl cf W B Z0 a)) : PE X (.UnaryOp .USub x pos) (TEx g gl cf W B Z0 (.neg a)) := by
  refine PE.imp (pe_un (op_negD (g := g)) ha) fun σ H Q ⟨env, Z, sr, f⟩ => ?_
  refine te_bind sr f fun x v H1 Z1 e1 r1 f1 => ?_
  obtain ⟨z, hz, q⟩ := f1.bindN (negD_nox _)
  exact ⟨Z1, x.d, z, r1.pk, hz, fun v rv => q.z e1 rv⟩
theorem se_cmp {op : Cm} (ha : PE X x (TEx g gl cf W B Z0 a)) (hb : PE X y (TEx g gl cf W B Z0 b)) (hm : behindInMarks (cmM op) y = false) : PE X (.Compare x [cmM op] [y] pos) (TEx g gl cf W B Z0 (.cmp op a b)) := by
  refine PE.imp (pe_cmpR (op_cmpD c.hu c.K op) ha hb hm) fun σ H Q ⟨env, Z, sr, f⟩ => ?_
  refine te_bind sr f fun x v H1 Z1 e1 r1 f1 => te_bind (sr.ext e1) (f1.step e1) fun y w H2 Z2 e2 r2 f2 => ?_
  obtain ⟨z, hz, q⟩ := f2.bindN (cmpD_nox _ _ _)
  exact ⟨Z2, x.d, y.d, z, r1.pk.ext e2, r2.pk, hz, q.z (e1.trans e2) (.bl _)⟩
theorem st_cmp {op : Cm} (ha : PE X x (TEx g gl cf W B Z0 a)) (hb : PE X y (TEx g gl cf W B Z0 b)) (hm : behindInMarks (cmM op) y = false) : PT X (.Compare x [cmM op] [y] pos) (TTx g gl cf W B Z0 (.cmp op a b)) := by
  refine PT.imp (pt_cmpR (op_cmpD c.hu c.K op) ha hb hm) fun σ H Q ⟨env, Z, sr, f⟩ => ?_
  simp only [ev, R.bind_assoc, R.bind_ok, EV.d, truD] at f
  refine te_bind sr f fun x v H1 Z1 e1 r1 f1 => te_bind (sr.ext e1) (f1.step e1) fun y w H2 Z2 e2 r2 f2 => ?_
  obtain ⟨z, hz, q⟩ := f2.bindN (cmpD_nox _ _ _)
  exact ⟨Z2, x.d, y.d, z, r1.pk.ext e2, r2.pk, hz, z, rfl, q H2 Z2 (e1.trans e2)⟩
theorem se_not (ha : PT X x (TTx g gl cf W B Z0 a)) (hp : PE X x (TEx g gl cf W B Z0 a)) : PE X (.UnaryOp .Not x pos) (TEx g gl cf W B Z0 (.not a)) := by
  refine ⟨fun pins s σ H Q I h => ?_⟩
  obtain ⟨env, Z, sr, f⟩ := h
  have q : TEx g gl cf W B Z0 a σ H fun v H1 => ∃ Z d b, Pk g H1 Z v d ∧ truD d = .ok b ∧ Q (.bl (!b)) H1 := te_bind sr f fun x v H1 Z1 e1 r1 f1 => by
    obtain ⟨b, hb, q⟩ := f1.bindN (truD_nox _)
    exact ⟨Z1, x.d, b, r1.pk, hb, q.z e1 (.bl _)⟩
  refine UnaryOp_ (thn (hp.run pins s σ H _ I q) fun v s1 ⟨x, H1, I1, r1, Z, d, b, p, hb, q1⟩ => ?_)
  exact not_of (thn (tru_okD c.K pins s1 σ H1 x v (fun b H2 => Q (.bl (!b)) H2) I1 r1 ⟨Z, d, b, p, hb, q1⟩) fun k s2 ⟨H2, I2, q2⟩ => ⟨.bl (!k), H2, I2, rfl, q2⟩)
/-- a test by the value's truth -/
theorem st_any (ha : PE X x (TEx g gl cf W B Z0 a)) (he : ∀ whole, isTrue x X.env whole = (do let v ← whole; standAt x.pos; holding [v] (truthy v))) : PT X x (TTx g gl cf W B Z0 a) := by
  refine ⟨fun pins s σ H Q I h => ?_⟩
  obtain ⟨env, Z, sr, f⟩ := h
  have q : TEx g gl cf W B Z0 a σ H fun v H1 => ∃ Z d b, Pk g H1 Z v d ∧ truD d = .ok b ∧ Q b H1 := te_bind sr f fun x v H1 Z1 e1 r1 f1 => by
    obtain ⟨b, hb, q⟩ := f1.nox (truD_nox _)
    exact ⟨Z1, x.d, b, r1.pk, hb, q H1 Z1 e1⟩
  exact isTrue_plain (thn (ha.run pins s σ H _ I q) fun v s1 ⟨x, H1, I1, r1, q1⟩ => tru_okD c.K pins s1 σ H1 x v Q I1 r1 q1) (he _)
theorem st_not (ha : PT X x (TTx g gl cf W B Z0 a)) : PT X (.UnaryOp .Not x pos) (TTx g gl cf W B Z0 (.not a)) := by
  refine PT.imp (pt_not ha) fun σ H Q ⟨env, Z, sr, f⟩ => ?_
  simp only [ev, R.bind_assoc, R.bind_ok, EV.d, truD] at f
  exact tt_bind sr f fun b H1 Z1 e1 f1 => f1 H1 Z1 e1
theorem se_ite {p : Expr} (hc : PT X p (TTx g gl cf W B Z0 e)) (ha : PE X x (TEx g gl cf W B Z0 a)) (hb : PE X y (TEx g gl cf W B Z0 b)) : PE X (.IfExp p x y pos) (TEx g gl cf W B Z0 (.ite e a b)) := by
  refine PE.imp (pe_ifExp hc ha hb) fun σ H Q ⟨env, Z, sr, f⟩ => ?_
  refine tt_bind sr f fun k H1 Z1 e1 f1 => ?_
  cases k with
  | true =>
    rw [if_pos rfl] at f1 ⊢
    exact ⟨env, Z1, sr.ext e1, (f1.step e1).mono fun x q v H2 Z2 e2 r2 => q v H2 Z2 (e1.trans e2) (r2.weak e1)⟩
  | false =>
    rw [if_neg Bool.false_ne_true] at f1 ⊢
    exact ⟨env, Z1, sr.ext e1, (f1.step e1).mono fun x q v H2 Z2 e2 r2 => q v H2 Z2 (e1.trans e2) (r2.weak e1)⟩
theorem se_chain {o1 o2 : Cm} {d : E} (ha : PE X x (TEx g gl cf W B Z0 a)) (hb : PE X y (TEx g gl cf W B Z0 b)) (hd : PE X z (TEx g gl cf W B Z0 d)) (hm : lastMarks [cmM o1, cmM o2] [y, z] = false) :
    PE X (.Compare x [cmM o1, cmM o2] [y, z] pos) (TEx g gl cf W B Z0 (.chain o1 o2 a b d)) := by
  refine PE.imp (pe_chain (op_cmpD c.hu c.K o1) (op_cmpD c.hu c.K o2) ha hb hd hm) fun σ H Q ⟨env, Z, sr, f⟩ => ?_
  refine te_bind sr f fun x v H1 Z1 e1 r1 f1 => te_bind (sr.ext e1) (f1.step e1) fun y w H2 Z2 e2 r2 f2 => ?_
  obtain ⟨k, hk, q⟩ := f2.bindN (cmpD_nox _ _ _)
  refine ⟨Z2, x.d, y.d, k, r1.pk.ext e2, r2.pk, hk, k, rfl, ?_⟩
  cases k with
  | true =>
    rw [if_pos rfl] at q ⊢
    refine te_bind ((sr.ext e1).ext e2) (q.step e2) fun z u H3 Z3 e3 r3 f3 => ?_
    obtain ⟨k2, hk2, q2⟩ := f3.bindN (cmpD_nox _ _ _)
    exact ⟨Z3, y.d, z.d, k2, r2.pk.ext e3, r3.pk, hk2, q2.z ((e1.trans e2).trans e3) (.bl _)⟩
  | false =>
    rw [if_neg Bool.false_ne_true] at q ⊢
    exact Out.z (d := .bl false) q (e1.trans e2) (.bl _)
theorem st_chain {o1 o2 : Cm} {d : E} (ha : PE X x (TEx g gl cf W B Z0 a)) (hb : PE X y (TEx g gl cf W B Z0 b)) (hd : PE X z (TEx g gl cf W B Z0 d)) (hm : lastMarks [cmM o1, cmM o2] [y, z] = false) :
    PT X (.Compare x [cmM o1, cmM o2] [y, z] pos) (TTx g gl cf W B Z0 (.chain o1 o2 a b d)) := by
  refine PT.imp (pt_chain (op_cmpD c.hu c.K o1) (op_cmpD c.hu c.K o2) ha hb hd hm) fun σ H Q ⟨env, Z, sr, f⟩ => ?_
  simp only [ev, R.bind_assoc, R.bind_ok, EV.d, truD] at f
  refine te_bind sr f fun x v H1 Z1 e1 r1 f1 => te_bind (sr.ext e1) (f1.step e1) fun y w H2 Z2 e2 r2 f2 => ?_
  obtain ⟨k, hk, q⟩ := f2.bindN (cmpD_nox _ _ _)
  refine ⟨Z2, x.d, y.d, k, r1.pk.ext e2, r2.pk, hk, k, rfl, ?_⟩
  cases k with
  | true =>
    rw [if_pos rfl] at q ⊢
    simp only [R.bind_assoc, R.bind_ok] at q
    refine te_bind ((sr.ext e1).ext e2) (q.step e2) fun z u H3 Z3 e3 r3 f3 => ?_
    obtain ⟨k2, hk2, q2⟩ := f3.bindN (cmpD_nox _ _ _)
    exact ⟨Z3, y.d, z.d, k2, r2.pk.ext e3, r3.pk, hk2, k2, rfl, q2 _ _ ((e1.trans e2).trans e3)⟩
  | false =>
    rw [if_neg Bool.false_ne_true] at q ⊢
    exact ⟨false, rfl, q _ _ (e1.trans e2)⟩

/-! and, or -/
theorem ev_and1 {e : E} {env : En} : evAnd gl cf [e] env = ev gl cf e env := by
  show ((ev gl cf e env).bind fun x => .ok x) = _
  exact R.bind_pure _
theorem ev_or1 {e : E} {env : En} : evOr gl cf [e] env = ev gl cf e env := by
  show ((ev gl cf e env).bind fun x => .ok x) = _
  exact R.bind_pure _
theorem ev_and2 {e e2 : E} {es : List E} {env : En} : evAnd gl cf (e :: e2 :: es) env = (ev gl cf e env).bind fun x => (truD x.d).bind fun r => if r then evAnd gl cf (e2 :: es) env else .ok x := rfl
theorem ev_or2 {e e2 : E} {es : List E} {env : En} : evOr gl cf (e :: e2 :: es) env = (ev gl cf e env).bind fun x => (truD x.d).bind fun r => if r then .ok x else evOr gl cf (e2 :: es) env := rfl
theorem se_and : ∀ {es : List E} {xs : List Expr}, es ≠ [] → Paired (fun e x => PE X x (TEx g gl cf W B Z0 e)) es xs → PE X (.BoolOp .And xs pos) (fun σ H Q => ∃ env Z, SR g B Z0 env Z σ H ∧ Fin g W σ H Z (evAnd gl cf es env) (Out g H Z Q))
  | [], _, h, _ => absurd rfl h
  | [e], _, _, .cons h .nil => PE.imp (pe_one h) fun σ H Q ⟨env, Z, sr, f⟩ => ⟨env, Z, sr, by rw [ev_and1 c] at f; exact f⟩
  | e :: e2 :: es, _, _, .cons h (.cons h2 hs) => by
    have ih := se_and (es := e2 :: es) (by simp) (.cons h2 hs)
    refine ⟨fun pins s σ H Q I hq => ?_⟩
    obtain ⟨env, Z, sr, f⟩ := hq
    rw [ev_and2 c] at f
    have q : TEx g gl cf W B Z0 e σ H fun v H1 => ∃ Z1 x, Ext H Z H1 Z1 ∧ EVr g H H1 Z1 v x ∧ Fin g W σ H Z ((truD x.d).bind fun r => if r then evAnd gl cf (e2 :: es) env else .ok x) (Out g H Z Q) := te_bind sr f fun x v H1 Z1 e1 r1 f1 => ⟨Z1, x, e1, r1, f1⟩
    refine BoolOp_and (thn (h.run pins s σ H _ I q) fun v s1 ⟨w, H1, I1, rw', Z1, x, e1, r1, f1⟩ => ?_)
    obtain ⟨b, hb, f1⟩ := f1.bindN (truD_nox _)
    refine thn (tru_okD c.K pins s1 σ H1 w v (fun k H2 => k = b ∧ H2 = H1) I1 rw' ⟨Z1, x.d, b, r1.pk, hb, rfl, rfl⟩) fun k s2 ⟨H2, I2, ek, eH⟩ => ?_
    subst ek
    subst eH
    cases k with
    | true =>
      rw [if_pos rfl] at f1 ⊢
      exact ih.run pins s2 σ H2 Q I2 ⟨env, Z1, sr.ext e1, (f1.step e1).mono fun x q => q.back e1⟩
    | false =>
      rw [if_neg Bool.false_ne_true] at f1 ⊢
      exact ⟨w, H2, I2, rw', f1 _ _ _ e1 r1⟩
theorem se_or : ∀ {es : List E} {xs : List Expr}, es ≠ [] → Paired (fun e x => PE X x (TEx g gl cf W B Z0 e)) es xs → PE X (.BoolOp .Or xs pos) (fun σ H Q => ∃ env Z, SR g B Z0 env Z σ H ∧ Fin g W σ H Z (evOr gl cf es env) (Out g H Z Q))
  | [], _, h, _ => absurd rfl h
  | [e], _, _, .cons h .nil => PE.imp (pe_one h) fun σ H Q ⟨env, Z, sr, f⟩ => ⟨env, Z, sr, by rw [ev_or1 c] at f; exact f⟩
  | e :: e2 :: es, _, _, .cons h (.cons h2 hs) => by
    have ih := se_or (es := e2 :: es) (by simp) (.cons h2 hs)
    refine ⟨fun pins s σ H Q I hq => ?_⟩
    obtain ⟨env, Z, sr, f⟩ := hq
    rw [ev_or2 c] at f
    have q : TEx g gl cf W B Z0 e σ H fun v H1 => ∃ Z1 x, Ext H Z H1 Z1 ∧ EVr g H H1 Z1 v x ∧ Fin g W σ H Z ((truD x.d).bind fun r => if r then .ok x else evOr gl cf (e2 :: es) env) (Out g H Z Q) := te_bind sr f fun x v H1 Z1 e1 r1 f1 => ⟨Z1, x, e1, r1, f1⟩
    refine BoolOp_or (thn (h.run pins s σ H _ I q) fun v s1 ⟨w, H1, I1, rw', Z1, x, e1, r1, f1⟩ => ?_)
    obtain ⟨b, hb, f1⟩ := f1.bindN (truD_nox _)
    refine thn (tru_okD c.K pins s1 σ H1 w v (fun k H2 => k = b ∧ H2 = H1) I1 rw' ⟨Z1, x.d, b, r1.pk, hb, rfl, rfl⟩) fun k s2 ⟨H2, I2, ek, eH⟩ => ?_
    subst ek
    subst eH
    cases k with
    | false =>
      rw [if_neg Bool.false_ne_true] at f1 ⊢
      exact ih.run pins s2 σ H2 Q I2 ⟨env, Z1, sr.ext e1, (f1.step e1).mono fun x q => q.back e1⟩
    | true =>
      rw [if_pos rfl] at f1 ⊢
      exact ⟨w, H2, I2, rw', f1 _ _ _ e1 r1⟩
theorem OutB.back {H H1 : Hp} {Z Z1 : Addr → Prop} {Q : Bool → Hp → Prop} {b : Bool} (q : OutB H Z Q b) (e : Ext H Z H1 Z1) : OutB H1 Z1 Q b := fun H2 Z2 e2 => q H2 Z2 (e.trans e2)
theorem st_and : ∀ {es : List E} {xs : List Expr}, es ≠ [] → Paired (fun e x => PT X x (TTx g gl cf W B Z0 e)) es xs → PW X (.BoolOp .And xs pos) (fun σ H Q => ∃ env Z, SR g B Z0 env Z σ H ∧ Fin g W σ H Z ((evAnd gl cf es env).bind fun x => truD x.d) (OutB H Z Q))
  | [], _, h, _ => absurd rfl h
  | [e], _, _, .cons h .nil => PW.imp (pw_and1 h) fun σ H Q ⟨env, Z, sr, f⟩ => ⟨env, Z, sr, by rw [ev_and1 c] at f; exact f⟩
  | e :: e2 :: es, _, _, .cons h (.cons h2 hs) => by
    have ih := st_and (es := e2 :: es) (by simp) (.cons h2 hs)
    refine PW.imp (pw_and h ih) fun σ H Q ⟨env, Z, sr, f⟩ => ?_
    refine ⟨env, Z, sr, ?_⟩
    rw [ev_and2 c] at f
    simp only [R.bind_assoc] at f
    cases hx : ev gl cf e env with
    | ok x =>
      rw [hx] at f
      simp only [R.bind_ok] at f ⊢
      obtain ⟨b, hb, f⟩ := f.bindN (truD_nox _)
      rw [hb]
      refine fun H1 Z1 e1 => ?_
      cases b with
      | true =>
        rw [if_pos rfl] at f ⊢
        exact ⟨env, Z1, sr.ext e1, (f.step e1).mono fun x q => OutB.back c q e1⟩
      | false =>
        rw [if_neg Bool.false_ne_true] at f ⊢
        simp only [R.bind_ok] at f
        rw [hb] at f
        exact f H1 Z1 e1
    | exc _ _ => rw [hx] at f; exact f
    | stk => rw [hx] at f; exact f
theorem st_or : ∀ {es : List E} {xs : List Expr}, es ≠ [] → Paired (fun e x => PT X x (TTx g gl cf W B Z0 e)) es xs → PW X (.BoolOp .Or xs pos) (fun σ H Q => ∃ env Z, SR g B Z0 env Z σ H ∧ Fin g W σ H Z ((evOr gl cf es env).bind fun x => truD x.d) (OutB H Z Q))
  | [], _, h, _ => absurd rfl h
  | [e], _, _, .cons h .nil => PW.imp (pw_or1 h) fun σ H Q ⟨env, Z, sr, f⟩ => ⟨env, Z, sr, by rw [ev_or1 c] at f; exact f⟩
  | e :: e2 :: es, _, _, .cons h (.cons h2 hs) => by
    have ih := st_or (es := e2 :: es) (by simp) (.cons h2 hs)
    refine PW.imp (pw_or h ih) fun σ H Q ⟨env, Z, sr, f⟩ => ?_
    refine ⟨env, Z, sr, ?_⟩
    rw [ev_or2 c] at f
    simp only [R.bind_assoc] at f
    cases hx : ev gl cf e env with
    | ok x =>
      rw [hx] at f
      simp only [R.bind_ok] at f ⊢
      obtain ⟨b, hb, f⟩ := f.bindN (truD_nox _)
      rw [hb]
      refine fun H1 Z1 e1 => ?_
      cases b with
      | false =>
        rw [if_neg Bool.false_ne_true] at f ⊢
        exact ⟨env, Z1, sr.ext e1, (f.step e1).mono fun x q => OutB.back c q e1⟩
      | true =>
        rw [if_pos rfl] at f ⊢
        simp only [R.bind_ok] at f
        rw [hb] at f
        exact f H1 Z1 e1
    | exc _ _ => rw [hx] at f; exact f
    | stk => rw [hx] at f; exact f

/-! displays, subscripts, slices -/
theorem se_tup {es : List E} {xs : List Expr} {k : Nat} (h : PA X xs (TAx g gl cf W B Z0 es)) : PE X (.Tuple xs k pos) (TEx g gl cf W B Z0 (.tup es)) := by
  refine PE.imp (pe_tup h) fun σ H Q ⟨env, Z, sr, f⟩ => ?_
  refine ta_bind sr f fun ds vs H1 Z1 e1 r1 f1 => ?_
  split at f1
  · rename_i hz
    exact ⟨by rw [r1.length]; exact hz, f1.tup e1 r1⟩
  · exact f1.elim
theorem se_lst {es : List E} {xs : List Expr} (h : PA X xs (TAx g gl cf W B Z0 es)) : PE X (.List xs pos) (TEx g gl cf W B Z0 (.lst es)) := by
  refine PE.imp (pe_lst h) fun σ H Q ⟨env, Z, sr, f⟩ => ?_
  refine ta_bind sr f fun ds vs H1 Z1 e1 r1 f1 => ?_
  split at f1
  · rename_i hz
    exact ⟨by rw [r1.length]; exact hz, f1.lst e1 r1⟩
  · exact f1.elim
theorem se_d0 {b : Bool} : PE X (.Dict [] [] pos) (TEx g gl cf W B Z0 (.d0 b)) := by
  cases b with
  | true =>
    refine PE.imp pe_dnewT fun σ H Q ⟨env, Z, sr, f⟩ p np => ?_
    exact f _ _ _ (Ext.laid sr.zz np) ⟨p, rfl, np, fun z => sr.zz p z np, [], upd_same, rfl, .nil⟩
  | false =>
    refine PE.imp pe_dnewK fun σ H Q ⟨env, Z, sr, f⟩ p np => ?_
    exact f _ _ _ (Ext.laid sr.zz np) ⟨p, rfl, np, fun z => sr.zz p z np, [], upd_same, rfl, .nil⟩
theorem plainIx {y : Expr} (h : isSlc y = false) : PlainIx y := fun o i => by
  cases y <;> first | rfl | (simp [isSlc] at h)
theorem se_ix (ha : PE X x (TEx g gl cf W B Z0 a)) (hb : PE X y (TEx g gl cf W B Z0 b)) (hs : isSlc y = false) : PE X (.Subscript x y pos) (TEx g gl cf W B Z0 (.ix a b)) := by
  refine PE.imp (pe_ix (op_ixD c.hu c.K) ha hb (plainIx c hs)) fun σ H Q ⟨env, Z, sr, f⟩ => ?_
  refine te_bind sr f fun x v H1 Z1 e1 r1 f1 => te_bind (sr.ext e1) (f1.step e1) fun y w H2 Z2 e2 r2 f2 => ?_
  obtain ⟨r, hr, q⟩ := f2.bindN (ixD_nox _ _)
  exact ⟨Z2, x.d, y.d, r, r1.pk.ext e2, r2.pk, hr, fun v rv => q.z (e1.trans e2) rv⟩
/-- a part of a slice -/
def evP (gl : List D) (cf : Nat → List D → R EV) (a : E) (env : En) : R (Option Int) := match a with
  | .no => R.ok none
  | _ => (ev gl cf a env).bind fun l => partD l.d
def TPx (g : Ga) (gl : List D) (cf : Nat → List D → R EV) (W : WX) (B : Hp) (Z0 : Addr → Prop) (a : E) : TO := fun σ H Q => ∃ env Z, SR g B Z0 env Z σ H ∧ Fin g W σ H Z (evP gl cf a env) (fun o => ∀ H1 Z1, Ext H Z H1 Z1 → Q o H1)
theorem sp_no : PO X none (TPx g gl cf W B Z0 .no) := ⟨fun pins s σ H Q I ⟨env, Z, sr, f⟩ => po_none.run pins s σ H Q I (f H Z sr.refl)⟩
theorem sp_some (ha : PE X x (TEx g gl cf W B Z0 a)) (hi : a ≠ .no) : PO X (some x) (TPx g gl cf W B Z0 a) := ⟨fun pins s σ H Q I ⟨env, Z, sr, f⟩ => (po_some ha).run pins s σ H Q I (by
  have f : Fin g W σ H Z ((ev gl cf a env).bind fun l => partD l.d) (fun o => ∀ H1 Z1, Ext H Z H1 Z1 → Q o H1) := by
    cases a <;> first | exact f | exact absurd rfl hi
  refine te_bind sr f fun y v H1 Z1 e1 r1 f1 => ?_
  obtain ⟨o, ho, f1⟩ := f1.nox (partD_nox _)
  have hp := r1.pk
  unfold partD at ho
  split at ho
  · rename_i hy
    cases ho
    rw [hy] at hp
    exact ⟨_, hp.int, f1 H1 Z1 e1⟩
  · cases ho)⟩
theorem tp_bind {σ : St} {H : Hp} {Z : Addr → Prop} {env : En} {α : Type} (sr : SR g B Z0 env Z σ H) {F : Option Int → R α} {K : α → Prop} {P : Option Int → Hp → Prop} (f : Fin g W σ H Z ((evP gl cf a env).bind F) K)
    (k : ∀ o H1 Z1, Ext H Z H1 Z1 → Fin g W σ H Z (F o) K → P o H1) : TPx g gl cf W B Z0 a σ H P := by
  refine ⟨env, Z, sr, ?_⟩
  cases h : evP gl cf a env with
  | ok x => rw [h] at f; exact fun H1 Z1 e => k x H1 Z1 e f
  | exc c p => rw [h] at f; exact f
  | stk => rw [h] at f; exact f
theorem se_sl {lo hi : E} {l h : Option Expr} {p2 : Pos} (ha : PE X x (TEx g gl cf W B Z0 a)) (hl : PO X l (TPx g gl cf W B Z0 lo)) (hh : PO X h (TPx g gl cf W B Z0 hi)) : PE X (.Subscript x (.Slice l h none p2) pos) (TEx g gl cf W B Z0 (.sl a lo hi)) := by
  refine PE.imp (pe_slice (op_slD c.K) ha hl hh) fun σ H Q ⟨env, Z, sr, f⟩ => ?_
  have f : Fin g W σ H Z ((ev gl cf a env).bind fun x => (evP gl cf lo env).bind fun l => (evP gl cf hi env).bind fun h => slD x.d l h) (Out g H Z Q) := f
  refine te_bind sr f fun x v H1 Z1 e1 r1 f1 => tp_bind c (sr.ext e1) (f1.step e1) fun o1 H2 Z2 e2 f2 => tp_bind c ((sr.ext e1).ext e2) (f2.step e2) fun o2 H3 Z3 e3 f3 => ?_
  obtain ⟨z, hz, q⟩ := f3.nox (slD_nox _ _ _)
  exact ⟨H, Z, Z3, x.d, z, (r1.pk.ext e2).ext e3, (e1.trans e2).trans e3, hz, q⟩

/-! arguments -/
theorem starN {x : Expr} {xs : List Expr} {env : Env} (h : ∀ e p, x ≠ .Starred e p) : starEach (x :: xs) env = (false, eval x env) :: starEach xs env := by
  cases x <;> first | rfl | exact absurd rfl (h _ _)
theorem star0 {xs : List Expr} {env : Env} (pos : Pos) (h : ∀ x ∈ xs, ∀ e p, x ≠ .Starred e p) : (backTo pos (starEach xs env)).any (·.1) = false := by
  induction xs with
  | nil => rfl
  | cons x xs ih =>
    rw [starN c (h x List.mem_cons_self)]
    simp only [backTo, List.map_cons, List.any_cons, Bool.false_or]
    exact ih fun y hy => h y (List.mem_cons_of_mem _ hy)
theorem sa_nil : PA X [] (TAx g gl cf W B Z0 []) := PA.imp pa_nil fun σ H Q ⟨env, Z, sr, f⟩ => f [] H Z sr.refl .nil
theorem sa_cons {es : List E} {xs : List Expr} (hx : ∀ e p, x ≠ .Starred e p) (ha : PE X x (TEx g gl cf W B Z0 a)) (hs : PA X xs (TAx g gl cf W B Z0 es)) : PA X (x :: xs) (TAx g gl cf W B Z0 (a :: es)) := by
  refine PA.imp (pa_cons ha hs (starN c hx)) fun σ H Q ⟨env, Z, sr, f⟩ => ?_
  refine te_bind sr f fun y v H1 Z1 e1 r1 f1 => ?_
  obtain ⟨d, hd, f1⟩ := f1.bindN (keep_nox _)
  obtain ⟨Z2, e2, _, _, _, r2⟩ := EVr.keep e1 r1 hd
  refine ta_bind (sr.ext e2) (f1.step e2) fun ds vs H3 Z3 e3 r3 f3 => ?_
  exact f3 (v :: vs) H3 Z3 (e2.trans e3) (.cons (Rp.evo e3.evo e3.mono _ _ r2) r3)
theorem sl_nil : PA X [] (TLx g gl cf W B Z0 []) := PA.imp pa_nil fun σ H Q ⟨env, Z, sr, f⟩ => f [] H Z sr.refl trivial .nil
theorem AR.ext {H0 H H' : Hp} {Z Z' : Addr → Prop} (e : Ext H Z H' Z') : ∀ {vs : List V} {xs : List EV}, AR g H0 H Z vs xs → AR g H0 H' Z' vs xs
  | [], [], _ => trivial
  | _ :: _, _ :: _, h => ⟨h.1.ext e, AR.ext e h.2⟩
  | [], _ :: _, h => h.elim
  | _ :: _, [], h => h.elim
theorem AR.weak {H0 H1 H : Hp} {Z0 Z1 Z : Addr → Prop} (e : Ext H0 Z0 H1 Z1) : ∀ {vs : List V} {xs : List EV}, AR g H1 H Z vs xs → AR g H0 H Z vs xs
  | [], [], _ => trivial
  | _ :: _, _ :: _, h => ⟨h.1.weak e, AR.weak e h.2⟩
  | [], _ :: _, h => h.elim
  | _ :: _, [], h => h.elim
theorem AR.oads {H0 H : Hp} {Z : Addr → Prop} : ∀ {vs : List V} {xs : List EV}, AR g H0 H Z vs xs → ∀ a ∈ oads vs xs, H0 a = none
  | [], [], _, a, h => by simp [NH.oads] at h
  | v :: vs, x :: xs, h, a, m => by
    cases x with
    | o d =>
      obtain ⟨b, e, n, _⟩ := h.1
      subst e
      simp only [NH.oads, List.mem_cons] at m
      rcases m with rfl | m
      · exact n
      · exact AR.oads h.2 a m
    | z d => cases v <;> exact AR.oads h.2 a m
    | b d => cases v <;> exact AR.oads h.2 a m
  | [], _ :: _, h, _, _ => h.elim
  | _ :: _, [], h, _, _ => h.elim
theorem sl_cons {es : List E} {xs : List Expr} (hx : ∀ e p, x ≠ .Starred e p) (ha : PE X x (TEx g gl cf W B Z0 a)) (hs : PA X xs (TLx g gl cf W B Z0 es)) : PA X (x :: xs) (TLx g gl cf W B Z0 (a :: es)) := by
  refine PA.imp (pa_cons ha hs (starN c hx)) fun σ H Q ⟨env, Z, sr, f⟩ => ?_
  refine te_bind sr f fun y v H1 Z1 e1 r1 f1 => ?_
  refine tl_bind (sr.ext e1) (f1.step e1) fun ys vs H3 Z3 e3 r3 n3 f3 => ?_
  refine f3 (v :: vs) H3 Z3 (e1.trans e3) ⟨r1.ext e3, AR.weak c e1 r3⟩ ?_
  cases y with
  | o d =>
    obtain ⟨b, e, n, nz, tp⟩ := r1
    subst e
    refine List.nodup_cons.mpr ⟨fun m => ?_, n3⟩
    obtain ⟨u, hu, _⟩ := tp.there
    have := AR.oads c r3 b m
    rw [hu] at this; cases this
  | z d => cases v <;> exact n3
  | b d => cases v <;> exact n3
theorem AR.pkl {H0 H : Hp} {Z : Addr → Prop} : ∀ {vs : List V} {xs : List EV}, AR g H0 H Z vs xs → PkL g H Z vs (xs.map EV.d)
  | [], [], _ => trivial
  | _ :: _, _ :: _, h => ⟨h.1.pk, AR.pkl h.2⟩
  | [], _ :: _, h => h.elim
  | _ :: _, [], h => h.elim

/-! built-in functions -/
theorem se_bi {f : Bi} {es : List E} {xs : List Expr} {y : Str} {p : Pos} (hy : y = biN f) (hg : Gl X y) (hx : ∀ x ∈ xs, ∀ e p, x ≠ .Starred e p) (hn : xs ≠ []) (hs : PA X xs (TLx g gl cf W B Z0 es)) : PE X (.Call (.Name y p) xs [] pos) (TEx g gl cf W B Z0 (.bi f es)) := by
  subst hy
  cases xs with
  | nil => exact absurd rfl hn
  | cons x xs =>
    have he := starN c (xs := xs) (env := X.env) (hx x List.mem_cons_self)
    have hpl := star0 c (env := X.env) pos fun y hy => hx y (List.mem_cons_of_mem _ hy)
    have fin : PE X (.Call (.Name (biN f) p) (x :: xs) [] pos) (tCB (rBi g f) (TLx g gl cf W B Z0 es)) := by
      have hc := op_biD c.calm c.K f
      have hm : X.mg (biN f) = none := c.bts _ (by cases f <;> decide +kernel)
      cases f
      all_goals first
        | exact pe_callB hc hg hm (by decide +kernel) hs (by decide) (by decide) he hpl
        | exact pe_callTy hc hg hm (by decide +kernel) hs (by decide) (by decide) he hpl
    refine PE.imp fin fun σ H Q ⟨env, Z, sr, fq⟩ => ?_
    refine tl_bind sr fq fun ys vs H1 Z1 e1 r1 n1 f1 => ?_
    obtain ⟨z, hz, q⟩ := f1.nox (biD_nox _ _)
    exact ⟨H, Z, Z1, _, z, AR.pkl c r1, e1, hz, q⟩
theorem se_isi {ty : Ty} {y u : Str} {p p2 : Pos} (hy : y = "isinstance") (hg : Gl X y) (hu : tyN ty = some u) (hg2 : Gl X u) (hx : ∀ e p, x ≠ .Starred e p) (ha : PE X x (TEx g gl cf W B Z0 a)) :
    PE X (.Call (.Name y p) [x, .Name u p2] [] pos) (TEx g gl cf W B Z0 (.isi a ty)) := by
  subst hy
  have he := starN c (xs := [.Name u p2]) (env := X.env) hx
  have hm2 : X.mg u = none := c.bts _ (by cases ty <;> cases hu <;> decide +kernel)
  have hb : PE X (.Name u p2) (tC (.ty (tyS ty))) := by
    refine pe_bltn (u := .type (tyS ty)) hg2 hm2 ?_ rfl ?_ ?_ <;> (cases ty <;> cases hu <;> decide +kernel)
  refine PE.imp (pe_callB (isi_okD (t := ty) c.K) hg (c.bts _ (by decide +kernel)) (by decide +kernel) (pa_cons ha (pa_cons hb pa_nil) he) (by decide) (by decide) he rfl) fun σ H Q ⟨env, Z, sr, f⟩ => ?_
  refine te_bind sr f fun y v H1 Z1 e1 r1 f1 => ?_
  obtain ⟨b, hb, q⟩ := f1.bindN (isiD_nox _ _)
  exact ⟨v, Z1, y.d, b, rfl, r1.pk, hb, q.z e1 (.bl _)⟩

/-! a def called -/
theorem pureZ {r : EV} {H0 H : Hp} {Z : Addr → Prop} {v : V} (h : EVr g H0 H Z v r) (p : r.d.pure = true) (nb : ∀ d, r ≠ .b d) : ∃ d, r = .z d := by
  cases r with
  | z d => exact ⟨d, rfl⟩
  | o d =>
    obtain ⟨a, _, _, _, tp⟩ := h
    cases d <;> first | exact (show False from tp).elim | (simp [EV.d, D.pure] at p)
  | b d => exact absurd rfl (nb d)
/-- all that is handed over is kept while the call runs -/
theorem AR.given {H0 H : Hp} {Z : Addr → Prop} : ∀ {vs : List V} {xs : List EV}, AR g H0 H Z vs xs → RpL g H (fun a => Z a ∨ ∃ (i : Nat) (d : D), vs[i]? = some (.ref a) ∧ (xs[i]? = some (.o d) ∨ xs[i]? = some (.b d)) ∧ Top g H Z a d) vs (xs.map EV.d)
  | [], [], _ => .nil
  | v :: vs, x :: xs, h => by
    have up : ∀ {d : D} {a : Addr}, Top g H Z a d → Top g H (fun a => Z a ∨ ∃ (i : Nat) (d : D), (v :: vs)[i]? = some (.ref a) ∧ ((x :: xs)[i]? = some (.o d) ∨ (x :: xs)[i]? = some (.b d)) ∧ Top g H Z a d) a d := fun tp => tp.step .refl (fun _ z => .inl z) fun _ e => e
    refine .cons ?_ (RpL.evo .refl (fun a z => ?_) _ _ (AR.given h.2))
    · cases x with
      | z d => exact Rp.evo .refl (fun _ z => .inl z) _ _ h.1
      | o d =>
        obtain ⟨a, e, _, _, tp⟩ := h.1
        subst e
        exact (up tp).rp (.inr ⟨0, d, rfl, .inl rfl, tp⟩)
      | b d =>
        obtain ⟨a, e, tp⟩ := h.1
        subst e
        exact (up tp).rp (.inr ⟨0, d, rfl, .inr rfl, tp⟩)
    · rcases z with z | ⟨i, d, h1, h2, h3⟩
      · exact .inl z
      · exact .inr ⟨i + 1, d, h1, h2, h3⟩
  | [], _ :: _, h => h.elim
  | _ :: _, [], h => h.elim
theorem AR.at {H0 H : Hp} {Z : Addr → Prop} : ∀ {vs : List V} {xs : List EV} {i : Nat} {x : EV}, AR g H0 H Z vs xs → xs[i]? = some x → ∃ v, vs[i]? = some v ∧ EVr g H0 H Z v x
  | v :: _, _ :: _, 0, _, h, e => by simp at e; subst e; exact ⟨v, rfl, h.1⟩
  | _ :: _, _ :: _, i + 1, _, h, e => by simpa using AR.at (i := i) h.2 (by simpa using e)
  | [], [], _, _, _, e => by simp at e
  | [], _ :: _, _, _, h, _ => h.elim
  | _ :: _, [], _, _, h, _ => h.elim
theorem call_fin {f : Nat} {d : Df} {σ : St} {H H1 : Hp} {Z Z1 : Addr → Prop} {Q : VK} {ys : List EV} {vs : List V} (e1 : Ext H Z H1 Z1) (r1 : AR g H H1 Z1 vs ys) (hl : ys.length = d.np)
    (f1 : Fin g W σ H Z ((cf f (ys.map EV.d)).bind fun r => match r with
      | .b _ => .stk
      | r => if ys.any EV.lent then (if r.d.pure then .ok r else .stk) else .ok r) (Out g H Z Q)) : spF g cf d.np f vs H1 Q (fun cls dd H' => W cls dd σ H') := by
  have gv := AR.given c r1
  refine ⟨by rw [gv.length, List.length_map]; exact hl, ys.map EV.d, _, fun a z => ?_, gv, ?_⟩
  · rcases z with z | ⟨i, d, _, _, tp⟩
    · exact e1.there a z
    · obtain ⟨u, hu, _⟩ := tp.there
      rw [hu]; exact fun q => nomatch q
  -- without the lent ones
  have eo : Ext H Z H1 (fun a => Z1 a ∨ ∃ (i : Nat) (d : D), vs[i]? = some (.ref a) ∧ ys[i]? = some (.o d) ∧ Top g H1 Z1 a d) := by
    refine ⟨e1.same, fun a z => .inl (e1.mono a z), fun a z => ?_, fun a z => ?_⟩
    · rcases z with z | ⟨i, d, h1, h2, _⟩
      · exact e1.new a z
      · obtain ⟨v, e, b, q, n, _⟩ := AR.at c r1 h2
        rw [h1] at e; cases e; cases q
        exact .inr n
    · rcases z with z | ⟨i, d, _, _, tp⟩
      · exact e1.there a z
      · obtain ⟨u, hu, _⟩ := tp.there
        rw [hu]; exact fun q => nomatch q
  cases hr : cf f (ys.map EV.d) with
  | stk => rw [hr] at f1; exact f1
  | exc k p =>
    rw [hr] at f1
    refine fun H' Z' dd e2 x => f1 H' (fun a => Z1 a ∨ ∃ (i : Nat) (d : D), vs[i]? = some (.ref a) ∧ ys[i]? = some (.o d) ∧ Top g H1 Z1 a d) dd ⟨e1.same.trans e2.same, eo.mono, eo.new, fun a z => ?_⟩ x
    have := eo.there a z
    cases hu : H1 a with
    | none => exact absurd hu this
    | some u => rw [e2.same _ _ hu]; exact fun q => nomatch q
  | ok r =>
    rw [hr] at f1
    simp only [R.bind_ok] at f1
    intro v H' Z' e2 rv
    have nb : ∀ d, r ≠ .b d := fun d e => by subst e; exact f1
    have f1 : Fin g W σ H Z (if ys.any EV.lent then (if r.d.pure then .ok r else .stk) else .ok r) (Out g H Z Q) := by
      cases r with
      | z d => exact f1
      | o d => exact f1
      | b d => exact absurd rfl (nb d)
    by_cases hb : ys.any EV.lent = true
    · rw [if_pos hb] at f1
      by_cases hp : r.d.pure = true
      · rw [if_pos hp] at f1
        obtain ⟨d, rfl⟩ := pureZ c rv hp nb
        have e3 : Ext H Z H' (fun a => Z1 a ∨ ∃ (i : Nat) (d : D), vs[i]? = some (.ref a) ∧ ys[i]? = some (.o d) ∧ Top g H1 Z1 a d) := ⟨e1.same.trans e2.same, eo.mono, eo.new, fun a z => by
          have := eo.there a z
          cases hu : H1 a with
          | none => exact absurd hu this
          | some u => rw [e2.same _ _ hu]; exact fun q => nomatch q⟩
        exact Out.z f1 e3 (Rp.pure .refl d v hp rv)
      · rw [if_neg hp] at f1
        exact f1.elim
    · rw [if_neg hb] at f1
      have all : ∀ a, (Z1 a ∨ ∃ (i : Nat) (d : D), vs[i]? = some (.ref a) ∧ (ys[i]? = some (.o d) ∨ ys[i]? = some (.b d)) ∧ Top g H1 Z1 a d) → Z1 a ∨ ∃ (i : Nat) (d : D), vs[i]? = some (.ref a) ∧ ys[i]? = some (.o d) ∧ Top g H1 Z1 a d := fun a z => by
        rcases z with z | ⟨i, d, h1, h2 | h2, h3⟩
        · exact .inl z
        · exact .inr ⟨i, d, h1, h2, h3⟩
        · exact absurd (List.any_eq_true.mpr ⟨_, List.mem_of_getElem? h2, rfl⟩) hb
      have e3 : Ext H Z H' Z' := ⟨e1.same.trans e2.same, fun a z => e2.mono a (.inl (e1.mono a z)), fun a z => by
        rcases e2.new a z with z | n
        · exact eo.new a (all a z)
        · exact .inr (e1.same.free n), e2.there⟩
      exact f1 v H' Z' e3 (rv.weak e1)
theorem se_call {f : Nat} {es : List E} {xs : List Expr} {y : Str} {p : Pos} (hf : t.fn[f]? = some y) (hg : Gl X y) (hk : okN y = true) (hx : ∀ x ∈ xs, ∀ e p, x ≠ .Starred e p) (hz : xs = [] → es = []) (hs : PA X xs (TLx g gl cf W B Z0 es)) : PE X (.Call (.Name y p) xs [] pos) (TEx g gl cf W B Z0 (.call f es)) := by
  rw [c.tfn, List.getElem?_map] at hf
  obtain ⟨d, hd, rfl⟩ := Option.map_eq_some_iff.mp hf
  obtain ⟨m, kp, fd, hb, F⟩ := c.fns f d hd
  obtain ⟨k1, k2, k3⟩ := okN_of hk
  have fin : PE X (.Call (.Name d.gn p) xs [] pos) (tCallS (spF g cf d.np f) (WE W) (TLx g gl cf W B Z0 es)) := by
    cases xs with
    | nil =>
      refine ⟨fun pins s σ H Q I h => ?_⟩
      refine wpAny_Call_Name_kw (ld_glob I hg m ?_ k1)
      refine PySem.W.callWith_K0 I.kIn kp ?_
      have q : spF g cf d.np f [] H Q (WE W σ) := by
        obtain ⟨env, Z, sr, fq⟩ := h
        obtain rfl := hz rfl
        exact fq [] H Z sr.refl trivial .nil
      exact run_fnS (us := []) F c.room hb (L2N.passAt c.tk σ) I .nil q
    | cons x xs => exact pe_callS F c.room hg m kp hb (fun σ => L2N.passAt c.tk σ) hs k1 (starN c (hx x List.mem_cons_self)) (star0 c pos fun y hy => hx y (List.mem_cons_of_mem _ hy))
  refine PE.imp fin fun σ H Q ⟨env, Z, sr, fq⟩ => ?_
  refine tl_bind sr fq fun ys vs H1 Z1 e1 r1 n1 f1 => ?_
  by_cases hl : ys.length = d.np
  · exact call_fin c e1 r1 hl f1
  · have f1 : Fin g W σ H Z ((cf f (ys.map EV.d)).bind fun r => match r with
      | .b _ => .stk
      | r => if ys.any EV.lent then (if r.d.pure then .ok r else .stk) else .ok r) (Out g H Z Q) := f1
    rw [c.cfl f d _ hd (by rw [List.length_map]; exact hl)] at f1
    exact f1.elim
theorem se_rev {k : Nat} {p1 p2 p3 : Pos} (ha : PE X x (TEx g gl cf W B Z0 a)) : PE X (.Subscript x (.Slice none none (some (.UnaryOp .USub (.Constant (.int 1) k p1) p2)) p3) pos) (TEx g gl cf W B Z0 (.rev a)) := by
  refine PE.imp (pe_revD c.K ha) fun σ H Q ⟨env, Z, sr, f⟩ => ?_
  simp only [ev] at f
  refine te_bind sr f fun x v H1 Z1 e1 r1 f1 => ?_
  obtain ⟨z, hz, q⟩ := f1.nox (revD_nox _)
  exact ⟨H, Z, Z1, x.d, z, r1.pk, e1, hz, q⟩
/-- set(xs), then what asks for the set -/
theorem set_inner {y : Str} {p2 pos2 : Pos} (hy : y = "set") (hg2 : Gl X y) (hx : ∀ e p, x ≠ .Starred e p) (ha : PE X x (TEx g gl cf W B Z0 a)) : PE X (.Call (.Name y p2) [x] [] pos2) (tCB (rSetLI X.K X.w) (tCons (TEx g gl cf W B Z0 a) tNil)) := by
  subst hy
  have h1 := starN c (xs := []) (env := X.env) hx
  exact pe_callTy (cr_setL c.calm) hg2 (c.bts _ (by decide +kernel)) (by decide +kernel) (pa_cons ha pa_nil h1) (by decide) (by decide) h1 rfl
theorem se_sset {fn y : Str} {p p2 pos2 : Pos} (hf : fn = "sorted") (hg : Gl X fn) (hy : y = "set") (hg2 : Gl X y) (hx : ∀ e p, x ≠ .Starred e p) (ha : PE X x (TEx g gl cf W B Z0 a)) :
    PE X (.Call (.Name fn p) [.Call (.Name y p2) [x] [] pos2] [] pos) (TEx g gl cf W B Z0 (.sset a)) := by
  subst hf
  have h2 := starN c (x := .Call (.Name y p2) [x] [] pos2) (xs := []) (env := X.env) fun _ _ q => nomatch q
  refine PE.imp (pe_callB (cr_sortedSet c.calm) hg (c.bts _ (by decide +kernel)) (by decide +kernel) (pa_cons (set_inner c hy hg2 hx ha) pa_nil h2) (by decide) (by decide) h2 rfl) fun σ H Q ⟨env, Z, sr, f⟩ => ?_
  simp only [ev] at f
  refine te_bind sr f fun x v H1 Z1 e1 r1 f1 => ?_
  obtain ⟨xs, hxs, f1⟩ := f1.bindN (lstD_nox _)
  obtain ⟨ns, hns, f1⟩ := f1.bindN .of
  split at f1
  · rename_i hl
    have hp := r1.pk
    have hd : x.d = .lst xs := by
      unfold lstD at hxs
      split at hxs
      · rename_i q; cases hxs; exact q
      · cases hxs
    rw [hd] at hp
    obtain ⟨b, vs, rfl, hv, rl⟩ := hp.lst
    obtain rfl := RpL.ints rl (of_ok hns)
    refine ⟨b, ns, rfl, by rw [c.K]; exact sqL_of_rd hv, hl, fun a' n hn hc => ⟨a', _, n, rfl, upd_same, by omega, fun ns' p hp hm _ hn' => ?_⟩⟩
    rw [setI_uniq (l := ns) hp fun k => (hm k).trans (by simp)]
    exact Out.lst f1 (e1.trans (Ext.laid e1.there hn)) (RpL.ofInts _) p hn'
  · exact f1.elim
theorem se_lset {fn y : Str} {p p2 pos2 : Pos} (hf : fn = "len") (hg : Gl X fn) (hy : y = "set") (hg2 : Gl X y) (hx : ∀ e p, x ≠ .Starred e p) (ha : PE X x (TEx g gl cf W B Z0 a)) :
    PE X (.Call (.Name fn p) [.Call (.Name y p2) [x] [] pos2] [] pos) (TEx g gl cf W B Z0 (.lset a)) := by
  subst hf
  have h2 := starN c (x := .Call (.Name y p2) [x] [] pos2) (xs := []) (env := X.env) fun _ _ q => nomatch q
  refine PE.imp (pe_callB cr_lenSetO hg (c.bts _ (by decide +kernel)) (by decide +kernel) (pa_cons (set_inner c hy hg2 hx ha) pa_nil h2) (by decide) (by decide) h2 rfl) fun σ H Q ⟨env, Z, sr, f⟩ => ?_
  simp only [ev] at f
  refine te_bind sr f fun x v H1 Z1 e1 r1 f1 => ?_
  obtain ⟨xs, hxs, f1⟩ := f1.bindN (lstD_nox _)
  obtain ⟨ns, hns, f1⟩ := f1.bindN .of
  split at f1
  · rename_i hl
    have hp := r1.pk
    have hd : x.d = .lst xs := by
      unfold lstD at hxs
      split at hxs
      · rename_i q; cases hxs; exact q
      · cases hxs
    rw [hd] at hp
    obtain ⟨b, vs, rfl, hv, rl⟩ := hp.lst
    obtain rfl := RpL.ints rl (of_ok hns)
    refine ⟨b, ns, rfl, by rw [c.K]; exact sqL_of_rd hv, hl, fun a' n hn hc => ⟨a', _, n, rfl, upd_same, fun l hnd hm => ?_⟩⟩
    have hs : (setI ns).Nodup := (setI_asc ns).imp fun h => Int.ne_of_lt h
    have hm' : ∀ k, k ∈ l ↔ k ∈ setI ns := fun k => (hm k).trans (by rw [decide_eq_true_eq, setI_mem])
    have pl : l.length = (setI ns).length := Nat.le_antisymm (nodup_le _ _ hnd fun k hk => (hm' k).mp hk) (nodup_le _ _ hs fun k hk => (hm' k).mpr hk)
    rw [pl]
    exact Out.z f1 (e1.trans (Ext.laid e1.there hn)) (.int _)
  · exact f1.elim
theorem ints_flat : ∀ ns : List Int, (ns.map V.int).all flatV = true
  | [] => rfl
  | _ :: r => by rw [List.map_cons, List.all_cons, ints_flat r]; rfl
theorem find_min {p : Int → Bool} : ∀ {ns : List Int} {k : Nat}, ns.findIdx? p = some k → (∃ z, ns[k]? = some z ∧ p z = true) ∧ ∀ (m : Nat) z, m < k → ns[m]? = some z → p z = false
  | [], _, h => by simp at h
  | x :: r, k, h => by
    rw [List.findIdx?_cons] at h
    by_cases hp : p x = true
    · rw [if_pos hp] at h
      cases h
      exact ⟨⟨x, rfl, hp⟩, fun m z hm => absurd hm (Nat.not_lt_zero _)⟩
    · rw [if_neg hp] at h
      obtain ⟨j, hj, rfl⟩ := Option.map_eq_some_iff.mp h
      obtain ⟨⟨z, h1, h2⟩, h3⟩ := find_min hj
      refine ⟨⟨z, by simpa using h1, h2⟩, fun m w hm hw => ?_⟩
      cases m with
      | zero => simp at hw; subst hw; simpa using hp
      | succ m => exact h3 m w (by omega) (by simpa using hw)
theorem find_idx {i : Int} : ∀ {ns : List Int} {k : Nat}, ns.findIdx? (fun j => decide (j = i)) = some k → i ∈ ns ∧ ns.idxOf i = k
  | [], _, h => by simp at h
  | x :: r, k, h => by
    rw [List.findIdx?_cons] at h
    by_cases hp : x = i
    · subst hp
      simp at h
      subst h
      simp
    · rw [if_neg (by simpa using hp)] at h
      obtain ⟨j, hj, rfl⟩ := Option.map_eq_some_iff.mp h
      obtain ⟨h1, h2⟩ := find_idx hj
      refine ⟨List.mem_cons_of_mem _ h1, ?_⟩
      have hb : (x == i) = false := by simpa using hp
      rw [List.idxOf_cons, hb, h2]; rfl
theorem pe_or {x : Expr} {ta tb : TE} (ha : PE X x ta) (hb : PE X x tb) : PE X x (fun σ H Q => ta σ H Q ∨ tb σ H Q) := ⟨fun pins s σ H Q I h => h.elim (ha.run pins s σ H Q I) (hb.run pins s σ H Q I)⟩
theorem se_ntup {y : Str} {p : Pos} (hy : y = "tuple") (hg : Gl X y) (hx : ∀ e p, x ≠ .Starred e p) (ha : PE X x (TEx g gl cf W B Z0 a)) : PE X (.Call (.Name y p) [x] [] pos) (TEx g gl cf W B Z0 (.ntup a)) := by
  subst hy
  have h1 := starN c (xs := []) (env := X.env) hx
  refine PE.imp (pe_callTy call_tuple_frz hg (c.bts _ (by decide +kernel)) (by decide +kernel) (pa_cons ha pa_nil h1) (by decide) (by decide) h1 rfl) fun σ H Q ⟨env, Z, sr, f⟩ => ?_
  simp only [ev] at f
  refine te_bind sr f fun x v H1 Z1 e1 r1 f1 => ?_
  obtain ⟨xs, hxs, q⟩ := f1.bindN (lstD_nox _)
  have hp := r1.pk
  have hd : x.d = .lst xs := by
    unfold lstD at hxs
    split at hxs
    · rename_i q; cases hxs; exact q
    · cases hxs
  rw [hd] at hp
  obtain ⟨b, vs, rfl, hv, rl⟩ := hp.lst
  refine ⟨b, vs, rfl, by rw [c.K]; exact sqL_of_rd hv, fun l o ho hn => ?_⟩
  have e2 : Ext H1 Z1 (upd H1 l (.frz o (.tup vs))) Z1 := Ext.laid e1.there hn
  exact Out.z q (e1.trans e2) (.ntup upd_same ho (RpL.evo e2.evo (fun _ z => z) _ _ rl))
theorem se_index {o : E} {es : List E} {y z : Expr} {at' : Str} {ap cp : Pos} (hn : at' = "index") (hl : (ap.endLine == cp.line) = true) (ho : PE X y (TEx g gl cf W B Z0 o)) (hy : attributeBase y at' X.env (eval y X.env) = eval y X.env) (hz : ∀ e p, z ≠ .Starred e p) (hs : PA X [z] (TLx g gl cf W B Z0 es)) :
    PE X (.Call (.Attribute y at' ap) [z] [] cp) (TEx g gl cf W B Z0 (.me .index o es)) := by
  subst hn
  have hst := starN c (xs := []) (env := X.env) hz
  refine PE.imp (pe_or c (pe_bm F.plainAttrs_list F.slot_list_index rfl mt_index ho hs hy (by rw [hst]; rfl) hl hst rfl) (pe_bmN F.plainAttrs_tuple F.slot_tuple_index F.type_tuple_index mt_tupN ho hs hy (by rw [hst]; rfl) hl hst rfl)) fun σ H Q ⟨env, Z, sr, f⟩ => ?_
  simp only [ev] at f
  by_cases hnt : ∃ x ns, ev gl cf o env = .ok x ∧ x.d = .ntup ns
  · obtain ⟨x0, xs, hx0, hd0⟩ := hnt
    refine .inr ?_
    unfold tBMN
    refine te_bindE sr f fun x v H1 Z1 ex e1 r1 f1 => ?_
    rw [hx0] at ex; cases ex
    obtain ⟨_, _, f1⟩ := f1.bindN (meT_nox _ _)
    have hp := r1.pk
    rw [hd0] at f1 hp
    obtain ⟨a, ob, vs, rfl, hv, hod, rl⟩ := hp.ntup
    refine ⟨⟨_, _, _, rfl, hv, hod⟩, ?_⟩
    refine tl_bind (sr.ext e1) (f1.step e1) fun ys us H2 Z2 e2 r2 n2 f2 => ?_
    obtain ⟨w, hw, q⟩ := f2.nox (meD_nox _ _ _)
    unfold meD at hw
    split at hw
    · rename_i hc _; cases hc
    · rename_i xs' i _ hxs hys
      cases hxs
      obtain ⟨ns, h1, hw⟩ := bind_okE hw
      obtain ⟨k, h2, hw⟩ := bind_okE hw
      cases hw
      have h1 := of_ok h1
      have h2 := of_ok h2
      have pk := AR.pkl c r2
      rw [hys] at pk
      obtain ⟨u, rfl, pu⟩ := pk.one
      obtain rfl := pu.int
      have hns := RpL.ints rl h1
      subst hns
      obtain ⟨hk1, hk2⟩ := find_idx c h2
      refine ⟨a, ob, ns, i, rfl, rfl, e2.same _ _ hv, hk1, ?_⟩
      rw [hk2]
      exact q.z (e1.trans e2) (.int _)
    · cases hw
  refine .inl ?_
  unfold tBM
  refine te_bindE sr f fun x v H1 Z1 hx e1 r1 f1 => ?_
  obtain ⟨_, ht, f1⟩ := f1.bindN (meT_nox _ _)
  have hp := r1.pk
  cases hd : x.d with
  | lst xs =>
    rw [hd] at f1 hp
    obtain ⟨a, vs, rfl, hv, rl⟩ := hp.lst
    refine ⟨.inl ⟨rfl, _, sqL_of_rd hv⟩, ?_⟩
    refine tl_bind (sr.ext e1) (f1.step e1) fun ys us H2 Z2 e2 r2 n2 f2 => ?_
    obtain ⟨w, hw, q⟩ := f2.nox (meD_nox _ _ _)
    unfold meD at hw
    split at hw
    · rename_i xs' i _ hxs hys
      cases hxs
      obtain ⟨ns, h1, hw⟩ := bind_okE hw
      obtain ⟨k, h2, hw⟩ := bind_okE hw
      cases hw
      have h1 := of_ok h1
      have h2 := of_ok h2
      have pk := AR.pkl c r2
      rw [hys] at pk
      obtain ⟨u, rfl, pu⟩ := pk.one
      obtain rfl := pu.int
      have hns := RpL.ints rl h1
      have hv2 : Rd H2 a (.lst vs) := (e2.evo (Y := fun _ => True)).rd a _ trivial hv
      obtain ⟨⟨z, hz1, hz2⟩, hz3⟩ := find_min c h2
      refine ⟨a, vs, .int i, k, .int z, rfl, rfl, by rw [c.K]; exact sqL_of_rd hv2, rfl, by rw [hns]; exact ints_flat c ns, by rw [hns, List.getElem?_map, hz1]; rfl, ?_, fun m z' hm hz' => ?_, q.z (e1.trans e2) (.int _)⟩
      · show decide (z = i) = true
        exact hz2
      · rw [hns, List.getElem?_map] at hz'
        obtain ⟨n', hn', e⟩ := Option.map_eq_some_iff.mp hz'
        subst e
        exact hz3 m n' hm hn'
    · rename_i xs' i _ hxs hys
      cases hxs
    · cases hw
  | ntup xs => exact absurd ⟨x, xs, hx, hd⟩ hnt
  | _ => rw [hd] at ht; cases ht
theorem rgV_rng (a b : Int) {H : Hp} {Z : Addr → Prop} : RpL g H Z (rgV a b) (rngI a b) := by
  have key : ∀ l : List Nat, RpL g H Z (l.map fun i => V.int (a + (i : Nat))) (l.map fun k => D.int (a + (k : Nat))) := fun l => by
    induction l with
    | nil => exact .nil
    | cons x l ih => exact .cons (.int _) ih
  exact key _
theorem rg_ok {m n : Int} (h : rngOk m n = true) : RgOk m n := by
  simp only [rngOk, Bool.and_eq_true, decide_eq_true_eq] at h
  exact ⟨h.1.1.1.1, h.1.1.1.2, h.1.1.2, h.1.2, h.2⟩
theorem se_never {x : Expr} : PE X x (TEx g gl cf W B Z0 .never) := ⟨fun pins s σ H Q I ⟨env, Z, sr, f⟩ => f.elim⟩
theorem fnS_nox (env : En) (i : Nat) : NoX (fnS env i) := by unfold fnS; split <;> first | exact .ok | exact .stk
theorem se_callv {i : Nat} {es : List E} {xs : List Expr} {y : Str} {p : Pos} (h : (decide (X.N[i]? = some y) && visB X.env.scope y && okN y) = true) (hx : ∀ x ∈ xs, ∀ e p, x ≠ .Starred e p) (hz : xs = [] → es = []) (hs : PA X xs (TLx g gl cf W B Z0 es)) : PE X (.Call (.Name y p) xs [] pos) (TEx g gl cf W B Z0 (.callv i es)) := by
  simp only [Bool.and_eq_true, decide_eq_true_eq] at h
  obtain ⟨⟨h1, h2⟩, h3⟩ := h
  obtain ⟨k1, k2, k3⟩ := okN_of h3
  refine ⟨fun pins s σ H Q I ⟨env, Z, sr, fq⟩ => ?_⟩
  simp only [ev] at fq
  obtain ⟨f, hf, fq⟩ := fq.bindN (fnS_nox c env i)
  have hsl : env[i]? = some (some (.v (.fn f))) := by
    unfold fnS at hf
    split at hf
    · cases hf; assumption
    · cases hf
  obtain ⟨v, hv, rv⟩ := sr.sl i _ hsl
  have hv' : v = .ref (g.fa f) ∧ f < g.nf := by cases rv with | fn _ h => exact ⟨rfl, h⟩
  obtain ⟨hv', hlt⟩ := hv'
  subst hv'
  refine wpAny_Call_Name_kw (thn ((pe_var (pos := p) h1 (vis_of h2) k1 k2).run pins s σ H (fun w H1 => w = .ref (g.fa f) ∧ H1 = H) I ⟨_, hv, rfl, rfl⟩) fun u s0 ⟨w, H0, I0, r0, ew, eH⟩ => ?_)
  subst ew eH
  obtain rfl : u = Value.ref (g.fa f) := r0
  cases hd : T[f]? with
  | none =>
    rw [c.nfT] at hlt
    rw [List.getElem?_eq_getElem hlt] at hd
    cases hd
  | some d =>
  obtain ⟨m, kp, fd, hb, F⟩ := c.fns f d hd
  have post : ∀ {P : List V → Hp → Prop}, (∀ vs H1, spF g cf d.np f vs H1 Q (fun cls dd H' => W cls dd σ H') → P vs H1) → TLx g gl cf W B Z0 es σ H0 P := fun {P} k => by
    refine tl_bind sr fq fun ys vs H1 Z1 e1 r1 n1 f1 => k vs H1 ?_
    by_cases hl : ys.length = d.np
    · exact call_fin c e1 r1 hl f1
    · have f1 : Fin g W σ H0 Z ((cf f (ys.map EV.d)).bind fun r => match r with
        | .b _ => .stk
        | r => if ys.any EV.lent then (if r.d.pure then .ok r else .stk) else .ok r) (Out g H0 Z Q) := f1
      rw [c.cfl f d _ hd (by rw [List.length_map]; exact hl)] at f1
      exact f1.elim
  cases xs with
  | nil =>
    refine PySem.W.callWith_K0 I0.kIn kp ?_
    have q : spF g cf d.np f [] H0 Q (WE W σ) := by
      obtain ⟨env', Z', sr', fq'⟩ := post (P := fun vs H1 => vs = [] → spF g cf d.np f [] H1 Q (WE W σ)) fun vs H1 q e => by subst e; exact q
      obtain rfl := hz rfl
      exact fq' [] H0 Z' sr'.refl trivial .nil rfl
    exact run_fnS (us := []) F c.room hb (L2N.passAt c.tk σ) I0 .nil q
  | cons x xs =>
    refine PySem.W.callWith_K (h₀ := X.base) I0.ok.mod.kin kp (thn (hs.run pos pins s0 σ H0 _ I0 (post fun vs H1 q => q)) fun us s1 ⟨vs, H1, I1, r, q⟩ => ⟨I1.kIn, ?_⟩) (starN c (hx x List.mem_cons_self)) (star0 c pos fun y hy => hx y (List.mem_cons_of_mem _ hy))
    exact run_fnS F c.room hb (L2N.passAt c.tk σ) I1 r q
end
end
end NH
set_option Elab.async false
set_option linter.all false
set_option maxRecDepth 100000
set_option maxHeartbeats 2000000
/-! NHf: what is walked; comprehensions; all expressions. -/
namespace NH
open PySem PySem.Spec PyProof.Rows L2

/-- an iterator that gives the data, whatever comes between -/
def ItR (g : Ga) (H : Hp) (Z : Addr → Prop) (J : L2.It) (ds : List D) : Prop := ∀ H1 Z1, Evo Z H H1 → (∀ a, Z a → Z1 a) → (∀ a, Z1 a → H1 a ≠ none) →
  (∀ (i : Nat) d, ds[i]? = some d → J.go i H1 ∧ ∀ x H2, J.yld i H1 x H2 → Ext H1 Z1 H2 Z1 ∧ Rp g H2 Z1 x d) ∧ J.stop ds.length H1
theorem ItR.lst {g : Ga} {H : Hp} {Z : Addr → Prop} {a : Addr} {vs : List V} {ds : List D} (z : Z a) (h : Rd H a (.lst vs)) (r : RpL g H Z vs ds) : ItR g H Z (Itl g.K a) ds := fun H1 Z1 ev hz zz => by
  have h1 : Rd H1 a (.lst vs) := ev.rd _ _ z h
  refine ⟨fun i d hd => ?_, ⟨vs, sqL_of_rd h1, Nat.le_of_eq r.length⟩⟩
  obtain ⟨v, hv, rv⟩ := r.get hd
  refine ⟨⟨vs, v, sqL_of_rd h1, hv⟩, fun x H2 y => ?_⟩
  obtain ⟨e, y⟩ := y
  subst e
  have := y vs (sqL_of_rd h1)
  rw [hv] at this; cases this
  exact ⟨Ext.refl zz, Rp.evo ev hz _ _ rv⟩
theorem ItR.tup {g : Ga} {H : Hp} {Z : Addr → Prop} {a : Addr} {vs : List V} {ds : List D} (h : H a = some (.tup vs) ∨ SqT g.K (fun _ => none) a vs) (r : RpL g H Z vs ds) : ItR g H Z (Itt g.K a) ds := fun H1 Z1 ev hz zz => by
  have h1 : SqT g.K H1 a vs := by
    rcases h with h | h
    · exact .of (ev.tup _ _ h)
    · exact sqT_none h
  refine ⟨fun i d hd => ?_, ⟨vs, h1, Nat.le_of_eq r.length⟩⟩
  obtain ⟨v, hv, rv⟩ := r.get hd
  refine ⟨⟨vs, v, h1, hv⟩, fun x H2 y => ?_⟩
  obtain ⟨e, y⟩ := y
  subst e
  have := y vs h1
  rw [hv] at this; cases this
  exact ⟨Ext.refl zz, Rp.evo ev hz _ _ rv⟩
theorem ItR.str {g : Ga} {H : Hp} {Z : Addr → Prop} (s : Str) : ItR g H Z (Its s) (s.cps.toList.map fun c => .str ⟨#[c]⟩) := fun H1 Z1 ev hz zz => by
  refine ⟨fun i d hd => ?_, ?_⟩
  · rw [List.getElem?_map] at hd
    obtain ⟨c, hc, rfl⟩ := Option.map_eq_some_iff.mp hd
    have hc' : s.cps[i]? = some c := by simpa using hc
    refine ⟨(Array.getElem?_eq_some_iff.mp hc').1, fun x H2 y => ?_⟩
    obtain ⟨e, c', h1, h2⟩ := y
    subst e
    subst h2
    rw [hc'] at h1; cases h1
    exact ⟨Ext.refl zz, .str _ (by show 1 ≤ sizeLine; rw [sizeLine_eq]; decide)⟩
  · show s.cps.size ≤ _
    simp
theorem rngI_get {lo hi : Int} {i : Nat} {d : D} (h : (rngI lo hi)[i]? = some d) : i < (hi - lo).toNat ∧ d = .int (lo + (i : Nat)) := by
  unfold rngI at h
  rw [List.getElem?_map] at h
  obtain ⟨k, hk, rfl⟩ := Option.map_eq_some_iff.mp h
  obtain ⟨h1, h2⟩ := List.getElem?_eq_some_iff.mp hk
  rw [List.getElem_range] at h2
  subst h2
  exact ⟨by simpa using h1, rfl⟩
theorem ItR.rng {g : Ga} {H : Hp} {Z : Addr → Prop} (lo hi : Int) : ItR g H Z (Itr lo (hi - lo).toNat) (rngI lo hi) := fun H1 Z1 ev hz zz => by
  refine ⟨fun i d hd => ?_, ?_⟩
  · obtain ⟨h1, rfl⟩ := rngI_get hd
    refine ⟨h1, fun x H2 y => ?_⟩
    obtain ⟨e, rfl⟩ := y
    subst e
    exact ⟨Ext.refl zz, .int _⟩
  · show (hi - lo).toNat ≤ (rngI lo hi).length
    unfold rngI
    simp
theorem enumD_get : ∀ {n : Nat} {xs : List D} {i : Nat} {d : D}, (enumD n xs)[i]? = some d → ∃ x, xs[i]? = some x ∧ d = .tup [.int ((n + i : Nat) : Int), x]
  | _, [], _, _, h => by simp [enumD] at h
  | n, x :: xs, 0, d, h => by
    simp only [enumD, List.getElem?_cons_zero, Option.some.injEq] at h
    exact ⟨x, rfl, h.symm⟩
  | n, x :: xs, i + 1, d, h => by
    simp only [enumD, List.getElem?_cons_succ] at h
    obtain ⟨y, h1, h2⟩ := enumD_get h
    refine ⟨y, by simpa using h1, ?_⟩
    rw [h2]
    have : n + 1 + i = n + (i + 1) := by omega
    rw [this]
theorem enumD_len : ∀ (n : Nat) (xs : List D), (enumD n xs).length = xs.length
  | _, [] => rfl
  | n, x :: xs => by simp [enumD, enumD_len (n + 1) xs]
theorem ItR.enum {g : Ga} {H : Hp} {Z : Addr → Prop} {a : Addr} {vs : List V} {ds : List D} (z : Z a) (h : Rd H a (.lst vs)) (r : RpL g H Z vs ds) : ItR g H Z (Ite g.K a) (enumD 0 ds) := fun H1 Z1 ev hz zz => by
  have h1 : Rd H1 a (.lst vs) := ev.rd _ _ z h
  refine ⟨fun i d hd => ?_, ⟨vs, sqL_of_rd h1, by rw [enumD_len, r.length]; exact Nat.le_refl _⟩⟩
  obtain ⟨x, hx, rfl⟩ := enumD_get hd
  obtain ⟨v, hv, rv⟩ := r.get hx
  refine ⟨⟨vs, v, sqL_of_rd h1, hv⟩, fun w H2 y => ?_⟩
  obtain ⟨T, x', rfl, nT, e, y⟩ := y
  subst e
  have := y vs (sqL_of_rd h1)
  rw [hv] at this; cases this
  have el : Ext H1 Z1 (upd H1 T (.tup [.int (i : Nat), v])) Z1 := Ext.laid zz nT
  refine ⟨el, .tup upd_same (.cons ?_ (.cons (Rp.evo el.evo el.mono _ _ (Rp.evo ev hz _ _ rv)) .nil))⟩
  rw [Nat.zero_add]
  exact .int _
theorem ItR.enumT {g : Ga} {H : Hp} {Z : Addr → Prop} {a : Addr} {vs : List V} {ds : List D} (h : H a = some (.tup vs)) (r : RpL g H Z vs ds) : ItR g H Z (IteT g.K a) (enumD 0 ds) := fun H1 Z1 ev hz zz => by
  have h1 : H1 a = some (.tup vs) := ev.tup _ _ h
  refine ⟨fun i d hd => ?_, ⟨vs, .of h1, by rw [enumD_len, r.length]⟩⟩
  obtain ⟨x, hx, rfl⟩ := enumD_get hd
  obtain ⟨v, hv, rv⟩ := r.get hx
  refine ⟨⟨vs, v, .of h1, hv⟩, fun w H2 y => ?_⟩
  obtain ⟨T, x', rfl, nT, e, y⟩ := y
  subst e
  have := y vs (.of h1)
  rw [hv] at this; cases this
  have el : Ext H1 Z1 (upd H1 T (.tup [.int (i : Nat), v])) Z1 := Ext.laid zz nT
  refine ⟨el, .tup upd_same (.cons ?_ (.cons (Rp.evo el.evo el.mono _ _ (Rp.evo ev hz _ _ rv)) .nil))⟩
  rw [Nat.zero_add]
  exact .int _
theorem zipD_get : ∀ {xs ys : List D} {i : Nat} {d : D}, (zipD xs ys)[i]? = some d → ∃ x y, xs[i]? = some x ∧ ys[i]? = some y ∧ d = .tup [x, y]
  | [], _, _, _, h => by simp [zipD] at h
  | _ :: _, [], _, _, h => by simp [zipD] at h
  | x :: xs, y :: ys, 0, d, h => by
    simp only [zipD, List.getElem?_cons_zero, Option.some.injEq] at h
    exact ⟨x, y, rfl, rfl, h.symm⟩
  | x :: xs, y :: ys, i + 1, d, h => by
    simp only [zipD, List.getElem?_cons_succ] at h
    simpa using zipD_get h
theorem zipD_len : ∀ (xs ys : List D), (zipD xs ys).length = min xs.length ys.length
  | [], _ => by simp [zipD]
  | _ :: _, [] => by simp [zipD]
  | x :: xs, y :: ys => by simp [zipD, zipD_len xs ys]
theorem ItR.zip {g : Ga} {H : Hp} {Z : Addr → Prop} {a b : Addr} {vs ws : List V} {ds es : List D} (z : Z a) (h : Rd H a (.lst vs)) (r : RpL g H Z vs ds) (z2 : Z b) (h2 : Rd H b (.lst ws)) (r2 : RpL g H Z ws es) : ItR g H Z (Itz g.K a b) (zipD ds es) := fun H1 Z1 ev hz zz => by
  have h1 : Rd H1 a (.lst vs) := ev.rd _ _ z h
  have h3 : Rd H1 b (.lst ws) := ev.rd _ _ z2 h2
  refine ⟨fun i d hd => ?_, ⟨vs, ws, sqL_of_rd h1, sqL_of_rd h3, by rw [zipD_len, r.length, r2.length]; omega⟩⟩
  obtain ⟨x, y, hx, hy, rfl⟩ := zipD_get hd
  obtain ⟨v, hv, rv⟩ := r.get hx
  obtain ⟨w, hw, rw'⟩ := r2.get hy
  refine ⟨⟨vs, ws, v, w, sqL_of_rd h1, sqL_of_rd h3, hv, hw⟩, fun u H2 yy => ?_⟩
  obtain ⟨T, x', y', rfl, nT, e, y1, y2⟩ := yy
  subst e
  have q1 := y1 vs (sqL_of_rd h1)
  have q2 := y2 ws (sqL_of_rd h3)
  rw [hv] at q1; cases q1
  rw [hw] at q2; cases q2
  have el : Ext H1 Z1 (upd H1 T (.tup [v, w])) Z1 := Ext.laid zz nT
  exact ⟨el, .tup upd_same (.cons (Rp.evo el.evo el.mono _ _ (Rp.evo ev hz _ _ rv)) (.cons (Rp.evo el.evo el.mono _ _ (Rp.evo ev hz _ _ rw')) .nil))⟩

theorem ItR.zipT {g : Ga} {H : Hp} {Z : Addr → Prop} {a b : Addr} {vs ws : List V} {ds es : List D} (h : H a = some (.tup vs)) (r : RpL g H Z vs ds) (h2 : H b = some (.tup ws)) (r2 : RpL g H Z ws es) : ItR g H Z (RZ.ItzT g.K a b) (zipD ds es) := fun H1 Z1 ev hz zz => by
  have h1 := ev.tup _ _ h
  have h3 := ev.tup _ _ h2
  refine ⟨fun i d hd => ?_, ⟨vs, ws, .of h1, .of h3, by rw [zipD_len, r.length, r2.length]; omega⟩⟩
  obtain ⟨x, y, hx, hy, rfl⟩ := zipD_get hd
  obtain ⟨v, hv, rv⟩ := r.get hx
  obtain ⟨w, hw, rw'⟩ := r2.get hy
  refine ⟨⟨vs, ws, v, w, .of h1, .of h3, hv, hw⟩, fun u H2 yy => ?_⟩
  obtain ⟨T, x', y', rfl, nT, e, y1, y2⟩ := yy
  subst e
  have q1 := y1 vs (.of h1)
  have q2 := y2 ws (.of h3)
  rw [hv] at q1; cases q1
  rw [hw] at q2; cases q2
  have el : Ext H1 Z1 (upd H1 T (.tup [v, w])) Z1 := Ext.laid zz nT
  exact ⟨el, .tup upd_same (.cons (Rp.evo el.evo el.mono _ _ (Rp.evo ev hz _ _ rv)) (.cons (Rp.evo el.evo el.mono _ _ (Rp.evo ev hz _ _ rw')) .nil))⟩

section
variable (g : Ga) (gl : List D) (cf : Nat → List D → R EV) (W : WX) (B : Hp) (Z0 : Addr → Prop)
def TIx (e : E) : TI := fun σ H R' => ∃ env Z, SR g B Z0 env Z σ H ∧ Fin g W σ H Z ((ev gl cf e env).bind fun x => (x.keep).bind fun d => seqD d) (fun ds => ∀ J H' Z', Ext H Z H' Z' → ItR g H' Z' J ds → R' J H')
end
section
variable {g : Ga} {gl : List D} {t : Tx} {T : List Df} {cf : Nat → List D → R EV} {n : Nat} {W : WX} {X : Cx} {B : Hp} {Z0 : Addr → Prop} {pos : Pos}
variable (c : Ct g gl t T cf n W X)
include c
variable {a b : E} {x y tg : Expr}
theorem si_seq (ha : PE X x (TEx g gl cf W B Z0 a)) : PI X tg x (TIx g gl cf W B Z0 (.seq a)) := by
  refine ⟨fun pins s σ H R' I h => ?_⟩
  obtain ⟨env, Z, sr, f⟩ := h
  simp only [ev, R.bind_assoc] at f
  -- the reading of the walked thing, by its kind
  have mk : ∀ {P : VK}, (∀ x v H1 Z1 d ds, ev gl cf a env = .ok x → x.keep = .ok d → seqD d = .ok ds → (∀ J H' Z', Ext H Z H' Z' → ItR g H' Z' J ds → R' J H') → Ext H Z H1 Z1 → Rp g H1 Z1 v d → P v H1) → TEx g gl cf W B Z0 a σ H P := fun {P} k => te_bindE sr f fun x v H1 Z1 hx e1 r1 f1 => by
    obtain ⟨d, hd, f1⟩ := f1.bindN (keep_nox _)
    simp only [EV.keep, R.bind_ok] at f1
    obtain ⟨ds, hds, f1⟩ := f1.nox (seqD_nox _)
    obtain ⟨Z2, e2, _, _, _, r2⟩ := EVr.keep e1 r1 hd
    exact k x v H1 Z2 d ds hx hd hds f1 e2 r2
  cases hx : ev gl cf a env with
  | exc _ _ => exact (pi_list ha).run pins s σ H R' I (mk fun x v H1 Z1 d ds e => by rw [hx] at e; cases e)
  | stk => exact (pi_list ha).run pins s σ H R' I (mk fun x v H1 Z1 d ds e => by rw [hx] at e; cases e)
  | ok x =>
    cases hd : x.keep with
    | exc _ _ => exact (pi_list ha).run pins s σ H R' I (mk fun x' v H1 Z1 d ds e k => by rw [hx] at e; cases e; rw [hd] at k; cases k)
    | stk => exact (pi_list ha).run pins s σ H R' I (mk fun x' v H1 Z1 d ds e k => by rw [hx] at e; cases e; rw [hd] at k; cases k)
    | ok d =>
      have mk2 : ∀ {P : VK}, (∀ v H1 Z1 ds, seqD d = .ok ds → (∀ J H' Z', Ext H Z H' Z' → ItR g H' Z' J ds → R' J H') → Ext H Z H1 Z1 → Rp g H1 Z1 v d → P v H1) → TEx g gl cf W B Z0 a σ H P := fun {P} k => mk fun x' v H1 Z1 d' ds e k1 => by
        rw [hx] at e; cases e; rw [hd] at k1; cases k1
        exact k v H1 Z1 ds
      clear mk
      cases d with
      | tup xs =>
        refine (pi_tup ha).run pins s σ H R' I (mk2 fun v H1 Z1 ds e q e1 r => ?_)
        cases e
        cases r with
        | tup h r => exact ⟨_, rfl, ⟨_, .of h⟩, by rw [c.K]; exact q _ H1 Z1 e1 (.tup (.inl h) r)⟩
      | ktup xs =>
        refine (pi_tup ha).run pins s σ H R' I (mk2 fun v H1 Z1 ds e q e1 r => ?_)
        cases e
        cases r with
        | ktup h r => exact ⟨_, rfl, ⟨_, by rw [c.K]; exact sqT_none h⟩, by rw [c.K]; exact q _ H1 Z1 e1 (.tup (.inr h) r)⟩
      | lst xs =>
        refine (pi_list ha).run pins s σ H R' I (mk2 fun v H1 Z1 ds e q e1 r => ?_)
        cases e
        cases r with
        | lst z h r => exact ⟨_, rfl, ⟨_, sqL_of_rd h⟩, by rw [c.K]; exact q _ H1 Z1 e1 (.lst z h r)⟩
      | str z =>
        refine (pi_str ha).run pins s σ H R' I (mk2 fun v H1 Z1 ds e q e1 r => ?_)
        cases e
        cases r
        exact ⟨_, rfl, q _ H1 Z1 e1 (.str z)⟩
      | non => exact (pi_list ha).run pins s σ H R' I (mk2 fun v H1 Z1 ds e => by cases e)
      | bl _ => exact (pi_list ha).run pins s σ H R' I (mk2 fun v H1 Z1 ds e => by cases e)
      | int _ => exact (pi_list ha).run pins s σ H R' I (mk2 fun v H1 Z1 ds e => by cases e)
      | dk _ _ => exact (pi_list ha).run pins s σ H R' I (mk2 fun v H1 Z1 ds e => by cases e)
      | dt _ _ => exact (pi_list ha).run pins s σ H R' I (mk2 fun v H1 Z1 ds e => by cases e)
      | klst _ => exact (pi_list ha).run pins s σ H R' I (mk2 fun v H1 Z1 ds e => by cases e)
      | ntup _ => exact (pi_list ha).run pins s σ H R' I (mk2 fun v H1 Z1 ds e => by cases e)
      | fn _ => exact (pi_list ha).run pins s σ H R' I (mk2 fun v H1 Z1 ds e => by cases e)
      | cl _ => exact (pi_list ha).run pins s σ H R' I (mk2 fun v H1 Z1 ds e => by cases e)
theorem rngOk_of {m n : Int} (h : rngOk m n = true) : -(2 ^ 62) ≤ m ∧ m < 2 ^ 62 ∧ -(2 ^ 62) ≤ n ∧ n < 2 ^ 62 := by
  simp only [rngOk, Bool.and_eq_true, decide_eq_true_eq] at h
  exact ⟨h.1.1.1.1, h.1.1.1.2, h.1.1.2, h.1.2⟩
theorem int_of {H : Hp} {Z : Addr → Prop} {v : V} {d : D} {i : Int} (p : Pk g H Z v d) (h : R.of d.int? = .ok i) : v = .int i := by
  have h := of_ok h
  cases d <;> simp only [D.int?] at h <;> cases h
  exact p.int
theorem se_rl1 {tu : Bool} {fn y : Str} {p p2 pos2 : Pos} (hf : fn = if tu then "tuple" else "list") (hg : Gl X fn) (hy : y = "range") (hg2 : Gl X y) (hx : ∀ e p, x ≠ .Starred e p) (ha : PE X x (TEx g gl cf W B Z0 a)) :
    PE X (.Call (.Name fn p) [.Call (.Name y p2) [x] [] pos2] [] pos) (TEx g gl cf W B Z0 (.rl1 tu a)) := by
  subst hy
  have h1 := starN c (xs := []) (env := X.env) hx
  have h2 := starN c (x := .Call (.Name "range" p2) [x] [] pos2) (xs := []) (env := X.env) fun _ _ q => nomatch q
  cases tu with
  | true =>
    subst hf
    refine PE.imp (pe_tupRg c.calm hg (c.bts _ (by decide +kernel)) (prg_1 hg2 (c.bts _ (by decide +kernel)) ha h1) h2) fun σ H Q ⟨env, Z, sr, f⟩ => ?_
    simp only [ev] at f
    refine te_bind sr f fun x v H1 Z1 e1 r1 f1 => ?_
    obtain ⟨m, hm, f1⟩ := f1.bindN .of
    split at f1
    · rename_i hr
      exact ⟨m, int_of c r1.pk hm, rg_ok c hr, f1.tup e1 (rgV_rng c 0 m)⟩
    · exact f1.elim
  | false =>
    subst hf
    refine PE.imp (pe_listRg c.calm hg (c.bts _ (by decide +kernel)) (prg_1 hg2 (c.bts _ (by decide +kernel)) ha h1) h2) fun σ H Q ⟨env, Z, sr, f⟩ => ?_
    simp only [ev] at f
    refine te_bind sr f fun x v H1 Z1 e1 r1 f1 => ?_
    obtain ⟨m, hm, f1⟩ := f1.bindN .of
    split at f1
    · rename_i hr
      exact ⟨m, int_of c r1.pk hm, rg_ok c hr, f1.lst e1 (rgV_rng c 0 m)⟩
    · exact f1.elim
theorem se_rl2 {tu : Bool} {fn y : Str} {z : Expr} {p p2 pos2 : Pos} (hf : fn = if tu then "tuple" else "list") (hg : Gl X fn) (hy : y = "range") (hg2 : Gl X y) (hx : ∀ e p, x ≠ .Starred e p) (hz : ∀ e p, z ≠ .Starred e p) (ha : PE X x (TEx g gl cf W B Z0 a)) (hb : PE X z (TEx g gl cf W B Z0 b)) :
    PE X (.Call (.Name fn p) [.Call (.Name y p2) [x, z] [] pos2] [] pos) (TEx g gl cf W B Z0 (.rl2 tu a b)) := by
  subst hy
  have h0 := starN c (xs := [z]) (env := X.env) hx
  have h1 := starN c (xs := []) (env := X.env) hz
  have h2 := starN c (x := .Call (.Name "range" p2) [x, z] [] pos2) (xs := []) (env := X.env) fun _ _ q => nomatch q
  cases tu with
  | true =>
    subst hf
    refine PE.imp (pe_tupRg c.calm hg (c.bts _ (by decide +kernel)) (prg_2 hg2 (c.bts _ (by decide +kernel)) ha hb h0 h1 (by rw [h1]; rfl)) h2) fun σ H Q ⟨env, Z, sr, f⟩ => ?_
    simp only [ev] at f
    refine te_bind sr f fun x v H1 Z1 e1 r1 f1 => te_bind (sr.ext e1) (f1.step e1) fun y w H2 Z2 e2 r2 f2 => ?_
    obtain ⟨m, hm, f2⟩ := f2.bindN .of
    obtain ⟨n', hn, f2⟩ := f2.bindN .of
    split at f2
    · rename_i hr
      exact ⟨m, n', int_of c r1.pk hm, int_of c r2.pk hn, rg_ok c hr, f2.tup (e1.trans e2) (rgV_rng c m n')⟩
    · exact f2.elim
  | false =>
    subst hf
    refine PE.imp (pe_listRg c.calm hg (c.bts _ (by decide +kernel)) (prg_2 hg2 (c.bts _ (by decide +kernel)) ha hb h0 h1 (by rw [h1]; rfl)) h2) fun σ H Q ⟨env, Z, sr, f⟩ => ?_
    simp only [ev] at f
    refine te_bind sr f fun x v H1 Z1 e1 r1 f1 => te_bind (sr.ext e1) (f1.step e1) fun y w H2 Z2 e2 r2 f2 => ?_
    obtain ⟨m, hm, f2⟩ := f2.bindN .of
    obtain ⟨n', hn, f2⟩ := f2.bindN .of
    split at f2
    · rename_i hr
      exact ⟨m, n', int_of c r1.pk hm, int_of c r2.pk hn, rg_ok c hr, f2.lst (e1.trans e2) (rgV_rng c m n')⟩
    · exact f2.elim
theorem si_rng1 {y : Str} {p : Pos} (hy : y = "range") (hg : Gl X y) (hx : ∀ e p, x ≠ .Starred e p) (ha : PE X x (TEx g gl cf W B Z0 a)) : PI X tg (.Call (.Name y p) [x] [] pos) (TIx g gl cf W B Z0 (.rng1 a)) := by
  subst hy
  have he := starN c (xs := []) (env := X.env) hx
  refine ⟨fun pins s σ H R' I h => (pi_range1 hg (c.bts _ (by decide +kernel)) (pa_cons ha pa_nil he) he).run pins s σ H R' I ?_⟩
  obtain ⟨env, Z, sr, f⟩ := h
  simp only [ev, R.bind_assoc] at f
  refine te_bind sr f fun x v H1 Z1 e1 r1 f1 => ?_
  obtain ⟨m, hm, f1⟩ := f1.bindN .of
  split at f1
  · rename_i hr
    obtain ⟨_, _, k1, k2⟩ := rngOk_of c hr
    simp only [R.bind_ok, EV.keep, seqD] at f1
    have q := f1 (Itr 0 (m - 0).toNat) H1 Z1 e1 (ItR.rng 0 m)
    rw [Int.sub_zero] at q
    exact ⟨m, by rw [int_of c r1.pk hm], k1, k2, q⟩
  · exact f1.elim
theorem si_rng2 {y : Str} {z : Expr} {p : Pos} (hy : y = "range") (hg : Gl X y) (hx : ∀ e p, x ≠ .Starred e p) (hz : ∀ e p, z ≠ .Starred e p) (ha : PE X x (TEx g gl cf W B Z0 a)) (hb : PE X z (TEx g gl cf W B Z0 b)) : PI X tg (.Call (.Name y p) [x, z] [] pos) (TIx g gl cf W B Z0 (.rng2 a b)) := by
  subst hy
  have he := starN c (xs := [z]) (env := X.env) hx
  have he2 := starN c (xs := []) (env := X.env) hz
  refine ⟨fun pins s σ H R' I h => (pi_range2 hg (c.bts _ (by decide +kernel)) (pa_cons ha (pa_cons hb pa_nil he2) he) (by rw [he, he2]; rfl) he2).run pins s σ H R' I ?_⟩
  obtain ⟨env, Z, sr, f⟩ := h
  simp only [ev, R.bind_assoc] at f
  refine te_bind sr f fun x v H1 Z1 e1 r1 f1 => te_bind (sr.ext e1) (f1.step e1) fun y w H2 Z2 e2 r2 f2 => ?_
  obtain ⟨m, hm, f2⟩ := f2.bindN .of
  obtain ⟨n', hn, f2⟩ := f2.bindN .of
  split at f2
  · rename_i hr
    simp only [R.bind_ok, EV.keep, seqD] at f2
    exact ⟨m, n', by rw [int_of c r1.pk hm, int_of c r2.pk hn], rngOk_of c hr, f2 _ H2 Z2 (e1.trans e2) (ItR.rng m n')⟩
  · exact f2.elim
theorem si_enum {y : Str} {elts : List Expr} {kk : Nat} {tpos p : Pos} (hy : y = "enumerate") (hg : Gl X y) (hx : ∀ e p, x ≠ .Starred e p) (ha : PE X x (TEx g gl cf W B Z0 a)) : PI X (.Tuple elts kk tpos) (.Call (.Name y p) [x] [] pos) (TIx g gl cf W B Z0 (.enum a)) := by
  subst hy
  have he := starN c (xs := []) (env := X.env) hx
  refine ⟨fun pins s σ H R' I h => ?_⟩
  obtain ⟨env, Z, sr, f⟩ := h
  simp only [ev, R.bind_assoc] at f
  by_cases ht : ∃ x0 xs, ev gl cf a env = .ok x0 ∧ x0.keep = .ok (.tup xs)
  · obtain ⟨x0, xs, hx0, hk0⟩ := ht
    refine (pi_enumT hg (c.bts _ (by decide +kernel)) (pa_cons ha pa_nil he) he).run pins s σ H R' I ?_
    refine te_bindE sr f fun x v H1 Z1 ex e1 r1 f1 => ?_
    rw [hx0] at ex; cases ex
    obtain ⟨d, hd, f1⟩ := f1.bindN (keep_nox _)
    rw [hk0] at hd; cases hd
    obtain ⟨Z2, e2, _, _, _, r2⟩ := EVr.keep e1 r1 hk0
    simp only [enuD, R.bind_ok, EV.keep, seqD] at f1
    cases r2 with
    | tup h r => exact ⟨_, _, rfl, .of h, by rw [c.K]; exact f1 _ H1 Z2 e2 (.enumT h r)⟩
  · refine (pi_enum hg (c.bts _ (by decide +kernel)) (pa_cons ha pa_nil he) he).run pins s σ H R' I ?_
    refine te_bindE sr f fun x v H1 Z1 ex e1 r1 f1 => ?_
    obtain ⟨d, hd, f1⟩ := f1.bindN (keep_nox _)
    obtain ⟨Z2, e2, _, _, _, r2⟩ := EVr.keep e1 r1 hd
    cases d with
    | lst xs =>
      simp only [enuD, R.bind_ok, EV.keep, seqD] at f1
      cases r2 with
      | lst z h r => exact ⟨_, _, rfl, sqL_of_rd h, by rw [c.K]; exact f1 _ H1 Z2 e2 (.enum z h r)⟩
    | tup xs => exact absurd ⟨x, xs, ex, hd⟩ ht
    | _ => exact f1.elim
theorem si_zip {y : Str} {z : Expr} {elts : List Expr} {kk : Nat} {tpos p : Pos} (hy : y = "zip") (hg : Gl X y) (hx : ∀ e p, x ≠ .Starred e p) (hz : ∀ e p, z ≠ .Starred e p) (ha : PE X x (TEx g gl cf W B Z0 a)) (hb : PE X z (TEx g gl cf W B Z0 b)) : PI X (.Tuple elts kk tpos) (.Call (.Name y p) [x, z] [] pos) (TIx g gl cf W B Z0 (.zip a b)) := by
  subst hy
  have he := starN c (xs := [z]) (env := X.env) hx
  have he2 := starN c (xs := []) (env := X.env) hz
  refine ⟨fun pins s σ H R' I h => (RZ.pi_zipA hg (c.bts _ (by decide +kernel)) (pa_cons ha (pa_cons hb pa_nil he2) he) he (by rw [he2]; rfl)).run pins s σ H R' I ?_⟩
  obtain ⟨env, Z, sr, f⟩ := h
  simp only [ev, R.bind_assoc] at f
  refine te_bind sr f fun x v H1 Z1 e1 r1 f1 => ?_
  obtain ⟨d, hd, f1⟩ := f1.bindN (keep_nox _)
  obtain ⟨Z2, e2, _, _, _, r2⟩ := EVr.keep e1 r1 hd
  refine te_bind (sr.ext e2) (f1.step e2) fun y w H3 Z3 e3 r3 f3 => ?_
  obtain ⟨d', hd', f3⟩ := f3.bindN (keep_nox _)
  obtain ⟨Z4, e4, _, _, _, r4⟩ := EVr.keep e3 r3 hd'
  have r2' := Rp.evo e4.evo e4.mono _ _ r2
  unfold zipQ at f3
  split at f3
  · simp only [R.bind_ok, EV.keep, seqD] at f3
    cases r2' with
    | lst z h r =>
      cases r4 with
      | lst z' h' r' => exact ⟨_, _, _, _, rfl, .inl ⟨sqL_of_rd h, sqL_of_rd h', by rw [c.K]; exact f3 _ H3 Z4 (e2.trans e4) (.zip z h r z' h' r')⟩⟩
  · simp only [R.bind_ok, EV.keep, seqD] at f3
    cases r2' with
    | tup h r =>
      cases r4 with
      | tup h' r' => exact ⟨_, _, _, _, rfl, .inr ⟨.of h, .of h', by rw [c.K]; exact f3 _ H3 Z4 (e2.trans e4) (.zipT h r h' r')⟩⟩
  · exact f3.elim
end
end NH
set_option Elab.async false
set_option linter.all false
set_option maxRecDepth 100000
set_option maxHeartbeats 2000000
/-! NHg: targets; comprehensions. -/
namespace NH
open PySem PySem.Spec PyProof.Rows L2

/-! ### slots forgotten -/
theorem wipe_get {σ : St} {j : Nat} : ∀ {vs : List Nat}, (wipe σ vs)[j]? = if j ∈ vs then (if j < σ.length then some none else none) else σ[j]?
  | [] => by simp [wipe]
  | v :: vs => by
    unfold wipe
    by_cases h : v = j
    · subst h
      rw [List.getElem?_set]
      simp [wipe_length]
    · rw [List.getElem?_set_ne h, wipe_get]
      have : (j ∈ v :: vs) ↔ j ∈ vs := by simp [Ne.symm h]
      simp only [this]
theorem wipeE_get {env : En} {j : Nat} : ∀ {vs : List Nat}, (wipeE env vs)[j]? = if j ∈ vs then (if j < env.length then some none else none) else env[j]?
  | [] => by simp [wipeE]
  | v :: vs => by
    have len : ∀ vs : List Nat, (wipeE env vs).length = env.length := fun vs => by
      induction vs with
      | nil => rfl
      | cons v vs ih => unfold wipeE; rw [List.length_set, ih]
    unfold wipeE
    by_cases h : v = j
    · subst h
      rw [List.getElem?_set]
      simp [len]
    · rw [List.getElem?_set_ne h, wipeE_get]
      have : (j ∈ v :: vs) ↔ j ∈ vs := by simp [Ne.symm h]
      simp only [this]
theorem wipeE_len {env : En} : ∀ vs : List Nat, (wipeE env vs).length = env.length
  | [] => rfl
  | v :: vs => by unfold wipeE; rw [List.length_set, wipeE_len vs]
theorem wipeE_some {env : En} {i : Nat} {x : Sl} {vs : List Nat} (h : (wipeE env vs)[i]? = some (some x)) : env[i]? = some (some x) ∧ i ∉ vs := by
  rw [wipeE_get] at h
  by_cases m : i ∈ vs
  · rw [if_pos m] at h; split at h <;> cases h
  · rw [if_neg m] at h; exact ⟨h, m⟩
/-- two stores that differ in the slots vs alone -/
def Asg (vs : List Nat) (σ σ' : St) : Prop := σ'.length = σ.length ∧ ∀ j, j ∉ vs → σ'[j]? = σ[j]?
theorem Asg.wipe {vs ws : List Nat} {σ σ' : St} (a : Asg ws σ σ') (h : ∀ i ∈ ws, i ∈ vs) : wipe σ' vs = wipe σ vs := by
  refine List.ext_getElem? fun j => ?_
  rw [wipe_get, wipe_get, a.1]
  by_cases m : j ∈ vs
  · rw [if_pos m, if_pos m]
  · rw [if_neg m, if_neg m]
    exact a.2 j fun q => m (h j q)
theorem Asg.ofWipe (vs : List Nat) (σ : St) : Asg vs σ (L2.wipe σ vs) := ⟨wipe_length σ vs, fun j m => by rw [wipe_get, if_neg m]⟩
theorem Asg.trans {vs : List Nat} {σ σ1 σ2 : St} (a : Asg vs σ σ1) (b : Asg vs σ1 σ2) : Asg vs σ σ2 := ⟨b.1.trans a.1, fun j m => (b.2 j m).trans (a.2 j m)⟩
theorem Asg.mono {vs ws : List Nat} {σ σ1 : St} (a : Asg vs σ σ1) (h : ∀ i ∈ vs, i ∈ ws) : Asg ws σ σ1 := ⟨a.1, fun j m => a.2 j fun q => m (h j q)⟩
section
variable {g : Ga} {B H : Hp} {Z0 Z : Addr → Prop} {env : En} {σ : St}
theorem SR.wipe (s : SR g B Z0 env Z σ H) (vs : List Nat) : SR g B Z0 (wipeE env vs) Z (L2.wipe σ vs) H where
  len := by rw [wipeE_len, wipe_length]; exact s.len
  sl := fun i x h => by
    obtain ⟨h1, h2⟩ := wipeE_some h
    obtain ⟨v, q, r⟩ := s.sl i x h1
    exact ⟨v, by rw [wipe_get, if_neg h2]; exact q, r⟩
  sep := fun i j a d d' h1 h2 h3 h4 => s.sep i j a d d' (wipeE_some h1).1 (wipeE_some h2).1 (by rw [wipe_get, if_neg (wipeE_some h1).2] at h3; exact h3) (by rw [wipe_get, if_neg (wipeE_some h2).2] at h4; exact h4)
  new := fun i d a h1 h3 => s.new i d a (wipeE_some h1).1 (by rw [wipe_get, if_neg (wipeE_some h1).2] at h3; exact h3)
  base := s.base
  zz := s.zz
  z0 := s.z0
  zn := s.zn
theorem SR.putZ (s : SR g B Z0 env Z σ H) {i : Nat} {v : V} {d : D} (r : Rp g H Z v d) : SR g B Z0 (setE env i (.v d)) Z (σ.set i (some v)) H := by
  by_cases hi : i < env.length
  · exact s.put (H0 := H) (x := .z d) hi r (fun _ _ q => nomatch q) rfl
  · have h1 : setE env i (.v d) = env := by unfold setE; exact List.set_eq_of_length_le (by omega)
    have h2 : σ.set i (some v) = σ := List.set_eq_of_length_le (by rw [← s.len]; omega)
    rw [h1, h2]; exact s
end

/-! ### targets -/
section
variable (g : Ga) (B : Hp) (Z0 : Addr → Prop)
def TGx (tg : Tg) : TG := fun v σ H Q => ∃ env Z d env', SR g B Z0 env Z σ H ∧ Rp g H Z v d ∧ asgT tg d env = .ok env' ∧ ∀ σ', SR g B Z0 env' Z σ' H → Asg tg.slots σ σ' → Q σ' H
def TGs' (tgs : List Tg) : TGs := fun vs σ H Q => ∃ env Z ds env', SR g B Z0 env Z σ H ∧ RpL g H Z vs ds ∧ asgTs tgs ds env = .ok env' ∧ ∀ σ', SR g B Z0 env' Z σ' H → Asg (Tg.slotsL tgs) σ σ' → Q σ' H
end
theorem PG.imp {X : Cx} {e : Expr} {t t' : TG} (h : PG X e t) (k : ∀ v σ H Q, t' v σ H Q → t v σ H Q) : PG X e t' := ⟨fun pins s σ H v u Q I r q => h.run pins s σ H v u Q I r (k v σ H Q q)⟩
theorem PGs.imp {X : Cx} {e : List Expr} {t t' : TGs} (h : PGs X e t) (k : ∀ v σ H Q, t' v σ H Q → t v σ H Q) : PGs X e t' := ⟨fun pins s σ H v u Q I r q => h.run pins s σ H v u Q I r (k v σ H Q q)⟩
theorem Asg.set {σ : St} {i : Nat} {v : Option V} : Asg [i] σ (σ.set i v) := ⟨List.length_set, fun j m => List.getElem?_set_ne fun e => m (by rw [e]; exact List.mem_singleton.mpr rfl)⟩
theorem asg_flat {N : List Str} {t : Tg} {sc : Scope} {x : Expr} (h : mG N t sc x = true) {env : Env} : assignEach [x] env = [(false, assign x env)] := by
  cases t <;> cases x <;> first | rfl | (simp [mG] at h)
theorem asg_flat2 {N : List Str} {t : Tg} {sc : Scope} {x : Expr} {xs : List Expr} (h : mG N t sc x = true) {env : Env} : assignEach (x :: xs) env = (false, assign x env) :: assignEach xs env := by
  cases t <;> cases x <;> first | rfl | (simp [mG] at h)
theorem asg_all {N : List Str} {sc : Scope} {env : Env} : ∀ {ts : List Tg} {xs : List Expr}, mGs N ts sc xs = true → (assignEach xs env).length = ts.length ∧ (assignEach xs env).findIdx? (·.1) = none
  | [], [], _ => ⟨rfl, rfl⟩
  | t :: ts, x :: xs, h => by
    simp only [mGs, Bool.and_eq_true] at h
    obtain ⟨h1, h2⟩ := asg_all (env := env) h.2
    rw [asg_flat2 h.1]
    refine ⟨by simp [h1], ?_⟩
    rw [List.findIdx?_cons]
    simp [h2]
  | [], _ :: _, h => by simp [mGs] at h
  | _ :: _, [], h => by simp [mGs] at h
section
variable {g : Ga} {X : Cx} {B : Hp} {Z0 : Addr → Prop} {sc : Scope}
mutual
theorem pg_ok (hK : X.K = g.K) (hc : X.calm = true) (hN : X.N.Nodup) (hL : ∀ x, locB sc x = true → Loc X.env.scope x ∧ (X.fn x = true ∨ X.env.scope.names.lookup x = some .local)) : ∀ (tg : Tg) (e : Expr), mG X.N tg sc e = true → PG X e (TGx g B Z0 tg)
  | .n i, e, h => by
    cases e <;> first | (simp [mG] at h; done) | skip
    rename_i x p
    simp only [mG, Bool.and_eq_true, decide_eq_true_eq] at h
    obtain ⟨l1, l2⟩ := hL x h.2
    refine PG.imp (pg_name hN h.1 l1 l2) fun v σ H Q ⟨env, Z, d, env', sr, r, a, k⟩ => ?_
    simp only [asgT, R.ok.injEq] at a
    subst a
    exact k _ (sr.putZ r) Asg.set
  | .t ts, e, h => by
    cases e <;> first | (simp [mG] at h; done) | skip
    rename_i es kk p
    simp only [mG] at h
    obtain ⟨h1, h2⟩ := asg_all (env := X.env) h
    refine PG.imp (pg_tup hc (pgs_ok hK hc hN hL ts es h) h1 h2) fun v σ H Q ⟨env, Z, d, env', sr, r, a, k⟩ => ?_
    cases d with
    | tup ds =>
      simp only [asgT] at a
      cases r with
      | tup hh r =>
        have hl : ∀ (ts : List Tg) (ds : List D) (env env' : En), asgTs ts ds env = .ok env' → ts.length = ds.length := fun ts => by
          induction ts with
          | nil => intro ds env env' q; cases ds <;> first | rfl | (simp [asgTs] at q)
          | cons t ts ih =>
            intro ds env env' q
            cases ds with
            | nil => simp [asgTs] at q
            | cons d ds =>
              simp only [asgTs] at q
              cases w : asgT t d env with
              | ok e1 => rw [w] at q; simp only [R.bind_ok] at q; simp [ih ds _ _ q]
              | exc _ _ => rw [w] at q; cases q
              | stk => rw [w] at q; cases q
        refine ⟨_, _, rfl, .of hh, ?_, env, Z, ds, env', sr, r, a, fun σ' s2 as => k σ' s2 (by simpa [Tg.slots] using as)⟩
        rw [r.length]
        exact (hl _ _ _ _ a).symm
    | _ => simp [asgT] at a
theorem pgs_ok (hK : X.K = g.K) (hc : X.calm = true) (hN : X.N.Nodup) (hL : ∀ x, locB sc x = true → Loc X.env.scope x ∧ (X.fn x = true ∨ X.env.scope.names.lookup x = some .local)) : ∀ (ts : List Tg) (es : List Expr), mGs X.N ts sc es = true → PGs X es (TGs' g B Z0 ts)
  | [], [], h => PGs.imp pgs_nil fun v σ H Q ⟨env, Z, ds, env', sr, r, a, k⟩ => by
    cases ds with
    | nil =>
      cases r
      simp only [asgTs, R.ok.injEq] at a
      subst a
      exact ⟨rfl, k σ sr ⟨rfl, fun _ _ => rfl⟩⟩
    | cons _ _ => simp [asgTs] at a
  | t :: ts, e :: es, h => by
    simp only [mGs, Bool.and_eq_true] at h
    refine PGs.imp (pgs_cons (pg_ok hK hc hN hL t e h.1) (pgs_ok hK hc hN hL ts es h.2) (by rw [asg_flat2 h.1]; rfl)) fun v σ H Q ⟨env, Z, ds, env', sr, r, a, k⟩ => ?_
    cases ds with
    | nil => simp [asgTs] at a
    | cons d ds =>
      cases r with
      | cons r1 r2 =>
        simp only [asgTs] at a
        cases w : asgT t d env with
        | ok e1 =>
          rw [w] at a
          refine ⟨_, _, rfl, env, Z, d, e1, sr, r1, w, fun σ1 s1 a1 => ⟨e1, Z, ds, env', s1, r2, a, fun σ2 s2 a2 => k σ2 s2 ?_⟩⟩
          exact (a1.mono fun i m => by simp only [Tg.slotsL, List.mem_append]; exact .inl m).trans (a2.mono fun i m => by simp only [Tg.slotsL, List.mem_append]; exact .inr m)
        | exc _ _ => rw [w] at a; cases a
        | stk => rw [w] at a; cases a
  | [], _ :: _, h => by simp [mGs] at h
  | _ :: _, [], h => by simp [mGs] at h
end
end

/-! ### comprehensions -/
/-- the tests of a clause -/
def TFx (g : Ga) (gl : List D) (cf : Nat → List D → R EV) (W : WX) (B : Hp) (Z0 : Addr → Prop) (es : List E) : TT := fun σ H Q => ∃ env Z, SR g B Z0 env Z σ H ∧ Fin g W σ H Z (evIfs gl cf es env) (OutB H Z Q)
theorem PTs.imp {X : Cx} {e : List Expr} {t t' : TT} (h : PTs X e t) (k : ∀ σ H Q, t' σ H Q → t σ H Q) : PTs X e t' := ⟨fun pins s σ H Q I q => h.run pins s σ H Q I (k σ H Q q)⟩
/-- what has been gathered -/
def LI (g : Ga) (H1 : Hp) (Z1 : Addr → Prop) (L : Addr) (done : List D) (Hc : Hp) : Prop := ∃ Zc acc, Ext H1 Z1 Hc Zc ∧ ¬ Zc L ∧ Hc L = some (.lst acc) ∧ RpL g Hc Zc acc done
theorem Fin.split {α β : Type} {g : Ga} {W : WX} {σ : St} {H : Hp} {Z : Addr → Prop} {r : R α} {F : α → R β} {K : β → Prop} (f : Fin g W σ H Z (r.bind F) K) : Fin g W σ H Z r (fun x => Fin g W σ H Z (F x) K) := by
  cases r with
  | ok x => exact f
  | exc c p => exact f
  | stk => exact f
theorem calm_nox {α : Type} (r : R α) : NoX r.calm := by cases r <;> exact fun _ _ e => nomatch e
theorem calm_ok {α : Type} {r : R α} {x : α} (h : r.calm = .ok x) : r = .ok x := by cases r <;> first | exact h | cases h
theorem LI.start {g : Ga} {H1 : Hp} {Z1 : Addr → Prop} {L : Addr} (zz : ∀ a, Z1 a → H1 a ≠ none) (n : H1 L = none) : LI g H1 Z1 L [] (upd H1 L (.lst [])) :=
  ⟨Z1, [], Ext.laid zz n, fun z => zz L z n, upd_same, .nil⟩
/-- one more -/
theorem LI.push {g : Ga} {H1 H4 Hc : Hp} {Z1 Zc Z5 : Addr → Prop} {L : Addr} {done : List D} {acc : List V} {y : V} {d : D} (n : H1 L = none) (e : Ext H1 Z1 Hc Zc) (nz : ¬ Zc L) (hL : Hc L = some (.lst acc)) (r : RpL g Hc Zc acc done) (e5 : Ext Hc Zc H4 Z5) (rd : Rp g H4 Z5 y d) :
    H4 L = some (.lst acc) ∧ LI g H1 Z1 L (done ++ [d]) (upd H4 L (.lst (acc ++ [y]))) := by
  have h4 : H4 L = some (.lst acc) := e5.same _ _ hL
  have nz5 : ¬ Z5 L := fun z => by
    rcases e5.new L z with z | z
    · exact nz z
    · rw [hL] at z; cases z
  have ev : Evo Z5 H4 (upd H4 L (.lst (acc ++ [y]))) := ⟨fun c w z r => by
    have nc : c ≠ L := fun e => nz5 (e ▸ z)
    rcases r with r | ⟨w', r⟩
    · exact .inl (by rw [upd_ne nc]; exact r)
    · exact .inr ⟨w', by rw [upd_ne nc]; exact r⟩, fun c xs r => by
    have nc : c ≠ L := fun e => by
      subst e
      rw [h4] at r; cases r
    rw [upd_ne nc]; exact r, fun c o w r => by
    have nc : c ≠ L := fun e => by
      subst e
      rw [h4] at r; cases r
    rw [upd_ne nc]; exact r⟩
  have e' := e.trans e5
  refine ⟨h4, Z5, acc ++ [y], ⟨fun b u q => ?_, e'.mono, e'.new, fun a z => ?_⟩, nz5, upd_same, ?_⟩
  · rw [upd_ne fun w => by rw [w, n] at q; cases q]
    exact e'.same _ _ q
  · rw [upd_ne (fun w : a = L => nz5 (by rw [← w]; exact z))]
    exact e'.there a z
  · exact RpL.append (RpL.evo ev (fun _ z => z) _ _ (RpL.evo e5.evo e5.mono _ _ r)) (.cons (Rp.evo ev (fun _ z => z) _ _ rd) .nil)
theorem ownOf_snd (N : List Str) (tg : Tg) : (ownOf N tg).map (·.2) = tg.slots := by
  unfold ownOf
  rw [List.map_map]
  exact List.map_id _
theorem loc_relS {scope sc : Scope} {x : Str} (h : locB scope x = true) : Loc (relS scope sc) x ∧ ((scope.names.lookup x == some .cell) = true ∨ (relS scope sc).names.lookup x = some .local) := by
  rcases loc_of h with h | h
  · have : (relS scope sc).names.lookup x = some .local := lookup_relS_keep (by decide) h
    exact ⟨.inl this, .inr this⟩
  · have : (relS scope sc).names.lookup x = some .cell := lookup_relS_keep (by decide) h
    exact ⟨.inr this, .inl (by rw [h]; rfl)⟩
def W0 : WX := fun _ _ _ _ => False
section
variable {g : Ga} {gl : List D} {t : Tx} {T : List Df} {cf : Nat → List D → R EV} {n : Nat} {W : WX} {X : Cx} {B : Hp} {Z0 : Addr → Prop} {pos : Pos}
variable (c : Ct g gl t T cf n W X)
include c
theorem lc_imp {elt it : E} {tg : Tg} {ifs : List E} {σ : St} {H : Hp} {Q : VK} (h : TEx g gl cf W B Z0 (.lc elt tg it ifs) σ H Q) : tLc (TIx g gl cf W B Z0 it) (TGx g B Z0 tg) (TFx g gl cf W0 B Z0 ifs) (TEx g gl cf W0 B Z0 elt) tg.slots σ H Q := by
  obtain ⟨env, Z, sr, f⟩ := h
  simp only [ev] at f
  refine ⟨env, Z, sr, ?_⟩
  have f : Fin g W σ H Z (((ev gl cf it env).bind fun x => (x.keep).bind fun d => seqD d).bind fun xs => (lcD tg (fun e => evIfs gl cf ifs e) (fun e => (ev gl cf elt e).bind fun y => (y.keep).bind fun d => .ok [d]) (wipeE env tg.slots) xs).calm.bind fun ys =>
      if ys.length ≤ sizeLine then .ok (.o (.lst ys)) else .stk) (Out g H Z Q) := by
    simpa only [R.bind_assoc] using f
  refine f.split.mono fun ds f1 J H1 Z1 e1 hI L nL => ?_
  obtain ⟨ys, hys, f1⟩ := f1.bindN (calm_nox _)
  have hys := calm_ok hys
  split at f1
  case isFalse => exact f1.elim
  case isTrue hsz =>
  have sr1 := (sr.ext e1).wipe tg.slots
  refine ⟨fun i m Hc => m = ds.length - i ∧ i ≤ ds.length ∧ ∃ done rest, LI g H1 Z1 L done Hc ∧ lcD tg (fun e => evIfs gl cf ifs e) (fun e => (ev gl cf elt e).bind fun y => (y.keep).bind fun d => .ok [d]) (wipeE env tg.slots) (ds.drop i) = .ok rest ∧ done ++ rest = ys,
    ⟨ds.length, by simp, Nat.zero_le _, [], ys, LI.start e1.there nL, hys, rfl⟩, ?_⟩
  rintro i m Hc ⟨rfl, hi, done, rest, ⟨Zc, acc, ec, nz, hL, r⟩, hr, rfl⟩
  by_cases hlt : i < ds.length
  · have hx : ds[i]? = some ds[i] := List.getElem?_eq_getElem hlt
    rw [List.drop_eq_getElem_cons hlt] at hr
    generalize ds[i] = d at hx hr
    obtain ⟨go, yl⟩ := (hI Hc Zc ec.evo ec.mono ec.there).1 i d hx
    refine .inr ⟨go, fun H' => ∃ done rest, LI g H1 Z1 L done H' ∧ lcD tg (fun e => evIfs gl cf ifs e) (fun e => (ev gl cf elt e).bind fun y => (y.keep).bind fun d => .ok [d]) (wipeE env tg.slots) (ds.drop (i + 1)) = .ok rest ∧ done ++ rest = _, fun H' p' => ⟨ds.length - (i + 1), by omega, rfl, hlt, p'⟩, fun x H' y => ?_⟩
    obtain ⟨e2, rx⟩ := yl x H' y
    simp only [lcD] at hr
    obtain ⟨env', ha, hr⟩ := bind_okE hr
    obtain ⟨b, hb, hr⟩ := bind_okE hr
    refine ⟨_, Zc, d, env', (sr1.ext ec).ext e2, rx, ha, fun σ2 s2 a2 => ⟨a2.wipe (fun _ q => q) |>.trans (Asg.wipe (Asg.ofWipe tg.slots σ) fun _ q => q), env', Zc, s2, ?_⟩⟩
    rw [hb]
    intro H3 Z3 e3
    cases b with
    | false =>
      rw [if_neg (by decide)] at hr
      rw [if_neg (by decide)]
      have e4 := e2.trans e3
      have nz3 : ¬ Z3 L := fun z => by
        rcases e4.new L z with z | z
        · exact nz z
        · rw [hL] at z; cases z
      exact ⟨done, rest, ⟨Z3, acc, ec.trans e4, nz3, e4.same _ _ hL, RpL.evo e4.evo e4.mono _ _ r⟩, hr, rfl⟩
    | true =>
      rw [if_pos rfl] at hr
      rw [if_pos rfl]
      obtain ⟨y1, hy, hr⟩ := bind_okE hr
      obtain ⟨rest', hr', hr⟩ := bind_okE hr
      obtain ⟨yv, hyv, hy⟩ := bind_okE hy
      obtain ⟨dd, hk, hy⟩ := bind_okE hy
      cases hy
      cases hr
      refine ⟨env', Z3, s2.ext e3, ?_⟩
      rw [hyv]
      intro v H4 Z4 e4 rv
      obtain ⟨Z5, e5, _, _, _, rd⟩ := EVr.keep e4 rv hk
      obtain ⟨h4, li⟩ := LI.push nL ec nz hL r ((e2.trans e3).trans e5) rd
      refine ⟨acc, h4, ?_, done ++ [dd], rest', li, hr', by simp⟩
      rw [r.length]
      simp only [List.length_append] at hsz
      have : [dd].length = 1 := rfl
      omega
  · have e : i = ds.length := by omega
    subst e
    rw [List.drop_length] at hr
    cases hr
    refine .inl ⟨(hI Hc Zc ec.evo ec.mono ec.there).2, ?_⟩
    rw [List.append_nil] at f1
    exact f1 _ Hc Zc (e1.trans ec) ⟨L, rfl, e1.same.free nL, nz, acc, hL, r⟩
theorem se_lc {elt it : E} {tg : Tg} {ifs : List E} {xe xg xi : Expr} {xs : List Expr} {scope : Scope} (hi : PI X xg xi (TIx g gl cf W B Z0 it)) (hb : blkC X.N X.env.scope scope (ownOf X.N tg) = true) (hg : mG X.N tg scope xg = true)
    (he : ∀ X', Ct g gl t T cf n W0 X' → X'.N = X.N → X'.env.scope = relS scope X.env.scope → PE X' xe (TEx g gl cf W0 B Z0 elt))
    (ht : ∀ X', Ct g gl t T cf n W0 X' → X'.N = X.N → X'.env.scope = relS scope X.env.scope → PTs X' xs (TFx g gl cf W0 B Z0 ifs))
    (hs : ∀ x, foldedSetIterable xi X.env x = pure x) :
    PE X (.ListComp xe [⟨xg, xi, xs, 0⟩] scope pos) (TEx g gl cf W B Z0 (.lc elt tg it ifs)) := by
  refine PE.imp (pe_lc c.calm c.nd hi (blkOk_by hb) (fun s H C cl fp => pg_ok (X := X.blk s H scope (compEnvC scope cl C X.env) fp) (g := g) (B := B) (Z0 := Z0) (sc := scope) c.K c.calm c.nd (fun x hx => loc_relS (sc := X.env.scope) hx) tg xg hg)
    (fun s H C cl fp => ht _ (c.blk s H scope (compEnvC scope cl C X.env) fp) rfl rfl) (fun s H C cl fp => he _ (c.blk s H scope (compEnvC scope cl C X.env) fp) rfl rfl) hs) fun σ H Q h => ?_
  rw [ownOf_snd]
  exact lc_imp c h
theorem ss_setLc {i : Nat} {y : Str} {py : Pos} {spos : Pos} {elt it : E} {tg : Tg} {ifs : List E} {xe xg xi : Expr} {xs : List Expr} {scope : Scope} (hy : X.N[i]? = some y) (hyl : X.env.scope.names.lookup y = some .local)
    (hsw : swapsWith (.ListComp xe [⟨xg, xi, xs, 0⟩] scope pos) (some (.Name y py)) spos.line X.env = pure true) (hi : PI X xg xi (TIx g gl cf W B Z0 it)) (hb : blkC X.N X.env.scope scope (ownOf X.N tg) = true) (hg : mG X.N tg scope xg = true)
    (he : ∀ X', Ct g gl t T cf n W0 X' → X'.N = X.N → X'.env.scope = relS scope X.env.scope → PE X' xe (TEx g gl cf W0 B Z0 elt))
    (ht : ∀ X', Ct g gl t T cf n W0 X' → X'.N = X.N → X'.env.scope = relS scope X.env.scope → PTs X' xs (TFx g gl cf W0 B Z0 ifs))
    (hs : ∀ x, foldedSetIterable xi X.env x = pure x) :
    PS X (.Assign [.Name y py] (.ListComp xe [⟨xg, xi, xs, 0⟩] scope pos) spos) (tAsg (TEx g gl cf W B Z0 (.lc elt tg it ifs)) (gName i)) := by
  refine PS.imp (ps_setLc c.calm c.nd hy hyl hsw hi (blkOk_by hb) (fun s H C cl fp => pg_ok (X := X.blk s H scope (compEnvC scope cl C X.env) fp) (g := g) (B := B) (Z0 := Z0) (sc := scope) c.K c.calm c.nd (fun x hx => loc_relS (sc := X.env.scope) hx) tg xg hg)
    (fun s H C cl fp => ht _ (c.blk s H scope (compEnvC scope cl C X.env) fp) rfl rfl) (fun s H C cl fp => he _ (c.blk s H scope (compEnvC scope cl C X.env) fp) rfl rfl) hs) fun D σ H h => ?_
  rw [ownOf_snd]
  exact lc_imp c h
end
end NH
set_option Elab.async false
set_option linter.all false
set_option maxRecDepth 100000
set_option maxHeartbeats 4000000
/-! NHh: every expression. -/
namespace NH
open PySem PySem.Spec PyProof.Rows L2

theorem mE_star {t : Tx} {N : List Str} {a : E} {sc : Scope} {x : Expr} (h : mE t N a sc x = true) : ∀ e p, x ≠ .Starred e p := fun e p q => by
  subst q
  unfold mE at h
  split at h <;> first | (cases h; done) | contradiction
theorem mE_set {t : Tx} {N : List Str} {a : E} {sc : Scope} {x : Expr} (h : mE t N a sc x = true) : ∀ e k p, x ≠ .Set e k p := fun e k p q => by
  subst q
  unfold mE at h
  split at h <;> first | (cases h; done) | contradiction
theorem mEs_star {t : Tx} {N : List Str} {sc : Scope} : ∀ {es : List E} {xs : List Expr}, mEs t N es sc xs = true → ∀ x ∈ xs, ∀ e p, x ≠ .Starred e p
  | [], [], _, x, m => by cases m
  | e :: es, x :: xs, h, y, m => by
    simp only [mEs, Bool.and_eq_true] at h
    rcases List.mem_cons.mp m with rfl | m
    · exact mE_star h.1
    · exact mEs_star h.2 y m
  | [], _ :: _, h, _, _ => by simp [mEs] at h
  | _ :: _, [], h, _, _ => by simp [mEs] at h
theorem mEs_nil {t : Tx} {N : List Str} {sc : Scope} {es : List E} (h : mEs t N es sc [] = true) : es = [] := by
  cases es <;> first | rfl | (simp [mEs] at h)
theorem mI_set {t : Tx} {N : List Str} {a : E} {sc : Scope} {gx x : Expr} (h : mI t N a sc gx x = true) : ∀ e k p, x ≠ .Set e k p := fun e k p q => by
  subst q
  unfold mI at h
  split at h <;> first | (cases h; done) | contradiction | exact mE_set h _ _ _ rfl
theorem mI_folded {t : Tx} {N : List Str} {a : E} {sc : Scope} {gx x : Expr} (h : mI t N a sc gx x = true) (env : Env) (v : Value) : foldedSetIterable x env v = pure v := by
  cases x <;> first | rfl | exact absurd rfl (mI_set h _ _ _)
section
variable {g : Ga} {gl : List D} {t : Tx} {T : List Df} {cf : Nat → List D → R EV} {n : Nat} {W : WX} {X : Cx} {B : Hp} {Z0 : Addr → Prop} {pos : Pos}
variable (c : Ct g gl t T cf n W X)
include c
theorem sa_of {t : Tx} {N : List Str} {sc : Scope} : ∀ {es : List E} {xs : List Expr}, mEs t N es sc xs = true → Paired (fun e x => PE X x (TEx g gl cf W B Z0 e)) es xs → PA X xs (TAx g gl cf W B Z0 es)
  | [], [], _, _ => sa_nil c
  | e :: es, x :: xs, h, .cons p q => by
    simp only [mEs, Bool.and_eq_true] at h
    exact sa_cons c (mE_star h.1) p (sa_of h.2 q)
theorem sl_of {t : Tx} {N : List Str} {sc : Scope} : ∀ {es : List E} {xs : List Expr}, mEs t N es sc xs = true → Paired (fun e x => PE X x (TEx g gl cf W B Z0 e)) es xs → PA X xs (TLx g gl cf W B Z0 es)
  | [], [], _, _ => sl_nil c
  | e :: es, x :: xs, h, .cons p q => by
    simp only [mEs, Bool.and_eq_true] at h
    exact sl_cons c (mE_star h.1) p (sl_of h.2 q)
theorem st_ite {x y p : Expr} {a b e : E} (hc : PT X p (TTx g gl cf W B Z0 e)) (ha : PT X x (TTx g gl cf W B Z0 a)) (hb : PT X y (TTx g gl cf W B Z0 b)) : PT X (.IfExp p x y pos) (TTx g gl cf W B Z0 (.ite e a b)) := by
  refine ⟨fun pins s σ H Q I h => ?_⟩
  obtain ⟨env, Z, sr, f⟩ := h
  simp only [ev, R.bind_assoc] at f
  have q : TTx g gl cf W B Z0 e σ H fun k H1 => if k = true then TTx g gl cf W B Z0 a σ H1 Q else TTx g gl cf W B Z0 b σ H1 Q := tt_bind sr f fun k H1 Z1 e1 f1 => by
    cases k with
    | true =>
      rw [if_pos rfl] at f1 ⊢
      exact ⟨env, Z1, sr.ext e1, (f1.step e1).mono fun x q => OutB.back c q e1⟩
    | false =>
      rw [if_neg Bool.false_ne_true] at f1 ⊢
      exact ⟨env, Z1, sr.ext e1, (f1.step e1).mono fun x q => OutB.back c q e1⟩
  refine isTrue_IfExp (thn (hc.run pins s σ H _ I q) fun d s1 ⟨H1, I1, q1⟩ => ?_)
  cases d with
  | true => exact ha.run pins s1 σ H1 Q I1 q1
  | false => exact hb.run pins s1 σ H1 Q I1 q1
theorem part_of {t : Tx} {N : List Str} {sc : Scope} {lo : E} {l : Option Expr} (h2 : (match l with | none => (match lo with | .no => true | _ => false) | some y => mE t N lo sc y) = true) (I : ∀ {y : Expr}, mE t N lo sc y = true → PE X y (TEx g gl cf W B Z0 lo)) : PO X l (TPx g gl cf W B Z0 lo) := by
  cases l with
  | none => cases lo <;> first | exact sp_no c | (cases h2; done)
  | some y =>
    refine sp_some c (I h2) fun q => ?_
    subst q
    have h2 : mE t N .no sc y = true := h2
    unfold mE at h2
    first | (cases h2; done) | (split at h2 <;> first | (cases h2; done) | contradiction)
/-- tests: none or one -/
theorem sf_of {es : List E} {xs : List Expr} (h : Paired (fun e x => PT X x (TTx g gl cf W B Z0 e)) es xs) (l : es.length ≤ 1) : PTs X xs (TFx g gl cf W B Z0 es) := by
  cases h with
  | nil => exact PTs.imp pts_nil fun σ H Q ⟨env, Z, sr, f⟩ => f H Z sr.refl
  | cons p q =>
    cases q with
    | nil =>
      refine PTs.imp (pts_one p) fun σ H Q ⟨env, Z, sr, f⟩ => ⟨env, Z, sr, ?_⟩
      simp only [evIfs, ← R.bind_assoc] at f
      have : ∀ r : R Bool, (r.bind fun r => if r = true then R.ok true else R.ok false) = r := fun r => by
        cases r with
        | ok b => cases b <;> rfl
        | exc _ _ => rfl
        | stk => rfl
      rwa [this] at f
    | cons _ _ => simp only [List.length_cons] at l; omega
end

section
variable {g : Ga} {gl : List D} {t : Tx} {T : List Df} {cf : Nat → List D → R EV} {n : Nat} {B : Hp} {Z0 : Addr → Prop}
theorem paired_imp {α β : Type} {F G : α → β → Prop} {l₁ : List α} {l₂ : List β} (h : Paired F l₁ l₂) (k : ∀ a b, F a b → G a b) : Paired G l₁ l₂ := L2.Paired.mapP h k
/-- all that is matched runs as the small interpreter says -/
theorem me_all (N : List Str) : ∀ m : Nat,
    (∀ e : E, sizeOf e < m → ∀ sc x, mE t N e sc x = true → ∀ W X, Ct g gl t T cf n W X → X.N = N → X.env.scope = sc → PE X x (TEx g gl cf W B Z0 e) ∧ PT X x (TTx g gl cf W B Z0 e)) ∧
    (∀ es : List E, sizeOf es < m → ∀ sc xs, mEs t N es sc xs = true → ∀ W X, Ct g gl t T cf n W X → X.N = N → X.env.scope = sc → Paired (fun e x => PE X x (TEx g gl cf W B Z0 e) ∧ PT X x (TTx g gl cf W B Z0 e)) es xs) ∧
    (∀ e : E, sizeOf e < m → ∀ sc gx x, mI t N e sc gx x = true → ∀ W X, Ct g gl t T cf n W X → X.N = N → X.env.scope = sc → PI X gx x (TIx g gl cf W B Z0 e))
  | 0 => ⟨fun _ h => by omega, fun _ h => by omega, fun _ h => by omega⟩
  | m + 1 => by
    obtain ⟨ih, ihs, ihi⟩ := me_all N m
    refine ⟨fun e hm sc x h W X c hN hS => ?_, fun es hm sc xs h W X c hN hS => ?_, fun e hm sc gx x h W X c hN hS => ?_⟩
    · have any : PE X x (TEx g gl cf W B Z0 e) → (∀ whole, isTrue x X.env whole = (do let v ← whole; standAt x.pos; holding [v] (truthy v))) → PE X x (TEx g gl cf W B Z0 e) ∧ PT X x (TTx g gl cf W B Z0 e) := fun p q => ⟨p, st_any c p q⟩
      have I1 : ∀ {a : E} {y : Expr}, sizeOf a < m → mE t N a sc y = true → PE X y (TEx g gl cf W B Z0 a) := fun hl hh => (ih _ hl _ _ hh W X c hN hS).1
      have I2 : ∀ {a : E} {y : Expr}, sizeOf a < m → mE t N a sc y = true → PT X y (TTx g gl cf W B Z0 a) := fun hl hh => (ih _ hl _ _ hh W X c hN hS).2
      have IL : ∀ {es : List E} {ys : List Expr}, sizeOf es < m → mEs t N es sc ys = true → Paired (fun e x => PE X x (TEx g gl cf W B Z0 e)) es ys := fun hl hh => paired_imp (ihs _ hl _ _ hh W X c hN hS) fun _ _ q => q.1
      have IT : ∀ {es : List E} {ys : List Expr}, sizeOf es < m → mEs t N es sc ys = true → Paired (fun e x => PT X x (TTx g gl cf W B Z0 e)) es ys := fun hl hh => paired_imp (ihs _ hl _ _ hh W X c hN hS) fun _ _ q => q.2
      unfold mE at h
      split at h
      · exact any (se_c c h) fun _ => rfl
      · subst hN hS; exact any (se_var c h) fun _ => rfl
      · subst hN hS; exact any (se_gl c h) fun _ => rfl
      · subst hN hS; exact any (se_fn c h) fun _ => rfl
      · -- bin
        simp only [Bool.and_eq_true, decide_eq_true_eq] at h
        obtain ⟨⟨rfl, h1⟩, h2⟩ := h
        simp only [E.bin.sizeOf_spec] at hm
        exact any (se_bin c (I1 (by omega) h1) (I1 (by omega) h2)) fun _ => rfl
      · -- neg
        simp only [E.neg.sizeOf_spec] at hm
        exact any (se_neg c (I1 (by omega) h)) fun _ => rfl
      · -- cmp
        simp only [Bool.and_eq_true, decide_eq_true_eq, Bool.not_eq_true'] at h
        obtain ⟨⟨⟨rfl, h1⟩, h2⟩, h3⟩ := h
        simp only [E.cmp.sizeOf_spec] at hm
        exact ⟨se_cmp c (I1 (by omega) h1) (I1 (by omega) h2) h3, st_cmp c (I1 (by omega) h1) (I1 (by omega) h2) h3⟩
      · -- chain
        simp only [Bool.and_eq_true, decide_eq_true_eq, Bool.not_eq_true'] at h
        obtain ⟨⟨⟨⟨⟨rfl, rfl⟩, h1⟩, h2⟩, h3⟩, h4⟩ := h
        simp only [E.chain.sizeOf_spec] at hm
        exact ⟨se_chain c (I1 (by omega) h1) (I1 (by omega) h2) (I1 (by omega) h3) h4, st_chain c (I1 (by omega) h1) (I1 (by omega) h2) (I1 (by omega) h3) h4⟩
      · -- and
        simp only [Bool.and_eq_true, Bool.not_eq_true'] at h
        obtain ⟨h1, h2⟩ := h
        simp only [E.and.sizeOf_spec] at hm
        have ne : ∀ {es : List E}, es.isEmpty = false → es ≠ [] := fun h q => by subst q; cases h
        exact ⟨se_and c (ne h2) (IL (by omega) h1), (st_and c (ne h2) (IT (by omega) h1)).pt⟩
      · -- or
        simp only [Bool.and_eq_true, Bool.not_eq_true'] at h
        obtain ⟨h1, h2⟩ := h
        simp only [E.or.sizeOf_spec] at hm
        have ne : ∀ {es : List E}, es.isEmpty = false → es ≠ [] := fun h q => by subst q; cases h
        exact ⟨se_or c (ne h2) (IL (by omega) h1), (st_or c (ne h2) (IT (by omega) h1)).pt⟩
      · -- not
        simp only [E.not.sizeOf_spec] at hm
        exact ⟨se_not c (I2 (by omega) h) (I1 (by omega) h), st_not c (I2 (by omega) h)⟩
      · -- ite
        simp only [Bool.and_eq_true] at h
        obtain ⟨⟨h1, h2⟩, h3⟩ := h
        simp only [E.ite.sizeOf_spec] at hm
        exact ⟨se_ite c (I2 (by omega) h1) (I1 (by omega) h2) (I1 (by omega) h3), st_ite c (I2 (by omega) h1) (I2 (by omega) h2) (I2 (by omega) h3)⟩
      · -- tup
        simp only [E.tup.sizeOf_spec] at hm
        exact any (se_tup c (sa_of c h (IL (by omega) h))) fun _ => rfl
      · -- lst
        simp only [E.lst.sizeOf_spec] at hm
        exact any (se_lst c (sa_of c h (IL (by omega) h))) fun _ => rfl
      · exact any (se_d0 c) fun _ => rfl
      · -- ix
        simp only [Bool.and_eq_true, Bool.not_eq_true'] at h
        obtain ⟨⟨h1, h2⟩, h3⟩ := h
        simp only [E.ix.sizeOf_spec] at hm
        exact any (se_ix c (I1 (by omega) h1) (I1 (by omega) h2) h3) fun _ => rfl
      · -- sl
        simp only [Bool.and_eq_true] at h
        obtain ⟨⟨h1, h2⟩, h3⟩ := h
        simp only [E.sl.sizeOf_spec] at hm
        refine any (se_sl c (I1 (by omega) h1) ?_ ?_) fun _ => rfl
        · exact part_of c h2 fun q => I1 (by omega) q
        · exact part_of c h3 fun q => I1 (by omega) q
      · -- call
        simp only [Bool.and_eq_true, decide_eq_true_eq] at h
        obtain ⟨⟨⟨h1, h2⟩, h3⟩, h4⟩ := h
        simp only [E.call.sizeOf_spec] at hm
        subst hN hS
        refine any (se_call c h1 (gl_of h2) h3 (mEs_star h4) (fun q => ?_) (sl_of c h4 (IL (by omega) h4))) fun _ => rfl
        subst q
        exact mEs_nil h4
      · -- x[::-1]
        simp only [E.rev.sizeOf_spec] at hm
        exact any (se_rev c (I1 (by omega) h)) fun _ => rfl
      · -- methods
        simp only [Bool.and_eq_true, decide_eq_true_eq] at h
        obtain ⟨⟨⟨⟨⟨⟨h1, rfl⟩, h2⟩, h3⟩, h4⟩, h5⟩, h6⟩ := h
        simp only [E.me.sizeOf_spec] at hm
        rename_i xs _
        match xs, h5, h4 with
        | [z], _, h4 =>
          have hst : ∀ e p, z ≠ .Starred e p := mEs_star h4 z List.mem_cons_self
          refine any (se_index c h1 h2 (I1 (by omega) h3) ?_ hst (sl_of c h4 (IL (by omega) h4))) fun _ => rfl
          split at h6 <;> first | rfl | (cases h6; done)
      · simp only [Bool.and_eq_true, decide_eq_true_eq] at h
        obtain ⟨⟨⟨⟨h1, h2⟩, h3⟩, h4⟩, h5⟩ := h
        simp only [E.rl1.sizeOf_spec] at hm
        subst hS
        exact any (se_rl1 c h1 (gl_of h2) h3 (gl_of h4) (mE_star h5) (I1 (by omega) h5)) fun _ => rfl
      · simp only [Bool.and_eq_true, decide_eq_true_eq] at h
        obtain ⟨⟨⟨⟨⟨h1, h2⟩, h3⟩, h4⟩, h5⟩, h6⟩ := h
        simp only [E.rl2.sizeOf_spec] at hm
        subst hS
        exact any (se_rl2 c h1 (gl_of h2) h3 (gl_of h4) (mE_star h5) (mE_star h6) (I1 (by omega) h5) (I1 (by omega) h6)) fun _ => rfl
      · exact ⟨se_never c, ⟨fun _ _ _ _ _ _ ⟨_, _, _, f⟩ => f.elim⟩⟩
      · -- callv
        simp only [Bool.and_eq_true] at h
        simp only [E.callv.sizeOf_spec] at hm
        subst hN hS
        refine any (se_callv c (by simp only [Bool.and_eq_true]; exact h.1) (mEs_star h.2) (fun q => ?_) (sl_of c h.2 (IL (by omega) h.2))) fun _ => rfl
        subst q
        exact mEs_nil h.2
      · simp only [Bool.and_eq_true, decide_eq_true_eq] at h
        obtain ⟨⟨⟨⟨h1, h2⟩, h3⟩, h4⟩, h5⟩ := h
        simp only [E.sset.sizeOf_spec] at hm
        subst hS
        exact any (se_sset c h1 (gl_of h2) h3 (gl_of h4) (mE_star h5) (I1 (by omega) h5)) fun _ => rfl
      · simp only [Bool.and_eq_true, decide_eq_true_eq] at h
        obtain ⟨⟨h1, h2⟩, h3⟩ := h
        simp only [E.ntup.sizeOf_spec] at hm
        subst hS
        exact any (se_ntup c h1 (gl_of h2) (mE_star h3) (I1 (by omega) h3)) fun _ => rfl
      · simp only [Bool.and_eq_true, decide_eq_true_eq] at h
        obtain ⟨⟨⟨⟨h1, h2⟩, h3⟩, h4⟩, h5⟩ := h
        simp only [E.lset.sizeOf_spec] at hm
        subst hS
        exact any (se_lset c h1 (gl_of h2) h3 (gl_of h4) (mE_star h5) (I1 (by omega) h5)) fun _ => rfl
      · -- bi
        simp only [Bool.and_eq_true, decide_eq_true_eq, Bool.not_eq_true'] at h
        obtain ⟨⟨⟨h1, h2⟩, h3⟩, h4⟩ := h
        simp only [E.bi.sizeOf_spec] at hm
        subst hN hS
        refine any (se_bi c h1 (gl_of h2) (mEs_star h3) (fun q => ?_) (sl_of c h3 (IL (by omega) h3))) fun _ => rfl
        subst q
        rw [mEs_nil h3] at h4
        cases h4
      · -- isinstance
        simp only [Bool.and_eq_true, decide_eq_true_eq] at h
        obtain ⟨⟨⟨⟨h1, h2⟩, h3⟩, h4⟩, h5⟩ := h
        simp only [E.isi.sizeOf_spec] at hm
        subst hN hS
        exact any (se_isi c h1 (gl_of h2) h4 (gl_of h5) (mE_star h3) (I1 (by omega) h3)) fun _ => rfl
      · -- comprehension
        simp only [Bool.and_eq_true, decide_eq_true_eq] at h
        obtain ⟨⟨⟨⟨⟨h1, h2⟩, h3⟩, h4⟩, h5⟩, h6⟩ := h
        simp only [E.lc.sizeOf_spec] at hm
        subst hN hS
        refine any (se_lc c (ihi _ (by omega) _ _ _ h1 W X c rfl rfl) h2 h3 (fun X' c' n' s' => (ih _ (by omega) _ _ h4 _ X' c' n' s').1)
          (fun X' c' n' s' => sf_of c' (paired_imp (ihs _ (by omega) _ _ h5 _ X' c' n' s') fun _ _ q => q.2) h6) (mI_folded h1 _)) fun _ => rfl
      · cases h
    · cases es with
      | nil =>
        cases xs with
        | nil => exact .nil
        | cons _ _ => simp [mEs] at h
      | cons e es =>
        cases xs with
        | nil => simp [mEs] at h
        | cons x xs =>
          simp only [mEs, Bool.and_eq_true] at h
          simp only [List.cons.sizeOf_spec] at hm
          exact .cons (ih e (by omega) _ _ h.1 W X c hN hS) (ihs es (by omega) _ _ h.2 W X c hN hS)
    · have I1 : ∀ {a : E} {y : Expr}, sizeOf a < m → mE t N a sc y = true → PE X y (TEx g gl cf W B Z0 a) := fun hl hh => (ih _ hl _ _ hh W X c hN hS).1
      have tup : ∀ {gx : Expr}, isTupE gx = true → ∃ es k p, gx = .Tuple es k p := fun {gx} h => by
        cases gx <;> first | exact ⟨_, _, _, rfl⟩ | cases h
      unfold mI at h
      split at h
      · simp only [Bool.and_eq_true, decide_eq_true_eq] at h
        obtain ⟨⟨h1, h2⟩, h3⟩ := h
        simp only [E.rng1.sizeOf_spec] at hm
        subst hN hS
        exact si_rng1 c h1 (gl_of h2) (mE_star h3) (I1 (by omega) h3)
      · simp only [Bool.and_eq_true, decide_eq_true_eq] at h
        obtain ⟨⟨⟨h1, h2⟩, h3⟩, h4⟩ := h
        simp only [E.rng2.sizeOf_spec] at hm
        subst hN hS
        exact si_rng2 c h1 (gl_of h2) (mE_star h3) (mE_star h4) (I1 (by omega) h3) (I1 (by omega) h4)
      · simp only [Bool.and_eq_true, decide_eq_true_eq] at h
        obtain ⟨⟨⟨h1, h2⟩, h3⟩, h4⟩ := h
        simp only [E.enum.sizeOf_spec] at hm
        subst hN hS
        obtain ⟨_, _, _, rfl⟩ := tup h3
        exact si_enum c h1 (gl_of h2) (mE_star h4) (I1 (by omega) h4)
      · simp only [Bool.and_eq_true, decide_eq_true_eq] at h
        obtain ⟨⟨⟨⟨h1, h2⟩, h3⟩, h4⟩, h5⟩ := h
        simp only [E.zip.sizeOf_spec] at hm
        subst hN hS
        obtain ⟨_, _, _, rfl⟩ := tup h3
        exact si_zip c h1 (gl_of h2) (mE_star h4) (mE_star h5) (I1 (by omega) h4) (I1 (by omega) h5)
      · cases h
      · simp only [E.seq.sizeOf_spec] at hm
        exact si_seq c (I1 (by omega) h)
      · cases h
theorem me_ok {e : E} {x : Expr} {W : WX} {X : Cx} (c : Ct g gl t T cf n W X) (h : mE t X.N e X.env.scope x = true) : PE X x (TEx g gl cf W B Z0 e) := ((me_all X.N (sizeOf e + 1)).1 e (by omega) _ x h W X c rfl rfl).1
theorem mt_ok {e : E} {x : Expr} {W : WX} {X : Cx} (c : Ct g gl t T cf n W X) (h : mE t X.N e X.env.scope x = true) : PT X x (TTx g gl cf W B Z0 e) := ((me_all X.N (sizeOf e + 1)).1 e (by omega) _ x h W X c rfl rfl).2
theorem ml_ok {e : List E} {x : List Expr} {W : WX} {X : Cx} (c : Ct g gl t T cf n W X) (h : mEs t X.N e X.env.scope x = true) : PA X x (TLx g gl cf W B Z0 e) := sl_of c h (paired_imp ((me_all X.N (sizeOf e + 1)).2.1 e (by omega) _ x h W X c rfl rfl) fun _ _ q => q.1)
theorem mi_ok {e : E} {gx x : Expr} {W : WX} {X : Cx} (c : Ct g gl t T cf n W X) (h : mI t X.N e X.env.scope gx x = true) : PI X gx x (TIx g gl cf W B Z0 e) := (me_all X.N (sizeOf e + 1)).2.2 e (by omega) _ gx x h W X c rfl rfl
end
end NH
set_option Elab.async false
set_option linter.all false
set_option maxRecDepth 100000
set_option maxHeartbeats 4000000
/-! NHi: statements. -/
namespace NH
open PySem PySem.Spec PyProof.Rows L2

/-- what a step leaves -/
structure Stp (H : Hp) (Z : Addr → Prop) (H' : Hp) (Z' : Addr → Prop) : Prop where
  ev : Evo Z H H'
  mono : ∀ a, Z a → Z' a
theorem Ext.stp {H H' : Hp} {Z Z' : Addr → Prop} (e : Ext H Z H' Z') : Stp H Z H' Z' := ⟨e.evo, e.mono⟩
theorem Stp.refl {H : Hp} {Z : Addr → Prop} : Stp H Z H Z := ⟨.refl, fun _ z => z⟩
theorem Stp.trans {H H1 H2 : Hp} {Z Z1 Z2 : Addr → Prop} (a : Stp H Z H1 Z1) (b : Stp H1 Z1 H2 Z2) : Stp H Z H2 Z2 := ⟨a.ev.trans b.ev a.mono, fun x z => b.mono x (a.mono x z)⟩
def FinF (g : Ga) (W : WX) (B : Hp) (Z0 : Addr → Prop) (H : Hp) (Z : Addr → Prop) (r : R Fl) (Y : Ends) : Prop := match r with
  | .ok (.nx env) => ∀ σ' H' Z', SR g B Z0 env Z' σ' H' → Stp H Z H' Z' → Y.nx σ' H'
  | .ok (.bk env) => ∀ σ' H' Z', SR g B Z0 env Z' σ' H' → Stp H Z H' Z' → Y.bk σ' H'
  | .ok (.ct env) => ∀ σ' H' Z', SR g B Z0 env Z' σ' H' → Stp H Z H' Z' → Y.ct σ' H'
  | .ok (.ret x) => ∀ w H' Z', Ext B Z0 H' Z' → EVr g B H' Z' w x → Y.rt w H'
  | .ok (.ex c p env) => ∀ σ' H' Z' d, SR g B Z0 env Z' σ' H' → Stp H Z H' Z' → XR g H' c p d → W (.ref (g.ca c)) d σ' H'
  | .exc _ _ => False
  | .stk => False
section
variable {g : Ga} {W : WX} {B : Hp} {Z0 : Addr → Prop} {σ : St} {H H1 : Hp} {Z Z1 : Addr → Prop} {env : En} {α : Type} {Y : Ends}
theorem FinF.step {r : R Fl} (e : Stp H Z H1 Z1) (f : FinF g W B Z0 H Z r Y) : FinF g W B Z0 H1 Z1 r Y := by
  cases r with
  | ok x =>
    cases x with
    | nx env => exact fun σ' H' Z' s e' => f σ' H' Z' s (e.trans e')
    | bk env => exact fun σ' H' Z' s e' => f σ' H' Z' s (e.trans e')
    | ct env => exact fun σ' H' Z' s e' => f σ' H' Z' s (e.trans e')
    | ret x => exact f
    | ex c p env => exact fun σ' H' Z' d s e' => f σ' H' Z' d s (e.trans e')
  | exc c p => exact f
  | stk => exact f
/-- the frame lets go: its base -/
theorem SR.out (s : SR g B Z0 env Z σ H) : Ext B Z0 H Z := ⟨s.base, s.z0, s.zn, s.zz⟩
/-- only what is there matters -/
theorem SR.same (s : SR g B Z0 env Z σ H) (h : Same H H1) : SR g B Z0 env Z σ H1 := s.ext ⟨h, fun _ z => z, fun _ z => .inl z, fun a z => by
  have := s.zz a z
  cases hu : H a with
  | none => exact absurd hu this
  | some u => rw [h _ _ hu]; exact fun q => nomatch q⟩
theorem Ext.exact {H H1 : Hp} {Z Z1 : Addr → Prop} (zz : ∀ a, Z a → H a ≠ none) (h : Same H H1) : Ext H Z H1 Z := ⟨h, fun _ z => z, fun _ z => .inl z, fun a z => by
  have := zz a z
  cases hu : H a with
  | none => exact absurd hu this
  | some u => rw [h _ _ hu]; exact fun q => nomatch q⟩
theorem stE_fin {r : R α} {k : α → R Fl} (sr : SR g B Z0 env Z σ H) (f : FinF g W B Z0 H Z (stE env r k) Y) : Fin g W σ H Z r (fun x => FinF g W B Z0 H Z (k x) Y) := by
  cases r with
  | ok x => exact f
  | exc c p => exact fun H' Z' d e x => f σ H' Z' d (sr.ext e) e.stp x
  | stk => exact f
/-- what comes of data alone -/
theorem FinF.bindN {r : R α} {k : α → R Fl} (n : NoX r) (f : FinF g W B Z0 H Z (r.bind k) Y) : ∃ x, r = .ok x ∧ FinF g W B Z0 H Z (k x) Y := by
  cases r with
  | ok x => exact ⟨x, rfl, f⟩
  | exc c p => exact absurd rfl (n c p)
  | stk => exact f.elim
theorem te_fin {gl : List D} {cf : Nat → List D → R EV} {e : E} (sr : SR g B Z0 env Z σ H) {K : EV → Prop} {P : VK} (f : Fin g W σ H Z (ev gl cf e env) K)
    (k : ∀ x v H1 Z1, Ext H Z H1 Z1 → EVr g H H1 Z1 v x → K x → P v H1) : TEx g gl cf W B Z0 e σ H P :=
  ⟨env, Z, sr, f.mono fun x q v H1 Z1 e r => k x v H1 Z1 e r q⟩
theorem tl_fin {gl : List D} {cf : Nat → List D → R EV} {es : List E} (sr : SR g B Z0 env Z σ H) {K : List EV → Prop} {P : List V → Hp → Prop} (f : Fin g W σ H Z (evA gl cf es env) K)
    (k : ∀ xs vs H1 Z1, Ext H Z H1 Z1 → AR g H H1 Z1 vs xs → (oads vs xs).Nodup → K xs → P vs H1) : TLx g gl cf W B Z0 es σ H P :=
  ⟨env, Z, sr, f.mono fun x q v H1 Z1 e r n => k x v H1 Z1 e r n q⟩
theorem tt_fin {gl : List D} {cf : Nat → List D → R EV} {e : E} (sr : SR g B Z0 env Z σ H) {K : Bool → Prop} {P : Bool → Hp → Prop} (f : Fin g W σ H Z ((ev gl cf e env).bind fun x => truD x.d) K)
    (k : ∀ x H1 Z1, Ext H Z H1 Z1 → K x → P x H1) : TTx g gl cf W B Z0 e σ H P :=
  ⟨env, Z, sr, f.mono fun x q H1 Z1 e => k x H1 Z1 e q⟩
theorem putS_nox (env : En) (i : Nat) (x : EV) : NoX (putS env i x) := by unfold putS; split <;> first | exact .ok | exact .stk
theorem putSs_nox : ∀ (env : En) (is : List Nat) (xs : List EV), NoX (putSs env is xs)
  | _, [], [] => .ok
  | _, [], _ :: _ => .stk
  | _, _ :: _, [] => .stk
  | env, i :: is, x :: xs => (putS_nox env i x).bind fun e => putSs_nox e is xs
theorem own_nox (env : En) (i : Nat) : NoX (own env i) := by unfold own; split <;> first | exact .ok | exact .stk
theorem gets_nox (env : En) (i : Nat) : NoX (gets env i) := by unfold gets; split <;> first | exact .ok | exact .stk
theorem augD_nox (op : Op) (a b : D) : NoX (augD op a b) := by unfold augD; split <;> first | exact .ok | exact .stk
theorem storeD_nox (c k v : D) : NoX (storeD c k v) := by
  unfold storeD
  split <;> first | exact .stk | exact NoX.of.bind fun _ => .ok | (refine NoX.of.bind fun _ => ?_; split <;> first | exact .ok | exact .stk)
mutual
theorem asgT_nox : ∀ (t : Tg) (d : D) (env : En), NoX (asgT t d env)
  | .n i, d, env => .ok
  | .t ts, d, env => by
    cases d <;> first | exact .stk | exact asgTs_nox ts _ env
theorem asgTs_nox : ∀ (ts : List Tg) (ds : List D) (env : En), NoX (asgTs ts ds env)
  | [], [], _ => .ok
  | t :: ts, d :: ds, env => (asgT_nox t d env).bind fun e => asgTs_nox ts ds e
  | [], _ :: _, _ => .stk
  | _ :: _, [], _ => .stk
end
/-- an owned object in a slot -/
theorem SR.owned (s : SR g B Z0 env Z σ H) {i : Nat} {c : D} (h : env[i]? = some (some (.o c))) : ∃ a, σ[i]? = some (some (.ref a)) ∧ ¬ Z a ∧ Top g H Z a c := by
  obtain ⟨v, q, a, rfl, nz, t⟩ := s.sl i _ h
  exact ⟨a, q, nz, t⟩
theorem own_ok {i : Nat} {c : D} (h : own env i = .ok c) : env[i]? = some (some (.o c)) := by
  unfold own at h
  split at h
  · cases h; assumption
  · cases h
/-- a write -/
theorem SR.writeS (s : SR g B Z0 env Z σ H) {i : Nat} {d d' : D} {a : Addr} {o : HO} (h : env[i]? = some (some (.o d))) (q : σ[i]? = some (some (.ref a))) (t : Top g (upd H a o) Z a d') : SR g B Z0 (setE env i (.o d')) Z σ (upd H a o) ∧ Stp H Z (upd H a o) Z := by
  refine ⟨s.write h q t, ?_, fun _ z => z⟩
  obtain ⟨b, q', nz, t0⟩ := s.owned h
  rw [q] at q'; cases q'
  obtain ⟨u, hu, mu⟩ := t0.there
  refine ⟨fun c w z r => ?_, fun c xs r => ?_, fun c o w r => ?_⟩
  · have nc : c ≠ a := fun e => nz (e ▸ z)
    rcases r with r | ⟨w', r⟩
    · exact .inl (by rw [upd_ne nc]; exact r)
    · exact .inr ⟨w', by rw [upd_ne nc]; exact r⟩
  · have nc : c ≠ a := fun e => by
      subst e
      rw [hu] at r; cases r; exact mu
    rw [upd_ne nc]; exact r
  · have nc : c ≠ a := fun e => by
      subst e
      rw [hu] at r; cases r; exact mu
    rw [upd_ne nc]; exact r
theorem SR.putV (s : SR g B Z0 env Z σ H) {H1 : Hp} {Z1 : Addr → Prop} (e : Ext H Z H1 Z1) {i : Nat} {v : V} {x : EV} {env' : En} (r : EVr g H H1 Z1 v x) (p : putS env i x = .ok env') : SR g B Z0 env' Z1 (σ.set i (some v)) H1 := by
  by_cases hi : i < env.length
  · refine (s.ext e).put hi r (fun a d hx hv => ?_) p
    subst hx
    obtain ⟨a', e', n, _⟩ := r
    rw [hv] at e'; cases e'
    exact s.fresh n
  · have h1 : ∀ sl, setE env i sl = env := fun sl => by unfold setE; exact List.set_eq_of_length_le (by omega)
    have h2 : σ.set i (some v) = σ := List.set_eq_of_length_le (by rw [← s.len]; omega)
    rw [h2]
    have : env' = env := by cases x <;> cases p <;> exact h1 _
    rw [this]; exact s.ext e
end
end NH
set_option Elab.async false
set_option linter.all false
set_option maxRecDepth 100000
set_option maxHeartbeats 4000000
/-! NHj: the rule of each statement. -/
namespace NH
open PySem PySem.Spec PyProof.Rows L2

/-! ### stores into lists and dicts -/
theorem Evo.upd {H : Hp} {Z : Addr → Prop} {a : Addr} {u ob : HO} (nz : ¬ Z a) (hu : H a = some u) (mu : Mut (some u)) : Evo Z H (upd H a ob) := by
  refine ⟨fun c w z r => ?_, fun c xs r => ?_, fun c o w r => ?_⟩
  · have nc : c ≠ a := fun e => nz (e ▸ z)
    rcases r with r | ⟨w', r⟩
    · exact .inl (by rw [upd_ne nc]; exact r)
    · exact .inr ⟨w', by rw [upd_ne nc]; exact r⟩
  · have nc : c ≠ a := fun e => by
      subst e
      rw [hu] at r; cases r; exact mu
    rw [upd_ne nc]; exact r
  · have nc : c ≠ a := fun e => by
      subst e
      rw [hu] at r; cases r; exact mu
    rw [upd_ne nc]; exact r
section
variable {g : Ga} {H : Hp} {Z : Addr → Prop} {κ : Type} [DecidableEq κ]
theorem put_ks {kvs : List (κ × V)} {k : κ} {v : V} {ks : List κ} (e : kvs.map (·.1) = ks) : (L2.putK kvs k v).map (·.1) = if ks.any (fun j => decide (j = k)) then ks else ks ++ [k] := by
  subst e
  unfold L2.putK
  have h : (kvs.any fun kv => decide (kv.1 = k)) = ((kvs.map (·.1)).any fun j => decide (j = k)) := by rw [List.any_map]; rfl
  rw [h]
  split
  · rw [List.map_map]
    refine List.map_congr_left fun kv _ => ?_
    simp only [Function.comp]
    split <;> rfl
  · simp
theorem put_vs {k : κ} {v : V} {d : D} (rd : Rp g H Z v d) : ∀ {kvs : List (κ × V)} {ds : List D}, RpL g H Z (kvs.map (·.2)) ds → RpL g H Z ((kvs.map fun kv => if kv.1 = k then (kv.1, v) else kv).map (·.2)) (((kvs.map (·.1)).zip ds).map fun p => if p.1 = k then d else p.2)
  | [], [], _ => .nil
  | (j, w) :: kvs, e :: ds, .cons h t => by
    simp only [List.map_cons, List.zip_cons_cons]
    refine .cons ?_ (put_vs rd t)
    by_cases q : j = k
    · rw [if_pos q, if_pos q]; exact rd
    · rw [if_neg q, if_neg q]; exact h
  | [], _ :: _, h => nomatch h
  | _ :: _, [], h => nomatch h
theorem put_all {kvs : List (κ × V)} {k : κ} {v : V} {d : D} {ks : List κ} {ds : List D} (e : kvs.map (·.1) = ks) (rd : Rp g H Z v d) (r : RpL g H Z (kvs.map (·.2)) ds) :
    RpL g H Z ((L2.putK kvs k v).map (·.2)) (if ks.any (fun j => decide (j = k)) then (ks.zip ds).map (fun p => if p.1 = k then d else p.2) else ds ++ [d]) := by
  subst e
  unfold L2.putK
  have h : (kvs.any fun kv => decide (kv.1 = k)) = ((kvs.map (·.1)).any fun j => decide (j = k)) := by rw [List.any_map]; rfl
  rw [h]
  by_cases q : ((kvs.map (·.1)).any fun j => decide (j = k)) = true
  · rw [if_pos q, if_pos q]; exact put_vs rd r
  · rw [if_neg q, if_neg q, List.map_append]; exact r.append (.cons rd .nil)
end
def rSetG (g : Ga) : TSet := fun o i v H Q => ∃ a Z c k d c', o = .ref a ∧ ¬ Z a ∧ Top g H Z a c ∧ Pk g H Z i k ∧ Rp g H Z v d ∧ storeD c k d = .ok c' ∧ ∀ ob, Top g (upd H a ob) Z a c' → Q (upd H a ob)
theorem set_okD {X : Cx} {g : Ga} (hu : X.A.units + 1 < cLine) : PSet X (rSetG g) := by
  intro pins s σ H o i v ov iv u Q I ro ri rv h
  obtain ⟨a, Z, c, k, d, c', rfl, nz, tp, pk, rd, hst, q⟩ := h
  obtain ⟨w, hw, mw⟩ := tp.there
  have ev : ∀ ob, Evo Z H (upd H a ob) := fun ob => Evo.upd nz hw mw
  unfold storeD at hst
  split at hst
  · -- a list
    rename_i xs j
    obtain ⟨n, hn, hst⟩ := bind_okE hst
    cases hst
    obtain rfl := pk.int
    obtain ⟨vs, hv, r⟩ := tp
    refine set_list pins s σ H _ _ _ _ _ _ Q I ro ri rv ⟨a, vs, j, n, rfl, rfl, hv, by rw [r.length]; exact of_ok hn, q _ ?_⟩
    exact ⟨_, upd_same, RpL.set n (RpL.evo (ev _) (fun _ z => z) _ _ r) (Rp.evo (ev _) (fun _ z => z) _ _ rd)⟩
  · rename_i ks ds
    obtain ⟨kk, hk, hst⟩ := bind_okE hst
    split at hst
    · rename_i hsz
      cases hst
      have hv := keyOf_kV pk (of_ok hk)
      subst hv
      obtain ⟨kvs, hd, ek, r⟩ := tp
      refine set_dict hu pins s σ H _ _ _ _ _ _ Q I ro ri rv ⟨a, _, rfl, DPut.k hd (by rw [← ek, List.length_map] at hsz; exact hsz), q _ ?_⟩
      refine ⟨_, upd_same, ?_, ?_⟩
      · rw [put_ks ek]; unfold putK; split <;> rfl
      · have := put_all (k := kk) ek (Rp.evo (ev (.dK (L2.putK kvs kk v))) (fun _ z => z) _ _ rd) (RpL.evo (ev (.dK (L2.putK kvs kk v))) (fun _ z => z) _ _ r)
        unfold putK
        split <;> rename_i hh
        · rw [if_pos hh] at this; exact this
        · rw [if_neg hh] at this; exact this
    · cases hst
  · rename_i ks ds kt
    obtain ⟨kk, hk, hst⟩ := bind_okE hst
    split at hst
    · rename_i hsz
      cases hst
      obtain ⟨b, ws, rfl, hb, rb⟩ := pk.tup
      have hv := keysOf_kV rb (of_ok hk)
      subst hv
      obtain ⟨kvs, hd, ek, r⟩ := tp
      refine set_dict hu pins s σ H _ _ _ _ _ _ Q I ro ri rv ⟨a, _, rfl, DPut.t hd hb (by rw [← ek, List.length_map] at hsz; exact hsz), q _ ?_⟩
      refine ⟨_, upd_same, ?_, ?_⟩
      · rw [put_ks ek]; unfold putT; split <;> rfl
      · have := put_all (k := kk) ek (Rp.evo (ev (.dT (L2.putK kvs kk v))) (fun _ z => z) _ _ rd) (RpL.evo (ev (.dT (L2.putK kvs kk v))) (fun _ z => z) _ _ r)
        unfold putT
        split <;> rename_i hh
        · rw [if_pos hh] at this; exact this
        · rw [if_neg hh] at this; exact this
    · cases hst
  · cases hst

/-! ### several slots at once -/
def setSs (σ : St) : List Nat → List V → St
  | i :: is, v :: vs => setSs (σ.set i (some v)) is vs
  | _, _ => σ
theorem SR.putL {g : Ga} {B H0 H : Hp} {Z0 Z : Addr → Prop} : ∀ {is : List Nat} {vs : List V} {xs : List EV} {env env' : En} {σ : St}, SR g B Z0 env Z σ H → AR g H0 H Z vs xs → (oads vs xs).Nodup →
    (∀ a ∈ oads vs xs, B a = none ∧ ∀ (j : Nat) d', env[j]? = some (some (.o d')) → σ[j]? = some (some (.ref a)) → False) → putSs env is xs = .ok env' → SR g B Z0 env' Z (setSs σ is vs) H ∧ is.length = vs.length
  | [], [], [], env, env', σ, s, ar, nd, fr, p => by cases p; exact ⟨s, rfl⟩
  | i :: is, v :: vs, x :: xs, env, env', σ, s, ar, nd, fr, p => by
    simp only [putSs] at p
    obtain ⟨e1, p1, p2⟩ := bind_okE p
    have s1 : SR g B Z0 e1 Z (σ.set i (some v)) H := by
      by_cases hi : i < env.length
      · refine s.put hi ar.1 (fun a d hx hv => ?_) p1
        subst hx hv
        exact fr a (by simp [oads])
      · have h1 : ∀ sl, setE env i sl = env := fun sl => by unfold setE; exact List.set_eq_of_length_le (by omega)
        have h2 : σ.set i (some v) = σ := List.set_eq_of_length_le (by rw [← s.len]; omega)
        rw [h2]
        have : e1 = env := by cases x <;> cases p1 <;> exact h1 _
        rw [this]; exact s
    have sub : ∀ a ∈ oads vs xs, a ∈ oads (v :: vs) (x :: xs) := fun a m => by
      cases x with
      | o d =>
        obtain ⟨b, e, _⟩ := ar.1
        subst e
        simp only [oads, List.mem_cons]; exact .inr m
      | z d => cases v <;> exact m
      | b d => cases v <;> exact m
    have nd2 : (oads vs xs).Nodup := by
      cases x with
      | o d =>
        obtain ⟨b, e, _⟩ := ar.1
        subst e
        simp only [oads, List.nodup_cons] at nd
        exact nd.2
      | z d => cases v <;> exact nd
      | b d => cases v <;> exact nd
    have fr2 : ∀ a ∈ oads vs xs, B a = none ∧ ∀ (j : Nat) d', e1[j]? = some (some (.o d')) → (σ.set i (some v))[j]? = some (some (.ref a)) → False := by
      refine fun a m => ⟨(fr a (sub a m)).1, fun j d' h1 h2 => ?_⟩
      by_cases e : i = j
      · subst e
        have hi : i < env.length := by
          have := (List.getElem?_eq_some_iff.mp h2).1
          rw [List.length_set] at this
          rw [s.len]; exact this
        cases x with
        | o d =>
          obtain ⟨b, q, _⟩ := ar.1
          subst q
          have hs : i < σ.length := by rw [← s.len]; exact hi
          rw [List.getElem?_set_self hs] at h2
          cases h2
          simp only [oads, List.nodup_cons] at nd
          exact nd.1 m
        | z d =>
          cases p1
          unfold setE at h1
          rw [List.getElem?_set_self hi] at h1
          cases h1
        | b d => cases p1
      · rw [List.getElem?_set_ne e] at h2
        refine (fr a (sub a m)).2 j d' ?_ h2
        cases x with
        | o d => cases p1; unfold setE at h1; rw [List.getElem?_set_ne e] at h1; exact h1
        | z d => cases p1; unfold setE at h1; rw [List.getElem?_set_ne e] at h1; exact h1
        | b d => cases p1
    obtain ⟨s2, l⟩ := SR.putL s1 ar.2 nd2 fr2 p2
    exact ⟨s2, by simp [l]⟩
  | [], [], _ :: _, _, _, _, _, ar, _, _, _ => ar.elim
  | [], _ :: _, [], _, _, _, _, ar, _, _, _ => ar.elim
  | _ :: _, [], _ :: _, _, _, _, _, ar, _, _, _ => ar.elim
  | _ :: _, _ :: _, [], _, _, _, _, ar, _, _, _ => ar.elim
  | [], _ :: _, _ :: _, _, _, _, _, _, _, _, p => by cases p
  | _ :: _, [], [], _, _, _, _, _, _, _, p => by cases p
theorem ar_len {g : Ga} {H0 H : Hp} {Z : Addr → Prop} : ∀ {vs : List V} {xs : List EV}, AR g H0 H Z vs xs → vs.length = xs.length
  | [], [], _ => rfl
  | _ :: _, _ :: _, h => by simp [ar_len h.2]
  | [], _ :: _, h => h.elim
  | _ :: _, [], h => h.elim
theorem AR.oadsZ {g : Ga} {H0 H : Hp} {Z : Addr → Prop} : ∀ {vs : List V} {xs : List EV}, AR g H0 H Z vs xs → ∀ a ∈ NH.oads vs xs, H0 a = none
  | [], [], _, a, h => by simp [NH.oads] at h
  | v :: vs, x :: xs, h, a, m => by
    cases x with
    | o d =>
      obtain ⟨b, e, n, _⟩ := h.1
      subst e
      simp only [NH.oads, List.mem_cons] at m
      rcases m with rfl | m
      · exact n
      · exact AR.oadsZ h.2 a m
    | z d => cases v <;> exact AR.oadsZ h.2 a m
    | b d => cases v <;> exact AR.oadsZ h.2 a m
  | [], _ :: _, h, _, _ => h.elim
  | _ :: _, [], h, _, _ => h.elim

def locL (sc : Scope) (x : Str) : Bool := decide (sc.names.lookup x = some .local)
/-! ### the rules -/
structure Fx (X : Cx) : Prop where
  hp : PassesOwn (model X.prog X.w) X.A X.env X.xe
  fnA : ∀ x, X.fn x = true
  kind : X.env.scope.kind = .function
section
variable (g : Ga) (gl : List D) (cf : Nat → List D → R EV) (wf : Nat) (W : WX) (B : Hp) (Z0 : Addr → Prop)
def TSx (s : S) : TS := fun Y σ H => ∃ env Z, SR g B Z0 env Z σ H ∧ FinF g W B Z0 H Z (ex gl cf wf s env) Y
def TSs (s : List S) : TS := fun Y σ H => ∃ env Z, SR g B Z0 env Z σ H ∧ FinF g W B Z0 H Z (exs gl cf wf s env) Y
end
/-- the frame's list, at a name -/
theorem own_var {g : Ga} {B H : Hp} {Z0 Z : Addr → Prop} {env : En} {σ : St} {i : Nat} {c : D} {P : VK} (sr : SR g B Z0 env Z σ H) (h : own env i = .ok c) (k : ∀ a, σ[i]? = some (some (.ref a)) → ¬ Z a → Top g H Z a c → P (.ref a) H) : tVar i σ H P := by
  obtain ⟨a, q, nz, tp⟩ := sr.owned (own_ok h)
  exact ⟨_, q, k a q nz tp⟩
theorem lstD_ok {c : D} {xs : List D} (h : lstD c = .ok xs) : c = .lst xs := by
  unfold lstD at h
  split at h <;> cases h
  rfl
def nc : Expr → Bool
  | .ListComp .. | .SetComp .. | .DictComp .. => false
  | _ => true
theorem nc_sw {v : Expr} (h : nc v = true) (tg : Option Expr) (l : Nat) (env : Env) : swapsWith v tg l env = pure false := by
  cases v <;> first | rfl | cases h
section
variable {g : Ga} {gl : List D} {t : Tx} {T : List Df} {cf : Nat → List D → R EV} {wf : Nat} {n : Nat} {W : WX} {X : Cx} {B : Hp} {Z0 : Addr → Prop} {pos : Pos}
variable (c : Ct g gl t T cf n W X) (fx : Fx X)
include c fx
variable {a b e : E} {x y v : Expr}
theorem ss_pass : PS X (.Pass pos) (TSx g gl cf wf W B Z0 .pass) := PS.imp ps_pass fun D σ H ⟨env, Z, sr, f⟩ => f σ H Z sr .refl
theorem ss_never {st : Stmt} : PS X st (TSx g gl cf wf W B Z0 .never) := PS.imp ps_never fun D σ H ⟨env, Z, sr, f⟩ => f
theorem ss_brk : PS X (.Break pos) (TSx g gl cf wf W B Z0 .brk) := PS.imp ps_break fun D σ H ⟨env, Z, sr, f⟩ => f σ H Z sr .refl
theorem ss_cont : PS X (.Continue pos) (TSx g gl cf wf W B Z0 .cont) := PS.imp ps_continue fun D σ H ⟨env, Z, sr, f⟩ => f σ H Z sr .refl
theorem asg_imp {i : Nat} (D : Ends) (σ : St) (H : Hp) (h : TSx g gl cf wf W B Z0 (.asg (.n i) e) D σ H) : tAsg (TEx g gl cf W B Z0 e) (gName i) D σ H := by
  obtain ⟨env, Z, sr, f⟩ := h
  simp only [ex] at f
  refine te_fin sr (stE_fin sr f) fun x v H1 Z1 e1 r1 f1 => ?_
  obtain ⟨env', hp, f1⟩ := f1.bindN (putS_nox _ _ _)
  exact f1 _ H1 Z1 (sr.putV e1 r1 hp) e1.stp
theorem ss_set {i : Nat} {nm : Str} {p : Pos} (hi : X.N[i]? = some nm) (hx : locB X.env.scope nm = true) (hc : nc v = true) (he : PE X v (TEx g gl cf W B Z0 e)) : PS X (.Assign [.Name nm p] v pos) (TSx g gl cf wf W B Z0 (.asg (.n i) e)) :=
  PS.imp (ps_set c.nd hi (loc_of hx) he (nc_sw hc _ _ _) (.inl (fx.fnA _))) (asg_imp c fx)
theorem ss_tup {ts : List Tg} {es : List Expr} {k : Nat} {p : Pos} (hg : mG X.N (.t ts) X.env.scope (.Tuple es k p) = true) (hc : nc v = true) (ht : isTupE v = false) (he : PE X v (TEx g gl cf W B Z0 e)) : PS X (.Assign [.Tuple es k p] v pos) (TSx g gl cf wf W B Z0 (.asg (.t ts) e)) := by
  have hG := pg_ok (g := g) (B := B) (Z0 := Z0) c.K c.calm c.nd (fun x hx => ⟨loc_of hx, .inl (fx.fnA x)⟩) (.t ts) _ hg
  refine PS.imp (ps_asg he hG (by unfold swapsWithSole; exact nc_sw hc _ _ _) (by cases v <;> first | rfl | cases ht)) fun D σ H ⟨env, Z, sr, f⟩ => ?_
  simp only [ex] at f
  refine te_fin sr (stE_fin sr f) fun x v H1 Z1 e1 r1 f1 => ?_
  obtain ⟨d, hd, f1⟩ := f1.bindN (keep_nox _)
  obtain ⟨Z2, e2, _, _, _, r2⟩ := EVr.keep e1 r1 hd
  obtain ⟨env', ha, f1⟩ := f1.bindN (asgT_nox _ _ _)
  exact ⟨env, Z2, d, env', sr.ext e2, r2, ha, fun σ' s' _ => f1 _ H1 Z2 s' e2.stp⟩
theorem ss_expr (hc : nc v = true) (he : PE X v (TEx g gl cf W B Z0 e)) : PS X (.Expr v pos) (TSx g gl cf wf W B Z0 (.expr e)) := by
  refine PS.imp (ps_expr he (nc_sw hc _ _ _)) fun D σ H ⟨env, Z, sr, f⟩ => ?_
  simp only [ex] at f
  exact te_fin sr (stE_fin sr f) fun x v H1 Z1 e1 r1 f1 => f1 σ H1 Z1 (sr.ext e1) e1.stp
theorem ss_par2 {i j : Nat} {nx ny : Str} {px py pt : Pos} {kt k2 : Nat} {pt2 : Pos} {es : List E} (hi : X.N[i]? = some nx) (hj : X.N[j]? = some ny) (hij : i ≠ j) (hx : X.env.scope.names.lookup nx = some .local) (hy : X.env.scope.names.lookup ny = some .local)
    (hs : PA X [x, y] (TLx g gl cf W B Z0 es)) (hw : swappedStores [.Tuple [.Name nx px, .Name ny py] kt pt] (.Tuple [x, y] k2 pt2) X.env = pure (some [nx, ny])) :
    PS X (.Assign [.Tuple [.Name nx px, .Name ny py] kt pt] (.Tuple [x, y] k2 pt2) pos) (TSx g gl cf wf W B Z0 (.par [i, j] es)) := by
  refine PS.imp (ps_par c.calm c.nd hi hj hij hx hy hs hw) fun D σ H ⟨env, Z, sr, f⟩ => ?_
  simp only [ex] at f
  refine tl_fin sr (stE_fin sr f) fun xs vs H1 Z1 e1 ar nd f1 => ?_
  obtain ⟨env', hp, f1⟩ := f1.bindN (putSs_nox _ _ _)
  obtain ⟨s2, l⟩ := SR.putL (sr.ext e1) ar nd (fun a m => sr.fresh (AR.oadsZ ar a m)) hp
  match vs, l with
  | [v, w], _ => exact ⟨v, w, rfl, f1 _ H1 Z1 s2 e1.stp⟩
theorem ss_par3 {i j l : Nat} {nx ny nz : Str} {px py pz pt : Pos} {kt k2 : Nat} {pt2 : Pos} {es : List E} {z : Expr} (hi : X.N[i]? = some nx) (hj : X.N[j]? = some ny) (hl : X.N[l]? = some nz) (hij : i ≠ j) (hil : i ≠ l) (hjl : j ≠ l) (hx : X.env.scope.names.lookup nx = some .local) (hy : X.env.scope.names.lookup ny = some .local) (hz : X.env.scope.names.lookup nz = some .local)
    (hs : PA X [x, y, z] (TLx g gl cf W B Z0 es)) (hw : swappedStores [.Tuple [.Name nx px, .Name ny py, .Name nz pz] kt pt] (.Tuple [x, y, z] k2 pt2) X.env = pure (some [nx, ny, nz])) :
    PS X (.Assign [.Tuple [.Name nx px, .Name ny py, .Name nz pz] kt pt] (.Tuple [x, y, z] k2 pt2) pos) (TSx g gl cf wf W B Z0 (.par [i, j, l] es)) := by
  refine PS.imp (ps_par3 c.calm c.nd hi hj hl hij hil hjl hx hy hz hs hw) fun D σ H ⟨env, Z, sr, f⟩ => ?_
  simp only [ex] at f
  refine tl_fin sr (stE_fin sr f) fun xs vs H1 Z1 e1 ar nd f1 => ?_
  obtain ⟨env', hp, f1⟩ := f1.bindN (putSs_nox _ _ _)
  obtain ⟨s2, l⟩ := SR.putL (sr.ext e1) ar nd (fun a m => sr.fresh (AR.oadsZ ar a m)) hp
  match vs, l with
  | [v, w, u], _ => exact ⟨v, w, u, rfl, f1 _ H1 Z1 s2 e1.stp⟩
theorem ss_ix {i : Nat} {k : E} {nm : Str} {p p' : Pos} {ke : Expr} (hi : (decide (X.N[i]? = some nm) && visB X.env.scope nm && okN nm) = true) (hk : PE X ke (TEx g gl cf W B Z0 k)) (hs : isSlc ke = false) (hc : nc v = true) (he : PE X v (TEx g gl cf W B Z0 e)) :
    PS X (.Assign [.Subscript (.Name nm p) ke p'] v pos) (TSx g gl cf wf W B Z0 (.ix i k e)) := by
  simp only [Bool.and_eq_true, decide_eq_true_eq] at hi
  obtain ⟨⟨h1, h2⟩, h3⟩ := hi
  obtain ⟨k1, k2, k3⟩ := okN_of h3
  refine PS.imp (ps_asg he (pg_sub (pe_var h1 (vis_of h2) k1 k2) hk (set_okD (g := g) (by have := c.hu; omega)) (fun _ => by cases ke <;> first | rfl | cases hs)) (by unfold swapsWithSole; exact nc_sw hc _ _ _) (by cases v <;> rfl)) fun D σ H ⟨env, Z, sr, f⟩ => ?_
  simp only [ex] at f
  refine te_fin sr (stE_fin sr f) fun x v H1 Z1 e1 r1 f1 => ?_
  obtain ⟨d, hd, f1⟩ := f1.bindN (keep_nox _)
  obtain ⟨Z2, e2, _, _, _, r2⟩ := EVr.keep e1 r1 hd
  obtain ⟨cc, hcc, f1⟩ := f1.bindN (own_nox _ _)
  have sr2 := sr.ext e2
  refine own_var sr2 hcc fun a ha nz tp => ?_
  refine te_fin sr2 (stE_fin sr2 (f1.step e2.stp)) fun y w H3 Z3 e3 r3 f3 => ?_
  obtain ⟨c', hst, f3⟩ := f3.bindN (storeD_nox _ _ _)
  obtain ⟨a', q', nz', tp'⟩ := (sr2.ext e3).owned (own_ok hcc)
  rw [ha] at q'; cases q'
  refine ⟨a, Z3, cc, y.d, d, c', rfl, nz', tp', r3.pk, Rp.evo e3.evo e3.mono _ _ r2, hst, fun ob tp3 => ?_⟩
  obtain ⟨s4, st4⟩ := (sr2.ext e3).writeS (own_ok hcc) ha tp3
  exact f3 σ _ Z3 s4 (e3.stp.trans st4)
omit c fx in
theorem pairD_nox (d : D) : NoX (pairD d) := by unfold pairD; split <;> first | exact .ok | exact .stk
omit c fx in
theorem sw_sub {o1 a1 o2 a2 x y : Expr} {p1 p2 pt pt2 : Pos} {kt kv : Nat} {env : Env} : swappedStores [.Tuple [.Subscript o1 a1 p1, .Subscript o2 a2 p2] kt pt] (.Tuple [x, y] kv pt2) env = pure none := by
  unfold swappedStores
  simp only [List.filterMap_cons, List.filterMap_nil, List.length_cons, List.length_nil]
  repeat (first | rfl | split)
theorem ss_swp {i : Nat} {k1 k2 : E} {nm : Str} {p p' q q' pt pt2 : Pos} {kt kv : Nat} {ka kb : Expr} (hi : (decide (X.N[i]? = some nm) && visB X.env.scope nm && okN nm) = true) (h1 : PE X ka (TEx g gl cf W B Z0 k1)) (h2 : PE X kb (TEx g gl cf W B Z0 k2)) (hs1 : isSlc ka = false) (hs2 : isSlc kb = false) (he : PE X (.Tuple [x, y] kv pt2) (TEx g gl cf W B Z0 e)) :
    PS X (.Assign [.Tuple [.Subscript (.Name nm p) ka p', .Subscript (.Name nm q) kb q'] kt pt] (.Tuple [x, y] kv pt2) pos) (TSx g gl cf wf W B Z0 (.swp i k1 k2 e)) := by
  simp only [Bool.and_eq_true, decide_eq_true_eq] at hi
  obtain ⟨⟨n1, n2⟩, n3⟩ := hi
  obtain ⟨l1, l2, l3⟩ := okN_of n3
  have hu : X.A.units + 1 < cLine := by have := c.hu; omega
  refine PS.imp (ps_asg he (pg_tup c.calm (pgs_cons (pg_sub (pe_var n1 (vis_of n2) l1 l2) h1 (set_okD (g := g) hu) (fun _ => by cases ka <;> first | rfl | cases hs1)) (pgs_cons (pg_sub (pe_var n1 (vis_of n2) l1 l2) h2 (set_okD (g := g) hu) (fun _ => by cases kb <;> first | rfl | cases hs2)) pgs_nil)) rfl rfl) (by unfold swapsWithSole; exact nc_sw rfl _ _ _) sw_sub) fun D σ H ⟨env, Z, sr, f⟩ => ?_
  simp only [ex] at f
  refine te_fin sr (stE_fin sr f) fun x v H1 Z1 e1 r1 f1 => ?_
  obtain ⟨d, hd, f1⟩ := f1.bindN (keep_nox _)
  obtain ⟨Z2, e2, _, _, _, r2⟩ := EVr.keep e1 r1 hd
  obtain ⟨pr, hpr, f1⟩ := f1.bindN (pairD_nox _)
  obtain ⟨cc, hcc, f1⟩ := f1.bindN (own_nox _ _)
  have sr2 := sr.ext e2
  unfold pairD at hpr
  split at hpr
  case h_2 => cases hpr
  case h_1 d1 d2 =>
  cases hpr
  cases r2 with
  | tup hh rr =>
  cases rr with
  | cons rd1 rr =>
  cases rr with
  | cons rd2 rr =>
  cases rr with
  | nil =>
  refine ⟨_, _, rfl, .of hh, rfl, _, _, rfl, ?_⟩
  refine own_var sr2 hcc fun a ha nz tp => ?_
  refine te_fin sr2 (stE_fin sr2 (f1.step e2.stp)) fun y w H3 Z3 e3 r3 f3 => ?_
  obtain ⟨c', hst, f3⟩ := f3.bindN (storeD_nox _ _ _)
  have sr3 := sr2.ext e3
  obtain ⟨a', q1, nz', tp'⟩ := sr3.owned (own_ok hcc)
  rw [ha] at q1; cases q1
  refine ⟨a, Z3, cc, y.d, d1, c', rfl, nz', tp', r3.pk, Rp.evo e3.evo e3.mono _ _ rd1, hst, fun ob tp3 => ?_⟩
  obtain ⟨w3, hw3, mw3⟩ := tp'.there
  have ev3 : Evo Z3 H3 (upd H3 a ob) := Evo.upd nz' hw3 mw3
  obtain ⟨s4, st4⟩ := sr3.writeS (own_ok hcc) ha tp3
  have il : i < env.length := (List.getElem?_eq_some_iff.mp (own_ok hcc)).1
  have own2 : own (setE env i (.o c')) i = .ok c' := by
    unfold own setE
    rw [List.getElem?_set_self il]
  refine ⟨_, _, rfl, ?_⟩
  refine own_var s4 own2 fun b hb nzb tpb => ?_
  rw [ha] at hb; cases hb
  refine te_fin s4 (stE_fin s4 (f3.step (e3.stp.trans st4))) fun z w5 H5 Z5 e5 r5 f5 => ?_
  obtain ⟨c2, hst2, f5⟩ := f5.bindN (storeD_nox _ _ _)
  have sr5 := s4.ext e5
  obtain ⟨b', q5, nz5, tp5⟩ := sr5.owned (own_ok own2)
  rw [ha] at q5; cases q5
  refine ⟨a, Z5, c', z.d, d2, c2, rfl, nz5, tp5, r5.pk, Rp.evo e5.evo e5.mono _ _ (Rp.evo ev3 (fun _ z => z) _ _ (Rp.evo e3.evo e3.mono _ _ rd2)), hst2, fun ob2 tp6 => ?_⟩
  obtain ⟨s6, st6⟩ := sr5.writeS (own_ok own2) ha tp6
  exact ⟨rfl, f5 σ _ Z5 s6 (e5.stp.trans st6)⟩
theorem ss_app {i : Nat} {nm at' : Str} {p ap cp : Pos} (hn : at' = "append") (hi : (decide (X.N[i]? = some nm) && visB X.env.scope nm && okN nm) = true) (hl : (ap.endLine == cp.line) = true) (hx : ∀ e p, v ≠ .Starred e p) (he : PE X v (TEx g gl cf W B Z0 e)) :
    PS X (.Expr (.Call (.Attribute (.Name nm p) at' ap) [v] [] cp) pos) (TSx g gl cf wf W B Z0 (.app i e)) := by
  subst hn
  simp only [Bool.and_eq_true, decide_eq_true_eq] at hi
  obtain ⟨⟨h1, h2⟩, h3⟩ := hi
  obtain ⟨k1, k2, k3⟩ := okN_of h3
  have hst := starN c (xs := []) (env := X.env) hx
  refine PS.imp (ps_expr (pe_bm F.plainAttrs_list F.slot_list_append rfl mt_append (pe_var h1 (vis_of h2) k1 k2) (pa_cons he pa_nil hst) rfl (by rw [hst]; rfl) hl hst rfl)) fun D σ H ⟨env, Z, sr, f⟩ => ?_
  simp only [ex] at f
  obtain ⟨cc, hcc, f⟩ := f.bindN (own_nox _ _)
  obtain ⟨xs, hxs, f⟩ := f.bindN (lstD_nox _)
  obtain rfl := lstD_ok hxs
  unfold tDrop tBM
  refine own_var sr hcc fun a ha nz tp => ⟨.inl ⟨rfl, _, sqL_of_rd (.inl tp.choose_spec.1)⟩, ?_⟩
  refine te_fin sr (stE_fin sr f) fun x v H1 Z1 e1 r1 f1 => ?_
  obtain ⟨d, hd, f1⟩ := f1.bindN (keep_nox _)
  obtain ⟨Z2, e2, _, _, _, r2⟩ := EVr.keep e1 r1 hd
  split at f1
  case isFalse => exact f1.elim
  case isTrue hsz =>
  have sr2 := sr.ext e2
  obtain ⟨a', q', nz', vs, hv, rv⟩ := sr2.owned (own_ok hcc)
  rw [ha] at q'; cases q'
  refine ⟨a, vs, v, rfl, rfl, hv, by rw [rv.length]; exact hsz, ?_⟩
  have ev : Evo Z2 H1 (upd H1 a (.lst (vs ++ [v]))) := Evo.upd nz' hv trivial
  obtain ⟨s4, st4⟩ := sr2.writeS (own_ok hcc) ha (d' := .lst (xs ++ [d])) (o := .lst (vs ++ [v])) ⟨_, upd_same, RpL.append (RpL.evo ev (fun _ z => z) _ _ rv) (.cons (Rp.evo ev (fun _ z => z) _ _ r2) .nil)⟩
  exact f1 σ _ Z2 s4 (e2.stp.trans st4)
theorem newL_ok {x : EV} {ys : List D} (h : newL x = .ok ys) : x = .o (.lst ys) := by
  unfold newL at h
  split at h <;> cases h
  rfl
theorem newL_nox (x : EV) : NoX (newL x) := by unfold newL; split <;> first | exact .ok | exact .stk
theorem ss_ext {i : Nat} {nm at' : Str} {p ap cp : Pos} (hn : at' = "extend") (hi : (decide (X.N[i]? = some nm) && visB X.env.scope nm && okN nm) = true) (hl : (ap.endLine == cp.line) = true) (hx : ∀ e p, v ≠ .Starred e p) (he : PE X v (TEx g gl cf W B Z0 e)) :
    PS X (.Expr (.Call (.Attribute (.Name nm p) at' ap) [v] [] cp) pos) (TSx g gl cf wf W B Z0 (.ext i e)) := by
  subst hn
  simp only [Bool.and_eq_true, decide_eq_true_eq] at hi
  obtain ⟨⟨h1, h2⟩, h3⟩ := hi
  obtain ⟨k1, k2, k3⟩ := okN_of h3
  have hst := starN c (xs := []) (env := X.env) hx
  refine PS.imp (ps_expr (pe_bm F.plainAttrs_list F.slot_list_extend rfl mt_extend (pe_var h1 (vis_of h2) k1 k2) (pa_cons he pa_nil hst) rfl (by rw [hst]; rfl) hl hst rfl)) fun D σ H ⟨env, Z, sr, f⟩ => ?_
  simp only [ex] at f
  obtain ⟨cc, hcc, f⟩ := f.bindN (own_nox _ _)
  obtain ⟨xs, hxs, f⟩ := f.bindN (lstD_nox _)
  obtain rfl := lstD_ok hxs
  unfold tDrop tBM
  refine own_var sr hcc fun a ha nz tp => ⟨.inl ⟨rfl, _, sqL_of_rd (.inl tp.choose_spec.1)⟩, ?_⟩
  refine te_fin sr (stE_fin sr f) fun x v H1 Z1 e1 r1 f1 => ?_
  obtain ⟨ys, hys, f2⟩ := f1.bindN (newL_nox c fx _)
  rw [newL_ok c fx hys] at r1
  obtain ⟨b, rfl, nb, nzb, ws, hw, rw'⟩ := r1
  split at f2
  case isFalse => exact f2.elim
  case isTrue hsz =>
  have sr2 := sr.ext e1
  obtain ⟨a', q', nz', vs, hv, rv⟩ := sr2.owned (own_ok hcc)
  rw [ha] at q'; cases q'
  refine ⟨a, b, vs, ws, rfl, rfl, hv, hw, by rw [rv.length, rw'.length]; exact hsz, ?_⟩
  have ev : Evo Z1 H1 (upd H1 a (.lst (vs ++ ws))) := Evo.upd nz' hv trivial
  obtain ⟨s4, st4⟩ := sr2.writeS (own_ok hcc) ha (d' := .lst (xs ++ ys)) (o := .lst (vs ++ ws)) ⟨_, upd_same, RpL.append (RpL.evo ev (fun _ z => z) _ _ rv) (RpL.evo ev (fun _ z => z) _ _ rw')⟩
  exact f2 σ _ Z1 s4 (e1.stp.trans st4)
theorem frz_get {env : En} {i : Nat} {s : Sl} (h : (frzAll env)[i]? = some (some s)) : ∃ d, s = .v d ∧ (env[i]? = some (some (.v d)) ∨ env[i]? = some (some (.o d))) := by
  unfold frzAll at h
  rw [List.getElem?_map] at h
  obtain ⟨o, ho, h⟩ := Option.map_eq_some_iff.mp h
  cases o with
  | none => cases h
  | some s0 =>
    cases s0 with
    | v d => cases h; exact ⟨d, rfl, .inl ho⟩
    | o d => cases h; exact ⟨d, rfl, .inr ho⟩
theorem SR.frzA {σ : St} {H : Hp} {Z : Addr → Prop} {env : En} (s : SR g B Z0 env Z σ H) : ∃ Z', SR g B Z0 (frzAll env) Z' σ H := by
  have up : ∀ a, Z a → (Z a ∨ ∃ (i : Nat) (d : D), env[i]? = some (some (.o d)) ∧ σ[i]? = some (some (.ref a))) := fun a z => .inl z
  refine ⟨fun a => Z a ∨ ∃ (i : Nat) (d : D), env[i]? = some (some (.o d)) ∧ σ[i]? = some (some (.ref a)), by unfold frzAll; rw [List.length_map]; exact s.len, fun i sl h => ?_, fun i j a d d' h => ?_, fun i d a h => ?_, s.base, fun a z => ?_, fun a z => .inl (s.z0 a z), fun a z => ?_⟩
  · obtain ⟨d, rfl, h | h⟩ := frz_get c fx h
    · obtain ⟨v, q, r⟩ := s.sl i _ h
      exact ⟨v, q, Rp.evo .refl up _ _ r⟩
    · obtain ⟨v, q, a, rfl, nz, t⟩ := s.sl i _ h
      exact ⟨_, q, (t.step .refl up fun _ e => e).rp (.inr ⟨i, d, h, q⟩)⟩
  · obtain ⟨_, e, _⟩ := frz_get c fx h
    cases e
  · obtain ⟨_, e, _⟩ := frz_get c fx h
    cases e
  · rcases z with z | ⟨i, d, h, q⟩
    · exact s.zz a z
    · obtain ⟨b, q', nz, t⟩ := s.owned h
      rw [q] at q'; cases q'
      obtain ⟨u, hu, _⟩ := t.there
      rw [hu]; exact fun q => nomatch q
  · rcases z with z | ⟨i, d, h, q⟩
    · exact s.zn a z
    · exact .inr (s.new i d a h q)
theorem retV_ev {env : En} (h : ∀ i, e ≠ .var i) : retV gl cf e env = ev gl cf e (frzAll env) := by
  cases e <;> first | rfl | exact absurd rfl (h _)
theorem ss_ret (he : PE X v (TEx g gl cf W B Z0 e)) (hv : ∀ i, e = .var i → ∃ nm p, v = .Name nm p ∧ (decide (X.N[i]? = some nm) && visB X.env.scope nm && okN nm) = true) : PS X (.Return (some v) pos) (TSx g gl cf wf W B Z0 (.ret e)) := by
  by_cases hi : ∃ i, e = .var i
  · obtain ⟨i, rfl⟩ := hi
    obtain ⟨nm, p, rfl, h⟩ := hv i rfl
    simp only [Bool.and_eq_true, decide_eq_true_eq] at h
    obtain ⟨⟨h1, h2⟩, h3⟩ := h
    obtain ⟨k1, k2, k3⟩ := okN_of h3
    refine PS.imp (ps_ret (pe_var h1 (vis_of h2) k1 k2)) fun Y σ H ⟨env, Z, sr, f⟩ => ?_
    simp only [ex, retV] at f
    split at f
    · rename_i d hd
      obtain ⟨w, q, r⟩ := sr.sl i _ hd
      exact ⟨w, q, f w H Z sr.out r⟩
    · rename_i d hd
      obtain ⟨a, q, nz, t⟩ := sr.owned hd
      exact ⟨_, q, f _ H Z sr.out ⟨a, rfl, sr.new i d a hd q, nz, t⟩⟩
    · exact f.elim
  · refine PS.imp (ps_ret he) fun Y σ H ⟨env, Z, sr, f⟩ => ?_
    simp only [ex] at f
    rw [retV_ev c fx fun i q => hi ⟨i, q⟩] at f
    obtain ⟨Z', sr'⟩ := sr.frzA c fx
    refine ⟨frzAll env, Z', sr', ?_⟩
    cases hr : ev gl cf e (frzAll env) with
    | stk => rw [hr] at f; exact f
    | exc k p =>
      rw [hr] at f
      exact fun H' Z2 d e2 x => f σ H' Z d (sr.same e2.same) ⟨Same.evo e2.same, fun _ z => z⟩ x
    | ok x =>
      rw [hr] at f
      simp only [stE_ok] at f
      intro w H' Z2 e2 r2
      have fin : FinF g W B Z0 H Z (.ok (.ret x)) Y → Y.rt w H' := fun f => f w H' Z2 (sr'.out.trans e2) (r2.weak sr'.out)
      cases x with
      | z d => exact fin f
      | o d => exact fin f
      | b d => exact f.elim
theorem ss_retN : PS X (.Return none pos) (TSx g gl cf wf W B Z0 .retN) := PS.imp ps_retN fun Y σ H ⟨env, Z, sr, f⟩ => f .non H Z sr.out .non
theorem fin_tru {σ : St} {H : Hp} {Z : Addr → Prop} {r : R EV} {F : Bool → R Fl} {Y : Ends} (f : Fin g W σ H Z r (fun x => FinF g W B Z0 H Z ((truD x.d).bind F) Y)) : Fin g W σ H Z (r.bind fun x => truD x.d) (fun b => FinF g W B Z0 H Z (F b) Y) := by
  cases r with
  | ok x =>
    obtain ⟨b, hb, f⟩ := FinF.bindN (truD_nox _) f
    show Fin g W σ H Z (truD x.d) _
    rw [hb]; exact f
  | exc k p => exact f
  | stk => exact f
theorem ss_ite {p q : List S} {xs ys : List Stmt} (hc : PT X v (TTx g gl cf W B Z0 e)) (hp : PSs X xs (TSs g gl cf wf W B Z0 p)) (hq : PSs X ys (TSs g gl cf wf W B Z0 q)) : PS X (.If v xs ys pos) (TSx g gl cf wf W B Z0 (.ite e p q)) := by
  refine PS.imp (ps_if hc hp hq) fun Y σ H ⟨env, Z, sr, f⟩ => ?_
  simp only [ex] at f
  refine tt_fin sr (fin_tru c fx (stE_fin sr f)) fun k H1 Z1 e1 f1 => ?_
  cases k with
  | true =>
    rw [if_pos rfl] at f1 ⊢
    exact ⟨env, Z1, sr.ext e1, f1.step e1.stp⟩
  | false =>
    rw [if_neg Bool.false_ne_true] at f1 ⊢
    exact ⟨env, Z1, sr.ext e1, f1.step e1.stp⟩
theorem ss_for {it : E} {tg : Tg} {xg xi : Expr} {p : List S} {xs : List Stmt} (hi : PI X xg xi (TIx g gl cf W B Z0 it)) (hg : mG X.N tg X.env.scope xg = true) (hb : PSs X xs (TSs g gl cf wf W B Z0 p)) (hs : ∀ x, foldedSetIterable xi X.env x = pure x) :
    PS X (.For xg xi xs [] pos) (TSx g gl cf wf W B Z0 (.for_ tg it p)) := by
  have hG := pg_ok (g := g) (B := B) (Z0 := Z0) c.K c.calm c.nd (fun x hx => ⟨loc_of hx, .inl (fx.fnA x)⟩) tg _ hg
  refine PS.imp (ps_for fx.hp c.calm hi hG hb hs) fun Y σ H ⟨env, Z, sr, f⟩ => ?_
  simp only [ex] at f
  refine ⟨env, Z, sr, ?_⟩
  have f := stE_fin sr f
  have f2 : Fin g W σ H Z ((ev gl cf it env).bind fun x => (x.keep).bind fun d => seqD d) (fun ds => FinF g W B Z0 H Z (forF tg (fun e => exs gl cf wf p e) ds env) Y) := by
    cases hr : ev gl cf it env with
    | stk => rw [hr] at f; exact f
    | exc k p => rw [hr] at f; exact f
    | ok x =>
      rw [hr] at f
      obtain ⟨d, hd, f⟩ := FinF.bindN (keep_nox _) f
      obtain ⟨ds, hds, f⟩ := FinF.bindN (seqD_nox _) f
      show Fin g W σ H Z ((x.keep).bind fun d => seqD d) _
      rw [hd]
      show Fin g W σ H Z (seqD d) _
      rw [hds]; exact f
  refine f2.mono fun ds f1 J H1 Z1 e1 hI => ?_
  refine ⟨fun i m σ' H' => m = ds.length - i ∧ i ≤ ds.length ∧ ∃ env' Z', SR g B Z0 env' Z' σ' H' ∧ Stp H1 Z1 H' Z' ∧ FinF g W B Z0 H' Z' (forF tg (fun e => exs gl cf wf p e) (ds.drop i) env') Y,
    ⟨ds.length, by simp, Nat.zero_le _, env, Z1, sr.ext e1, .refl, by simpa using f1.step e1.stp⟩, ?_⟩
  rintro i m σ' H' ⟨rfl, hi, env', Z', sr', st, f'⟩
  obtain ⟨hgo, hstop⟩ := hI H' Z' st.ev st.mono sr'.zz
  by_cases hlt : i < ds.length
  · have hx : ds[i]? = some ds[i] := List.getElem?_eq_getElem hlt
    rw [List.drop_eq_getElem_cons hlt] at f'
    generalize ds[i] = d at hx f'
    obtain ⟨go, yl⟩ := hgo i d hx
    refine .inr ⟨go, fun σ2 H2 => ∃ env' Z', SR g B Z0 env' Z' σ2 H2 ∧ Stp H1 Z1 H2 Z' ∧ FinF g W B Z0 H2 Z' (forF tg (fun e => exs gl cf wf p e) (ds.drop (i + 1)) env') Y, fun σ2 H2 q => ⟨ds.length - (i + 1), by omega, rfl, hlt, q⟩, fun x H2 y => ?_⟩
    obtain ⟨e2, rx⟩ := yl x H2 y
    simp only [forF] at f'
    obtain ⟨env1, ha, f'⟩ := f'.bindN (asgT_nox _ _ _)
    refine ⟨env', Z', d, env1, sr'.ext e2, rx, ha, fun σ3 s3 _ => ⟨env1, Z', s3, ?_⟩⟩
    have st2 := st.trans e2.stp
    have f' := f'.step e2.stp
    cases hb : exs gl cf wf p env1 with
    | stk => rw [hb] at f'; exact f'
    | exc k p => rw [hb] at f'; exact f'
    | ok r =>
      rw [hb] at f'
      simp only [R.bind_ok] at f'
      cases r with
      | nx e => exact fun σ4 H4 Z4 s4 t4 => ⟨e, Z4, s4, st2.trans t4, FinF.step t4 f'⟩
      | ct e => exact fun σ4 H4 Z4 s4 t4 => ⟨e, Z4, s4, st2.trans t4, FinF.step t4 f'⟩
      | bk e => exact fun σ4 H4 Z4 s4 t4 => f' σ4 H4 Z4 s4 t4
      | ret x => exact f'
      | ex k p e => exact f'
  · have e : i = ds.length := by omega
    subst e
    rw [List.drop_length] at f'
    exact .inl ⟨hstop, f' σ' H' Z' sr' .refl⟩
theorem ss_while {p : List S} {xs : List Stmt} (hc : PT X v (TTx g gl cf W B Z0 e)) (hb : PSs X xs (TSs g gl cf wf W B Z0 p)) : PS X (.While v xs [] pos) (TSx g gl cf wf W B Z0 (.while_ e p)) := by
  refine PS.imp (ps_while fx.hp hc hb) fun Y σ H ⟨env, Z, sr, f⟩ => ?_
  simp only [ex] at f
  refine ⟨fun m σ' H' => ∃ env' Z', SR g B Z0 env' Z' σ' H' ∧ FinF g W B Z0 H' Z' (whileF (fun e' => (ev gl cf e e').bind fun x => truD x.d) (fun e => exs gl cf wf p e) m env') Y, ⟨wf, env, Z, sr, f⟩, ?_⟩
  rintro m σ' H' ⟨env', Z', sr', f'⟩
  cases m with
  | zero => exact f'.elim
  | succ m =>
    simp only [whileF] at f'
    refine tt_fin sr' (stE_fin sr' f') fun k H1 Z1 e1 f1 => ?_
    have f1 := f1.step e1.stp
    cases k with
    | false =>
      rw [if_neg Bool.false_ne_true] at f1 ⊢
      exact f1 σ' H1 Z1 (sr'.ext e1) .refl
    | true =>
      rw [if_pos rfl] at f1 ⊢
      refine ⟨fun σ2 H2 => ∃ env' Z', SR g B Z0 env' Z' σ2 H2 ∧ FinF g W B Z0 H2 Z' (whileF (fun e' => (ev gl cf e e').bind fun x => truD x.d) (fun e => exs gl cf wf p e) m env') Y, fun σ2 H2 q => ⟨m, by omega, q⟩, env', Z1, sr'.ext e1, ?_⟩
      cases hb : exs gl cf wf p env' with
      | stk => rw [hb] at f1; exact f1
      | exc k p => rw [hb] at f1; exact f1
      | ok r =>
        rw [hb] at f1
        simp only [R.bind_ok] at f1
        cases r with
        | nx e => exact fun σ4 H4 Z4 s4 t4 => ⟨e, Z4, s4, FinF.step t4 f1⟩
        | ct e => exact fun σ4 H4 Z4 s4 t4 => ⟨e, Z4, s4, FinF.step t4 f1⟩
        | bk e => exact fun σ4 H4 Z4 s4 t4 => f1 σ4 H4 Z4 s4 t4
        | ret x => exact f1
        | ex k p e => exact f1
/-- a list of statements -/
theorem sq_nil : PSs X [] (TSs g gl cf wf W B Z0 []) := PSs.imp pss_nil fun Y σ H ⟨env, Z, sr, f⟩ => f σ H Z sr .refl
theorem sq_cons {s : S} {r : List S} {x : Stmt} {xs : List Stmt} (h : PS X x (TSx g gl cf wf W B Z0 s)) (k : PSs X xs (TSs g gl cf wf W B Z0 r)) : PSs X (x :: xs) (TSs g gl cf wf W B Z0 (s :: r)) := by
  refine PSs.imp (pss_cons h k) fun Y σ H ⟨env, Z, sr, f⟩ => ⟨env, Z, sr, ?_⟩
  simp only [exs] at f
  cases hb : ex gl cf wf s env with
  | stk => rw [hb] at f; exact f
  | exc k p => rw [hb] at f; exact f
  | ok r =>
    rw [hb] at f
    simp only [R.bind_ok] at f
    cases r with
    | nx e => exact fun σ4 H4 Z4 s4 t4 => ⟨e, Z4, s4, FinF.step t4 f⟩
    | ct e => exact f
    | bk e => exact f
    | ret x => exact f
    | ex k p e => exact f
theorem sq_frz {i : Nat} {r : List S} {xs : List Stmt} (k : PSs X xs (TSs g gl cf wf W B Z0 r)) : PSs X xs (TSs g gl cf wf W B Z0 (.frz i :: r)) := by
  refine PSs.imp k fun Y σ H ⟨env, Z, sr, f⟩ => ?_
  simp only [exs, ex, R.bind_assoc] at f
  obtain ⟨cc, hcc, f⟩ := f.bindN (own_nox _ _)
  simp only [R.bind_ok] at f
  obtain ⟨Z', s', hz⟩ := sr.frz (own_ok hcc)
  exact ⟨_, Z', s', f.step ⟨.refl, hz⟩⟩
theorem sq_never {xs : List Stmt} : PSs X xs (TSs g gl cf wf W B Z0 [.never]) := ⟨fun pins s σ H Y I ⟨env, Z, sr, f⟩ => f.elim⟩
end
end NH
set_option Elab.async false
set_option linter.all false
set_option maxRecDepth 100000
set_option maxHeartbeats 4000000
/-! NHx: exceptions: raise, try. -/
namespace NH
open PySem PySem.Spec PyProof.Rows L2

/-! ### made without arguments -/
theorem pmk0 {X : Cx} {C : Addr} {bmB : List Value} {B newId initId : String} {x : Str} {p pos : Pos} (F : ExcBaseFacts B newId initId bmB) (q : PySem.W.excIn X.K C bmB newId = true) (gC : X.mg x = some (.ref C))
    (kC : PySem.W.keepIn X.K (.ref C) = true) (r : Raises X (.ref C)) (hg : Gl X x) (hdb : (x == ("__debug__" : Str)) = false) :
    L2N.PMk X (.Call (.Name x p) [] [] pos) (fun _ H Q => Q (.ref C) none H) := by
  intro pins s σ H Q I h
  refine wpAny_Call_Name_kw (ld_glob I hg gC ?_ hdb)
  refine PySem.W.callWith_K0 I.kIn kC ?_
  show wpAny _ _ (call (.ref C) []) _ _ _
  obtain ⟨bm, N, nm, qn, bs, hdct, sn, sub, ab, col, dd, k0, k1, k2, k3, k5, mN, hC, hN, hni, T⟩ := exc_obj I.kIn q
  refine wpAny_call_exc_subT F T hC hN hni (fun h' e hm => ?_) (by show 0 ≤ sizeLine; omega)
  exact L2N.mk_of I hm r h (I.hok.gone hm.new)

/-! ### isinstance of the exception that a pin holds -/
theorem call_isP {X : Cx} {a D : Addr} {oe : Obj} (hp : (a, oe) ∈ X.pn) (C : ExcC X.K D) (hc : oe.cls = .ref D) (hd : oe.dict = none) (hf : ∃ vs, oe.data = .fields vs) : CallR X (.builtin "isinstance") (rIsE X.K D a) := by
  intro pins s σ H xs us Q I r h
  obtain ⟨c, cv, b, rfl, hcv, e, q⟩ := h
  cases r with
  | cons rx rr =>
    cases rr with
    | cons rt rr =>
      cases rr
      cases rx
      have ec := hcv _ rt
      subst ec
      obtain ⟨hget, _⟩ := I.pin (a, oe) (List.mem_append.mpr (.inl hp))
      obtain ⟨vs, hv⟩ := hf
      have J : PySem.W.InstAt s.heap a oe D none := by
        obtain ⟨oc, od, oda, osl⟩ := oe
        dsimp only at hc hd hv
        subst hc hd hv
        exact ⟨hget, rfl, rfl, trivial⟩
      exact PySem.W.kia_one (PySem.W.handS_kitx_exc C.hg C.hk C.hs C.hd C.ha C.hn C.ht C.hm) I.kIn J e (fun z => nomatch z) fun tk => ⟨.bl b, H, I.kept (t' := tk) fun _ _ z => z, rfl, q⟩

/-! ### a def called in an except suite, the pin known -/
theorem call_hot {X : Cx} {k : Nat} {f : Addr} {name qual : Str} {params : Arguments} {body : List Stmt} {scope : Scope} {dV kV doc pm cdv ct oc : Value} {an od : Option Addr} {osl : Array (Option Value)} {N ps : List Str}
    (lk : X.K.lookup f = some ⟨oc, od, .func (PySem.W.fnOf name qual params body scope dV kV doc pm an cdv ct), osl⟩) (hcd : PySem.W.codeIn X.K cdv qual = true) (S : FnScope N ps scope) {p : Addr × Obj} (hot : L2H.Hot1 X.A p) (hp : p ∈ X.pn) (hr : L2H.RoomH (k + 1) X.A)
    (hb : Binds X.K (PySem.W.fnOf name qual params body scope dV kV doc pm an cdv ct) ps []) {pins : List (Addr × Obj)} {σ : L2.St} {H : Hp} {s : Shared} {Q : VK} {us : List Value} {vs : List V} (I : Inv X pins σ H s) (r : Vals vs us) (hl : vs.length = ps.length)
    (hbody : L2H.RoomH k (X.A.deeper (envOfC qual scope s.heap.objs.size f cdv)) → ∃ t, PSs (L2H.cxH L2.CX0 X.prog X.w X.K X.mg X.base N qual scope f cdv X.A X.stack s H (fun _ _ _ => False) p) body t ∧ t { nx := fun _ H' => Q .non H', rt := Q } (L2.start N vs) H) :
    wpAny (model X.prog X.w) X.A (call (.ref f) us) (EP X pins σ Q) X.xe s := by
  have hlu : us.length = ps.length := by rw [← r.length]; exact hl
  have b := hb s us I.kIn (by rw [List.append_nil]; exact hlu)
  rw [List.append_nil] at b
  have P1 := I.pin p (List.mem_append_left _ hp)
  have hpin : L2H.PinOk X.stack H s p := ⟨P1.1, P1.2.1, fun hm => (List.mem_cons.mp (I.stkSub p.1 hm)).elim P1.2.2.1 P1.2.2.2.1, P1.2.2.2.2⟩
  have e0 := I.env0
  have core : codeAny (model X.prog X.w) X.A (.call (.ref f) ⟨us, []⟩) (CR L2.CX0 X.stack X.prog X.w H s Q (fun _ _ _ => False)) s := by
    have KX : X.K.In s.heap := I.kIn
    have lim : s.heap.NoLimit := e0.mod.nolimit.keeps fun b o e => (e0.bs b o e).1
    have hkind : ∀ y ∈ ps.zip us, scope.names.lookup y.1 = some .local ∨ (scope.names.lookup y.1 = some .cell ∧ ((cellsFrom (s.heap.objs.size + 1) scope.names []).lookup y.1).isSome = true) := fun ⟨n, v⟩ hy => by
      rcases S.par n (List.of_mem_zip hy).1 with q | q
      · exact .inl q
      · exact .inr ⟨q, PySem.W.cellsFrom_some _ _ _ (.inl q)⟩
    refine codeAny_call_function hr.depth (KX _ _ lk) rfl S.co S.gen rfl (PySem.W.codeRec_of KX hcd) (b _ _ _ _ ?_)
    refine wpAny_newFunctionEnv_cells S.kind hkind fun env he s1 x => ?_
    subst he
    refine ⟨lim.keeps x.toInCall.keep, codeAny_func ?_⟩
    obtain ⟨t, ht, hq⟩ := hbody (hr.deeper _)
    have J := L2H.inv_startH (CX := L2.CX0) (E := fun _ _ _ => False) S hpin e0 hl r x
    refine wpAny_mono (ht.run [] s1 (L2.start N vs) H _ J hq) (fun fl s' hs => ?_) fun e s' hs => hs
    have fin : ∀ {σ' : L2.St} {H' : Hp} {v : V} {u : Value}, Inv (L2H.cxH L2.CX0 X.prog X.w X.K X.mg X.base N qual scope f cdv X.A X.stack s H (fun _ _ _ => False) p) [] σ' H' s' → RelV v u → Q v H' → CE X.stack X.prog X.w H s Q u s' :=
      fun {σ' H' v u} J rv q => ⟨v, H', J.os, J.bare, J.base, J.hok, rv, q⟩
    cases fl with
    | ret u =>
      obtain ⟨v, σ', H', J, rv, q⟩ := hs
      exact fin J rv q
    | next =>
      obtain ⟨σ', H', J, q⟩ := hs
      exact fin (v := V.non) (u := Value.none) J rfl q
    | brk =>
      obtain ⟨_, _, _, q⟩ := hs
      exact False.elim q
    | cont =>
      obtain ⟨_, _, _, q⟩ := hs
      exact False.elim q
  refine wpAny_call (codeAny_mono core fun r s' hq => ?_)
  cases r with
  | error e => exact False.elim hq
  | ok fl =>
    cases fl with
    | ret u => exact I.after hq
    | next => exact False.elim hq
    | brk => exact False.elim hq
    | cont => exact False.elim hq

/-! ### isinstance(e, C) in a context that holds e -/
structure HotE (X : Cx) (a : Addr) (oe : Obj) (D : Addr) : Prop where
  mem : (a, oe) ∈ X.pn
  cls : oe.cls = .ref D
  dict : oe.dict = none
  data : ∃ vs : Array Value, oe.data = .fields vs ∧ vs[2]? = some .none
section
variable {X : Cx} {g : Ga} {t : Tx} {a : Addr} {oe : Obj} {cI i : Nat} {xn : Str}
theorem pe_isE {pos p p2 p3 : Pos} {en cn : Str} {C : Nat} (he : HotE X a oe (g.ca cI)) (hx : XcOk X.K X.mg g t cI xn) (hC : t.xn[C]? = some cn) (hxC : XcOk X.K X.mg g t C cn) (hg : Gl X "isinstance") (hm : X.mg "isinstance" = none) (hgc : Gl X cn) (hk : (cn == ("__debug__" : Str)) = false)
    (hN : X.N[i]? = some en) (hv : Vis X.env.scope en) (h1 : (en == ("__debug__" : Str)) = false) (h2 : (en == ("__classdict__" : Str)) = false) :
    PE X (.Call (.Name "isinstance" p) [.Name en p2, .Name cn p3] [] pos) (fun σ H Q => σ[i]? = some (some (.ref a)) ∧ Q (.bl (subx cI C)) H) := by
  refine PE.imp (pe_callB (call_isP he.mem hx.ec he.cls he.dict ⟨_, he.data.choose_spec.1⟩) hg hm (by decide +kernel) (pa_cons (pe_var hN hv h1 h2) (pa_cons (pe_glob (v := .ref (g.ca C)) hgc hxC.mgf rfl hk) pa_nil rfl) rfl) (by decide) (by decide) rfl rfl) fun σ H Q ⟨h, q⟩ => ?_
  exact ⟨.ref a, h, .ref (g.ca C), _, subx cI C, rfl, fun u e => by cases e; rfl, (hx.rel C cn hC).2, q⟩
/-- the def that tells by names -/
theorem law_body (hK : X.K = g.K) (hu : X.A.units + 65 < cLine) (hN : X.N = (["e", "name"] : List Str)) (he : HotE X a oe (g.ca cI)) (hx : XcOk X.K X.mg g t cI xn) (hxs : ∀ (j : Nat) y, t.xn[j]? = some y → XcOk X.K X.mg g t j y) (hm : X.mg "isinstance" = none) :
    ∀ (ps : List (Str × Nat)) (body : List Stmt), mL t X.env.scope ps body = true →
    PSs X body (fun D σ H => ∃ s : Str, σ[0]? = some (some (.ref a)) ∧ σ[1]? = some (some (.str s)) ∧ s.length ≤ sizeLine ∧ D.rt (.bl (match ps.lookup s with | some C => subx cI C | none => false)) H)
  | [], body, h => by
    unfold mL at h
    split at h
    · rename_i heq; cases heq
    · refine PSs.imp (pss_one (ps_ret pe_bl)) fun D σ H ⟨s, _, _, _, q⟩ => ?_
      exact q
    · cases h
  | (s, C) :: r, body, h => by
    unfold mL at h
    split at h
    · rename_i heq
      cases heq
      simp only [Bool.and_eq_true, decide_eq_true_eq] at h
      obtain ⟨⟨⟨⟨⟨⟨⟨⟨⟨⟨⟨rfl, rfl⟩, hs⟩, rfl⟩, hg⟩, rfl⟩, hC⟩, hgc⟩, hk⟩, v1⟩, v0⟩, hr⟩ := h
      have ih := law_body hK hu hN he hx hxs hm r _ hr
      have pn : ∀ q, PE X (.Name "name" q) (tVar 1) := fun q => pe_var (by rw [hN]; rfl) (vis_of v1) (by decide) (by decide)
      refine PSs.imp (pss_cons (ps_if (pt_cmpR (op_cmpD (g := g) hu hK .eq) (pn _) pe_str (nomark _)) (pss_one (ps_ret (pe_isE (i := 0) he hx hC (hxs _ _ hC) (gl_of hg) hm (gl_of hgc) (okN_of hk).1 (by rw [hN]; rfl) (vis_of v0) (by decide) (by decide)))) pss_nil) ih) fun D σ H ⟨z, h0, h1, hz, q⟩ => ?_
      refine ⟨.str z, h1, fun _ => False, .str z, .str _, _, .inl (.str _ hz), .inl (.str _ hs), rfl, _, rfl, ?_⟩
      rw [List.lookup_cons] at q
      rename_i s' _ _ _ _ _ _ _ _ _ _ _ _
      by_cases e : z = s'
      · subst e
        have e1 : (z == z) = true := by simp
        rw [e1] at q ⊢
        rw [if_pos rfl]
        exact ⟨h0, q⟩
      · have e1 : (z == s') = false := by simpa using e
        rw [e1] at q ⊢
        exact ⟨z, h0, h1, hz, q⟩
    · rename_i heq; cases heq
    · cases h
end

/-! ### raise, try -/
structure FxT (X : Cx) : Prop extends Fx X where
  hs : X.stack = X.env :: X.outer
  hf : X.env.frame = some X.env.locals
theorem FxT.tr {X : Cx} (f : FxT X) {pn : List (Addr × Obj)} {xe : Value → Shared → Prop} (hp : PassesOwn (model X.prog X.w) X.A X.env xe) : FxT (X.tr pn xe) := ⟨⟨hp, f.fnA, f.kind⟩, f.hs, f.hf⟩
theorem Ct.tr {g : Ga} {gl : List D} {t : Tx} {T : List Df} {cf : Nat → List D → R EV} {n : Nat} {W W' : WX} {X : Cx} (c : Ct g gl t T cf n W X) {pn : List (Addr × Obj)} {xe : Value → Shared → Prop} (tk : L2N.Takes (X.tr pn xe) W') : Ct g gl t T cf n W' (X.tr pn xe) :=
  ⟨c.K, c.calm, c.nd, tk, c.room, c.n1, c.tfn, c.fns, c.cfl, c.nfT, c.xcs, c.lws, c.bts, c.gls⟩
/-- the suite's expression -/
def mH (t : Tx) (N : List Str) (sc : Scope) (i : Nat) : Hn → Expr → Bool
  | .isE C, .Call (.Name y _) [.Name en _, .Name cn _] [] _ => decide (y = "isinstance") && glB sc y && decide (N[i]? = some en) && visB sc en && okN en && decide (t.xn[C]? = some cn) && glB sc cn && okN cn
  | .law f j ps, .Call (.Name y _) [.Name en _, .Name z _] [] _ => decide (t.lw.lookup f = some ps) && decide (t.fn[f]? = some y) && glB sc y && okN y && decide (N[i]? = some en) && visB sc en && okN en && decide (N[j]? = some z) && visB sc z && okN z && decide (i ≠ j)
  | .pair a C, .Tuple [.Constant k _ _, .Call (.Name y _) [.Name en _, .Name cn _] [] _] _ _ => mK a k && decide (y = "isinstance") && glB sc y && decide (N[i]? = some en) && visB sc en && okN en && decide (t.xn[C]? = some cn) && glB sc cn && okN cn
  | .k d, .Constant k _ _ => mK d k
  | _, _ => false
section
variable {g : Ga} {gl : List D} {t : Tx} {T : List Df} {cf : Nat → List D → R EV} {wf : Nat} {n : Nat} {W : WX} {X : Cx} {B : Hp} {Z0 : Addr → Prop} {pos : Pos}
variable (c : Ct g gl t T cf n W X) (fx : FxT X)
include c fx
theorem ss_raise {k : Nat} {x : Str} {p p2 : Pos} (hx : t.xn[k]? = some x) (hg : glB X.env.scope x = true) (hk : okN x = true) : PS X (.Raise (some (.Call (.Name x p) [] [] p2)) none pos) (TSx g gl cf wf W B Z0 (.raise k)) := by
  have xc := c.xcs k x hx
  have q := xc.q
  refine PS.imp (L2N.ps_raise c.calm c.tk (pmk0 PySem.F.excBase_ValueError q xc.mgf xc.kp (raises_own xc.sb xc.ty) (gl_of hg) (okN_of hk).1)) fun D σ H ⟨env, Z, sr, f⟩ => ?_
  exact f σ H Z none sr .refl rfl
omit c fx in
theorem k_ok {X : Cx} {d : D} {k : Const} {p : Pos} {kk : Nat} (hm : mK d k = true) : PE X (.Constant k kk p) (fun σ H Q => ∀ v, Rp g H (fun _ => False) v d → Q v H) := by
  refine ⟨fun pins s σ H Q I q3 => ?_⟩
  unfold mK at hm
  split at hm
  · exact pe_non.run pins s σ H Q I (q3 _ .non)
  · rw [← beq_iff_eq.mp hm]
    exact pe_bl.run pins s σ H Q I (q3 _ (.bl _))
  · rw [← beq_iff_eq.mp hm]
    exact pe_int.run pins s σ H Q I (q3 _ (.int _))
  · simp only [Bool.and_eq_true, decide_eq_true_eq] at hm
    rw [← beq_iff_eq.mp hm.1]
    exact pe_str.run pins s σ H Q I (q3 _ (.str _ hm.2))
  · cases hm
omit fx in
theorem hn_ok {a : Addr} {oe : Obj} {pn : List (Addr × Obj)} {cI i : Nat} {xnI : Str} {h : Hn} {v : Expr} (he : HotE (X.suite a ((a, oe) :: pn)) a oe (g.ca cI)) (hxI : t.xn[cI]? = some xnI) (hm : mH t X.N X.env.scope i h v = true) :
    PE (X.suite a ((a, oe) :: pn)) v (fun σ H Q => σ[i]? = some (some (.ref a)) ∧ ∃ env d, (∀ (j : Nat) s, env[j]? = some (some (.v (.str s))) → j ≠ i → σ[j]? = some (some (.str s)) ∧ s.length ≤ sizeLine) ∧ hnD h cI [] env = .ok d ∧ ∀ v H2, Same H H2 → Rp g H2 (fun _ => False) v d → Q v H2) := by
  unfold mH at hm
  split at hm
  · simp only [Bool.and_eq_true, decide_eq_true_eq] at hm
    obtain ⟨⟨⟨⟨⟨⟨⟨rfl, h1⟩, h2⟩, h3⟩, h4⟩, h5⟩, h6⟩, h7⟩ := hm
    obtain ⟨k1, k2, k3⟩ := okN_of h4
    refine PE.imp (pe_isE (X := X.suite a ((a, oe) :: pn)) he (c.xcs _ _ hxI) h5 (c.xcs _ _ h5) (gl_of (X := X) h1) (c.bts _ (by decide +kernel)) (gl_of (X := X) h6) (okN_of h7).1 h2 (vis_of h3) k1 k2) fun σ H Q ⟨q1, env, d, _, q2, q3⟩ => ⟨q1, ?_⟩
    cases q2
    exact q3 _ _ (Same.refl _) (.bl _)
  · rename_i f j ps y _ en _ zn _ _
    simp only [Bool.and_eq_true, decide_eq_true_eq] at hm
    obtain ⟨⟨⟨⟨⟨⟨⟨⟨⟨⟨h1, h2⟩, h3⟩, h4⟩, h5⟩, h6⟩, h7⟩, h8⟩, h9⟩, h10⟩, h11⟩ := hm
    obtain ⟨k1, k2, k3⟩ := okN_of h7
    obtain ⟨l1, l2, l3⟩ := okN_of h10
    obtain ⟨y', hy', lw⟩ := c.lws _ _ h1
    rw [h2] at hy'; cases hy'
    obtain ⟨st, fd, F, hb, S, hmL⟩ := lw.ex
    obtain ⟨oc, od, kV, doc, pm, an, cdv, ct, osl, rfl, lk, hcd⟩ := F.ex
    refine ⟨fun pins s σ H Q I ⟨q1, env, d, q0, q2, q3⟩ => ?_⟩
    unfold hnD at q2
    simp only [List.isEmpty_nil, if_true] at q2
    split at q2
    case h_2 => cases q2
    case h_1 z hz =>
    cases q2
    obtain ⟨q4, q5⟩ := q0 _ _ hz fun e => h11 e.symm
    refine wpAny_Call_Name_kw (ld_glob I (gl_of (X := X) h3) lw.mgf ?_ (okN_of h4).1)
    have ha : ∀ p1 p2, PA (X.suite a ((a, oe) :: pn)) [.Name en p1, .Name zn p2] (tCons (tVar i) (tCons (tVar j) tNil)) := fun p1 p2 => pa_cons (pe_var (X := X.suite a ((a, oe) :: pn)) h5 (vis_of h6) k1 k2) (pa_cons (pe_var (X := X.suite a ((a, oe) :: pn)) h8 (vis_of h9) l1 l2) pa_nil rfl) rfl
    refine PySem.W.callWith_K (h₀ := X.base) I.ok.mod.kin F.kp (thn ((ha _ _).run _ pins s σ H (fun vs H1 => vs = [.ref a, .str z] ∧ H1 = H) I ⟨_, q1, _, q4, rfl, rfl⟩) fun us s1 ⟨vs, H1, I1, r, ev, eH⟩ => ⟨I1.kIn, ?_⟩) rfl rfl
    subst ev eH
    obtain ⟨vd, e1, e2⟩ := he.data
    have n1 := c.n1
    refine call_hot (X := X.suite a ((a, oe) :: pn)) (p := (a, oe)) (k := 0) lk hcd S ⟨rfl, vd, e1, e2⟩ List.mem_cons_self ⟨?_, ?_⟩ hb I1 r rfl fun hr => ?_
    · have := c.room.dp
      show X.A.depth + 3 * 1 + 5 < _
      omega
    · have := c.room.un
      show X.A.units + 16 * 1 + 200 < _
      omega
    · refine ⟨_, law_body (X := L2H.cxH L2.CX0 X.prog X.w X.K X.mg X.base ["e", "name"] _ (defScope st) _ cdv (X.suite a ((a, oe) :: pn)).A X.stack s1 H1 (fun _ _ _ => False) (a, oe)) (g := g) (t := t) (a := a) (oe := oe) (cI := cI) c.K ?_ rfl ⟨List.mem_cons_self, he.cls, he.dict, he.data⟩ (c.xcs _ _ hxI) c.xcs (c.bts _ (by decide +kernel)) _ _ hmL, z, rfl, rfl, q5, q3 _ _ (Same.refl _) (.bl _)⟩
      have := hr.un
      exact Nat.lt_of_le_of_lt (Nat.add_le_add_left (by decide : 65 ≤ 16 * 0 + 200) _) this
  · simp only [Bool.and_eq_true, decide_eq_true_eq] at hm
    obtain ⟨⟨⟨⟨⟨⟨⟨⟨h0, rfl⟩, h1⟩, h2⟩, h3⟩, h4⟩, h5⟩, h6⟩, h7⟩ := hm
    obtain ⟨k1, k2, k3⟩ := okN_of h4
    refine PE.imp (pe_tup (pa_cons (k_ok (X := X.suite a ((a, oe) :: pn)) (g := g) h0) (pa_cons (pe_isE (X := X.suite a ((a, oe) :: pn)) he (c.xcs _ _ hxI) h5 (c.xcs _ _ h5) (gl_of (X := X) h1) (c.bts _ (by decide +kernel)) (gl_of (X := X) h6) (okN_of h7).1 h2 (vis_of h3) k1 k2) pa_nil rfl) rfl)) fun σ H Q ⟨q1, env, d, _, q2, q3⟩ => ?_
    cases q2
    refine fun v rv => ⟨q1, ?_⟩
    refine ⟨by show 2 ≤ sizeLine; decide, fun p np => q3 _ _ (fun b u e => by rw [upd_ne (ne_of_none e np)]; exact e) (.tup upd_same (.cons ?_ (.cons (.bl _) .nil)))⟩
    exact Rp.evo (Z := fun _ => False) ⟨fun b u z => z.elim, fun b xs e => by rw [upd_ne (ne_of_none e np)]; exact e, fun b o u e => by rw [upd_ne (ne_of_none e np)]; exact e⟩ (fun _ z => z) _ _ rv
  · refine ⟨fun pins s σ H Q I ⟨q1, env, d, q0, q2, q3⟩ => ?_⟩
    unfold hnD at q2
    simp only [List.isEmpty_nil, if_true] at q2
    cases q2
    unfold mK at hm
    split at hm
    · exact pe_non.run pins s σ H Q I (q3 _ _ (Same.refl _) .non)
    · rw [← beq_iff_eq.mp hm]
      exact pe_bl.run pins s σ H Q I (q3 _ _ (Same.refl _) (.bl _))
    · rw [← beq_iff_eq.mp hm]
      exact pe_int.run pins s σ H Q I (q3 _ _ (Same.refl _) (.int _))
    · simp only [Bool.and_eq_true, decide_eq_true_eq] at hm
      rw [← beq_iff_eq.mp hm.1]
      exact pe_str.run pins s σ H Q I (q3 _ _ (Same.refl _) (.str _ hm.2))
    · cases hm
  · cases hm
theorem ss_try {body : List S} {xs : List Stmt} {C i : Nat} {h : Hn} {x nm : Str} {v : Expr} {np p' p2 : Pos} (hb : ∀ (W' : WX) (pn : List (Addr × Obj)) (xe : Value → Shared → Prop), Ct g gl t T cf n W' (X.tr pn xe) → FxT (X.tr pn xe) → PSs (X.tr pn xe) xs (TSs g gl cf wf W' B Z0 body))
    (hx : t.xn[C]? = some x) (hg : glB X.env.scope x = true) (hk : okN x = true) (hN : X.N[i]? = some nm) (hl : locL X.env.scope nm = true) (hh : mH t X.N X.env.scope i h v = true) :
    PS X (.Try xs [.ExceptHandler (some (.Name x np)) (some nm) [.Return (some v) p2] p'] [] [] pos) (TSx g gl cf wf W B Z0 (.try_ t.xn.length body C i h)) := by
  have xc := c.xcs C x hx
  refine PS.imp (L2N.ps_try_as (tb := fun W' => TSs g gl cf wf W' B Z0 body) (Wout := W)
    (ts := fun a cls d D σ H => ∃ cI xnI, cls = .ref (g.ca cI) ∧ t.xn[cI]? = some xnI ∧ d = none ∧ σ[i]? = some (some (.ref a)) ∧ ∃ env d, (∀ (j : Nat) s, env[j]? = some (some (.v (.str s))) → j ≠ i → σ[j]? = some (some (.str s)) ∧ s.length ≤ sizeLine) ∧ hnD h cI [] env = .ok d ∧ ∀ v H2, Same H H2 → Rp g H2 (fun _ => False) v d → D.rt v H2)
    fx.hs fx.hf c.nd hN (of_decide_eq_true hl) ⟨gl_of hg, (okN_of hk).1, .inl xc.mgf⟩ c.tk (fun W' pn xe tk hp => hb W' pn xe (c.tr tk) (fx.tr hp)) ?_) fun Y σ H ⟨env, Z, sr, f⟩ => ?_
  · intro a oe cls d pn hz hd
    refine ⟨fun pins s σ H Y I ⟨cI, xnI, ec, hxI, ed, q1, q2⟩ => ?_⟩
    subst ec ed
    obtain ⟨vs, hvs⟩ := hd
    have he : HotE (X.suite a ((a, oe) :: pn)) a oe (g.ca cI) := ⟨List.mem_cons_self, hz.1, hz.2.1, vs, hvs, hz.2.2 vs hvs⟩
    exact (pss_one (ps_ret (hn_ok c he hxI hh))).run pins s σ H Y I ⟨q1, q2⟩
  · refine ⟨env, Z, sr, ?_⟩
    simp only [ex] at f
    cases hr : exs gl cf wf body env with
    | stk => rw [hr] at f; exact f
    | exc k p => rw [hr] at f; exact f
    | ok r =>
      rw [hr] at f
      simp only [R.bind_ok] at f
      cases r with
      | nx e => exact f
      | ct e => exact f
      | bk e => exact f
      | ret x => exact f
      | ex k p e =>
        have f : FinF g W B Z0 H Z (if t.xn.length ≤ k ∨ e.length ≤ i then .stk else if subx k C then (hnD h k p e).bind fun d => .ok (.ret (.z d)) else .ok (.ex k p e)) Y := f
        split at f
        case isTrue => exact f.elim
        case isFalse hlt =>
        have hxk : t.xn[k]? = some (t.xn[k]'(by omega)) := List.getElem?_eq_getElem (by omega)
        have xk := c.xcs k _ hxk
        refine fun σ' H' Z' d s' st xr => ⟨subx k C, (xk.rel C x hx).1, fun hy a ha => ?_, fun hn => ?_⟩
        · rw [hy, if_pos rfl] at f
          obtain ⟨dd, hdd, f3⟩ := f.bindN (by unfold hnD; split <;> first | exact .stk | (split <;> first | exact .ok | exact .stk | (split <;> first | exact .ok | exact .stk)))
          cases p with
          | cons _ _ => simp [hnD] at hdd
          | nil =>
            have ed : d = none := xr
            refine ⟨k, _, rfl, hxk, ed, ?_, e, dd, fun j s hj hne => ?_, hdd, fun v H2 sm rv => f3 v H2 Z' (s'.out.trans ⟨sm, fun _ z => z, fun _ z => .inl z, fun a z => by
              cases hu : H' a with
              | none => exact absurd hu (s'.zz a z)
              | some u => rw [sm _ _ hu]; exact fun q => nomatch q⟩) (Rp.evo .refl (fun _ z => z.elim) _ _ rv)⟩
            · rw [List.getElem?_set_self (by rw [← s'.len]; omega)]
            · obtain ⟨w, hw, rw'⟩ := s'.sl j _ hj
              rw [List.getElem?_set_ne (Ne.symm hne)]
              cases rw' with
              | str _ hs => exact ⟨hw, hs⟩
        · rw [hn, if_neg Bool.false_ne_true] at f
          exact f σ' H' Z' d s' st xr
end
end NH
set_option Elab.async false
set_option linter.all false
set_option maxRecDepth 100000
set_option maxHeartbeats 4000000
/-! NHk: what is matched runs: statements. -/
namespace NH
open PySem PySem.Spec PyProof.Rows L2

theorem blockKind_of {env : Env} (hk : env.scope.kind = .function) : env.blockKind = .function := by
  unfold Env.blockKind; rw [hk]; rfl
def noStar (vs : List Expr) : Bool := !(vs.any fun | .Starred .. => true | _ => false)
theorem sw2 {env : Env} {nx ny : Str} {px py pt : Pos} {kt k2 : Nat} {pt2 : Pos} {x y : Expr} (hk : env.scope.kind = .function) (hx : locL env.scope nx = true) (hy : locL env.scope ny = true) (hl : (py.line == px.line) = true) (hd : ([nx, ny] : List Str).eraseDups.length = 2)
    (hs : noStar [x, y] = true) (hf : ([x, y].all (foldedForSure 8)) = false) (hc : ([x, y].all (constantsAlone 8)) = false) : swappedStores [.Tuple [.Name nx px, .Name ny py] kt pt] (.Tuple [x, y] k2 pt2) env = pure (some [nx, ny]) := by
  have k1 : env.kindOf nx = some .local := of_decide_eq_true hx
  have k2' : env.kindOf ny = some .local := of_decide_eq_true hy
  have hb := blockKind_of hk
  unfold noStar at hs
  rw [Bool.not_eq_true'] at hs
  unfold swappedStores
  simp only [List.filterMap_cons, List.filterMap_nil, List.head?_cons, Option.map_some, Option.getD_some, Expr.pos, k1, k2', hl, beq_self_eq_true, Bool.and_self, if_true, hb]
  refine (if_neg Bool.false_ne_true).trans ?_
  refine (if_neg fun h => Bool.false_ne_true (Eq.trans (Eq.symm hs) h)).trans ?_
  refine (if_neg (by rw [hd]; exact Bool.false_ne_true)).trans ?_
  refine (if_neg fun h => Bool.false_ne_true (Eq.trans (Eq.symm hf) h)).trans ?_
  exact if_neg fun h => Bool.false_ne_true (Eq.trans (Eq.symm hc) h)
theorem sw3 {env : Env} {nx ny nz : Str} {px py pz pt : Pos} {kt k2 : Nat} {pt2 : Pos} {x y z : Expr} (hk : env.scope.kind = .function) (hx : locL env.scope nx = true) (hy : locL env.scope ny = true) (hz : locL env.scope nz = true) (hl : (py.line == px.line) = true) (hl2 : (pz.line == px.line) = true) (hd : ([nx, ny, nz] : List Str).eraseDups.length = 3)
    (hs : noStar [x, y, z] = true) (hf : ([x, y, z].all (foldedForSure 8)) = false) (hc : ([x, y, z].all (constantsAlone 8)) = false) : swappedStores [.Tuple [.Name nx px, .Name ny py, .Name nz pz] kt pt] (.Tuple [x, y, z] k2 pt2) env = pure (some [nx, ny, nz]) := by
  have k1 : env.kindOf nx = some .local := of_decide_eq_true hx
  have k2' : env.kindOf ny = some .local := of_decide_eq_true hy
  have k3' : env.kindOf nz = some .local := of_decide_eq_true hz
  have hb := blockKind_of hk
  unfold noStar at hs
  rw [Bool.not_eq_true'] at hs
  unfold swappedStores
  simp only [List.filterMap_cons, List.filterMap_nil, List.head?_cons, Option.map_some, Option.getD_some, Expr.pos, k1, k2', k3', hl, hl2, beq_self_eq_true, Bool.and_self, if_true, hb]
  refine (if_neg Bool.false_ne_true).trans ?_
  refine (if_neg fun h => Bool.false_ne_true (Eq.trans (Eq.symm hs) h)).trans ?_
  refine (if_neg (by rw [hd]; exact Bool.false_ne_true)).trans ?_
  refine (if_neg fun h => Bool.false_ne_true (Eq.trans (Eq.symm hf) h)).trans ?_
  exact if_neg fun h => Bool.false_ne_true (Eq.trans (Eq.symm hc) h)
def rAugG (g : Ga) (op : Op) : TIp := fun x y H Q => ∃ Z dx dy z, Pk g H Z x dx ∧ Pk g H Z y dy ∧ augD op dx dy = .ok z ∧ ∀ v, Rp g H Z v z → Q v H
theorem aug_okD {X : Cx} {g : Ga} (op : Op) : PIp X (opM op) (rAugG g op) := by
  intro pins s σ H x y v u Q I rx ry h
  obtain ⟨Z, dx, dy, z, px, py, ho, q⟩ := h
  unfold augD at ho
  split at ho
  · cases ho
    obtain rfl := px.int
    obtain rfl := py.int
    exact ip_add pins s σ H _ _ _ _ Q I rx ry ⟨_, _, rfl, rfl, q _ (.int _)⟩
  · cases ho
    obtain rfl := px.int
    obtain rfl := py.int
    exact ip_sub pins s σ H _ _ _ _ Q I rx ry ⟨_, _, rfl, rfl, q _ (.int _)⟩
  · cases ho
theorem RpL.dropLast {g : Ga} {H : Hp} {Z : Addr → Prop} {vs : List V} {ds : List D} (h : RpL g H Z vs ds) : RpL g H Z vs.dropLast ds.dropLast := by
  rw [List.dropLast_eq_take, List.dropLast_eq_take, h.length]; exact h.take _
theorem RpL.eraseIdx {g : Ga} {H : Hp} {Z : Addr → Prop} : ∀ {vs : List V} {ds : List D} (n : Nat), RpL g H Z vs ds → RpL g H Z (vs.eraseIdx n) (ds.eraseIdx n)
  | [], [], _, _ => .nil
  | _ :: _, _ :: _, 0, .cons _ t => t
  | _ :: _, _ :: _, n + 1, .cons h t => .cons h (RpL.eraseIdx n t)
  | [], _ :: _, _, h => nomatch h
  | _ :: _, [], _, h => nomatch h
section
variable {g : Ga} {gl : List D} {t : Tx} {T : List Df} {cf : Nat → List D → R EV} {wf : Nat} {n : Nat} {W : WX} {X : Cx} {B : Hp} {Z0 : Addr → Prop} {pos : Pos}
variable (c : Ct g gl t T cf n W X) (fx : Fx X)
include c fx
variable {a b e : E} {x y v : Expr}
theorem ss_aug {i : Nat} {nm : Str} {op : Op} {p : Pos} (hi : X.N[i]? = some nm) (hx : locB X.env.scope nm = true) (he : PE X v (TEx g gl cf W B Z0 e)) : PS X (.AugAssign (.Name nm p) (opM op) v pos) (TSx g gl cf wf W B Z0 (.aug i op e)) := by
  refine PS.imp (ps_aug c.nd hi (loc_of hx) he (aug_okD (g := g) op) (.inl (fx.fnA _))) fun Y σ H ⟨env, Z, sr, f⟩ => ?_
  simp only [ex] at f
  obtain ⟨x0, hx0, f⟩ := f.bindN (gets_nox _ _)
  have slot : ∃ w, σ[i]? = some (some w) ∧ Pk g H Z w x0.d := by
    unfold gets at hx0
    split at hx0
    · rename_i d hd
      cases hx0
      obtain ⟨w, q, r⟩ := sr.sl i _ hd
      exact ⟨w, q, .inl r⟩
    · rename_i d hd
      cases hx0
      obtain ⟨w, q, a, e, nz, tp⟩ := sr.sl i _ hd
      exact ⟨w, q, .inr ⟨a, e, tp⟩⟩
    · cases hx0
  obtain ⟨w, hw, pk⟩ := slot
  refine ⟨w, hw, te_fin sr (stE_fin sr f) fun y u H1 Z1 e1 r1 f1 => ?_⟩
  obtain ⟨z, hz, f1⟩ := f1.bindN (augD_nox _ _ _)
  obtain ⟨env', hp, f1⟩ := f1.bindN (putS_nox _ _ _)
  exact ⟨Z1, x0.d, y.d, z, pk.ext e1, r1.pk, hz, fun v rv => f1 _ H1 Z1 (sr.putV e1 (x := .z z) rv hp) e1.stp⟩
/-- an item of a list, by values -/
def rGetG (g : Ga) : V → V → Hp → VK → Prop := fun o i H Q => ∃ Z xs j r, Pk g H Z o (.lst xs) ∧ i = .int j ∧ atI xs j = some r ∧ ∀ v, Rp g H Z v r → Q v H
omit c fx in
theorem get_okD : PGet X (rGetG g) := by
  intro pins s σ H o i ov iv Q I ro ri h
  obtain ⟨Z, xs, j, r, po, rfl, hr, q⟩ := h
  obtain ⟨a, vs, rfl, hv, rl⟩ := po.lst
  cases ro
  obtain ⟨t, rfl⟩ := ri
  obtain ⟨z, hz, rz⟩ := atI_RpL rl hr
  obtain ⟨its, rr, pl, hsz⟩ := I.list (sqL_of_rd hv)
  obtain ⟨m, h1, h2, h3, h4, h5⟩ := atI_get hz
  obtain ⟨w, ew, rw'⟩ := rr.get h2
  have hl := rr.length
  have hn := line63
  have fin : EP X pins σ Q w s := ⟨z, H, I, rw', q z rz⟩
  by_cases h0 : 0 ≤ j
  · have hj : j.toNat = m := by
      rw [seqIndex_of h0 h5] at h1
      exact Option.some.inj h1
    exact wpAny_getItem_list pl.isList h0 (by omega) (by rw [hj]; simpa using ew) fin
  · have hj : (j + (its.toArray.size : Int)).toNat = m := by
      rw [seqIndex_neg (by omega) h4] at h1
      rw [List.size_toArray, ← hl]
      exact Option.some.inj h1
    exact wpAny_getItem_list_neg pl.isList (by omega) (by rw [List.size_toArray] <;> omega) (by omega) (by rw [hj]; simpa using ew) fin
theorem ss_ixAug {i : Nat} {k : E} {nm : Str} {op : Op} {p p' : Pos} {ke : Expr} (hi : (decide (X.N[i]? = some nm) && visB X.env.scope nm && okN nm) = true) (hk : PE X ke (TEx g gl cf W B Z0 k)) (hs : isSlc ke = false) (he : PE X v (TEx g gl cf W B Z0 e)) :
    PS X (.AugAssign (.Subscript (.Name nm p) ke p') (opM op) v pos) (TSx g gl cf wf W B Z0 (.ixAug i k op e)) := by
  simp only [Bool.and_eq_true, decide_eq_true_eq] at hi
  obtain ⟨⟨h1, h2⟩, h3⟩ := hi
  obtain ⟨k1, k2, k3⟩ := okN_of h3
  refine PS.imp (ps_augS (pe_var h1 (vis_of h2) k1 k2) hk (get_okD (g := g)) he (aug_okD (g := g) op) (set_okD (g := g) (by have := c.hu; omega)) (fun _ _ _ => by cases ke <;> first | rfl | cases hs)) fun Y σ H ⟨env, Z, sr, f⟩ => ?_
  simp only [ex] at f
  obtain ⟨cc, hcc, f⟩ := f.bindN (own_nox _ _)
  obtain ⟨xs, hxs, f⟩ := f.bindN (lstD_nox _)
  obtain rfl := lstD_ok hxs
  unfold tAugS
  refine own_var sr hcc fun a ha nz tp => ?_
  refine te_fin sr (stE_fin sr f) fun y w H1 Z1 e1 r1 f1 => ?_
  obtain ⟨j, hj, f1⟩ := f1.bindN .of
  obtain ⟨old, hold, f1⟩ := f1.bindN .of
  have hw := int_of c r1.pk hj
  have sr1 := sr.ext e1
  obtain ⟨a1, q1, nz1, tp1⟩ := sr1.owned (own_ok hcc)
  rw [ha] at q1; cases q1
  refine ⟨Z1, xs, j, old, .inr ⟨a, rfl, tp1⟩, hw, of_ok hold, fun vo ro => ?_⟩
  refine te_fin sr1 (stE_fin sr1 (f1.step e1.stp)) fun x u H3 Z3 e3 r3 f3 => ?_
  obtain ⟨z, hz, f3⟩ := f3.bindN (augD_nox _ _ _)
  obtain ⟨c', hst, f3⟩ := f3.bindN (storeD_nox _ _ _)
  refine ⟨Z3, old, x.d, z, .inl (Rp.evo e3.evo e3.mono _ _ ro), r3.pk, hz, fun vz rz => ?_⟩
  have sr3 := sr1.ext e3
  obtain ⟨a3, q3, nz3, tp3⟩ := sr3.owned (own_ok hcc)
  rw [ha] at q3; cases q3
  refine ⟨a, Z3, .lst xs, y.d, z, c', rfl, nz3, tp3, r1.pk.ext e3, rz, hst, fun ob tp4 => ?_⟩
  obtain ⟨s4, st4⟩ := sr3.writeS (own_ok hcc) ha tp4
  exact f3 σ _ Z3 s4 ((e3.stp).trans st4)
/-- x = y.pop() -/
theorem ss_pop {i j : Nat} {nm nx at' : Str} {p p' ap cp : Pos} (hn : at' = "pop") (hi : X.N[i]? = some nx) (hx : locB X.env.scope nx = true) (hj : (decide (X.N[j]? = some nm) && visB X.env.scope nm && okN nm) = true) (hl : (ap.endLine == cp.line) = true) :
    PS X (.Assign [.Name nx p'] (.Call (.Attribute (.Name nm p) at' ap) [] [] cp) pos) (TSx g gl cf wf W B Z0 (.pop i j)) := by
  subst hn
  simp only [Bool.and_eq_true, decide_eq_true_eq] at hj
  obtain ⟨⟨h1, h2⟩, h3⟩ := hj
  obtain ⟨k1, k2, k3⟩ := okN_of h3
  refine PS.imp (ps_set c.nd hi (loc_of hx) (pe_bm0 F.plainAttrs_list F.slot_list_pop rfl mt_pop (pe_var h1 (vis_of h2) k1 k2) rfl hl) rfl (.inl (fx.fnA _))) fun Y σ H ⟨env, Z, sr, f⟩ => ?_
  simp only [ex] at f
  obtain ⟨cc, hcc, f⟩ := f.bindN (own_nox _ _)
  obtain ⟨xs, hxs, f⟩ := f.bindN (lstD_nox _)
  obtain rfl := lstD_ok hxs
  obtain ⟨d, hd, f⟩ := f.bindN .of
  unfold tAsg tBM0
  refine own_var sr hcc fun a ha nz tp => ⟨.inl ⟨rfl, _, sqL_of_rd (.inl tp.choose_spec.1)⟩, ?_⟩
  obtain ⟨vs, hv, rv⟩ := tp
  obtain ⟨w, hw, rw'⟩ := rv.get (of_ok hd)
  refine ⟨a, vs, w, rfl, rfl, hv, by rw [rv.length]; exact hw, ?_⟩
  have ev : Evo Z H (upd H a (.lst vs.dropLast)) := Evo.upd nz hv trivial
  obtain ⟨s4, st4⟩ := sr.writeS (own_ok hcc) ha (d' := .lst xs.dropLast) (o := .lst vs.dropLast) ⟨_, upd_same, RpL.evo ev (fun _ z => z) _ _ rv.dropLast⟩
  exact f _ _ Z (s4.putZ (Rp.evo ev (fun _ z => z) _ _ rw')) st4
theorem ss_popAt {i j : Nat} {nm nx at' : Str} {p p' ap cp : Pos} (hn : at' = "pop") (hi : X.N[i]? = some nx) (hx : locB X.env.scope nx = true) (hj : (decide (X.N[j]? = some nm) && visB X.env.scope nm && okN nm) = true) (hl : (ap.endLine == cp.line) = true) (hv : ∀ e p, v ≠ .Starred e p) (he : PE X v (TEx g gl cf W B Z0 e)) :
    PS X (.Assign [.Name nx p'] (.Call (.Attribute (.Name nm p) at' ap) [v] [] cp) pos) (TSx g gl cf wf W B Z0 (.popAt i j e)) := by
  subst hn
  simp only [Bool.and_eq_true, decide_eq_true_eq] at hj
  obtain ⟨⟨h1, h2⟩, h3⟩ := hj
  obtain ⟨k1, k2, k3⟩ := okN_of h3
  have hst := starN c (xs := []) (env := X.env) hv
  refine PS.imp (ps_set c.nd hi (loc_of hx) (pe_bm F.plainAttrs_list F.slot_list_pop rfl mt_popAt (pe_var h1 (vis_of h2) k1 k2) (pa_cons he pa_nil hst) rfl (by rw [hst]; rfl) hl hst rfl) rfl (.inl (fx.fnA _))) fun Y σ H ⟨env, Z, sr, f⟩ => ?_
  simp only [ex] at f
  obtain ⟨cc, hcc, f⟩ := f.bindN (own_nox _ _)
  obtain ⟨xs, hxs, f⟩ := f.bindN (lstD_nox _)
  obtain rfl := lstD_ok hxs
  unfold tAsg tBM
  refine own_var sr hcc fun a ha nz tp => ⟨.inl ⟨rfl, _, sqL_of_rd (.inl tp.choose_spec.1)⟩, ?_⟩
  refine te_fin sr (stE_fin sr f) fun x u H1 Z1 e1 r1 f1 => ?_
  obtain ⟨k, hk, f1⟩ := f1.bindN .of
  obtain ⟨m, hm, f1⟩ := f1.bindN .of
  obtain ⟨d, hd, f1⟩ := f1.bindN .of
  split at f1
  case isFalse => exact f1.elim
  case isTrue hsz =>
  have sr1 := sr.ext e1
  obtain ⟨a', q', nz', vs, hv, rv⟩ := sr1.owned (own_ok hcc)
  rw [ha] at q'; cases q'
  obtain ⟨w, hw, rw'⟩ := rv.get (of_ok hd)
  obtain ⟨b1, b2, b3, b4⟩ := ixN_seq (of_ok hm)
  have := line63
  refine ⟨a, vs, k, m, w, rfl, by rw [int_of c r1.pk hk], hv, by omega, by omega, by rw [rv.length]; exact b1, hw, ?_⟩
  have ev : Evo Z1 H1 (upd H1 a (.lst (vs.eraseIdx m))) := Evo.upd nz' hv trivial
  obtain ⟨s4, st4⟩ := sr1.writeS (own_ok hcc) ha (d' := .lst (xs.eraseIdx m)) (o := .lst (vs.eraseIdx m)) ⟨_, upd_same, RpL.evo ev (fun _ z => z) _ _ (rv.eraseIdx m)⟩
  exact f1 _ _ Z1 (s4.putZ (Rp.evo ev (fun _ z => z) _ _ rw')) (e1.stp.trans st4)
/-- x.append(y.pop()) -/
theorem ss_appPop {i j : Nat} {nm nx at' at2 : Str} {p p' ap cp ap2 cp2 : Pos} (hn : at' = "append") (hn2 : at2 = "pop") (hi : (decide (X.N[i]? = some nx) && visB X.env.scope nx && okN nx) = true) (hj : (decide (X.N[j]? = some nm) && visB X.env.scope nm && okN nm) = true) (hl : (ap.endLine == cp.line) = true) (hl2 : (ap2.endLine == cp2.line) = true) :
    PS X (.Expr (.Call (.Attribute (.Name nx p) at' ap) [.Call (.Attribute (.Name nm p') at2 ap2) [] [] cp2] [] cp) pos) (TSx g gl cf wf W B Z0 (.appPop i j)) := by
  subst hn hn2
  simp only [Bool.and_eq_true, decide_eq_true_eq] at hi hj
  obtain ⟨⟨h1, h2⟩, h3⟩ := hi
  obtain ⟨k1, k2, k3⟩ := okN_of h3
  obtain ⟨⟨g1, g2⟩, g3⟩ := hj
  obtain ⟨l1, l2, l3⟩ := okN_of g3
  have hst2 := starN c (x := .Call (.Attribute (.Name nm p') "pop" ap2) [] [] cp2) (xs := []) (env := X.env) fun _ _ q => nomatch q
  refine PS.imp (ps_expr (pe_bm F.plainAttrs_list F.slot_list_append rfl mt_append (pe_var h1 (vis_of h2) k1 k2) (pa_cons (pe_bm0 F.plainAttrs_list F.slot_list_pop rfl mt_pop (pe_var g1 (vis_of g2) l1 l2) rfl hl2) pa_nil hst2) rfl (by rw [hst2]; rfl) hl hst2 rfl)) fun Y σ H ⟨env, Z, sr, f⟩ => ?_
  simp only [ex] at f
  split at f
  case isTrue => exact f.elim
  case isFalse hij =>
  obtain ⟨ci, hci, f⟩ := f.bindN (own_nox _ _)
  obtain ⟨ys, hys, f⟩ := f.bindN (lstD_nox _)
  obtain rfl := lstD_ok hys
  obtain ⟨cj, hcj, f⟩ := f.bindN (own_nox _ _)
  obtain ⟨xs, hxs, f⟩ := f.bindN (lstD_nox _)
  obtain rfl := lstD_ok hxs
  obtain ⟨d, hd, f⟩ := f.bindN .of
  split at f
  case isFalse => exact f.elim
  case isTrue hsz =>
  unfold tDrop tBM tBM0 tCons
  refine own_var sr hci fun a ha nz tp => ⟨.inl ⟨rfl, _, sqL_of_rd (.inl tp.choose_spec.1)⟩, ?_⟩
  refine own_var sr hcj fun b hb nzb tpb => ⟨.inl ⟨rfl, _, sqL_of_rd (.inl tpb.choose_spec.1)⟩, ?_⟩
  obtain ⟨vs, hv, rv⟩ := tpb
  obtain ⟨w, hw, rw'⟩ := rv.get (of_ok hd)
  refine ⟨b, vs, w, rfl, rfl, hv, by rw [rv.length]; exact hw, ?_⟩
  have ev : Evo Z H (upd H b (.lst vs.dropLast)) := Evo.upd nzb hv trivial
  obtain ⟨s4, st4⟩ := sr.writeS (own_ok hcj) hb (d' := .lst xs.dropLast) (o := .lst vs.dropLast) ⟨_, upd_same, RpL.evo ev (fun _ z => z) _ _ rv.dropLast⟩
  have hci4 : (setE env j (.o (.lst xs.dropLast)))[i]? = some (some (.o (.lst ys))) := by
    unfold setE
    rw [List.getElem?_set_ne (Ne.symm hij)]
    exact own_ok hci
  obtain ⟨a2, q2, nz2, us, hu, ru⟩ := s4.owned hci4
  rw [ha] at q2; cases q2
  refine ⟨a, us, w, rfl, rfl, hu, by rw [ru.length]; exact hsz, ?_⟩
  have ev2 : Evo Z (upd H b (.lst vs.dropLast)) (upd (upd H b (.lst vs.dropLast)) a (.lst (us ++ [w]))) := Evo.upd nz2 hu trivial
  obtain ⟨s5, st5⟩ := s4.writeS hci4 ha (d' := .lst (ys ++ [d])) (o := .lst (us ++ [w])) ⟨_, upd_same, RpL.append (RpL.evo ev2 (fun _ z => z) _ _ ru) (.cons (Rp.evo ev2 (fun _ z => z) _ _ (Rp.evo ev (fun _ z => z) _ _ rw')) .nil)⟩
  exact f _ _ Z s5 (st4.trans st5)
/-- x.append(y.pop(k)) -/
theorem ss_appPopAt {i j : Nat} {nm nx at' at2 : Str} {p p' ap cp ap2 cp2 : Pos} (hn : at' = "append") (hn2 : at2 = "pop") (hi : (decide (X.N[i]? = some nx) && visB X.env.scope nx && okN nx) = true) (hj : (decide (X.N[j]? = some nm) && visB X.env.scope nm && okN nm) = true) (hl : (ap.endLine == cp.line) = true) (hl2 : (ap2.endLine == cp2.line) = true) (hv : ∀ e p, v ≠ .Starred e p) (he : PE X v (TEx g gl cf W B Z0 e)) :
    PS X (.Expr (.Call (.Attribute (.Name nx p) at' ap) [.Call (.Attribute (.Name nm p') at2 ap2) [v] [] cp2] [] cp) pos) (TSx g gl cf wf W B Z0 (.appPopAt i j e)) := by
  subst hn hn2
  simp only [Bool.and_eq_true, decide_eq_true_eq] at hi hj
  obtain ⟨⟨h1, h2⟩, h3⟩ := hi
  obtain ⟨k1, k2, k3⟩ := okN_of h3
  obtain ⟨⟨g1, g2⟩, g3⟩ := hj
  obtain ⟨l1, l2, l3⟩ := okN_of g3
  have hst := starN c (xs := []) (env := X.env) hv
  have hst2 := starN c (x := .Call (.Attribute (.Name nm p') "pop" ap2) [v] [] cp2) (xs := []) (env := X.env) fun _ _ q => nomatch q
  refine PS.imp (ps_expr (pe_bm F.plainAttrs_list F.slot_list_append rfl mt_append (pe_var h1 (vis_of h2) k1 k2) (pa_cons (pe_bm F.plainAttrs_list F.slot_list_pop rfl mt_popAt (pe_var g1 (vis_of g2) l1 l2) (pa_cons he pa_nil hst) rfl (by rw [hst]; rfl) hl2 hst rfl) pa_nil hst2) rfl (by rw [hst2]; rfl) hl hst2 rfl)) fun Y σ H ⟨env, Z, sr, f⟩ => ?_
  simp only [ex] at f
  split at f
  case isTrue => exact f.elim
  case isFalse hij =>
  obtain ⟨ci, hci, f⟩ := f.bindN (own_nox _ _)
  obtain ⟨ys, hys, f⟩ := f.bindN (lstD_nox _)
  obtain rfl := lstD_ok hys
  obtain ⟨cj, hcj, f⟩ := f.bindN (own_nox _ _)
  obtain ⟨xs, hxs, f⟩ := f.bindN (lstD_nox _)
  obtain rfl := lstD_ok hxs
  unfold tDrop tBM tCons
  refine own_var sr hci fun a ha nz tp => ⟨.inl ⟨rfl, _, sqL_of_rd (.inl tp.choose_spec.1)⟩, ?_⟩
  refine own_var sr hcj fun b hb nzb tpb => ⟨.inl ⟨rfl, _, sqL_of_rd (.inl tpb.choose_spec.1)⟩, ?_⟩
  refine te_fin sr (stE_fin sr f) fun x u H1 Z1 e1 r1 f1 => ?_
  obtain ⟨k, hk, f1⟩ := f1.bindN .of
  obtain ⟨m, hm, f1⟩ := f1.bindN .of
  obtain ⟨d, hd, f1⟩ := f1.bindN .of
  split at f1
  case isFalse => exact f1.elim
  case isTrue hsz =>
  have sr1 := sr.ext e1
  obtain ⟨a', q', nz', vs, hv, rv⟩ := sr1.owned (own_ok hcj)
  rw [hb] at q'; cases q'
  obtain ⟨w, hw, rw'⟩ := rv.get (of_ok hd)
  obtain ⟨b1, b2, b3, b4⟩ := ixN_seq (of_ok hm)
  have := line63
  refine ⟨b, vs, k, m, w, rfl, by rw [int_of c r1.pk hk], hv, by omega, by omega, by rw [rv.length]; exact b1, hw, ?_⟩
  have ev : Evo Z1 H1 (upd H1 b (.lst (vs.eraseIdx m))) := Evo.upd nz' hv trivial
  obtain ⟨s4, st4⟩ := sr1.writeS (own_ok hcj) hb (d' := .lst (xs.eraseIdx m)) (o := .lst (vs.eraseIdx m)) ⟨_, upd_same, RpL.evo ev (fun _ z => z) _ _ (rv.eraseIdx m)⟩
  have hci4 : (setE env j (.o (.lst (xs.eraseIdx m))))[i]? = some (some (.o (.lst ys))) := by
    unfold setE
    rw [List.getElem?_set_ne (Ne.symm hij)]
    exact own_ok hci
  obtain ⟨a2, q2, nz2, us, hu, ru⟩ := s4.owned hci4
  rw [ha] at q2; cases q2
  refine ⟨a, us, w, rfl, rfl, hu, by rw [ru.length]; exact hsz.1, ?_⟩
  have ev2 : Evo Z1 (upd H1 b (.lst (vs.eraseIdx m))) (upd (upd H1 b (.lst (vs.eraseIdx m))) a (.lst (us ++ [w]))) := Evo.upd nz2 hu trivial
  obtain ⟨s5, st5⟩ := s4.writeS hci4 ha (d' := .lst (ys ++ [d])) (o := .lst (us ++ [w])) ⟨_, upd_same, RpL.append (RpL.evo ev2 (fun _ z => z) _ _ ru) (.cons (Rp.evo ev2 (fun _ z => z) _ _ (Rp.evo ev (fun _ z => z) _ _ rw')) .nil)⟩
  exact f1 _ _ Z1 s5 ((e1.stp.trans st4).trans st5)
end

/-! ### the text is the small form's -/
section
variable (t : Tx) (N : List Str)
def nmB (sc : Scope) (i : Nat) (x : Str) : Bool := decide (N[i]? = some x) && visB sc x && okN x
def tgB (sc : Scope) (i : Nat) (x : Str) : Bool := decide (N[i]? = some x) && locB sc x
mutual
def mS (sc : Scope) : S → Stmt → Bool
  | .never, _ => true
  | .pass, .Pass _ => true
  | .asg (.n i) e, .Assign [.Name x p'] (.ListComp xe [⟨xg, xi, fs, 0⟩] scope p) _ => tgB N sc i x && mE t N e sc (.ListComp xe [⟨xg, xi, fs, 0⟩] scope p) && locL sc x && (p'.line == p.line) && !(scope.names.any fun (n, k) => n == x && (k == .local || k == .cell))
  | .asg (.n i) e, .Assign [.Name x _] v _ => tgB N sc i x && nc v && mE t N e sc v
  | .asg (.t ts) e, .Assign [.Tuple es k p] v _ => mG N (.t ts) sc (.Tuple es k p) && nc v && !isTupE v && mE t N e sc v
  | .par [i, j] es, .Assign [.Tuple [.Name x px, .Name y py] _ _] (.Tuple [u, w] _ _) _ => decide (N[i]? = some x) && decide (N[j]? = some y) && decide (i ≠ j) && locL sc x && locL sc y && mEs t N es sc [u, w] && (py.line == px.line) && decide (([x, y] : List Str).eraseDups.length = 2) && noStar [u, w] && !([u, w].all (foldedForSure 8)) && !([u, w].all (constantsAlone 8))
  | .par [i, j, l] es, .Assign [.Tuple [.Name x px, .Name y py, .Name z pz] _ _] (.Tuple [u, w, r] _ _) _ => decide (N[i]? = some x) && decide (N[j]? = some y) && decide (N[l]? = some z) && decide (i ≠ j) && decide (i ≠ l) && decide (j ≠ l) && locL sc x && locL sc y && locL sc z && mEs t N es sc [u, w, r] && (py.line == px.line) && (pz.line == px.line) && decide (([x, y, z] : List Str).eraseDups.length = 3) && noStar [u, w, r] && !([u, w, r].all (foldedForSure 8)) && !([u, w, r].all (constantsAlone 8))
  | .ix i k e, .Assign [.Subscript (.Name x _) ke _] v _ => nmB N sc i x && mE t N k sc ke && !isSlc ke && nc v && mE t N e sc v
  | .ixAug i k op e, .AugAssign (.Subscript (.Name x _) ke _) o v _ => nmB N sc i x && mE t N k sc ke && !isSlc ke && decide (o = opM op) && mE t N e sc v
  | .swp i k1 k2 e, .Assign [.Tuple [.Subscript (.Name x1 _) ka _, .Subscript (.Name x2 _) kb _] _ _] (.Tuple [u, w] kv pv) _ => nmB N sc i x1 && decide (x1 = x2) && mE t N k1 sc ka && mE t N k2 sc kb && !isSlc ka && !isSlc kb && mE t N e sc (.Tuple [u, w] kv pv)
  | .aug i op e, .AugAssign (.Name x _) o v _ => tgB N sc i x && decide (o = opM op) && mE t N e sc v
  | .app i e, .Expr (.Call (.Attribute (.Name x _) a ap) [v] [] cp) _ => decide (a = "append") && nmB N sc i x && (ap.endLine == cp.line) && mE t N e sc v
  | .ext i e, .Expr (.Call (.Attribute (.Name x _) a ap) [v] [] cp) _ => decide (a = "extend") && nmB N sc i x && (ap.endLine == cp.line) && mE t N e sc v
  | .appPopAt i j e, .Expr (.Call (.Attribute (.Name x _) a ap) [.Call (.Attribute (.Name y _) a2 ap2) [v] [] cp2] [] cp) _ => decide (a = "append") && decide (a2 = "pop") && nmB N sc i x && nmB N sc j y && (ap.endLine == cp.line) && (ap2.endLine == cp2.line) && mE t N e sc v
  | .appPop i j, .Expr (.Call (.Attribute (.Name x _) a ap) [.Call (.Attribute (.Name y _) a2 ap2) [] [] cp2] [] cp) _ => decide (a = "append") && decide (a2 = "pop") && nmB N sc i x && nmB N sc j y && (ap.endLine == cp.line) && (ap2.endLine == cp2.line)
  | .pop i j, .Assign [.Name x _] (.Call (.Attribute (.Name y _) a ap) [] [] cp) _ => decide (a = "pop") && tgB N sc i x && nmB N sc j y && (ap.endLine == cp.line)
  | .popAt i j e, .Assign [.Name x _] (.Call (.Attribute (.Name y _) a ap) [v] [] cp) _ => decide (a = "pop") && tgB N sc i x && nmB N sc j y && (ap.endLine == cp.line) && mE t N e sc v
  | .expr e, .Expr v _ => nc v && mE t N e sc v
  | .ret e, .Return (some v) _ => mE t N e sc v
  | .retN, .Return none _ => true
  | .ite e p q, .If v xs ys _ => mE t N e sc v && mSs sc p xs && mSs sc q ys
  | .for_ tg it p, .For xg xi xs [] _ => mI t N it sc xg xi && mG N tg sc xg && mSs sc p xs
  | .while_ e p, .While v xs [] _ => mE t N e sc v && mSs sc p xs
  | .raise k, .Raise (some (.Call (.Name x _) [] [] _)) none _ => decide (t.xn[k]? = some x) && glB sc x && okN x
  | .try_ nx body C i h, .Try xs [.ExceptHandler (some (.Name x _)) (some nm) [.Return (some v) _] _] [] [] _ => decide (nx = t.xn.length) && mSs sc body xs && decide (t.xn[C]? = some x) && glB sc x && okN x && decide (N[i]? = some nm) && locL sc nm && mH t N sc i h v
  | .brk, .Break _ => true
  | .cont, .Continue _ => true
  | _, _ => false
def mSs (sc : Scope) : List S → List Stmt → Bool
  | [], [] => true
  | .frz _ :: r, xs => mSs sc r xs
  | [.never], _ => true
  | s :: r, x :: xs => mS sc s x && mSs sc r xs
  | _, _ => false
end
end
theorem mE_var {t : Tx} {N : List Str} {sc : Scope} {i : Nat} {v : Expr} (h : mE t N (.var i) sc v = true) : ∃ nm p, v = .Name nm p ∧ (decide (N[i]? = some nm) && visB sc nm && okN nm) = true := by
  unfold mE at h
  split at h <;> first | (cases h; done) | contradiction | skip
  rename_i he
  cases he
  exact ⟨_, _, rfl, h⟩
section
variable {g : Ga} {gl : List D} {t : Tx} {T : List Df} {cf : Nat → List D → R EV} {wf : Nat} {n : Nat} {W : WX} {X : Cx} {B : Hp} {Z0 : Addr → Prop}
theorem mf_ok {e : List E} {x : List Expr} {W : WX} {X : Cx} (c : Ct g gl t T cf n W X) (h : mEs t X.N e X.env.scope x = true) (l : e.length ≤ 1) : PTs X x (TFx g gl cf W B Z0 e) := sf_of c (paired_imp ((me_all X.N (sizeOf e + 1)).2.1 e (by omega) _ x h W X c rfl rfl) fun _ _ q => q.2) l
theorem ms_all : ∀ (m : Nat) {W : WX} {X : Cx} (c : Ct g gl t T cf n W X) (fT : FxT X),
    (∀ s : S, sizeOf s < m → ∀ x, mS t X.N X.env.scope s x = true → PS X x (TSx g gl cf wf W B Z0 s)) ∧
    (∀ ss : List S, sizeOf ss < m → ∀ xs, mSs t X.N X.env.scope ss xs = true → PSs X xs (TSs g gl cf wf W B Z0 ss))
  | 0, _, _, _, _ => ⟨fun _ h => by omega, fun _ h => by omega⟩
  | m + 1, W, X, c, fT => by
    have fx : Fx X := fT.toFx
    obtain ⟨ih, ihs⟩ := ms_all m c fT
    refine ⟨fun s hm x h => ?_, fun ss hm xs h => ?_⟩
    · unfold mS at h
      split at h
      · exact ss_never c fx
      · exact ss_pass c fx
      · -- name = [..]
        simp only [Bool.and_eq_true, Bool.not_eq_true', tgB, decide_eq_true_eq] at h
        obtain ⟨⟨⟨⟨⟨h1, h2⟩, h3⟩, h4⟩, h5⟩, h6⟩ := h
        unfold mE at h3
        split at h3 <;> first | (cases h3; done) | contradiction | skip
        rename_i hq
        cases hq
        simp only [Bool.and_eq_true, decide_eq_true_eq] at h3
        obtain ⟨⟨⟨⟨⟨g1, g2⟩, g3⟩, g4⟩, g5⟩, g6⟩ := h3
        exact PS.imp (ss_setLc c h1 (of_decide_eq_true h4) (sw_true fx.kind (of_decide_eq_true h4) h5 h6) (mi_ok c g1) g2 g3 (fun X' c' n' s' => by rw [← n', ← s'] at g4; exact me_ok c' g4)
          (fun X' c' n' s' => by rw [← n', ← s'] at g5; exact mf_ok c' g5 g6) (mI_folded g1 _)) (asg_imp c fx)
      · simp only [Bool.and_eq_true, tgB, decide_eq_true_eq] at h
        obtain ⟨⟨⟨h1, h2⟩, h3⟩, h4⟩ := h
        exact ss_set c fx h1 h2 h3 (me_ok c h4)
      · simp only [Bool.and_eq_true, Bool.not_eq_true'] at h
        obtain ⟨⟨⟨h1, h2⟩, h3⟩, h4⟩ := h
        exact ss_tup c fx h1 h2 h3 (me_ok c h4)
      · simp only [Bool.and_eq_true, Bool.not_eq_true', decide_eq_true_eq] at h
        obtain ⟨⟨⟨⟨⟨⟨⟨⟨⟨⟨h1, h2⟩, h3⟩, h4⟩, h5⟩, h6⟩, h7⟩, h8⟩, h9⟩, h10⟩, h11⟩ := h
        exact ss_par2 c fx h1 h2 h3 (of_decide_eq_true h4) (of_decide_eq_true h5) (ml_ok c h6) (sw2 fx.kind h4 h5 h7 h8 h9 h10 h11)
      · simp only [Bool.and_eq_true, Bool.not_eq_true', decide_eq_true_eq] at h
        obtain ⟨⟨⟨⟨⟨⟨⟨⟨⟨⟨⟨⟨⟨⟨⟨h1, h2⟩, h3⟩, h4⟩, h5⟩, h6⟩, h7⟩, h8⟩, h9⟩, h10⟩, h11⟩, h12⟩, h13⟩, h14⟩, h15⟩, h16⟩ := h
        exact ss_par3 c fx h1 h2 h3 h4 h5 h6 (of_decide_eq_true h7) (of_decide_eq_true h8) (of_decide_eq_true h9) (ml_ok c h10) (sw3 fx.kind h7 h8 h9 h11 h12 h13 h14 h15 h16)
      · simp only [Bool.and_eq_true, Bool.not_eq_true'] at h
        obtain ⟨⟨⟨⟨h1, h2⟩, h3⟩, h4⟩, h5⟩ := h
        exact ss_ix c fx h1 (me_ok c h2) h3 h4 (me_ok c h5)
      · simp only [Bool.and_eq_true, Bool.not_eq_true', decide_eq_true_eq] at h
        obtain ⟨⟨⟨⟨h1, h2⟩, h3⟩, rfl⟩, h5⟩ := h
        exact ss_ixAug c fx h1 (me_ok c h2) h3 (me_ok c h5)
      · simp only [Bool.and_eq_true, Bool.not_eq_true', decide_eq_true_eq] at h
        obtain ⟨⟨⟨⟨⟨⟨h1, rfl⟩, h2⟩, h3⟩, h4⟩, h5⟩, h6⟩ := h
        exact ss_swp c fx h1 (me_ok c h2) (me_ok c h3) h4 h5 (me_ok c h6)
      · simp only [Bool.and_eq_true, tgB, decide_eq_true_eq] at h
        obtain ⟨⟨⟨h1, h2⟩, rfl⟩, h4⟩ := h
        exact ss_aug c fx h1 h2 (me_ok c h4)
      · simp only [Bool.and_eq_true, decide_eq_true_eq] at h
        obtain ⟨⟨⟨h1, h2⟩, h3⟩, h4⟩ := h
        exact ss_app c fx h1 h2 h3 (mE_star h4) (me_ok c h4)
      · simp only [Bool.and_eq_true, decide_eq_true_eq] at h
        obtain ⟨⟨⟨h1, h2⟩, h3⟩, h4⟩ := h
        exact ss_ext c fx h1 h2 h3 (mE_star h4) (me_ok c h4)
      · simp only [Bool.and_eq_true, decide_eq_true_eq] at h
        obtain ⟨⟨⟨⟨⟨⟨h1, h2⟩, h3⟩, h4⟩, h5⟩, h6⟩, h7⟩ := h
        exact ss_appPopAt c fx h1 h2 h3 h4 h5 h6 (mE_star h7) (me_ok c h7)
      · simp only [Bool.and_eq_true, decide_eq_true_eq] at h
        obtain ⟨⟨⟨⟨⟨h1, h2⟩, h3⟩, h4⟩, h5⟩, h6⟩ := h
        exact ss_appPop c fx h1 h2 h3 h4 h5 h6
      · simp only [Bool.and_eq_true, tgB, decide_eq_true_eq] at h
        obtain ⟨⟨⟨h1, h2⟩, h3⟩, h4⟩ := h
        exact ss_pop c fx h1 h2.1 h2.2 h3 h4
      · simp only [Bool.and_eq_true, tgB, decide_eq_true_eq] at h
        obtain ⟨⟨⟨⟨h1, h2⟩, h3⟩, h4⟩, h5⟩ := h
        exact ss_popAt c fx h1 h2.1 h2.2 h3 h4 (mE_star h5) (me_ok c h5)
      · simp only [Bool.and_eq_true] at h
        exact ss_expr c fx h.1 (me_ok c h.2)
      · exact ss_ret c fx (me_ok c h) fun i q => by subst q; exact mE_var h
      · exact ss_retN c fx
      · simp only [Bool.and_eq_true] at h
        obtain ⟨⟨h1, h2⟩, h3⟩ := h
        simp only [S.ite.sizeOf_spec] at hm
        exact ss_ite c fx (mt_ok c h1) (ihs _ (by omega) _ h2) (ihs _ (by omega) _ h3)
      · simp only [Bool.and_eq_true] at h
        obtain ⟨⟨h1, h2⟩, h3⟩ := h
        simp only [S.for_.sizeOf_spec] at hm
        exact ss_for c fx (mi_ok c h1) h2 (ihs _ (by omega) _ h3) (mI_folded h1 _)
      · simp only [Bool.and_eq_true] at h
        obtain ⟨h1, h2⟩ := h
        simp only [S.while_.sizeOf_spec] at hm
        exact ss_while c fx (mt_ok c h1) (ihs _ (by omega) _ h2)
      · simp only [Bool.and_eq_true, decide_eq_true_eq] at h
        exact ss_raise c fT h.1.1 h.1.2 h.2
      · simp only [Bool.and_eq_true, decide_eq_true_eq] at h
        obtain ⟨⟨⟨⟨⟨⟨⟨rfl, h1⟩, h2⟩, h3⟩, h4⟩, h5⟩, h6⟩, h7⟩ := h
        simp only [S.try_.sizeOf_spec] at hm
        exact ss_try c fT (fun W' pn xe c' f' => (ms_all m c' f').2 _ (by omega) _ h1) h2 h3 h4 h5 h6 h7
      · exact ss_brk c fx
      · exact ss_cont c fx
      · cases h
    · cases ss with
      | nil =>
        cases xs with
        | nil => exact sq_nil c fx
        | cons _ _ => simp [mSs] at h
      | cons s r =>
        simp only [List.cons.sizeOf_spec] at hm
        by_cases hf : ∃ i, s = .frz i
        · obtain ⟨i, rfl⟩ := hf
          simp only [mSs] at h
          exact sq_frz c fx (ihs r (by omega) xs h)
        · by_cases hnv : s = .never ∧ r = []
          · obtain ⟨rfl, rfl⟩ := hnv
            exact sq_never c fx
          cases xs with
          | nil => cases s <;> first | (simp [mSs] at h; done) | exact absurd ⟨_, rfl⟩ hf | (cases r <;> first | exact absurd ⟨rfl, rfl⟩ hnv | (simp [mSs] at h))
          | cons x xs =>
            have h : (mS t X.N X.env.scope s x && mSs t X.N X.env.scope r xs) = true := by
              cases s <;> first | exact h | exact absurd ⟨_, rfl⟩ hf | (cases r <;> first | exact absurd ⟨rfl, rfl⟩ hnv | exact h)
            simp only [Bool.and_eq_true] at h
            exact sq_cons c fx (ih s (by omega) x h.1) (ihs r (by omega) xs h.2)
theorem ms_ok (c : Ct g gl t T cf n W X) (fx : FxT X) {ss : List S} {xs : List Stmt} (h : mSs t X.N X.env.scope ss xs = true) : PSs X xs (TSs g gl cf wf W B Z0 ss) := (ms_all (sizeOf ss + 1) c fx).2 ss (by omega) xs h
end
end NH
set_option Elab.async false
set_option linter.all false
set_option maxRecDepth 100000
set_option maxHeartbeats 4000000
/-! NHl: every def keeps the small interpreter's answer. -/
namespace NH
open PySem PySem.Spec PyProof.Rows L2

/-- a def as it stands behind the top, and its small form -/
structure DefOk (K : PySem.W.Frag) (mg : Str → Option Value) (t : Tx) (d : Df) (f : Addr) : Prop where
  ex : ∃ (st : Stmt) (fd : FuncData), Fun K d.name d.name st f fd ∧ Binds K fd (d.N.take d.np) [] ∧ FnScope d.N (d.N.take d.np) (defScope st) ∧ mSs t d.N (defScope st) d.body (defBody st) = true
  np : d.np ≤ d.N.length
  mgf : mg d.gn = some (.ref f)
structure Md (K : PySem.W.Frag) (mg : Str → Option Value) (g : Ga) (gl : List D) (t : Tx) (T : List Df) : Prop where
  eqK : K = g.K
  tfn : t.fn = T.map (·.gn)
  nfT : g.nf = T.length
  xcs : ∀ (i : Nat) x, t.xn[i]? = some x → XcOk K mg g t i x
  lws : ∀ (f : Nat) ps, t.lw.lookup f = some ps → ∃ y, t.fn[f]? = some y ∧ LwOk K mg t (g.fa f) y ps
  bts : ∀ x ∈ btN, mg x = none
  gls : ∀ (i : Nat) x, t.gn[i]? = some x → ∃ v u d, gl[i]? = some d ∧ mg x = some u ∧ RelV v u ∧ ∀ H Z, Rp g H Z v d
  df : ∀ (i : Nat) d, T[i]? = some d → DefOk K mg t d (g.fa i)
theorem callF_len {gl : List D} {T : List Df} {wf n : Nat} {f : Nat} {d : Df} {ds : List D} (h : T[f]? = some d) (l : ds.length ≠ d.np) : callF gl T wf n f ds = .stk := by
  cases n with
  | zero => rfl
  | succ n =>
    unfold callF
    rw [h]
    show runD gl (callF gl T wf n) wf d ds = _
    unfold runD
    rw [if_neg l]
section
variable {P : Program} {w : World} {K : PySem.W.Frag} {mg : Str → Option Value} {base : Heap} {g : Ga} {gl : List D} {t : Tx} {T : List Df}
theorem startR {B H : Hp} {Z : Addr → Prop} {N : List Str} {vs : List V} {ds : List D} (hz : ∀ a, Z a → H a ≠ none) (r : RpL g H Z vs ds) : SR g H Z ((ds.map fun a => some (Sl.v a)) ++ List.replicate (N.length - ds.length) none) Z (L2.start N vs) H := by
  have key : ∀ (i : Nat) (s : Sl), ((ds.map fun a => some (Sl.v a)) ++ List.replicate (N.length - ds.length) none)[i]? = some (some s) → ∃ d, s = .v d ∧ ds[i]? = some d := fun i s h => by
    by_cases hi : i < ds.length
    · rw [List.getElem?_append_left (by simpa using hi), List.getElem?_map] at h
      obtain ⟨d, hd, e⟩ := Option.map_eq_some_iff.mp h
      cases e
      exact ⟨d, rfl, hd⟩
    · rw [List.getElem?_append_right (by simpa using hi), List.getElem?_replicate] at h
      split at h <;> cases h
  refine ⟨?_, fun i s h => ?_, fun i j a d d' h => ?_, fun i d a h => ?_, Same.refl _, hz, fun _ z => z, fun _ z => .inl z⟩
  · unfold L2.start
    rw [List.length_append, List.length_append, List.length_map, List.length_map, List.length_replicate, List.length_replicate, r.length]
  · obtain ⟨d, rfl, hd⟩ := key i s h
    obtain ⟨v, hv, rv⟩ := r.get hd
    refine ⟨v, ?_, rv⟩
    unfold L2.start
    have hi : i < (vs.map some).length := by rw [List.length_map]; exact (List.getElem?_eq_some_iff.mp hv).1
    rw [List.getElem?_append_left hi, List.getElem?_map, hv]
    rfl
  · obtain ⟨_, e, _⟩ := key i _ h
    cases e
  · obtain ⟨_, e, _⟩ := key i _ h
    cases e
/-- THE RULE -/
theorem all_ok (wf : Nat) (M : Md K mg g gl t T) : ∀ (n i : Nat) (d : Df), T[i]? = some d → ∃ fd, (∃ st, Fun K d.name d.name st (g.fa i) fd) ∧ Binds K fd (d.N.take d.np) [] ∧ FnOk P w K mg base (L2N.CX P w) (n + 1) (g.fa i) fd (d.N.take d.np) (spF g (callF gl T wf n) d.np i)
  | 0, i, d, hd => by
    obtain ⟨⟨st, fd, F, hb, S, hm⟩, np, mgf⟩ := M.df i d hd
    refine ⟨fd, ⟨st, F⟩, hb, ⟨fun vs H Q E h => by rw [h.1, List.length_take]; omega, fun A outer s H args us vs Q E hr e0 hbb r hsp => ?_⟩⟩
    obtain ⟨_, ds, Z, _, _, h⟩ := hsp
    exact h.elim
  | n + 1, i, d, hd => by
    obtain ⟨⟨st, fd, F, hb, S, hm⟩, np, mgf⟩ := M.df i d hd
    refine ⟨fd, ⟨st, F⟩, hb, ?_⟩
    obtain ⟨oc, od, kV, doc, pm, an, cdv, ct, osl, rfl, lk, hcd⟩ := F.ex
    refine fn_of lk hcd S (fun vs H Q E h => by rw [h.1, List.length_take]; omega) fun A outer s H vs Q E hr hsp => ?_
    obtain ⟨hl, ds, Z, hz, r, h⟩ := hsp
    have c : Ct g gl t T (callF gl T wf n) (n + 1) (fun cls dd _ H' => E cls dd H') (cxOf (L2N.CX P w) P w K mg base d.N d.name (defScope st) (g.fa i) cdv A outer s H E) :=
      ⟨M.eqK, rfl, S.nd, L2N.takes_of rfl rfl rfl rfl, hr, Nat.le_add_left 1 n, M.tfn, fun f d' hd' => by
        obtain ⟨⟨st', fd', F', hb', S', hm'⟩, np', mgf'⟩ := M.df f d' hd'
        obtain ⟨fd2, _, b2, ok2⟩ := all_ok wf M n f d' hd'
        exact ⟨mgf', F'.kp, fd2, b2, ok2⟩, fun f d' ds' hd' hl' => callF_len hd' hl', M.nfT, M.xcs, M.lws, M.bts, M.gls⟩
    have fx : FxT (cxOf (L2N.CX P w) P w K mg base d.N d.name (defScope st) (g.fa i) cdv A outer s H E) := ⟨⟨L2.passes_of rfl, fun _ => rfl, S.kind⟩, rfl, rfl⟩
    refine ⟨TSs g gl (callF gl T wf n) wf (fun cls dd _ H' => E cls dd H') H Z d.body, ms_ok c fx hm, (ds.map fun a => some (Sl.v a)) ++ List.replicate (d.N.length - ds.length) none, Z, startR (B := H) hz r, ?_⟩
    have hdl : ds.length = d.np := by rw [← r.length]; exact hl
    have he : callF gl T wf (n + 1) i ds = (exs gl (callF gl T wf n) wf d.body ((ds.map fun a => some (Sl.v a)) ++ List.replicate (d.N.length - d.np) none)).calm.bind fun f => match f with
      | .nx _ => .ok (.z .non)
      | .ret v => .ok v
      | .ex c p _ => .exc c p
      | _ => .stk := by
      show (match T[i]? with
        | some d => runD gl (callF gl T wf n) wf d ds
        | none => .stk) = _
      rw [hd]
      show runD gl (callF gl T wf n) wf d ds = _
      unfold runD
      rw [if_pos hdl] <;> rfl
    rw [he] at h
    rw [hdl]
    cases hx : exs gl (callF gl T wf n) wf d.body ((ds.map fun a => some (Sl.v a)) ++ List.replicate (d.N.length - d.np) none) with
    | stk => rw [hx] at h; exact h.elim
    | exc k p => rw [hx] at h; exact h.elim
    | ok x =>
      rw [hx] at h
      simp only [R.calm, R.bind_ok] at h
      cases x with
      | nx e => exact fun σ' H' Z' sr _ => h .non H' Z' sr.out .non
      | ret v => exact fun w' H' Z' e rv => h w' H' Z' e rv
      | ex k p e => exact fun σ' H' Z' dd sr _ x => h H' Z' dd sr.out x
      | bk e => exact h.elim
      | ct e => exact h.elim
end
end NH
set_option Elab.async false
set_option linter.all false
set_option maxRecDepth 100000
set_option maxHeartbeats 4000000
/-! NHm: from the top's facts to the law. -/
namespace NH
open PySem PySem.Spec PyProof.Rows L2

/-- a def of the top, bound to the global name gn, in its small form -/
structure DF (K : PySem.W.Frag) (t : Tx) (d : Df) (f : Addr) : Prop where
  ns : PySem.W.nsIn K mainGlobals d.gn = some (some (.ref f))
  ex : ∃ (st : Stmt) (fd : FuncData), Fun K d.name d.name st f fd ∧
    (∀ (kV doc pm : Value) (an : Option Addr) (cdv ct : Value) (us : List Value), us.length = (d.N.take d.np).length → bindArgs (PySem.W.fnOf d.name d.name (defArgs st) (defBody st) (defScope st) .none kV doc pm an cdv ct) ⟨us, []⟩ = pure ((d.N.take d.np).zip us)) ∧
    FnScope d.N (d.N.take d.np) (defScope st) ∧ mSs t d.N (defScope st) d.body (defBody st) = true
  np : d.np ≤ d.N.length
theorem fun_uniq {K : PySem.W.Frag} {x y q r : Str} {st st' : Stmt} {f : Addr} {fd fd' : FuncData} (F : Fun K x q st f fd) (F' : Fun K y r st' f fd') : fd = fd' := by
  obtain ⟨_, _, _, _, _, _, _, _, _, _, l, _⟩ := F.ex
  obtain ⟨_, _, _, _, _, _, _, _, _, _, l', _⟩ := F'.ex
  rw [l] at l'; cases l'; rfl
def okD (t : Tx) (d : Df) (st : Stmt) : Bool := C8.scC d.N (d.N.take d.np) (defScope st) && mSs t d.N (defScope st) d.body (defBody st) && decide (d.np ≤ d.N.length)
theorem df_mk {K : PySem.W.Frag} {t : Tx} {d : Df} {st : Stmt} {f : Addr} {oc : Value} {od an : Option Addr} {osl : Array (Option Value)} {kV doc pm cdv ct : Value} (ok : okD t d st = true)
    (hb : ∀ (kV doc pm : Value) (an : Option Addr) (cdv ct : Value) (us : List Value), us.length = (d.N.take d.np).length → bindArgs (PySem.W.fnOf d.name d.name (defArgs st) (defBody st) (defScope st) .none kV doc pm an cdv ct) ⟨us, []⟩ = pure ((d.N.take d.np).zip us))
    (a : PySem.W.nsIn K mainGlobals d.gn = some (some (.ref f))) (l : K.lookup f = some ⟨oc, od, .func (PySem.W.fnOf d.name d.name (defArgs st) (defBody st) (defScope st) .none kV doc pm an cdv ct), osl⟩)
    (c : PySem.W.codeIn K cdv d.name = true) (k : PySem.W.keepIn K (.ref f) = true) : DF K t d f := by
  unfold okD at ok
  simp only [Bool.and_eq_true, decide_eq_true_eq] at ok
  have F := fun_mk (st := st) l c k
  exact ⟨a, ⟨st, _, F, hb, C8.fnScope_by ok.1.1, ok.1.2⟩, ok.2⟩
/-- a constant of the top -/
structure CF (K : PySem.W.Frag) (x : Str) (d : D) : Prop where
  ex : ∃ u v, PySem.W.nsIn K mainGlobals x = some (some u) ∧ RelV v u ∧ ∀ (g : Ga) H Z, g.K = K → Rp g H Z v d
theorem cf_int {K : PySem.W.Frag} {x : Str} {i : Int} {tk : Tok} (a : PySem.W.nsIn K mainGlobals x = some (some (.int i tk))) : CF K x (.int i) := ⟨_, .int i, a, ⟨_, rfl⟩, fun _ _ _ _ => .int i⟩
theorem cf_str {K : PySem.W.Frag} {x : Str} {s : Str} {tk : Tok} (h : s.length ≤ sizeLine) (a : PySem.W.nsIn K mainGlobals x = some (some (.str s tk))) : CF K x (.str s) := ⟨_, .str s, a, ⟨_, rfl⟩, fun _ _ _ _ => .str s h⟩
theorem cf_non {K : PySem.W.Frag} {x : Str} {u : Value} {v : V} (r : RelV v u) (a : PySem.W.nsIn K mainGlobals x = some (some u)) (h : ∀ (g : Ga) H Z, g.K = K → Rp g H Z v .non) : CF K x .non := ⟨_, _, a, r, h⟩
/-- an exception class of the top -/
structure XF (K : PySem.W.Frag) (x : Str) (C : Addr) : Prop where
  ns : PySem.W.nsIn K mainGlobals x = some (some (.ref C))
  kp : PySem.W.keepIn K (.ref C) = true
  q : PySem.W.excIn K C [.type "ValueError", .type "Exception", .type "BaseException", .type "object"] "ValueError.__new__" = true
  sb : PySem.W.subIn K (.ref C) (.type "BaseException") = some true
  ty : PySem.W.typeIn K (.ref C) = some (.type "type")
  ec : ExcC K C
structure XP (K : PySem.W.Frag) (C E : Addr) (b : Bool) : Prop where
  s : PySem.W.subIn K (.ref C) (.ref E) = some b
theorem kit_of {K : PySem.W.Frag} {C E : Addr} {y : Str} {b : Bool} (F : XF K y E) (s : PySem.W.subIn K (.ref C) (.ref E) = some b) (r : PySem.W.subIn K (.ref E) (.ref E) = some true) : PySem.W.kitOne K (.ref C) (.ref E) = some b := by
  unfold PySem.W.kitOne
  by_cases q : (Value.ref C == Value.ref E) = true
  · have e : C = E := Value.ref.inj (beq_iff_eq.mp q)
    rw [if_pos q]
    rw [e, r] at s
    exact s
  · rw [if_neg q]
    obtain ⟨cd, hc, _⟩ := PySem.W.any_some F.ec.hd
    have e2 : ((PySem.W.clsIn K E).isSome && PySem.W.typeIn K (.ref E) == some (.type "type")) = true := by rw [hc, F.ty] <;> rfl
    show (if ((PySem.W.clsIn K E).isSome && PySem.W.typeIn K (.ref E) == some (.type "type")) = true then PySem.W.subIn K (.ref C) (.ref E) else none) = some b
    rw [if_pos e2]
    exact s
theorem xc_of {K : PySem.W.Frag} {h : Heap} {mg : Str → Option Value} (X : K.In h) (G : h.Ns mainGlobals mg) {g : Ga} {t : Tx} {i : Nat} {x : Str} (F : XF K x (g.ca i)) (hF : ∀ (j : Nat) y, t.xn[j]? = some y → XF K y (g.ca j) ∧ XP K (g.ca i) (g.ca j) (subx i j) ∧ XP K (g.ca j) (g.ca j) (subx j j)) : XcOk K mg g t i x where
  mgf := PySem.W.mg_of X G F.ns
  kp := F.kp
  q := F.q
  sb := F.sb
  ty := F.ty
  ec := F.ec
  rel := fun j y hy => by
    obtain ⟨F', P, P'⟩ := hF j y hy
    have r := P'.s
    rw [show subx j j = true by simp [subx]] at r
    exact ⟨PySem.W.exm_ref F'.sb F'.ec.hd F'.ty P.s, kit_of F' P.s r⟩
/-- a def that tells by names -/
structure LF (K : PySem.W.Frag) (t : Tx) (f : Addr) (y : Str) (ps : List (Str × Nat)) : Prop where
  ns : PySem.W.nsIn K mainGlobals y = some (some (.ref f))
  ex : ∃ (st : Stmt) (fd : FuncData), Fun K y y st f fd ∧ Binds K fd ["e", "name"] [] ∧ FnScope ["e", "name"] ["e", "name"] (defScope st) ∧ mL t (defScope st) ps (defBody st) = true
theorem lf_mk {K : PySem.W.Frag} {t : Tx} {y : Str} {ps : List (Str × Nat)} {st : Stmt} {f : Addr} {oc : Value} {od an : Option Addr} {osl : Array (Option Value)} {kV doc pm cdv ct : Value} (ok : (C8.scC ["e", "name"] ["e", "name"] (defScope st) && mL t (defScope st) ps (defBody st)) = true)
    (hb : ∀ (kV doc pm : Value) (an : Option Addr) (cdv ct : Value) (us : List Value), us.length = 2 → bindArgs (PySem.W.fnOf y y (defArgs st) (defBody st) (defScope st) .none kV doc pm an cdv ct) ⟨us, []⟩ = pure ((["e", "name"] : List Str).zip us))
    (a : PySem.W.nsIn K mainGlobals y = some (some (.ref f))) (l : K.lookup f = some ⟨oc, od, .func (PySem.W.fnOf y y (defArgs st) (defBody st) (defScope st) .none kV doc pm an cdv ct), osl⟩)
    (c : PySem.W.codeIn K cdv y = true) (k : PySem.W.keepIn K (.ref f) = true) : LF K t f y ps := by
  simp only [Bool.and_eq_true] at ok
  have F := fun_mk (st := st) l c k
  exact ⟨a, ⟨st, _, F, F.binds (ps := ["e", "name"]) hb, C8.fnScope_by ok.1, ok.2⟩⟩
/-- all that the top says -/
structure Top1 (K : PySem.W.Frag) (gl : List D) (t : Tx) (T : List Df) (fa ca : List Addr) : Prop where
  len : fa.length = T.length
  fn : t.fn = T.map (·.gn)
  df : ∀ (i : Nat) d, T[i]? = some d → DF K t d (fa.getD i 0)
  gl : ∀ (i : Nat) x, t.gn[i]? = some x → ∃ d, gl[i]? = some d ∧ CF K x d
  xs : ∀ (i : Nat) x, t.xn[i]? = some x → XF K x (ca.getD i 0)
  xp : ∀ (i j : Nat) x y, t.xn[i]? = some x → t.xn[j]? = some y → XP K (ca.getD i 0) (ca.getD j 0) (subx i j)
  lw : ∀ (f : Nat) ps, t.lw.lookup f = some ps → ∃ y, t.fn[f]? = some y ∧ LF K t (fa.getD f 0) y ps
  bt : ∀ x ∈ btN, PySem.W.nsIn K mainGlobals x = some none
theorem FnOk.imp {P : Program} {w : World} {K : PySem.W.Frag} {mg : Str → Option Value} {base : Heap} {CX : CXT} {k : Nat} {f : Addr} {fd : FuncData} {ps : List Str} {sp sp' : Sp} (F : FnOk P w K mg base CX k f fd ps sp) (h : ∀ vs H Q E, sp' vs H Q E → sp vs H Q E) : FnOk P w K mg base CX k f fd ps sp' :=
  ⟨fun vs H Q E q => F.len vs H Q E (h vs H Q E q), fun A outer s H args us vs Q E hr e0 hb r q => F.run A outer s H args us vs Q E hr e0 hb r (h vs H Q E q)⟩
def spL (K : PySem.W.Frag) : Sp := fun vs H Q _ => ∃ (a : Addr) (ns : List Int), vs = [.ref a] ∧ SqL K H a (ns.map V.int) ∧ ns.length ≤ 63 ∧ ∀ H', Q (.bl true) H'
theorem law_all {P : Program} {w : World} {K : PySem.W.Frag} {h : Heap} {mg : Str → Option Value} {faL : Addr} {gl : List D} {t : Tx} {T : List Df} {fa ca : List Addr} (wf n : Nat) (X : K.In h) (G : h.Ns mainGlobals mg) (hfa : mg "law" = some (.ref faL)) (M : Top1 K gl t T fa ca)
    (iL : Nat) (dL : Df) (hL : T[iL]? = some dL) (gL : dL.gn = "law") (pL : dL.N.take dL.np = (["script"] : List Str)) (npL : dL.np = 1)
    (ans : ∀ ns : List Int, ns.length ≤ 63 → callF gl T wf n iL [.klst (ns.map .int)] = .ok (.z (.bl true))) :
    ∃ fd : FuncData, (∀ (s : Shared) (v : Value), BindsTo s fd ⟨[v], []⟩ [("script", v)]) ∧ ∀ base : Heap, K.In base → base.Ns mainGlobals mg → FnOk P w K mg base (L2N.CX P w) (n + 1) faL fd ["script"] (spL K) := by
  let g : Ga := ⟨K, fun i => fa.getD i 0, fun i => ca.getD i 0, fun _ => "", T.length⟩
  have mgN : ∀ {x : Str}, PySem.W.nsIn K mainGlobals x = some none → mg x = none := fun e => PySem.W.mg_none_of X G e
  have md : Md K mg g gl t T := ⟨rfl, M.fn, rfl, fun i x hx => xc_of X G (g := g) (M.xs i x hx) fun j y hy => ⟨M.xs j y hy, M.xp i j x y hx hy, M.xp j j y y hy hy⟩,
    fun f ps hf => by
      obtain ⟨y, hy, l⟩ := M.lw f ps hf
      exact ⟨y, hy, l.ex, PySem.W.mg_of X G l.ns⟩,
    fun x hx => mgN (M.bt x hx), fun i x hx => by
      obtain ⟨d, hd, ⟨u, v, e1, e2, e3⟩⟩ := M.gl i x hx
      exact ⟨v, u, d, hd, PySem.W.mg_of X G e1, e2, fun H Z => e3 g H Z rfl⟩,
    fun i d hd => by
      have F := M.df i d hd
      obtain ⟨st, fd, F1, hb, S, hm⟩ := F.ex
      exact ⟨⟨st, fd, F1, F1.binds hb, S, hm⟩, F.np, PySem.W.mg_of X G F.ns⟩⟩
  have FL := M.df iL dL hL
  have e : mg "law" = some (.ref (fa.getD iL 0)) := by
    have := PySem.W.mg_of X G FL.ns
    rw [gL] at this; exact this
  have e' : faL = fa.getD iL 0 := by rw [hfa] at e; cases e; rfl
  rw [e']
  obtain ⟨st, fd, FF, hb, _, _⟩ := FL.ex
  obtain ⟨_, _, kV, doc, pm, an, cdv, ct, _, efd, _, _⟩ := FF.ex
  refine ⟨fd, fun s v => .of_eq (by rw [efd, hb kV doc pm an cdv ct [v] (by rw [pL]; rfl), pL]; rfl), fun base _ _ => ?_⟩
  obtain ⟨fd, ⟨st', F'⟩, _, ok⟩ := all_ok (P := P) (w := w) (base := base) wf md n iL dL hL
  have e2 := fun_uniq FF F'
  rw [e2]
  rw [pL] at ok
  refine FnOk.imp ok fun vs H Q E ⟨a, ns, ev, hS, hl, q⟩ => ?_
  subst ev
  refine ⟨by rw [npL]; rfl, [.klst (ns.map .int)], fun b => b = a ∧ Rd H a (.lst (ns.map V.int)), fun b hb => ?_, .cons (.klst ?_ (RpL.ofInts ns)) .nil, ?_⟩
  · obtain ⟨rfl, r | ⟨o, r⟩⟩ := hb
    · rw [r]; exact fun q => nomatch q
    · rw [r]; exact fun q => nomatch q
  · rcases hS with r | r
    · exact .inl ⟨⟨rfl, r⟩, r⟩
    · exact .inr (.inr r)
  · rw [ans ns hl]
    intro v H' Z' _ rv
    cases rv
    exact q H'
theorem noCX {P : Program} {w : World} {H : Hp} {s : Shared} {e : Value} {s' : Shared} (h : L2N.CX P w [] H s (fun _ _ _ => False) e s') : False := by
  obtain ⟨_, _, _, _, _, _, _, _, _, _, _, _, z⟩ := h
  exact z
/-! the facts of the top, one by one; X tells which fragment -/
theorem dfX {K : PySem.W.Frag} {h : Heap} (_ : K.In h) {t : Tx} {d : Df} {st : Stmt} {gn nm : Str} {f : Addr} {oc : Value} {od an : Option Addr} {osl : Array (Option Value)} {kV doc pm cdv ct : Value} (hg : d.gn = gn) (hn : d.name = nm) (ok : okD t d st = true)
    (hb : ∀ (kV doc pm : Value) (an : Option Addr) (cdv ct : Value) (us : List Value), us.length = (d.N.take d.np).length → bindArgs (PySem.W.fnOf d.name d.name (defArgs st) (defBody st) (defScope st) .none kV doc pm an cdv ct) ⟨us, []⟩ = pure ((d.N.take d.np).zip us))
    (a : PySem.W.nsIn K mainGlobals gn = some (some (.ref f))) (l : K.lookup f = some ⟨oc, od, .func (PySem.W.fnOf nm nm (defArgs st) (defBody st) (defScope st) .none kV doc pm an cdv ct), osl⟩)
    (c : PySem.W.codeIn K cdv nm = true) (k : PySem.W.keepIn K (.ref f) = true) : ∃ f, DF K t d f := by
  subst hg hn
  exact ⟨f, df_mk ok hb a l c k⟩
theorem dfLX {K : PySem.W.Frag} {h : Heap} (_ : K.In h) {t : Tx} {d : Df} {st : Stmt} {gn : Str} {ps : List (Str × Nat)} {f : Addr} {oc : Value} {od an : Option Addr} {osl : Array (Option Value)} {kV doc pm cdv ct : Value} (hg : d.gn = gn) (hn : d.name = gn) (ok : okD t d st = true)
    (ok2 : (C8.scC ["e", "name"] ["e", "name"] (defScope st) && mL t (defScope st) ps (defBody st)) = true) (hN : d.N.take d.np = (["e", "name"] : List Str))
    (hb : ∀ (kV doc pm : Value) (an : Option Addr) (cdv ct : Value) (us : List Value), us.length = (d.N.take d.np).length → bindArgs (PySem.W.fnOf d.name d.name (defArgs st) (defBody st) (defScope st) .none kV doc pm an cdv ct) ⟨us, []⟩ = pure ((d.N.take d.np).zip us))
    (a : PySem.W.nsIn K mainGlobals gn = some (some (.ref f))) (l : K.lookup f = some ⟨oc, od, .func (PySem.W.fnOf gn gn (defArgs st) (defBody st) (defScope st) .none kV doc pm an cdv ct), osl⟩)
    (c : PySem.W.codeIn K cdv gn = true) (k : PySem.W.keepIn K (.ref f) = true) : ∃ f, DF K t d f ∧ LF K t f gn ps := by
  subst hg
  refine ⟨f, df_mk ok hb a (by rw [hn]; exact l) (by rw [hn]; exact c) k, lf_mk ok2 (fun kV doc pm an cdv ct us hl => ?_) a l c k⟩
  have := hb kV doc pm an cdv ct us (by rw [hN]; exact hl)
  rw [hN, hn] at this
  exact this
theorem cfI {K : PySem.W.Frag} {h : Heap} (_ : K.In h) {x : Str} {i : Int} {tk : Tok} (a : PySem.W.nsIn K mainGlobals x = some (some (.int i tk))) : CF K x (.int i) := cf_int a
theorem cfS {K : PySem.W.Frag} {h : Heap} (_ : K.In h) {x : Str} {s : Str} {tk : Tok} (hs : s.length ≤ sizeLine) (a : PySem.W.nsIn K mainGlobals x = some (some (.str s tk))) : CF K x (.str s) := cf_str hs a
abbrev Top1x {K : PySem.W.Frag} {h : Heap} (_ : K.In h) (gl : List D) (t : Tx) (T : List Df) (fa ca : List Addr) : Prop := Top1 K gl t T fa ca
abbrev XFx {K : PySem.W.Frag} {h : Heap} (_ : K.In h) (x : Str) (C : Addr) : Prop := XF K x C
abbrev XPx {K : PySem.W.Frag} {h : Heap} (_ : K.In h) (C E : Addr) (b : Bool) : Prop := XP K C E b
theorem btX {K : PySem.W.Frag} {h : Heap} (_ : K.In h) {x : Str} (a : PySem.W.nsIn K mainGlobals x = some none) : PySem.W.nsIn K mainGlobals x = some none := a
/-- a list's places, one by one -/
theorem all_get {α : Type} {l : List α} {p : Nat → α → Prop} (h : ∀ i, i < l.length → ∀ x, l[i]? = some x → p i x) : ∀ (i : Nat) x, l[i]? = some x → p i x := fun i x e => h i (List.getElem?_eq_some_iff.mp e).1 x e
end NH
set_option Elab.async false
set_option linter.all false
set_option maxRecDepth 100000
/-! NHp: plain tools over the small interpreter. -/
namespace NH
open PySem L2
section
variable {gl : List D} {cf : Nat → List D → R EV} {wf : Nat} {env e : En} {r : List S}
theorem exs_nil : exs gl cf wf [] env = .ok (.nx env) := rfl
theorem exs_cons {s : S} : exs gl cf wf (s :: r) env = (ex gl cf wf s env).bind fun f => match f with
    | .nx e => exs gl cf wf r e
    | f => .ok f := rfl
theorem exs_nx {s : S} (h : ex gl cf wf s env = .ok (.nx e)) : exs gl cf wf (s :: r) env = exs gl cf wf r e := by rw [exs_cons, h]; rfl
theorem exs_ret {s : S} {v : EV} (h : ex gl cf wf s env = .ok (.ret v)) : exs gl cf wf (s :: r) env = .ok (.ret v) := by rw [exs_cons, h]; rfl
theorem exs_exc {s : S} {c : Nat} {p : List D} (h : ex gl cf wf s env = .ok (.ex c p e)) : exs gl cf wf (s :: r) env = .ok (.ex c p e) := by rw [exs_cons, h]; rfl
theorem ex_for {tg : Tg} {it : E} {b : List S} {x : EV} {d : D} {xs : List D} (h : ev gl cf it env = .ok x) (k : x.keep = .ok d) (s : seqD d = .ok xs) : ex gl cf wf (.for_ tg it b) env = forF tg (fun e => exs gl cf wf b e) xs env := by
  show stE env (ev gl cf it env) (fun x => (x.keep).bind fun d => (seqD d).bind fun xs => forF tg (fun e => exs gl cf wf b e) xs env) = _
  rw [h]
  show ((x.keep).bind fun d => (seqD d).bind fun xs => forF tg (fun e => exs gl cf wf b e) xs env) = _
  rw [k]
  show ((seqD d).bind fun xs => forF tg (fun e => exs gl cf wf b e) xs env) = _
  rw [s]; rfl
theorem ex_ite {c : E} {a b : List S} {x : EV} {t : Bool} (h : ev gl cf c env = .ok x) (k : truD x.d = .ok t) : ex gl cf wf (.ite c a b) env = if t then exs gl cf wf a env else exs gl cf wf b env := by
  show stE env (ev gl cf c env) (fun x => (truD x.d).bind fun r => if r then exs gl cf wf a env else exs gl cf wf b env) = _
  rw [h]
  show ((truD x.d).bind fun r => if r then exs gl cf wf a env else exs gl cf wf b env) = _
  rw [k]; rfl
theorem ex_asg {i : Nat} {a : E} {x : EV} (h : ev gl cf a env = .ok x) (k : putS env i x = .ok e) : ex gl cf wf (.asg (.n i) a) env = .ok (.nx e) := by
  show stE env (ev gl cf a env) (fun x => (putS env i x).bind fun env' => .ok (.nx env')) = _
  rw [h]
  show ((putS env i x).bind fun env' => R.ok (Fl.nx env')) = _
  rw [k]; rfl
theorem ex_expr {a : E} {x : EV} (h : ev gl cf a env = .ok x) : ex gl cf wf (.expr a) env = .ok (.nx env) := by
  show stE env (ev gl cf a env) (fun _ => .ok (.nx env)) = _
  rw [h]; rfl
/-- a def's answer, by its body -/
theorem run_ret {d : Df} {args : List D} {v : EV} (hl : args.length = d.np) (h : exs gl cf wf d.body ((args.map fun a => some (Sl.v a)) ++ List.replicate (d.N.length - d.np) none) = .ok (.ret v)) : runD gl cf wf d args = .ok v := by
  unfold runD
  rw [if_pos hl, h]; rfl
theorem run_exc {d : Df} {args : List D} {c : Nat} {p : List D} {e : En} (hl : args.length = d.np) (h : exs gl cf wf d.body ((args.map fun a => some (Sl.v a)) ++ List.replicate (d.N.length - d.np) none) = .ok (.ex c p e)) : runD gl cf wf d args = .exc c p := by
  unfold runD
  rw [if_pos hl, h]; rfl
theorem run_nx {d : Df} {args : List D} {e : En} (hl : args.length = d.np) (h : exs gl cf wf d.body ((args.map fun a => some (Sl.v a)) ++ List.replicate (d.N.length - d.np) none) = .ok (.nx e)) : runD gl cf wf d args = .ok (.z .non) := by
  unfold runD
  rw [if_pos hl, h]; rfl
theorem forF_nil {tg : Tg} {b : En → R Fl} : forF tg b [] env = .ok (.nx env) := rfl
/-- a loop whose turns all go on -/
theorem forF_go {tg : Tg} {b : En → R Fl} {x : D} {xs : List D} {e1 e2 : En} (h : asgT tg x env = .ok e1) (k : b e1 = .ok (.nx e2)) : forF tg b (x :: xs) env = forF tg b xs e2 := by
  show ((asgT tg x env).bind fun env1 => (b env1).bind fun f => match f with
    | .nx e => forF tg b xs e
    | .ct e => forF tg b xs e
    | .bk e => .ok (.nx e)
    | f => .ok f) = _
  rw [h]
  show ((b e1).bind fun f => match f with
    | .nx e => forF tg b xs e
    | .ct e => forF tg b xs e
    | .bk e => .ok (.nx e)
    | f => .ok f) = _
  rw [k]; rfl
theorem callF_at {T : List Df} {n f : Nat} {d : Df} {args : List D} (h : T[f]? = some d) : callF gl T wf (n + 1) f args = runD gl (callF gl T wf n) wf d args := by
  show (match T[f]? with | some d => runD gl (callF gl T wf n) wf d args | none => .stk) = _
  rw [h]
theorem ex_ret {a : E} {x : EV} (hv : ∀ i, a ≠ .var i) (h : ev gl cf a (frzAll env) = .ok x) (nb : ∀ d, x ≠ .b d) : ex gl cf wf (.ret a) env = .ok (.ret x) := by
  have e : retV gl cf a env = .ok x := by
    rw [← h]
    cases a <;> first | rfl | exact absurd rfl (hv _)
  show stE env (retV gl cf a env) (fun v => match v with
    | .b _ => .stk
    | v => .ok (.ret v)) = _
  rw [e]
  cases x with
  | z d => rfl
  | o d => rfl
  | b d => exact absurd rfl (nb d)
/-- a def called: nothing is lent -/
theorem ev_call {f : Nat} {es : List E} {xs : List EV} {v : EV} (h : evA gl cf es env = .ok xs) (hl : xs.any EV.lent = false) (k : cf f (xs.map EV.d) = .ok v) (nb : ∀ d, v ≠ .b d) : ev gl cf (.call f es) env = .ok v := by
  have e : ev gl cf (.call f es) env = (evA gl cf es env).bind fun xs => (cf f (xs.map EV.d)).bind fun r => match r with
    | .b _ => .stk
    | r => if xs.any EV.lent then (if r.d.pure then .ok r else .stk) else .ok r := by unfold ev; rfl
  rw [e, h]
  simp only [R.bind_ok, k]
  cases v with
  | z d => simp [hl]
  | o d => simp [hl]
  | b d => exact absurd rfl (nb d)
end
end NH
set_option Elab.async false
set_option linter.all false
set_option maxRecDepth 100000
/-! NHq: the numbers of a script, for every law alike. -/
namespace NH
open PySem L2
def mixI (c k : Int) : Int := ((((((if c < 0 then -c else c) + 1) * 48271 + k * 69621) % 2147483647) * 16807 + k * 31) % 2147483629)
/-- the numbers of the script, cut -/
def leftI (c : Int) : Nat → Int
  | 0 => c
  | n + 1 => leftI (c / 1000) n
def absI (c : Int) : Int := if c < 0 then -c else c
def numI (ns : List Int) (k : Nat) : Int :=
  if ns.length = 0 then mixI 0 k else
  let c := (ns[k % ns.length]?).getD 0
  if (10 : Int) ^ 18 ≤ absI c ∧ 0 < leftI (absI c) (k / ns.length) then leftI (absI c) (k / ns.length) % 1000 else mixI c k
def mixB : List S := [.asg (.n 2) (.bin .mod (.bi .int [.bin .add (.bin .mul (.bin .add (.bi .abs [.var 0]) (.c (.int 1))) (.c (.int 48271))) (.bin .mul (.var 1) (.c (.int 69621)))]) (.c (.int 2147483647))), .ret (.bin .mod (.bi .int [.bin .add (.bin .mul (.var 2) (.c (.int 16807))) (.bin .mul (.var 1) (.c (.int 31)))]) (.c (.int 2147483629)))]
def leftB : List S := [.for_ (.n 2) (.rng1 (.var 1)) [.asg (.n 0) (.bin .fdiv (.var 0) (.c (.int 1000)))], .ret (.var 0)]
def numB (iM iL : Nat) : List S := [.ite (.cmp .eq (.bi .len [.var 0]) (.c (.int 0))) [.ret (.call iM [.c (.int 0), .var 1])] [], .asg (.n 2) (.ix (.var 0) (.bin .mod (.bi .int [.var 1]) (.bi .len [.var 0]))), .asg (.n 3) (.call iL [.bi .abs [.var 2], .bin .fdiv (.var 1) (.bi .len [.var 0])]), .ite (.and [.cmp .ge (.bi .abs [.var 2]) (.bin .pow (.c (.int 10)) (.c (.int 18))), .cmp .gt (.var 3) (.c (.int 0))]) [.ret (.bin .mod (.bi .int [.var 3]) (.c (.int 1000)))] [], .ret (.call iM [.var 2, .var 1])]
def dMix : Df := ⟨"_law_mixed", "_law_mixed", ["cell", "k", "mixed"], 2, mixB⟩
def dLeft : Df := ⟨"_law_left", "_law_left", ["cell", "times", "_"], 2, leftB⟩
def dNum (iM iL : Nat) : Df := ⟨"_law_number", "_law_number", ["script", "k", "cell", "left"], 2, numB iM iL⟩
section
variable {gl : List D} {T : List Df} {wf n : Nat}
theorem cmulR (i j : Int) (h : -(2 ^ 64) < j ∧ j < 2 ^ 64) : cmulB i j = true := by
  simp only [cmulB, Bool.or_eq_true, Bool.and_eq_true, decide_eq_true_eq]; exact .inr h
theorem mix_ok {i : Nat} (h : T[i]? = some dMix) (c k : Int) : callF gl T wf (n + 1) i [.int c, .int k] = .ok (.z (.int (mixI c k))) := by
  rw [callF_at h]
  simp [runD, dMix, mixB, exs, ex, ev, evA, gets, setE, putS, stE, EV.d, EV.keep, EV.lent, biD, binD, cmulR, R.calm, retV, frzAll, mixI]
theorem rngI_len (t : Nat) : (rngI 0 (t : Int)).length = t := by simp [rngI]
theorem rng1_ok {cf : Nat → List D → R EV} {env : En} {e : E} {t : Int} (h : ev gl cf e env = .ok (.z (.int t))) (hr : rngOk 0 t = true) : ev gl cf (.rng1 e) env = .ok (.z (.lst (rngI 0 t))) := by
  unfold ev
  rw [h, R.bind_ok]
  rw [show R.of (D.int? (EV.d (.z (.int t)))) = .ok t from rfl, R.bind_ok, if_pos hr]
theorem rng2_ok {cf : Nat → List D → R EV} {env : En} {e e' : E} {s t : Int} (h : ev gl cf e env = .ok (.z (.int s))) (h' : ev gl cf e' env = .ok (.z (.int t))) (hr : rngOk s t = true) : ev gl cf (.rng2 e e') env = .ok (.z (.lst (rngI s t))) := by
  unfold ev
  rw [h, R.bind_ok, h', R.bind_ok]
  rw [show R.of (D.int? (EV.d (.z (.int t)))) = .ok t from rfl, show R.of (D.int? (EV.d (.z (.int s)))) = .ok s from rfl, R.bind_ok, R.bind_ok, if_pos hr]
theorem rl2_ok {cf : Nat → List D → R EV} {env : En} {e e' : E} {s t : Int} {tu : Bool} (h : ev gl cf e env = .ok (.z (.int s))) (h' : ev gl cf e' env = .ok (.z (.int t))) (hr : rngOk s t = true) : ev gl cf (.rl2 tu e e') env = .ok (if tu then .z (.tup (rngI s t)) else .o (.lst (rngI s t))) := by
  unfold ev
  rw [h, R.bind_ok, h', R.bind_ok]
  rw [show R.of (D.int? (EV.d (.z (.int t)))) = .ok t from rfl, show R.of (D.int? (EV.d (.z (.int s)))) = .ok s from rfl, R.bind_ok, R.bind_ok, if_pos hr]
theorem rl1_ok {cf : Nat → List D → R EV} {env : En} {e : E} {t : Int} {tu : Bool} (h : ev gl cf e env = .ok (.z (.int t))) (hr : rngOk 0 t = true) : ev gl cf (.rl1 tu e) env = .ok (if tu then .z (.tup (rngI 0 t)) else .o (.lst (rngI 0 t))) := by
  unfold ev
  rw [h, R.bind_ok]
  rw [show R.of (D.int? (EV.d (.z (.int t)))) = .ok t from rfl, R.bind_ok, if_pos hr]
theorem rngOk_le (s t : Int) (hs : -1000 ≤ s) (hs' : s ≤ 1000) (ht : -1000 ≤ t) (h : t ≤ 1000) : rngOk s t = true := by
  simp only [rngOk, Bool.and_eq_true, decide_eq_true_eq]
  omega
theorem left_ok {i : Nat} (h : T[i]? = some dLeft) (c : Int) (t : Nat) (ht : t ≤ 1000) : callF gl T wf (n + 1) i [.int c, .int (t : Nat)] = .ok (.z (.int (leftI c t))) := by
  have step : ∀ (c : Int) (k x : D), exs gl (callF gl T wf n) wf [.asg (.n 0) (.bin .fdiv (.var 0) (.c (.int 1000)))] [some (.v (.int c)), some (.v k), some (.v x)] = .ok (.nx [some (.v (.int (c / 1000))), some (.v k), some (.v x)]) := by
    intro c k x
    simp [exs, ex, ev, gets, binD, EV.d, putS, setE, stE]
  have key : ∀ (l : List D) (c : Int) (k : D) (o : Option Sl), ∃ o', forF (.n 2) (fun e => exs gl (callF gl T wf n) wf [.asg (.n 0) (.bin .fdiv (.var 0) (.c (.int 1000)))] e) l [some (.v (.int c)), some (.v k), o] = .ok (.nx [some (.v (.int (leftI c l.length))), some (.v k), o']) := by
    intro l
    induction l with
    | nil => intro c k o; exact ⟨o, rfl⟩
    | cons x l ih =>
      intro c k o
      obtain ⟨o', h⟩ := ih (c / 1000) k (some (.v x))
      exact ⟨o', (forF_go (e1 := [some (.v (.int c)), some (.v k), some (.v x)]) rfl (step c k x)).trans h⟩
  obtain ⟨o', h2⟩ := key (rngI 0 t) c (.int t) none
  rw [rngI_len] at h2
  rw [callF_at h]
  have h3 := (ex_for (wf := wf) (tg := .n 2) (b := [.asg (.n 0) (.bin .fdiv (.var 0) (.c (.int 1000)))]) (d := .lst (rngI 0 t)) (xs := rngI 0 t) (rng1_ok (gl := gl) (cf := callF gl T wf n) (env := [some (.v (.int c)), some (.v (.int t)), none]) (e := .var 1) (t := t) rfl (rngOk_le 0 t (by omega) (by omega) (by omega) (by omega))) rfl rfl).trans h2
  exact run_ret (v := .z (.int (leftI c t))) rfl ((exs_nx h3).trans rfl)
theorem t1 (k n : Nat) : (k : Int) % (n : Int) = ((k % n : Nat) : Int) := by first | exact (Int.natCast_emod k n).symm | exact (Int.ofNat_emod k n).symm | rfl
theorem t2 (k n : Nat) : (k : Int) / (n : Int) = ((k / n : Nat) : Int) := by first | exact (Int.natCast_ediv k n).symm | exact (Int.ofNat_ediv k n).symm | rfl
theorem atI_nat {α : Type} (xs : List α) (k : Nat) (h : k < xs.length) : atI xs (k : Int) = some xs[k] := by
  unfold atI ixN
  rw [if_pos (by omega), if_pos (by omega)]
  show (some _).bind _ = _
  rw [Option.bind_some, Int.toNat_natCast, List.getElem?_eq_getElem h]
theorem num_ok {iM iL iN : Nat} (hM : T[iM]? = some dMix) (hL : T[iL]? = some dLeft) (hN : T[iN]? = some (dNum iM iL)) (ns : List Int) (k : Nat) (hn : ns.length ≤ 1000) (hk : k ≤ 1000) : callF gl T wf (n + 2) iN [.klst (ns.map .int), .int (k : Nat)] = .ok (.z (.int (numI ns k))) := by
  rw [callF_at hN]
  by_cases h0 : ns.length = 0
  · have e : ns = [] := List.length_eq_zero_iff.mp h0
    subst e
    refine run_ret rfl ?_
    show exs gl (callF gl T wf (n + 1)) wf (numB iM iL) [some (.v (.klst [])), some (.v (.int k)), none, none] = _
    refine exs_ret (v := .z (.int (numI [] k))) ((ex_ite (x := .z (.bl true)) (t := true) rfl rfl).trans (exs_ret (ex_ret (fun i => by intro h; cases h) ?_ (by intro d h; cases h))))
    exact ev_call (xs := [.z (.int 0), .z (.int k)]) rfl rfl (mix_ok hM 0 k) (by intro d h; cases h)
  · have hl : 0 < ns.length := by omega
    have hb : k % ns.length < ns.length := Nat.mod_lt _ hl
    refine run_ret rfl ?_
    generalize hc : (ns[k % ns.length]?).getD 0 = c
    have hat : atI (ns.map D.int) ((k : Int) % (ns.length : Int)) = some (.int c) := by
      rw [t1, atI_nat _ _ (by simpa using hb), List.getElem_map]
      rw [List.getElem?_eq_getElem hb] at hc
      rw [← hc]; rfl
    have hkl : k / ns.length ≤ 1000 := Nat.le_trans (Nat.div_le_self _ _) hk
    show exs gl (callF gl T wf (n + 1)) wf (numB iM iL) [some (.v (.klst (ns.map .int))), some (.v (.int k)), none, none] = _
    have a1 : ex gl (callF gl T wf (n + 1)) wf (.ite (.cmp .eq (.bi .len [.var 0]) (.c (.int 0))) [.ret (.call iM [.c (.int 0), .var 1])] []) [some (.v (.klst (ns.map .int))), some (.v (.int k)), none, none] = .ok (.nx [some (.v (.klst (ns.map .int))), some (.v (.int k)), none, none]) := by
      refine (ex_ite (x := .z (.bl false)) (t := false) ?_ rfl).trans rfl
      have : (((ns.length : Nat) : Int) == 0) = false := by rw [beq_eq_false_iff_ne]; omega
      simp [ev, evA, gets, biD, lenD, EV.d, cmpD, eqD, this]
    have a2 : ex gl (callF gl T wf (n + 1)) wf (.asg (.n 2) (.ix (.var 0) (.bin .mod (.bi .int [.var 1]) (.bi .len [.var 0])))) [some (.v (.klst (ns.map .int))), some (.v (.int k)), none, none] = .ok (.nx [some (.v (.klst (ns.map .int))), some (.v (.int k)), some (.v (.int c)), none]) := by
      refine ex_asg (x := .z (.int c)) ?_ rfl
      simp [ev, evA, gets, biD, lenD, EV.d, binD, hl, ixD, hat]
    have a3 : ex gl (callF gl T wf (n + 1)) wf (.asg (.n 3) (.call iL [.bi .abs [.var 2], .bin .fdiv (.var 1) (.bi .len [.var 0])])) [some (.v (.klst (ns.map .int))), some (.v (.int k)), some (.v (.int c)), none] = .ok (.nx [some (.v (.klst (ns.map .int))), some (.v (.int k)), some (.v (.int c)), some (.v (.int (leftI (absI c) (k / ns.length))))]) := by
      refine ex_asg (x := .z (.int (leftI (absI c) (k / ns.length)))) ?_ rfl
      refine ev_call (xs := [.z (.int (absI c)), .z (.int ((k / ns.length : Nat) : Int))]) ?_ rfl (left_ok hL _ _ hkl) (by intro d h; cases h)
      have q : ((ns.length : Nat) : Int) < 1073741824 := by omega
      simp [ev, evA, gets, biD, lenD, EV.d, binD, hl, q, absI]
    unfold numB
    rw [exs_nx a1, exs_nx a2, exs_nx a3]
    have hnum : numI ns k = if (10 : Int) ^ 18 ≤ absI c ∧ 0 < leftI (absI c) (k / ns.length) then leftI (absI c) (k / ns.length) % 1000 else mixI c k := by
      unfold numI
      rw [if_neg h0]
      simp only [hc]
    generalize hL' : leftI (absI c) (k / ns.length) = l at hnum ⊢
    have b1 : ev gl (callF gl T wf (n + 1)) (.cmp .ge (.bi .abs [.var 2]) (.bin .pow (.c (.int 10)) (.c (.int 18)))) [some (.v (.klst (ns.map .int))), some (.v (.int k)), some (.v (.int c)), some (.v (.int l))] = .ok (.z (.bl (decide ((10 : Int) ^ 18 ≤ absI c)))) := rfl
    have b2 : ev gl (callF gl T wf (n + 1)) (.cmp .gt (.var 3) (.c (.int 0))) [some (.v (.klst (ns.map .int))), some (.v (.int k)), some (.v (.int c)), some (.v (.int l))] = .ok (.z (.bl (decide (0 < l)))) := rfl
    have b3 : ev gl (callF gl T wf (n + 1)) (.and [.cmp .ge (.bi .abs [.var 2]) (.bin .pow (.c (.int 10)) (.c (.int 18))), .cmp .gt (.var 3) (.c (.int 0))]) [some (.v (.klst (ns.map .int))), some (.v (.int k)), some (.v (.int c)), some (.v (.int l))] = .ok (.z (.bl (decide ((10 : Int) ^ 18 ≤ absI c ∧ 0 < l)))) := by
      unfold ev
      unfold evAnd
      rw [b1, R.bind_ok]
      by_cases h1 : (10 : Int) ^ 18 ≤ absI c
      · rw [decide_eq_true h1]
        show evAnd gl _ _ _ = _
        unfold evAnd
        rw [b2, R.bind_ok]
        simp only [h1, true_and]
      · rw [decide_eq_false h1]
        simp only [h1, false_and, decide_false]
        rfl
    by_cases hc2 : (10 : Int) ^ 18 ≤ absI c ∧ 0 < l
    · rw [if_pos hc2] at hnum
      rw [decide_eq_true hc2] at b3
      refine exs_ret ((ex_ite (t := true) b3 rfl).trans (exs_ret (ex_ret (fun i => by intro h; cases h) ?_ (by intro d h; cases h))))
      rw [hnum]; rfl
    · rw [if_neg hc2] at hnum
      rw [decide_eq_false hc2] at b3
      rw [exs_nx ((ex_ite (t := false) b3 rfl).trans rfl)]
      refine exs_ret (ex_ret (fun i => by intro h; cases h) ?_ (by intro d h; cases h))
      rw [hnum]
      exact ev_call (xs := [.z (.int c), .z (.int k)]) rfl rfl (mix_ok hM c k) (by intro d h; cases h)
end
end NH
set_option Elab.async false
set_option linter.all false
set_option maxRecDepth 100000
/-! NHv: plain facts about data. -/
namespace NH
open PySem L2
theorem lay_ints : ∀ is : List Int, PyData.canLayAll0 (D.pyL (is.map .int)) = true
  | [] => rfl
  | i :: r => by
    show PyData.canLayAll0 (PyData.int i :: D.pyL (r.map .int)) = true
    unfold PyData.canLayAll0
    rw [lay_ints r]; rfl
theorem depth_ints : ∀ is : List Int, PyData.depthAll (D.pyL (is.map .int)) ≤ 1
  | [] => by show 0 ≤ 1; omega
  | i :: r => by
    show PyData.depthAll (PyData.int i :: D.pyL (r.map .int)) ≤ 1
    unfold PyData.depthAll
    have := depth_ints r
    have h : PyData.depth (PyData.int i) ≤ 1 := by unfold PyData.depth; omega
    omega
theorem shp_int (i : Int) : (D.int i).shp = true := rfl
theorem shp_lst (is : List Int) : (D.lst (is.map .int)).shp = true := by
  show (PyData.canLayAll0 (D.pyL (is.map .int)) && decide (PyData.depth (.list (D.pyL (is.map .int))) ≤ 64)) = true
  rw [lay_ints, Bool.true_and, decide_eq_true_eq]
  have := depth_ints is
  unfold PyData.depth; omega
theorem shp_tup (is : List Int) : (D.tup (is.map .int)).shp = true := by
  show (PyData.canLayAll0 (D.pyL (is.map .int)) && decide (PyData.depth (.tuple (D.pyL (is.map .int))) ≤ 64)) = true
  rw [lay_ints, Bool.true_and, decide_eq_true_eq]
  have := depth_ints is
  unfold PyData.depth; omega
theorem eqv_ints : ∀ as bs : List Int, PyData.eqvAll (D.pyL (as.map .int)) (D.pyL (bs.map .int)) = decide (as = bs)
  | [], [] => rfl
  | [], b :: bs => rfl
  | a :: as, [] => rfl
  | a :: as, b :: bs => by
    show PyData.eqvAll (PyData.int a :: D.pyL (as.map .int)) (PyData.int b :: D.pyL (bs.map .int)) = _
    unfold PyData.eqvAll
    rw [eqv_ints as bs]
    show ((a == b) && decide (as = bs)) = _
    by_cases h : a = b <;> by_cases k : as = bs <;> simp [h, k]
theorem eqD_lst (as bs : List Int) : eqD (.lst (as.map .int)) (.lst (bs.map .int)) = .ok (decide (as = bs)) := by
  show (if (D.lst (as.map .int)).shp && (D.lst (bs.map .int)).shp then R.ok (PyData.eqvAll (D.pyL (as.map .int)) (D.pyL (bs.map .int))) else .stk) = _
  rw [shp_lst, shp_lst, eqv_ints]; rfl
theorem eqD_tup (as bs : List Int) : eqD (.tup (as.map .int)) (.tup (bs.map .int)) = .ok (decide (as = bs)) := by
  show (if (D.tup (as.map .int)).shp && (D.tup (bs.map .int)).shp then R.ok (PyData.eqvAll (D.pyL (as.map .int)) (D.pyL (bs.map .int))) else .stk) = _
  rw [shp_tup, shp_tup, eqv_ints]; rfl
theorem any_ints (k : Int) : ∀ is : List Int, (is.map D.int).any (fun z => PyData.eqv z.py (D.int k).py) = decide (k ∈ is)
  | [] => rfl
  | i :: r => by
    show (PyData.eqv (PyData.int i) (PyData.int k) || (r.map D.int).any (fun z => PyData.eqv z.py (D.int k).py)) = _
    rw [any_ints k r]
    unfold PyData.eqv
    by_cases h : i = k
    · subst h; simp
    · have h' : k ≠ i := fun e => h e.symm
      simp [h, h']
theorem mem_ints (k : Int) (is : List Int) : memL (.int k) (is.map .int) = .ok (decide (k ∈ is)) := by
  unfold memL
  rw [shp_int, shp_lst, any_ints]; rfl
theorem allInt_map : ∀ is : List Int, allInt (is.map D.int) = some is
  | [] => rfl
  | i :: r => by
    show (allInt (r.map D.int)).map (i :: ·) = _
    rw [allInt_map r]; rfl
theorem minI_some : ∀ is : List Int, is ≠ [] → ∃ m, minI is = some m ∧ m ∈ is ∧ ∀ x ∈ is, m ≤ x
  | [], h => absurd rfl h
  | [x], _ => ⟨x, rfl, by simp, by simp⟩
  | x :: y :: r, _ => by
    obtain ⟨m, h1, h2, h3⟩ := minI_some (y :: r) (by simp)
    refine ⟨if m < x then m else x, ?_, ?_, ?_⟩
    · show (match minI (y :: r) with
        | none => some x
        | some z => some (if z < x then z else x)) = _
      rw [h1]
    · by_cases h : m < x
      · rw [if_pos h]; exact List.mem_cons_of_mem _ h2
      · rw [if_neg h]; simp
    · intro z hz
      rcases List.mem_cons.mp hz with e | e
      · subst e; by_cases h : m < z
        · rw [if_pos h]; omega
        · rw [if_neg h]; omega
      · have := h3 z e
        by_cases h : m < x
        · rw [if_pos h]; omega
        · rw [if_neg h]; omega
theorem maxI_some : ∀ is : List Int, is ≠ [] → ∃ m, maxI is = some m ∧ m ∈ is ∧ ∀ x ∈ is, x ≤ m
  | [], h => absurd rfl h
  | [x], _ => ⟨x, rfl, by simp, by simp⟩
  | x :: y :: r, _ => by
    obtain ⟨m, h1, h2, h3⟩ := maxI_some (y :: r) (by simp)
    refine ⟨if x < m then m else x, ?_, ?_, ?_⟩
    · show (match maxI (y :: r) with
        | none => some x
        | some z => some (if x < z then z else x)) = _
      rw [h1]
    · by_cases h : x < m
      · rw [if_pos h]; exact List.mem_cons_of_mem _ h2
      · rw [if_neg h]; simp
    · intro z hz
      rcases List.mem_cons.mp hz with e | e
      · subst e; by_cases h : z < m
        · rw [if_pos h]; omega
        · rw [if_neg h]; omega
      · have := h3 z e
        by_cases h : x < m
        · rw [if_pos h]; omega
        · rw [if_neg h]; omega
def irng (lo hi : Int) : List Int := (List.range (hi - lo).toNat).map fun (k : Nat) => lo + k
theorem rngI_irng (lo hi : Int) : rngI lo hi = (irng lo hi).map .int := by simp [rngI, irng]
theorem rngI_nil (lo hi : Int) (h : hi ≤ lo) : rngI lo hi = [] := by
  unfold rngI
  rw [Int.toNat_of_nonpos (by omega)]; rfl
theorem rngI_succ (lo : Int) (m : Nat) : rngI lo (lo + (m + 1 : Nat)) = .int lo :: rngI (lo + 1) (lo + 1 + m) := by
  unfold rngI
  rw [show (lo + (m + 1 : Nat) - lo).toNat = m + 1 by omega, show (lo + 1 + (m : Int) - (lo + 1)).toNat = m by omega, List.range_succ_eq_map, List.map_cons, List.map_map]
  congr 1
  · simp
  · apply List.map_congr_left
    intro k _
    show D.int (lo + ((k + 1 : Nat) : Int)) = D.int (lo + 1 + k)
    congr 1; omega
/-- a loop over a range, by an invariant -/
theorem forF_rng {tg : Tg} {b : En → R Fl} (P : Nat → En) : ∀ (m : Nat) (s : Int) (i : Nat), (∀ k, k < m → ∃ e1, asgT tg (.int (s + k)) (P (i + k)) = .ok e1 ∧ (b e1 = .ok (.nx (P (i + k + 1))) ∨ b e1 = .ok (.ct (P (i + k + 1))))) → forF tg b (rngI s (s + m)) (P i) = .ok (.nx (P (i + m)))
  | 0, s, i, _ => by rw [rngI_nil _ _ (by omega)]; rfl
  | m + 1, s, i, h => by
    rw [rngI_succ]
    obtain ⟨e1, h1, h2⟩ := h 0 (by omega)
    have h1' : asgT tg (.int s) (P i) = .ok e1 := by simpa using h1
    have ih := forF_rng (tg := tg) (b := b) P m (s + 1) (i + 1) (fun k hk => by
      obtain ⟨e, a, c⟩ := h (k + 1) (by omega)
      refine ⟨e, ?_, ?_⟩
      · rw [show s + 1 + (k : Int) = s + ((k + 1 : Nat) : Int) by omega, show i + 1 + k = i + (k + 1) by omega]; exact a
      · rw [show i + 1 + k = i + (k + 1) by omega]; exact c)
    rw [show i + (m + 1) = i + 1 + m by omega]
    refine Eq.trans ?_ ih
    show ((asgT tg (.int s) (P i)).bind fun env1 => (b env1).bind fun f => match f with
      | .nx e => forF tg b (rngI (s + 1) (s + 1 + m)) e
      | .ct e => forF tg b (rngI (s + 1) (s + 1 + m)) e
      | .bk e => .ok (.nx e)
      | f => .ok f) = _
    rw [h1', R.bind_ok]
    rcases h2 with h2 | h2 <;> rw [h2] <;> rfl
/-- a loop over a list, by an invariant -/
theorem forF_lst {tg : Tg} {b : En → R Fl} (P : Nat → En) : ∀ (xs : List D) (i : Nat), (∀ k (h : k < xs.length), ∃ e1, asgT tg xs[k] (P (i + k)) = .ok e1 ∧ (b e1 = .ok (.nx (P (i + k + 1))) ∨ b e1 = .ok (.ct (P (i + k + 1))))) → forF tg b xs (P i) = .ok (.nx (P (i + xs.length)))
  | [], i, _ => rfl
  | x :: xs, i, h => by
    obtain ⟨e1, h1, h2⟩ := h 0 (by simp)
    have h1' : asgT tg x (P i) = .ok e1 := h1
    have ih := forF_lst (tg := tg) (b := b) P xs (i + 1) (fun k hk => by
      obtain ⟨e, a, c⟩ := h (k + 1) (by simpa using hk)
      refine ⟨e, ?_, ?_⟩
      · rw [show i + 1 + k = i + (k + 1) by omega]; exact a
      · rw [show i + 1 + k = i + (k + 1) by omega]; exact c)
    rw [show i + (x :: xs).length = i + 1 + xs.length by simp; omega]
    refine Eq.trans ?_ ih
    show ((asgT tg x (P i)).bind fun env1 => (b env1).bind fun f => match f with
      | .nx e => forF tg b xs e
      | .ct e => forF tg b xs e
      | .bk e => .ok (.nx e)
      | f => .ok f) = _
    rw [h1', R.bind_ok]
    rcases h2 with h2 | h2 <;> rw [h2] <;> rfl
/-- a comprehension without if -/
theorem lcD_map {i : Nat} {tt : En → R Bool} {el : En → R (List D)} {env : En} (g : D → D) : ∀ xs : List D, (∀ x ∈ xs, tt (setE env i (.v x)) = .ok true) → (∀ x ∈ xs, el (setE env i (.v x)) = .ok [g x]) → lcD (.n i) tt el env xs = .ok (xs.map g)
  | [], _, _ => rfl
  | x :: xs, ht, h => by
    have ih := lcD_map (i := i) (tt := tt) (el := el) (env := env) g xs (fun y hy => ht y (List.mem_cons_of_mem _ hy)) (fun y hy => h y (List.mem_cons_of_mem _ hy))
    show ((R.ok (setE env i (.v x))).bind fun env' => (tt env').bind fun b => if b then (el env').bind fun y => (lcD (.n i) tt el env xs).bind fun ys => .ok (y ++ ys) else lcD (.n i) tt el env xs) = _
    rw [R.bind_ok, ht x (by simp), R.bind_ok, if_pos rfl, h x (by simp), ih]; rfl
/-- a comprehension with an if -/
theorem lcD_filter {i : Nat} {tt : En → R Bool} {el : En → R (List D)} {env : En} (p : D → Bool) (g : D → D) : ∀ xs : List D, (∀ x ∈ xs, tt (setE env i (.v x)) = .ok (p x)) → (∀ x ∈ xs, p x = true → el (setE env i (.v x)) = .ok [g x]) → lcD (.n i) tt el env xs = .ok ((xs.filter p).map g)
  | [], _, _ => rfl
  | x :: xs, ht, h => by
    have ih := lcD_filter (i := i) (tt := tt) (el := el) (env := env) p g xs (fun y hy => ht y (List.mem_cons_of_mem _ hy)) (fun y hy => h y (List.mem_cons_of_mem _ hy))
    show ((R.ok (setE env i (.v x))).bind fun env' => (tt env').bind fun b => if b then (el env').bind fun y => (lcD (.n i) tt el env xs).bind fun ys => .ok (y ++ ys) else lcD (.n i) tt el env xs) = _
    rw [R.bind_ok, ht x (by simp), R.bind_ok]
    cases hp : p x with
    | true => rw [if_pos rfl, h x (by simp) hp, ih, List.filter_cons, if_pos hp]; rfl
    | false => rw [if_neg (by decide), ih, List.filter_cons, if_neg (by rw [hp]; decide)]
end NH
set_option Elab.async false
set_option linter.all false
set_option maxRecDepth 100000
/-! NHw: expressions, one step each; numbers of the script. -/
namespace NH
open PySem L2
section
variable {gl : List D} {cf : Nat → List D → R EV} {wf : Nat} {env : En} {a b c : E} {x y z : EV}
theorem ev_bin {op : Op} (ha : ev gl cf a env = .ok x) (hb : ev gl cf b env = .ok y) (h : binD op x.d y.d = .ok z) : ev gl cf (.bin op a b) env = .ok z := by
  show ((ev gl cf a env).bind fun x => (ev gl cf b env).bind fun y => binD op x.d y.d) = _
  rw [ha, R.bind_ok, hb, R.bind_ok, h]
theorem ev_neg {d : D} (ha : ev gl cf a env = .ok x) (h : negD x.d = .ok d) : ev gl cf (.neg a) env = .ok (.z d) := by
  show ((ev gl cf a env).bind fun x => (negD x.d).bind fun r => R.ok (EV.z r)) = _
  rw [ha, R.bind_ok, h]; rfl
theorem ev_cmp {op : Cm} {t : Bool} (ha : ev gl cf a env = .ok x) (hb : ev gl cf b env = .ok y) (h : cmpD op x.d y.d = .ok t) : ev gl cf (.cmp op a b) env = .ok (.z (.bl t)) := by
  show ((ev gl cf a env).bind fun x => (ev gl cf b env).bind fun y => (cmpD op x.d y.d).bind fun r => R.ok (EV.z (.bl r))) = _
  rw [ha, R.bind_ok, hb, R.bind_ok, h]; rfl
theorem ev_not {t : Bool} (ha : ev gl cf a env = .ok x) (h : truD x.d = .ok t) : ev gl cf (.not a) env = .ok (.z (.bl (!t))) := by
  show ((ev gl cf a env).bind fun x => (truD x.d).bind fun r => R.ok (EV.z (.bl (!r)))) = _
  rw [ha, R.bind_ok, h]; rfl
theorem ev_ix {d : D} (ha : ev gl cf a env = .ok x) (hb : ev gl cf b env = .ok y) (h : ixD x.d y.d = .ok d) : ev gl cf (.ix a b) env = .ok (.z d) := by
  show ((ev gl cf a env).bind fun x => (ev gl cf b env).bind fun y => (ixD x.d y.d).bind fun r => R.ok (EV.z r)) = _
  rw [ha, R.bind_ok, hb, R.bind_ok, h]; rfl
theorem ev_bi1 {f : Bi} (ha : ev gl cf a env = .ok x) (h : biD f [x.d] = .ok z) : ev gl cf (.bi f [a]) env = .ok z := by
  show ((evA gl cf [a] env).bind fun xs => biD f (xs.map EV.d)) = _
  have : evA gl cf [a] env = .ok [x] := by
    show ((ev gl cf a env).bind fun x => (evA gl cf [] env).bind fun xs => R.ok (x :: xs)) = _
    rw [ha]; rfl
  rw [this]; exact h
theorem ev_bi2 {f : Bi} (ha : ev gl cf a env = .ok x) (hb : ev gl cf b env = .ok y) (h : biD f [x.d, y.d] = .ok z) : ev gl cf (.bi f [a, b]) env = .ok z := by
  show ((evA gl cf [a, b] env).bind fun xs => biD f (xs.map EV.d)) = _
  have : evA gl cf [a, b] env = .ok [x, y] := by
    show ((ev gl cf a env).bind fun x => ((ev gl cf b env).bind fun y => (evA gl cf [] env).bind fun xs => .ok (y :: xs)).bind fun xs => R.ok (x :: xs)) = _
    rw [ha, hb]; rfl
  rw [this]; exact h
theorem evA_nil : evA gl cf [] env = .ok [] := rfl
theorem evA_cons {es : List E} {xs : List EV} (ha : ev gl cf a env = .ok x) (h : evA gl cf es env = .ok xs) : evA gl cf (a :: es) env = .ok (x :: xs) := by
  show ((ev gl cf a env).bind fun x => (evA gl cf es env).bind fun xs => R.ok (x :: xs)) = _
  rw [ha, R.bind_ok, h]; rfl
theorem evs_nil : evs gl cf [] env = .ok [] := rfl
theorem evs_cons {es : List E} {d : D} {ds : List D} (ha : ev gl cf a env = .ok x) (k : x.keep = .ok d) (h : evs gl cf es env = .ok ds) : evs gl cf (a :: es) env = .ok (d :: ds) := by
  show ((ev gl cf a env).bind fun x => (x.keep).bind fun d => (evs gl cf es env).bind fun ds => R.ok (d :: ds)) = _
  rw [ha, R.bind_ok, k, R.bind_ok, h]; rfl
theorem ev_tup {es : List E} {ds : List D} (h : evs gl cf es env = .ok ds) (hl : ds.length ≤ sizeLine) : ev gl cf (.tup es) env = .ok (.z (.tup ds)) := by
  show ((evs gl cf es env).bind fun ds => if ds.length ≤ sizeLine then R.ok (EV.z (.tup ds)) else .stk) = _
  rw [h, R.bind_ok, if_pos hl]
theorem ev_lst {es : List E} {ds : List D} (h : evs gl cf es env = .ok ds) (hl : ds.length ≤ sizeLine) : ev gl cf (.lst es) env = .ok (.o (.lst ds)) := by
  show ((evs gl cf es env).bind fun ds => if ds.length ≤ sizeLine then R.ok (EV.o (.lst ds)) else .stk) = _
  rw [h, R.bind_ok, if_pos hl]
/-- or: the first is so -/
theorem ev_or_t {es : List E} (hn : es ≠ []) (ha : ev gl cf a env = .ok x) (h : truD x.d = .ok true) : ev gl cf (.or (a :: es)) env = .ok x := by
  show ((ev gl cf a env).bind fun x => (match es with
    | [] => .ok x
    | _ => (truD x.d).bind fun r => if r then .ok x else evOr gl cf es env)) = _
  rw [ha, R.bind_ok]
  cases es with
  | nil => exact absurd rfl hn
  | cons e es => show ((truD x.d).bind fun r => if r then R.ok x else evOr gl cf (e :: es) env) = _; rw [h]; rfl
/-- or: the first is not -/
theorem ev_or_f {e : E} {es : List E} (ha : ev gl cf a env = .ok x) (h : truD x.d = .ok false) : ev gl cf (.or (a :: e :: es)) env = ev gl cf (.or (e :: es)) env := by
  show ((ev gl cf a env).bind fun x => (truD x.d).bind fun r => if r then .ok x else evOr gl cf (e :: es) env) = evOr gl cf (e :: es) env
  rw [ha, R.bind_ok, h]; rfl
theorem ev_or_1 : ev gl cf (.or [a]) env = ev gl cf a env := by
  show ((ev gl cf a env).bind fun x => .ok x) = _
  exact R.bind_pure _
theorem ev_and_f {es : List E} (hn : es ≠ []) (ha : ev gl cf a env = .ok x) (h : truD x.d = .ok false) : ev gl cf (.and (a :: es)) env = .ok x := by
  show ((ev gl cf a env).bind fun x => (match es with
    | [] => .ok x
    | _ => (truD x.d).bind fun r => if r then evAnd gl cf es env else .ok x)) = _
  rw [ha, R.bind_ok]
  cases es with
  | nil => exact absurd rfl hn
  | cons e es => show ((truD x.d).bind fun r => if r then evAnd gl cf (e :: es) env else R.ok x) = _; rw [h]; rfl
theorem ev_and_t {e : E} {es : List E} (ha : ev gl cf a env = .ok x) (h : truD x.d = .ok true) : ev gl cf (.and (a :: e :: es)) env = ev gl cf (.and (e :: es)) env := by
  show ((ev gl cf a env).bind fun x => (truD x.d).bind fun r => if r then evAnd gl cf (e :: es) env else .ok x) = evAnd gl cf (e :: es) env
  rw [ha, R.bind_ok, h]; rfl
theorem ev_and_1 : ev gl cf (.and [a]) env = ev gl cf a env := by
  show ((ev gl cf a env).bind fun x => .ok x) = _
  exact R.bind_pure _
theorem ev_ite {t : Bool} (hc : ev gl cf c env = .ok x) (h : truD x.d = .ok t) : ev gl cf (.ite c a b) env = if t then ev gl cf a env else ev gl cf b env := by
  show ((ev gl cf c env).bind fun x => (truD x.d).bind fun r => if r then ev gl cf a env else ev gl cf b env) = _
  rw [hc, R.bind_ok, h]; rfl
theorem ev_lc {elt it : E} {i : Nat} {ifs : List E} {d : D} {xs ys : List D} (h : ev gl cf it env = .ok x) (k : x.keep = .ok d) (s : seqD d = .ok xs) (q : lcD (.n i) (fun e => evIfs gl cf ifs e) (fun e => (ev gl cf elt e).bind fun y => (y.keep).bind fun d => .ok [d]) (wipeE env [i]) xs = .ok ys) (hl : ys.length ≤ sizeLine) :
    ev gl cf (.lc elt (.n i) it ifs) env = .ok (.o (.lst ys)) := by
  show ((ev gl cf it env).bind fun x => (x.keep).bind fun d => (seqD d).bind fun xs => (lcD (.n i) (fun e => evIfs gl cf ifs e) (fun e => (ev gl cf elt e).bind fun y => (y.keep).bind fun d => .ok [d]) (wipeE env [i]) xs).calm.bind fun ys => if ys.length ≤ sizeLine then R.ok (EV.o (.lst ys)) else .stk) = _
  rw [h, R.bind_ok, k, R.bind_ok, s, R.bind_ok, q]
  show (if ys.length ≤ sizeLine then R.ok (EV.o (.lst ys)) else .stk) = _
  rw [if_pos hl]
/-- what a comprehension takes of each place -/
theorem el_one {elt : E} {d : D} (h : ev gl cf elt env = .ok x) (k : x.keep = .ok d) : ((ev gl cf elt env).bind fun y => (y.keep).bind fun d => R.ok [d]) = .ok [d] := by
  rw [h, R.bind_ok, k]; rfl
theorem ev_seq {d : D} (h : ev gl cf a env = .ok x) (k : x.keep = .ok d) : ev gl cf (.seq a) env = .ok (.z d) := by
  show ((ev gl cf a env).bind fun x => (x.keep).bind fun d => R.ok (EV.z d)) = _
  rw [h, R.bind_ok, k]; rfl
/-- int(e) % m -/
theorem ev_modn {v m : Int} (h : ev gl cf a env = .ok (.z (.int v))) (hm : 0 < m) : ev gl cf (.bin .mod (.bi .int [a]) (.c (.int m))) env = .ok (.z (.int (v % m))) := by
  refine ev_bin (x := .z (.int v)) (y := .z (.int m)) (ev_bi1 h rfl) rfl ?_
  show (if decide (0 < m) then R.ok (EV.z (.int (v % m))) else .stk) = _
  rw [decide_eq_true hm]; rfl
theorem ev_modv {v m : Int} (h : ev gl cf a env = .ok (.z (.int v))) (hb : ev gl cf b env = .ok (.z (.int m))) (hm : 0 < m) : ev gl cf (.bin .mod (.bi .int [a]) b) env = .ok (.z (.int (v % m))) := by
  refine ev_bin (x := .z (.int v)) (y := .z (.int m)) (ev_bi1 h rfl) hb ?_
  show (if decide (0 < m) then R.ok (EV.z (.int (v % m))) else .stk) = _
  rw [decide_eq_true hm]; rfl
/-- a statement's list goes on -/
theorem exs_app {s r : List S} {e : En} (h : exs gl cf wf s env = .ok (.nx e)) : exs gl cf wf (s ++ r) env = exs gl cf wf r e := by
  induction s generalizing env with
  | nil => cases h; rfl
  | cons t s ih =>
    rw [List.cons_append, exs_cons]
    rw [exs_cons] at h
    cases ht : ex gl cf wf t env with
    | ok f =>
      rw [ht] at h
      cases f with
      | nx e1 => exact ih h
      | _ => cases h
    | exc _ _ => rw [ht] at h; cases h
    | stk => rw [ht] at h; cases h
end
section
variable {gl : List D} {T : List Df} {wf n : Nat} {env : En}
/-- _law_number(script, k) -/
theorem ev_num {iM iL iN : Nat} (hM : T[iM]? = some dMix) (hL : T[iL]? = some dLeft) (hN : T[iN]? = some (dNum iM iL)) {ns : List Int} (hn : ns.length ≤ 63) {a b : E} {k : Nat} (ha : ev gl (callF gl T wf (n + 2)) a env = .ok (.z (.klst (ns.map .int)))) (hb : ev gl (callF gl T wf (n + 2)) b env = .ok (.z (.int (k : Nat)))) (hk : k ≤ 1000) :
    ev gl (callF gl T wf (n + 2)) (.call iN [a, b]) env = .ok (.z (.int (numI ns k))) :=
  ev_call (evA_cons ha (evA_cons hb evA_nil)) rfl (num_ok hM hL hN ns k (by omega) hk) (by intro d h; cases h)
end
end NH
set_option Elab.async false
set_option linter.all false
set_option maxRecDepth 100000
/-! NHy: statements, one step each; lists of ints in the small interpreter. -/
namespace NH
open PySem L2
section
variable {gl : List D} {cf : Nat → List D → R EV} {wf : Nat} {env e : En} {a b c : E} {x y z : EV} {r : List S}
theorem ret_z {d : D} (h : ev gl cf a (frzAll env) = .ok (.z d)) (hv : ∀ i, a ≠ .var i := by intro i h; cases h) : exs gl cf wf (.ret a :: r) env = .ok (.ret (.z d)) := exs_ret (ex_ret hv h (by intro d h; cases h))
theorem ret_o {d : D} (h : ev gl cf a (frzAll env) = .ok (.o d)) (hv : ∀ i, a ≠ .var i := by intro i h; cases h) : exs gl cf wf (.ret a :: r) env = .ok (.ret (.o d)) := exs_ret (ex_ret hv h (by intro d h; cases h))
theorem asg_z {i : Nat} {d : D} (h : ev gl cf a env = .ok (.z d)) : exs gl cf wf (.asg (.n i) a :: r) env = exs gl cf wf r (setE env i (.v d)) := exs_nx (ex_asg h rfl)
theorem asg_o {i : Nat} {d : D} (h : ev gl cf a env = .ok (.o d)) : exs gl cf wf (.asg (.n i) a :: r) env = exs gl cf wf r (setE env i (.o d)) := exs_nx (ex_asg h rfl)
theorem if_f {s : List S} (h : ev gl cf c env = .ok x) (k : truD x.d = .ok false) : exs gl cf wf (.ite c s [] :: r) env = exs gl cf wf r env := exs_nx ((ex_ite h k).trans rfl)
theorem ex_app {i : Nat} {xs : List D} {d : D} (ho : env[i]? = some (some (.o (.lst xs)))) (h : ev gl cf a env = .ok x) (k : x.keep = .ok d) (hl : xs.length < sizeLine) : ex gl cf wf (.app i a) env = .ok (.nx (setE env i (.o (.lst (xs ++ [d]))))) := by
  show ((own env i).bind fun c => (lstD c).bind fun xs => stE env (ev gl cf a env) fun x => (x.keep).bind fun d => if xs.length < sizeLine then R.ok (Fl.nx (setE env i (.o (.lst (xs ++ [d]))))) else .stk) = _
  have hw : own env i = .ok (.lst xs) := by unfold own; rw [ho]
  rw [hw, R.bind_ok]
  show (stE env (ev gl cf a env) fun x => (x.keep).bind fun d => if xs.length < sizeLine then R.ok (Fl.nx (setE env i (.o (.lst (xs ++ [d]))))) else .stk) = _
  rw [h]
  show ((x.keep).bind fun d => if xs.length < sizeLine then R.ok (Fl.nx (setE env i (.o (.lst (xs ++ [d]))))) else .stk) = _
  rw [k, R.bind_ok, if_pos hl]
theorem ex_ixAug {i : Nat} {op : Op} {k : E} {xs : List D} {j : Int} {old w : D} {c' : D} (ho : env[i]? = some (some (.o (.lst xs)))) (hk : ev gl cf k env = .ok (.z (.int j))) (ha : atI xs j = some old) (h : ev gl cf a env = .ok x) (hg : augD op old x.d = .ok w) (hs : storeD (.lst xs) (.int j) w = .ok c') :
    ex gl cf wf (.ixAug i k op a) env = .ok (.nx (setE env i (.o c'))) := by
  show ((own env i).bind fun c => (lstD c).bind fun xs => stE env (ev gl cf k env) fun y => (R.of y.d.int?).bind fun j => (R.of (atI xs j)).bind fun old => stE env (ev gl cf a env) fun x => (augD op old x.d).bind fun z => (storeD c y.d z).bind fun c' => R.ok (Fl.nx (setE env i (.o c')))) = _
  have hw : own env i = .ok (.lst xs) := by unfold own; rw [ho]
  rw [hw, R.bind_ok]
  show (stE env (ev gl cf k env) fun y => (R.of y.d.int?).bind fun j => (R.of (atI xs j)).bind fun old => stE env (ev gl cf a env) fun x => (augD op old x.d).bind fun z => (storeD (.lst xs) y.d z).bind fun c' => R.ok (Fl.nx (setE env i (.o c')))) = _
  rw [hk]
  show ((R.of (atI xs j)).bind fun old => stE env (ev gl cf a env) fun x => (augD op old x.d).bind fun z => (storeD (.lst xs) (.int j) z).bind fun c' => R.ok (Fl.nx (setE env i (.o c')))) = _
  rw [ha]
  show (stE env (ev gl cf a env) fun x => (augD op old x.d).bind fun z => (storeD (.lst xs) (.int j) z).bind fun c' => R.ok (Fl.nx (setE env i (.o c')))) = _
  rw [h]
  show ((augD op old x.d).bind fun z => (storeD (.lst xs) (.int j) z).bind fun c' => R.ok (Fl.nx (setE env i (.o c')))) = _
  rw [hg, R.bind_ok, hs]; rfl
theorem ex_ix {i : Nat} {k : E} {c0 c' d : D} (ho : env[i]? = some (some (.o c0))) (h : ev gl cf a env = .ok x) (kp : x.keep = .ok d) (hk : ev gl cf k env = .ok y) (hs : storeD c0 y.d d = .ok c') :
    ex gl cf wf (.ix i k a) env = .ok (.nx (setE env i (.o c'))) := by
  show (stE env (ev gl cf a env) fun x => (x.keep).bind fun d => (own env i).bind fun c => stE env (ev gl cf k env) fun y => (storeD c y.d d).bind fun c' => R.ok (Fl.nx (setE env i (.o c')))) = _
  rw [h]
  show ((x.keep).bind fun d => (own env i).bind fun c => stE env (ev gl cf k env) fun y => (storeD c y.d d).bind fun c' => R.ok (Fl.nx (setE env i (.o c')))) = _
  have hw : own env i = .ok c0 := by unfold own; rw [ho]
  rw [kp, R.bind_ok, hw, R.bind_ok, hk]
  show ((storeD c0 y.d d).bind fun c' => R.ok (Fl.nx (setE env i (.o c')))) = _
  rw [hs]; rfl
theorem ev_chain {o1 o2 : Cm} {t1 t2 : Bool} (ha : ev gl cf a env = .ok x) (hb : ev gl cf b env = .ok y) (hc : ev gl cf c env = .ok z) (h1 : cmpD o1 x.d y.d = .ok t1) (h2 : cmpD o2 y.d z.d = .ok t2) : ev gl cf (.chain o1 o2 a b c) env = .ok (.z (.bl (t1 && t2))) := by
  show ((ev gl cf a env).bind fun x => (ev gl cf b env).bind fun y => (cmpD o1 x.d y.d).bind fun r => if r then (ev gl cf c env).bind fun z => (cmpD o2 y.d z.d).bind fun r => R.ok (EV.z (.bl r)) else R.ok (EV.z (.bl false))) = _
  rw [ha, R.bind_ok, hb, R.bind_ok, h1, R.bind_ok]
  cases t1 with
  | true => rw [if_pos rfl, hc, R.bind_ok, h2]; rfl
  | false => rfl
end
theorem le_size {n : Nat} (h : n ≤ 1000) : n ≤ sizeLine := by unfold sizeLine; omega
theorem lt_size' {n : Nat} (h : n ≤ 1000) : n < sizeLine := by unfold sizeLine; omega
theorem allBl_true {α : Type} : ∀ xs : List α, allBl (xs.map fun _ => D.bl true) = some (xs.map fun _ => true)
  | [] => rfl
  | x :: r => by
    show (allBl (r.map fun _ => D.bl true)).map (true :: ·) = _
    rw [allBl_true r]; rfl
theorem bi_all_true {α : Type} (xs : List α) : biD .all [.lst (xs.map fun _ => .bl true)] = .ok (.z (.bl true)) := by
  show ((R.of (allBl (xs.map fun _ => D.bl true))).bind fun bs => R.ok (EV.z (.bl (bs.all id)))) = _
  rw [allBl_true]
  have : (xs.map fun _ => true).all id = true := by simp
  show R.ok (EV.z (.bl ((xs.map fun _ => true).all id))) = _
  rw [this]
theorem bi_min {is : List Int} {m : Int} (h : minI is = some m) : biD .min [.lst (is.map .int)] = .ok (.z (.int m)) := by
  show ((R.of ((allInt (is.map .int)).bind minI)).bind fun m => R.ok (EV.z (.int m))) = _
  rw [allInt_map, Option.bind_some, h]; rfl
theorem bi_max {is : List Int} {m : Int} (h : maxI is = some m) : biD .max [.lst (is.map .int)] = .ok (.z (.int m)) := by
  show ((R.of ((allInt (is.map .int)).bind maxI)).bind fun m => R.ok (EV.z (.int m))) = _
  rw [allInt_map, Option.bind_some, h]; rfl
theorem bi_minT {is : List Int} {m : Int} (h : minI is = some m) : biD .min [.tup (is.map .int)] = .ok (.z (.int m)) := by
  show ((R.of ((allInt (is.map .int)).bind minI)).bind fun m => R.ok (EV.z (.int m))) = _
  rw [allInt_map, Option.bind_some, h]; rfl
theorem bi_maxT {is : List Int} {m : Int} (h : maxI is = some m) : biD .max [.tup (is.map .int)] = .ok (.z (.int m)) := by
  show ((R.of ((allInt (is.map .int)).bind maxI)).bind fun m => R.ok (EV.z (.int m))) = _
  rw [allInt_map, Option.bind_some, h]; rfl
theorem bi_maxN {is : List Int} {m : Int} (h : maxI is = some m) : biD .max [.ntup (is.map .int)] = .ok (.z (.int m)) := by
  show ((R.of ((allInt (is.map .int)).bind maxI)).bind fun m => R.ok (EV.z (.int m))) = _
  rw [allInt_map, Option.bind_some, h]; rfl
theorem bi_sumT (is : List Int) : biD .sum [.tup (is.map .int)] = .ok (.z (.int is.sum)) := by
  show ((R.of (allInt (is.map .int))).bind fun ns => R.ok (EV.z (.int ns.sum))) = _
  rw [allInt_map]; rfl
theorem mem_rngI {x : D} {s t : Int} (h : x ∈ rngI s t) : ∃ k : Nat, x = .int (s + k) ∧ s + k < t := by
  unfold rngI at h
  obtain ⟨k, hk, rfl⟩ := List.mem_map.mp h
  have := List.mem_range.mp hk
  exact ⟨k, rfl, by omega⟩
theorem atI_map {α : Type} (f : α → D) (xs : List α) (k : Nat) (h : k < xs.length) : atI (xs.map f) (k : Int) = some (f xs[k]) := by
  rw [atI_nat _ _ (by simpa using h), List.getElem_map]
theorem atI_last {α : Type} (xs : List α) (h : 0 < xs.length) : atI xs (-1) = some (xs[xs.length - 1]'(by omega)) := by
  unfold atI ixN
  rw [if_neg (by omega), if_pos (by omega)]
  show (some _).bind _ = _
  rw [Option.bind_some, show (-1 + (xs.length : Int)).toNat = xs.length - 1 by omega, List.getElem?_eq_getElem (by omega)]
theorem store_at {xs : List D} {k : Nat} (h : k < xs.length) (v : D) : storeD (.lst xs) (.int (k : Int)) v = .ok (.lst (xs.set k v)) := by
  show ((R.of (ixN xs.length (k : Int))).bind fun j => R.ok (D.lst (xs.set j v))) = _
  have : ixN xs.length (k : Int) = some k := by
    unfold ixN
    rw [if_pos (by omega), if_pos (by omega), Int.toNat_natCast]
  rw [this]; rfl
/-- [x] * k -/
theorem mul_list (d : D) (k : Int) (h0 : 0 ≤ k) (h1 : k ≤ 1000) : binD .mul (.lst [d]) (.int k) = .ok (.o (.lst (List.replicate k.toNat d))) := by
  show (if decide (-(2 ^ 63) ≤ k) && decide (k < 2 ^ 63) && decide ([d].length * k.toNat ≤ sizeLine) then R.ok (EV.o (.lst (List.replicate k.toNat [d]).flatten)) else .stk) = _
  have e1 : decide (-(2 ^ 63) ≤ k) = true := decide_eq_true (by omega)
  have e2 : decide (k < 2 ^ 63) = true := decide_eq_true (by omega)
  have e3 : decide ([d].length * k.toNat ≤ sizeLine) = true := decide_eq_true (le_size (by simp; omega))
  rw [e1, e2, e3]
  have : (List.replicate k.toNat [d]).flatten = List.replicate k.toNat d := by
    generalize k.toNat = n
    induction n with
    | zero => rfl
    | succ n ih => rw [List.replicate_succ, List.flatten_cons, ih, List.replicate_succ]; rfl
  rw [this]; rfl
def lvar (s : Int) : Nat → Option Sl
  | 0 => none
  | k + 1 => some (.v (.int (s + (k : Nat))))
end NH
set_option Elab.async false
set_option linter.all false
set_option maxRecDepth 100000
/-! NHz: more tools: slots, comprehensions by families, loops that end early, tries. -/
namespace NH
open PySem L2
section
variable {gl : List D} {cf : Nat → List D → R EV} {wf : Nat} {env e e' : En} {a b c : E} {x y z : EV} {r s t : List S}
abbrev sv (d : D) : Option Sl := some (.v d)
abbrev so (d : D) : Option Sl := some (.o d)
theorem gv {i : Nat} {d : D} (h : env[i]? = some (some (.v d))) : ev gl cf (.var i) env = .ok (.z d) := by
  show gets env i = _
  unfold gets
  rw [h]
theorem go {i : Nat} {d : D} (h : env[i]? = some (some (.o d))) : ev gl cf (.var i) env = .ok (.b d) := by
  show gets env i = _
  unfold gets
  rw [h]
theorem if_in (h : ev gl cf c env = .ok x) (k : truD x.d = .ok true) (hs : exs gl cf wf s env = .ok (.nx e')) : exs gl cf wf (.ite c s t :: r) env = exs gl cf wf r e' := exs_nx ((ex_ite h k).trans hs)
theorem if_out (h : ev gl cf c env = .ok x) (k : truD x.d = .ok false) (hs : exs gl cf wf t env = .ok (.nx e')) : exs gl cf wf (.ite c s t :: r) env = exs gl cf wf r e' := exs_nx ((ex_ite h k).trans hs)
theorem if_ret {v : EV} (h : ev gl cf c env = .ok x) (k : truD x.d = .ok true) (hs : exs gl cf wf s env = .ok (.ret v)) : exs gl cf wf (.ite c s t :: r) env = .ok (.ret v) := exs_ret ((ex_ite h k).trans hs)
theorem if_exc {p : List D} {k : Nat} (h : ev gl cf c env = .ok x) (hk : truD x.d = .ok true) (hs : exs gl cf wf s env = .ok (.ex k p e')) : exs gl cf wf (.ite c s t :: r) env = .ok (.ex k p e') := exs_exc ((ex_ite h hk).trans hs)
theorem forF_ret {tg : Tg} {b : En → R Fl} (P : Nat → En) {v : EV} : ∀ (a : Nat) (m : Nat) (s : Int) (i : Nat), a < m → (∀ k, k < a → ∃ e1, asgT tg (.int (s + k)) (P (i + k)) = .ok e1 ∧ b e1 = .ok (.nx (P (i + k + 1)))) → (∃ e1, asgT tg (.int (s + a)) (P (i + a)) = .ok e1 ∧ b e1 = .ok (.ret v)) → forF tg b (rngI s (s + m)) (P i) = .ok (.ret v)
  | 0, 0, _, _, h, _, _ => by omega
  | 0, m + 1, s, i, _, _, ⟨e1, h1, h2⟩ => by
    rw [rngI_succ]
    have h1' : asgT tg (.int s) (P i) = .ok e1 := by simpa using h1
    show ((asgT tg (.int s) (P i)).bind fun env1 => (b env1).bind fun f => match f with
      | .nx e => forF tg b (rngI (s + 1) (s + 1 + m)) e
      | .ct e => forF tg b (rngI (s + 1) (s + 1 + m)) e
      | .bk e => .ok (.nx e)
      | f => .ok f) = _
    rw [h1', R.bind_ok, h2]; rfl
  | a + 1, 0, _, _, h, _, _ => by omega
  | a + 1, m + 1, s, i, ham, h, hr => by
    rw [rngI_succ]
    obtain ⟨e1, h1, h2⟩ := h 0 (by omega)
    have h1' : asgT tg (.int s) (P i) = .ok e1 := by simpa using h1
    have ih := forF_ret (tg := tg) (b := b) P (v := v) a m (s + 1) (i + 1) (by omega) (fun k hk => by
      obtain ⟨e, x, y⟩ := h (k + 1) (by omega)
      refine ⟨e, ?_, ?_⟩
      · rw [show s + 1 + (k : Int) = s + ((k + 1 : Nat) : Int) by omega, show i + 1 + k = i + (k + 1) by omega]; exact x
      · rw [show i + 1 + k = i + (k + 1) by omega]; exact y) (by
      obtain ⟨e, x, y⟩ := hr
      refine ⟨e, ?_, y⟩
      rw [show s + 1 + (a : Int) = s + ((a + 1 : Nat) : Int) by omega, show i + 1 + a = i + (a + 1) by omega]; exact x)
    refine Eq.trans ?_ ih
    show ((asgT tg (.int s) (P i)).bind fun env1 => (b env1).bind fun f => match f with
      | .nx e => forF tg b (rngI (s + 1) (s + 1 + m)) e
      | .ct e => forF tg b (rngI (s + 1) (s + 1 + m)) e
      | .bk e => .ok (.nx e)
      | f => .ok f) = _
    rw [h1', R.bind_ok, h2]; rfl
theorem lcD_fam {tg : Tg} {tt : En → R Bool} {el : En → R (List D)} {env : En} (f : Nat → D) (p : Nat → Bool) (g : Nat → D) : ∀ ks : List Nat, (∀ k ∈ ks, ∃ e1, asgT tg (f k) env = .ok e1 ∧ tt e1 = .ok (p k) ∧ (p k = true → el e1 = .ok [g k])) → lcD tg tt el env (ks.map f) = .ok ((ks.filter p).map g)
  | [], _ => rfl
  | k :: ks, h => by
    have ih := lcD_fam (tg := tg) (tt := tt) (el := el) (env := env) f p g ks fun j hj => h j (List.mem_cons_of_mem _ hj)
    obtain ⟨e1, h1, h2, h3⟩ := h k (by simp)
    show ((asgT tg (f k) env).bind fun env' => (tt env').bind fun b => if b then (el env').bind fun y => (lcD tg tt el env (ks.map f)).bind fun ys => .ok (y ++ ys) else lcD tg tt el env (ks.map f)) = _
    rw [h1, R.bind_ok, h2, R.bind_ok, ih]
    cases hp : p k with
    | true => rw [if_pos rfl, h3 hp, List.filter_cons, if_pos hp]; rfl
    | false => rw [if_neg (by decide), List.filter_cons, if_neg (by rw [hp]; decide)]
theorem ev_lct {elt it : E} {tg : Tg} {ifs : List E} {d : D} {xs ys : List D} (h : ev gl cf it env = .ok x) (k : x.keep = .ok d) (s : seqD d = .ok xs) (q : lcD tg (fun e => evIfs gl cf ifs e) (fun e => (ev gl cf elt e).bind fun y => (y.keep).bind fun d => .ok [d]) (wipeE env tg.slots) xs = .ok ys) (hl : ys.length ≤ sizeLine) :
    ev gl cf (.lc elt tg it ifs) env = .ok (.o (.lst ys)) := by
  show ((ev gl cf it env).bind fun x => (x.keep).bind fun d => (seqD d).bind fun xs => (lcD tg (fun e => evIfs gl cf ifs e) (fun e => (ev gl cf elt e).bind fun y => (y.keep).bind fun d => .ok [d]) (wipeE env tg.slots) xs).calm.bind fun ys => if ys.length ≤ sizeLine then R.ok (EV.o (.lst ys)) else .stk) = _
  rw [h, R.bind_ok, k, R.bind_ok, s, R.bind_ok, q]
  show (if ys.length ≤ sizeLine then R.ok (EV.o (.lst ys)) else .stk) = _
  rw [if_pos hl]
theorem if_one {e : E} {t : Bool} (h : ev gl cf e env = .ok x) (k : truD x.d = .ok t) : evIfs gl cf [e] env = .ok t := by
  show ((ev gl cf e env).bind fun x => (truD x.d).bind fun r => if r then R.ok true else R.ok false) = _
  rw [h, R.bind_ok, k]
  cases t <;> rfl
theorem lcD_famT {tg : Tg} {tt : En → R Bool} {el : En → R (List D)} {env : En} (f : Nat → D) (g : Nat → D) (ks : List Nat) (h : ∀ k ∈ ks, ∃ e1, asgT tg (f k) env = .ok e1 ∧ tt e1 = .ok true ∧ el e1 = .ok [g k]) : lcD tg tt el env (ks.map f) = .ok (ks.map g) := by
  have := lcD_fam (tg := tg) (tt := tt) (el := el) (env := env) f (fun _ => true) g ks fun k hk => by
    obtain ⟨e1, a, b, c⟩ := h k hk
    exact ⟨e1, a, b, fun _ => c⟩
  rw [List.filter_eq_self.mpr (fun _ _ => rfl)] at this
  exact this
theorem rngI_map (s : Int) (m : Nat) : rngI s (s + m) = (List.range m).map fun k => .int (s + (k : Nat)) := by
  unfold rngI
  rw [show (s + (m : Int) - s).toNat = m by omega]

/-- a call that raises -/
theorem ev_call_x {f : Nat} {es : List E} {xs : List EV} {k : Nat} {p : List D} (h : evA gl cf es env = .ok xs) (hk : cf f (xs.map EV.d) = .exc k p) : ev gl cf (.call f es) env = .exc k p := by
  have e1 : ev gl cf (.call f es) env = (evA gl cf es env).bind fun xs => (cf f (xs.map EV.d)).bind fun r => match r with
      | .b _ => .stk
      | r => if xs.any EV.lent then (if r.d.pure then .ok r else .stk) else .ok r := by unfold ev; first | done | rfl
  rw [e1, h, R.bind_ok, hk]; rfl
theorem ev_callv {i f : Nat} {es : List E} {xs : List EV} {v : EV} (hf : fnS env i = .ok f) (h : evA gl cf es env = .ok xs) (hl : xs.any EV.lent = false) (k : cf f (xs.map EV.d) = .ok v) (nb : ∀ d, v ≠ .b d) : ev gl cf (.callv i es) env = .ok v := by
  have e1 : ev gl cf (.callv i es) env = (fnS env i).bind fun f => (evA gl cf es env).bind fun xs => (cf f (xs.map EV.d)).bind fun r => match r with
      | .b _ => .stk
      | r => if xs.any EV.lent then (if r.d.pure then .ok r else .stk) else .ok r := by unfold ev; first | done | rfl
  rw [e1, hf, R.bind_ok, h, R.bind_ok, k, R.bind_ok]
  cases v with
  | b d => exact absurd rfl (nb d)
  | z d => show (if xs.any EV.lent then _ else _) = _; rw [hl]; rfl
  | o d => show (if xs.any EV.lent then _ else _) = _; rw [hl]; rfl
theorem ev_callv_x {i f : Nat} {es : List E} {xs : List EV} {k : Nat} {p : List D} (hf : fnS env i = .ok f) (h : evA gl cf es env = .ok xs) (hk : cf f (xs.map EV.d) = .exc k p) : ev gl cf (.callv i es) env = .exc k p := by
  have e1 : ev gl cf (.callv i es) env = (fnS env i).bind fun f => (evA gl cf es env).bind fun xs => (cf f (xs.map EV.d)).bind fun r => match r with
      | .b _ => .stk
      | r => if xs.any EV.lent then (if r.d.pure then .ok r else .stk) else .ok r := by unfold ev; first | done | rfl
  rw [e1, hf, R.bind_ok, h, R.bind_ok, hk]; rfl
/-- return f(..), expr f(..) that raises -/
theorem ret_x {k : Nat} {p : List D} (h : ev gl cf a (frzAll env) = .exc k p) (hv : ∀ i, a ≠ .var i := by intro i h; cases h) : exs gl cf wf (.ret a :: r) env = .ok (.ex k p env) := by
  refine exs_exc ?_
  have e1 : retV gl cf a env = ev gl cf a (frzAll env) := by
    unfold retV
    split
    · exact absurd rfl (hv _)
    · rfl
  have e2 : ex gl cf wf (.ret a) env = stE env (retV gl cf a env) fun v => match v with
    | .b _ => .stk
    | v => .ok (.ret v) := by unfold ex; first | done | rfl
  rw [e2, e1, h]; rfl
theorem expr_x {k : Nat} {p : List D} (h : ev gl cf a env = .exc k p) : exs gl cf wf (.expr a :: r) env = .ok (.ex k p env) := by
  refine exs_exc ?_
  have e2 : ex gl cf wf (.expr a) env = stE env (ev gl cf a env) fun _ => .ok (.nx env) := by unfold ex; first | done | rfl
  rw [e2, h]; rfl
/-- try: its suite ends as ever, or raises what the clause takes -/
theorem try_go {nx C i : Nat} {h : Hn} {s : List S} {f : Fl} (hs : exs gl cf wf s env = .ok f) (nf : ∀ c p e, f ≠ .ex c p e) : ex gl cf wf (.try_ nx s C i h) env = .ok f := by
  have e1 : ex gl cf wf (.try_ nx s C i h) env = (exs gl cf wf s env).bind fun f => match f with
    | .ex c p e => if nx ≤ c ∨ e.length ≤ i then .stk else if subx c C then (hnD h c p e).bind fun d => .ok (.ret (.z d)) else .ok (.ex c p e)
    | f => .ok f := by unfold ex; first | done | rfl
  rw [e1, hs]
  cases f <;> first | rfl | (exact absurd rfl (nf _ _ _))
theorem try_x {nx C i c : Nat} {h : Hn} {s : List S} {p : List D} {d : D} (hs : exs gl cf wf s env = .ok (.ex c p e)) (h1 : c < nx) (h2 : i < e.length) (h3 : subx c C = true) (h4 : hnD h c p e = .ok d) : ex gl cf wf (.try_ nx s C i h) env = .ok (.ret (.z d)) := by
  have e1 : ex gl cf wf (.try_ nx s C i h) env = (exs gl cf wf s env).bind fun f => match f with
    | .ex c p e => if nx ≤ c ∨ e.length ≤ i then .stk else if subx c C then (hnD h c p e).bind fun d => .ok (.ret (.z d)) else .ok (.ex c p e)
    | f => .ok f := by unfold ex; first | done | rfl
  rw [e1, hs]
  show (if nx ≤ c ∨ e.length ≤ i then R.stk else if subx c C then (hnD h c p e).bind fun d => R.ok (Fl.ret (.z d)) else R.ok (Fl.ex c p e)) = _
  rw [if_neg (by omega), h3, if_pos rfl, h4]; rfl
/-- numbers of the script, as places -/
theorem ev_num_mod {T : List Df} {iM iL iN n : Nat} (hM : T[iM]? = some dMix) (hL : T[iL]? = some dLeft) (hN : T[iN]? = some (dNum iM iL)) {ns : List Int} (hn : ns.length ≤ 63) {b : E} (k m : Nat) (hk : k ≤ 1000) (hm : 0 < m)
    (ha : ev gl (callF gl T wf (n + 2)) a env = .ok (.z (.klst (ns.map .int)))) (hb : ev gl (callF gl T wf (n + 2)) b env = .ok (.z (.int (k : Nat)))) (hc : ev gl (callF gl T wf (n + 2)) c env = .ok (.z (.int (m : Nat)))) :
    ∃ i, i < m ∧ ev gl (callF gl T wf (n + 2)) (.bin .mod (.bi .int [.call iN [a, b]]) c) env = .ok (.z (.int (i : Nat))) := by
  have h := ev_modv (m := (m : Int)) (ev_num (gl := gl) (T := T) (wf := wf) (n := n) hM hL hN hn ha hb hk) hc (by omega)
  refine ⟨(numI ns k % (m : Int)).toNat, ?_, ?_⟩
  · have := Int.emod_lt_of_pos (numI ns k) (show (0 : Int) < m by omega)
    omega
  · have := Int.emod_nonneg (numI ns k) (show (m : Int) ≠ 0 by omega)
    rw [Int.toNat_of_nonneg this]; exact h
end
end NH
namespace NH.K25
open PySem L2
def lwp : List (Str × Nat) := [(("NoNumber" : Str), 1)]
def d0 : Df := ⟨"is_integer", "is_integer", ["thing"], 1, [.ret (.and [.isi (.var 0) .int, .not (.isi (.var 0) .bool)])]⟩
def d1 : Df := ⟨"is_between", "is_between", ["thing", "least", "most"], 3, [.ret (.and [.call 0 [.var 0], .chain .le .le (.var 1) (.var 0) (.var 2)])]⟩
def d2 : Df := ⟨"is_tuple_of", "is_tuple_of", ["thing", "many"], 2, [.ret (.and [.isi (.var 0) .tuple, .cmp .eq (.bi .len [.var 0]) (.var 1)])]⟩
def d3 : Df := ⟨"is_plait", "is_plait", ["thing", "one"], 1, [.ite (.or [.not (.call 2 [.var 0, .c (.int 2)]), .not (.call 1 [.ix (.var 0) (.c (.int 0)), .gl 0, .gl 1])]) [.ret (.c (.bl false))] [], .ite (.or [.not (.isi (.ix (.var 0) (.c (.int 1))) .tuple), .cmp .gt (.bi .len [.ix (.var 0) (.c (.int 1))]) (.gl 2)]) [.ret (.c (.bl false))] [], .ret (.bi .all [.lc (.and [.call 0 [.var 1], .chain .le .lt (.c (.int 1)) (.bi .abs [.var 1]) (.ix (.var 0) (.c (.int 0)))]) (.n 1) (.seq (.ix (.var 0) (.c (.int 1)))) []])]⟩
def d4 : Df := ⟨"need_plait", "need_plait", ["thing"], 1, [.ite (.not (.call 3 [.var 0])) [.raise 2] []]⟩
def d5 : Df := ⟨"ends_of", "ends_of", ["plait", "places", "crossing", "at", "strand"], 1, [.asg (.n 1) (.rl1 false (.ix (.var 0) (.c (.int 0)))), .for_ (.n 2) (.seq (.ix (.var 0) (.c (.int 1)))) [.asg (.n 3) (.bin .sub (.bi .abs [.var 2]) (.c (.int 1))), .swp 1 (.var 3) (.bin .add (.var 3) (.c (.int 1))) (.tup [.ix (.var 1) (.bin .add (.var 3) (.c (.int 1))), .ix (.var 1) (.var 3)])], .frz 1, .ret (.bi .tuple [.lc (.me .index (.var 1) [.var 4]) (.n 4) (.rng1 (.ix (.var 0) (.c (.int 0)))) []])]⟩
def d6 : Df := ⟨"ends", "ends", ["plait"], 1, [.expr (.call 4 [.var 0]), .ret (.call 5 [.var 0])]⟩
def d7 : Df := ⟨"turned_back", "turned_back", ["plait", "crossing"], 1, [.expr (.call 4 [.var 0]), .ret (.tup [.ix (.var 0) (.c (.int 0)), .bi .tuple [.lc (.neg (.var 1)) (.n 1) (.seq (.rev (.ix (.var 0) (.c (.int 1))))) []]])]⟩
def d8 : Df := ⟨"twists", "twists", ["plait", "one"], 1, [.expr (.call 4 [.var 0]), .ret (.bin .sub (.bi .len [.lc (.var 1) (.n 1) (.seq (.ix (.var 0) (.c (.int 1)))) [.cmp .gt (.var 1) (.c (.int 0))]]) (.bi .len [.lc (.var 1) (.n 1) (.seq (.ix (.var 0) (.c (.int 1)))) [.cmp .lt (.var 1) (.c (.int 0))]]))]⟩
def d9 : Df := ⟨"times_round", "times_round", ["plait", "one", "other", "strand", "places", "found", "crossing", "at"], 3, [.expr (.call 4 [.var 0]), .for_ (.n 3) (.seq (.tup [.var 1, .var 2])) [.ite (.not (.call 1 [.var 3, .c (.int 0), .bin .sub (.ix (.var 0) (.c (.int 0))) (.c (.int 1))])) [.raise 1] []], .ite (.cmp .eq (.var 1) (.var 2)) [.raise 1] [], .asg (.n 4) (.rl1 false (.ix (.var 0) (.c (.int 0)))), .asg (.n 5) (.c (.int 0)), .for_ (.n 6) (.seq (.ix (.var 0) (.c (.int 1)))) [.asg (.n 7) (.bin .sub (.bi .abs [.var 6]) (.c (.int 1))), .ite (.cmp .eq (.bi .sorted [.sl (.var 4) (.var 7) (.bin .add (.var 7) (.c (.int 2)))]) (.bi .sorted [.lst [.var 1, .var 2]])) [.aug 5 .add (.ite (.cmp .gt (.var 6) (.c (.int 0))) (.c (.int 1)) (.neg (.c (.int 1))))] [], .swp 4 (.var 7) (.bin .add (.var 7) (.c (.int 1))) (.tup [.ix (.var 4) (.bin .add (.var 7) (.c (.int 1))), .ix (.var 4) (.var 7)])], .ret (.var 5)]⟩
def d10 : Df := ⟨"plait_again", "plait_again", ["plait", "times", "ended", "here", "number", "place"], 2, [.expr (.call 4 [.var 0]), .ite (.not (.call 1 [.var 1, .c (.int 1), .c (.int 12)])) [.raise 1] [], .asg (.n 2) (.call 5 [.var 0]), .asg (.n 3) (.rl1 true (.ix (.var 0) (.c (.int 0)))), .for_ (.n 4) (.rng2 (.c (.int 1)) (.bin .add (.var 1) (.c (.int 1)))) [.asg (.n 3) (.bi .tuple [.lc (.ix (.var 2) (.var 5)) (.n 5) (.seq (.var 3)) []]), .ite (.cmp .eq (.var 3) (.rl1 true (.ix (.var 0) (.c (.int 0))))) [.ret (.var 4)] []], .ret (.c (.non))]⟩
def d11 : Df := ⟨"_law_is", "_law_is", ["e", "name"], 2, [.never]⟩
def d12 : Df := ⟨"_law_mixed", "_law_mixed", ["cell", "k", "mixed"], 2, [.asg (.n 2) (.bin .mod (.bi .int [.bin .add (.bin .mul (.bin .add (.bi .abs [.var 0]) (.c (.int 1))) (.c (.int 48271))) (.bin .mul (.var 1) (.c (.int 69621)))]) (.c (.int 2147483647))), .ret (.bin .mod (.bi .int [.bin .add (.bin .mul (.var 2) (.c (.int 16807))) (.bin .mul (.var 1) (.c (.int 31)))]) (.c (.int 2147483629)))]⟩
def d13 : Df := ⟨"_law_left", "_law_left", ["cell", "times", "_"], 2, [.for_ (.n 2) (.rng1 (.var 1)) [.asg (.n 0) (.bin .fdiv (.var 0) (.c (.int 1000)))], .ret (.var 0)]⟩
def d14 : Df := ⟨"_law_number", "_law_number", ["script", "k", "cell", "left"], 2, [.ite (.cmp .eq (.bi .len [.var 0]) (.c (.int 0))) [.ret (.call 12 [.c (.int 0), .var 1])] [], .asg (.n 2) (.ix (.var 0) (.bin .mod (.bi .int [.var 1]) (.bi .len [.var 0]))), .asg (.n 3) (.call 13 [.bi .abs [.var 2], .bin .fdiv (.var 1) (.bi .len [.var 0])]), .ite (.and [.cmp .ge (.bi .abs [.var 2]) (.bin .pow (.c (.int 10)) (.c (.int 18))), .cmp .gt (.var 3) (.c (.int 0))]) [.ret (.bin .mod (.bi .int [.var 3]) (.c (.int 1000)))] [], .ret (.call 12 [.var 2, .var 1])]⟩
def d15 : Df := ⟨"_law_whole", "_law_whole", ["thing"], 1, [.ret (.and [.isi (.var 0) .int, .not (.isi (.var 0) .bool)])]⟩
def d16 : Df := ⟨"_law_refused", "_law_refused", ["action", "first", "second", "third", "e"], 4, [.try_ 3 [.expr (.callv 0 [.var 1, .var 2])] 0 4 (.law 11 3 lwp), .ret (.c (.bl false))]⟩
def d17 : Df := ⟨"_law_plait", "_law_plait", ["script", "at", "most", "strands", "word", "k", "number", "letter"], 3, [.asg (.n 3) (.bin .add (.c (.int 2)) (.bin .mod (.bi .int [.call 14 [.var 0, .var 1]]) (.c (.int 3)))), .asg (.n 4) (.lst []), .for_ (.n 5) (.rng1 (.bin .mod (.bi .int [.call 14 [.var 0, .bin .add (.var 1) (.c (.int 1))]]) (.bin .add (.var 2) (.c (.int 1))))) [.asg (.n 6) (.call 14 [.var 0, .bin .add (.bin .add (.var 1) (.c (.int 2))) (.var 5)]), .asg (.n 7) (.bin .add (.c (.int 1)) (.bin .mod (.bi .int [.var 6]) (.bin .sub (.var 3) (.c (.int 1))))), .ite (.cmp .eq (.bin .mod (.bi .int [.bin .fdiv (.var 6) (.c (.int 7))]) (.c (.int 2))) (.c (.int 1))) [.asg (.n 7) (.neg (.var 7))] [], .app 4 (.var 7)], .ret (.tup [.var 3, .bi .tuple [.var 4]])]⟩
def d18 : Df := ⟨"_law_ends", "_law_ends", ["plait", "places", "crossing", "at", "strand"], 1, [.asg (.n 1) (.rl1 false (.ix (.var 0) (.c (.int 0)))), .for_ (.n 2) (.seq (.ix (.var 0) (.c (.int 1)))) [.asg (.n 3) (.bin .sub (.bi .abs [.var 2]) (.c (.int 1))), .swp 1 (.var 3) (.bin .add (.var 3) (.c (.int 1))) (.tup [.ix (.var 1) (.bin .add (.var 3) (.c (.int 1))), .ix (.var 1) (.var 3)])], .frz 1, .ret (.bi .tuple [.lc (.me .index (.var 1) [.var 4]) (.n 4) (.rng1 (.ix (.var 0) (.c (.int 0)))) []])]⟩
def d19 : Df := ⟨"_law_round", "_law_round", ["plait", "one", "other", "places", "total", "crossing", "at"], 3, [.asg (.n 3) (.rl1 false (.ix (.var 0) (.c (.int 0)))), .asg (.n 4) (.c (.int 0)), .for_ (.n 5) (.seq (.ix (.var 0) (.c (.int 1)))) [.asg (.n 6) (.bin .sub (.bi .abs [.var 5]) (.c (.int 1))), .ite (.cmp .mem (.tup [.ix (.var 3) (.var 6), .ix (.var 3) (.bin .add (.var 6) (.c (.int 1)))]) (.lst [.tup [.var 1, .var 2], .tup [.var 2, .var 1]])) [.asg (.n 4) (.bin .add (.var 4) (.ix (.lst [.neg (.c (.int 1)), .c (.int 1)]) (.bi .int [.cmp .gt (.var 5) (.c (.int 0))])))] [], .swp 3 (.var 6) (.bin .add (.var 6) (.c (.int 1))) (.tup [.ix (.var 3) (.bin .add (.var 6) (.c (.int 1))), .ix (.var 3) (.var 6)])], .ret (.var 4)]⟩
def d20 : Df := ⟨"_law_told", "_law_told", ["plait", "one", "other", "e"], 3, [.try_ 3 [.ret (.call 9 [.var 0, .var 1, .var 2])] 0 3 (.pair (.str "number") 1)]⟩
def d21 : Df := ⟨"law", "law", ["script", "plait", "total", "one", "short", "both", "row", "here", "due", "times", "k", "other", "twice", "told", "place"], 1, [.asg (.n 1) (.call 17 [.var 0, .c (.int 0), .c (.int 10)]), .asg (.n 2) (.c (.int 0)), .for_ (.n 3) (.rng1 (.ix (.var 1) (.c (.int 0)))) [.for_ (.n 11) (.rng2 (.bin .add (.var 3) (.c (.int 1))) (.ix (.var 1) (.c (.int 0)))) [.asg (.n 13) (.call 20 [.var 1, .var 3, .var 11]), .ite (.or [.not (.call 15 [.var 13]), .cmp .ne (.var 13) (.call 19 [.var 1, .var 3, .var 11]), .cmp .ne (.call 20 [.var 1, .var 11, .var 3]) (.var 13)]) [.ret (.c (.bl false))] [], .asg (.n 2) (.bin .add (.var 2) (.var 13))]], .ite (.cmp .ne (.var 2) (.call 8 [.var 1])) [.ret (.c (.bl false))] [], .asg (.n 4) (.tup [.ix (.var 1) (.c (.int 0)), .sl (.ix (.var 1) (.c (.int 1))) (.no) (.c (.int 5))]), .asg (.n 5) (.tup [.ix (.var 1) (.c (.int 0)), .bin .add (.ix (.var 4) (.c (.int 1))) (.ix (.call 7 [.var 4]) (.c (.int 1)))]), .ite (.or [.bi .any [.lc (.cmp .ne (.call 20 [.var 5, .c (.int 0), .var 11]) (.c (.int 0))) (.n 11) (.rng2 (.c (.int 1)) (.ix (.var 1) (.c (.int 0)))) []], .cmp .ne (.call 6 [.var 5]) (.rl1 true (.ix (.var 1) (.c (.int 0))))]) [.ret (.c (.bl false))] [], .asg (.n 6) (.call 18 [.var 1]), .asg (.n 7) (.rl1 true (.ix (.var 1) (.c (.int 0)))), .asg (.n 8) (.c (.non)), .asg (.n 9) (.bin .add (.c (.int 1)) (.bin .mod (.bi .int [.call 14 [.var 0, .c (.int 20)]]) (.c (.int 12)))), .for_ (.n 10) (.rng1 (.var 9)) [.asg (.n 7) (.bi .tuple [.lc (.ix (.var 6) (.var 14)) (.n 14) (.seq (.var 7)) []]), .ite (.and [.cmp .is (.var 8) (.c (.non)), .cmp .eq (.var 7) (.rl1 true (.ix (.var 1) (.c (.int 0))))]) [.asg (.n 8) (.bin .add (.var 10) (.c (.int 1)))] []], .ite (.or [.cmp .ne (.call 10 [.var 1, .var 9]) (.var 8), .and [.cmp .eq (.var 9) (.c (.int 12)), .cmp .is (.var 8) (.c (.non))]]) [.ret (.c (.bl false))] [], .ite (.cmp .eq (.var 6) (.rl1 true (.ix (.var 1) (.c (.int 0))))) [.asg (.n 12) (.tup [.ix (.var 1) (.c (.int 0)), .bin .add (.ix (.var 4) (.c (.int 1))) (.ix (.var 4) (.c (.int 1)))]), .ite (.and [.cmp .eq (.call 18 [.var 4]) (.var 6), .cmp .ne (.call 20 [.var 12, .c (.int 0), .c (.int 1)]) (.bin .mul (.c (.int 2)) (.call 19 [.var 4, .c (.int 0), .c (.int 1)]))]) [.ret (.c (.bl false))] []] [], .ite (.or [.cmp .ne (.call 20 [.var 1, .c (.int 0), .c (.int 0)]) (.tup [.c (.str "number"), .c (.bl true)]), .cmp .ne (.call 20 [.var 1, .c (.int 0), .ix (.var 1) (.c (.int 0))]) (.tup [.c (.str "number"), .c (.bl true)])]) [.ret (.c (.bl false))] [], .ret (.call 16 [.fn 10, .var 1, .ix (.lst [.c (.int 0), .c (.int 13), .c (.non), .c (.bl true)]) (.bin .mod (.bi .int [.call 14 [.var 0, .c (.int 21)]]) (.c (.int 4))), .c (.str "NoNumber")])]⟩
def T : List Df := [d0, d1, d2, d3, d4, d5, d6, d7, d8, d9, d10, d11, d12, d13, d14, d15, d16, d17, d18, d19, d20, d21]
def gl : List D := [.int 2, .int 4, .int 10]
def tx : Tx := { gn := ["FEWEST_STRANDS", "MOST_STRANDS", "MOST_CROSSINGS"], fn := ["is_integer", "is_between", "is_tuple_of", "is_plait", "need_plait", "ends_of", "ends", "turned_back", "twists", "times_round", "plait_again", "_law_is", "_law_mixed", "_law_left", "_law_number", "_law_whole", "_law_refused", "_law_plait", "_law_ends", "_law_round", "_law_told", "law"], xn := ["NeedleError", "NoNumber", "NoPlait"], lw := [(11, lwp)] }
end NH.K25
set_option Elab.async false
set_option linter.all false
set_option maxRecDepth 100000
/-! K25q1: plaits: the strands' places, words; what the functions compute. -/
namespace NH.K25
open PySem L2
variable {n : Nat}
abbrev C (n f : Nat) (args : List D) : R EV := callF gl T 100 n f args
abbrev tupI (is : List Int) : D := .tup (is.map .int)
abbrev lstI (is : List Int) : D := .lst (is.map .int)
abbrev sv (d : D) : Option Sl := some (.v d)
abbrev so (d : D) : Option Sl := some (.o d)
abbrev plD (s : Nat) (ws : List Int) : D := .tup [.int (s : Int), tupI ws]
theorem c_at {f : Nat} {d : Df} {args : List D} (h : T[f]? = some d) : C (n + 1) f args = runD gl (C n) 100 d args := callF_at h
theorem gv {cf : Nat → List D → R EV} {env : En} {i : Nat} {d : D} (h : env[i]? = some (some (.v d))) : ev gl cf (.var i) env = .ok (.z d) := by
  show gets env i = _
  unfold gets
  rw [h]
theorem go {cf : Nat → List D → R EV} {env : En} {i : Nat} {d : D} (h : env[i]? = some (some (.o d))) : ev gl cf (.var i) env = .ok (.b d) := by
  show gets env i = _
  unfold gets
  rw [h]
def at0 (l : List Int) (j : Nat) : Int := l.getD j 0
theorem at0_get {l : List Int} {j : Nat} (h : j < l.length) : at0 l j = l[j] := by
  unfold at0
  rw [List.getD_eq_getElem?_getD, List.getElem?_eq_getElem h]; rfl
/-! ### places -/
def sw (l : List Int) (k : Nat) : List Int := (l.set k (at0 l (k + 1))).set (k + 1) (at0 l k)
def ins (x : Int) : List Int → List (List Int)
  | [] => [[x]]
  | y :: r => (x :: y :: r) :: (ins x r).map (y :: ·)
def prm : List Int → List (List Int)
  | [] => [[]]
  | x :: r => ((prm r).map (ins x)).flatten
def idp (s : Nat) : List Int := (List.range s).map fun (k : Nat) => (k : Int)
def perms (s : Nat) : List (List Int) := prm (idp s)
def hit (x y a b : Int) : Bool := (decide (x = a) && decide (y = b)) || (decide (x = b) && decide (y = a))
def inv (s : Nat) (l : List Int) : List Int := (List.range s).map fun (j : Nat) => ((l.idxOf (j : Int) : Nat) : Int)
def pairs (s : Nat) (f : Int → Int → Int) : Int := match s with
  | 2 => f 0 1
  | 3 => f 0 1 + f 0 2 + f 1 2
  | _ => f 0 1 + f 0 2 + f 0 3 + f 1 2 + f 1 3 + f 2 3
def one (b : Bool) : Int := if b then 1 else 0
def comp (row here : List Int) : List Int := here.map fun p => at0 row p.toNat
def it (s : Nat) (row : List Int) : Nat → List Int
  | 0 => idp s
  | k + 1 => comp row (it s row k)
def fact (s : Nat) (l : List Int) : Bool :=
  decide (l.length = s) && decide (inv s l ∈ perms s) && (decide (inv s l ≠ idp s) || decide (l = idp s)) && (l.all fun x => decide (0 ≤ x) && decide (x < s)) && decide (it s l 12 = idp s) && ((List.range 13).all fun k => decide (it s l k ∈ perms s)) && ((List.range s).all fun j => decide (((j : Nat) : Int) ∈ l)) &&
  (List.range (s - 1)).all fun k => decide (sw l k ∈ perms s) && decide (sw (sw l k) k = l) && decide (at0 (sw l k) k = at0 l (k + 1)) && decide (at0 (sw l k) (k + 1) = at0 l k) && decide (pairs s (fun a b => one (hit (at0 l k) (at0 l (k + 1)) a b)) = 1)
theorem facts : ([2, 3, 4].all fun s => (perms s).all fun l => fact s l) = true := by decide +kernel
structure Prm (s : Nat) (l : List Int) : Prop where
  s2 : 2 ≤ s
  s4 : s ≤ 4
  mem : l ∈ perms s
theorem Prm.fact {s : Nat} {l : List Int} (p : Prm s l) : fact s l = true := by
  have h := facts
  have hs : s ∈ [2, 3, 4] := by
    have := p.s2; have := p.s4
    have : s = 2 ∨ s = 3 ∨ s = 4 := by omega
    rcases this with rfl | rfl | rfl <;> simp
  exact List.all_eq_true.mp (List.all_eq_true.mp h s hs) l p.mem
structure PF (s : Nat) (l : List Int) : Prop where
  len : l.length = s
  invm : inv s l ∈ perms s
  invid : inv s l = idp s → l = idp s
  bd : ∀ x ∈ l, 0 ≤ x ∧ x < s
  ord : it s l 12 = idp s
  itm : ∀ k, k ≤ 12 → it s l k ∈ perms s
  has : ∀ j : Nat, j < s → (j : Int) ∈ l
  step : ∀ k, k + 1 < s → sw l k ∈ perms s ∧ sw (sw l k) k = l ∧ at0 (sw l k) k = at0 l (k + 1) ∧ at0 (sw l k) (k + 1) = at0 l k ∧ pairs s (fun a b => one (hit (at0 l k) (at0 l (k + 1)) a b)) = 1
theorem Prm.pf {s : Nat} {l : List Int} (p : Prm s l) : PF s l := by
  have h := p.fact
  unfold NH.K25.fact at h
  simp only [Bool.and_eq_true, Bool.or_eq_true, List.all_eq_true, decide_eq_true_eq] at h
  obtain ⟨⟨⟨⟨⟨⟨⟨h1, h2⟩, h3⟩, h4⟩, h5⟩, h6⟩, h7⟩, h8⟩ := h
  refine ⟨h1, h2, fun e => h3.resolve_left (fun q => q e), h4, h5, fun k hk => h6 k (List.mem_range.mpr (by omega)), fun j hj => h7 j (List.mem_range.mpr hj), fun k hk => ?_⟩
  obtain ⟨⟨⟨⟨a, b⟩, c⟩, d⟩, e⟩ := h8 k (List.mem_range.mpr (by omega))
  exact ⟨a, b, c, d, e⟩
theorem prm_id {s : Nat} (h2 : 2 ≤ s) (h4 : s ≤ 4) : Prm s (idp s) := by
  refine ⟨h2, h4, ?_⟩
  have : s = 2 ∨ s = 3 ∨ s = 4 := by omega
  rcases this with rfl | rfl | rfl <;> decide +kernel
/-! ### words -/
def kc (c : Int) : Nat := c.natAbs - 1
def sgn (c : Int) : Int := if c > 0 then 1 else -1
def Wd (s : Nat) (ws : List Int) : Prop := ∀ c ∈ ws, 1 ≤ c.natAbs ∧ c.natAbs < s
def run (l : List Int) : List Int → List Int
  | [] => l
  | c :: r => run (sw l (kc c)) r
def tr (l : List Int) (a b : Int) : List Int → Int
  | [] => 0
  | c :: r => (if hit (at0 l (kc c)) (at0 l (kc c + 1)) a b then sgn c else 0) + tr (sw l (kc c)) a b r
theorem Wd.k {s : Nat} {c : Int} {r : List Int} (w : Wd s (c :: r)) : kc c + 1 < s ∧ (c.natAbs : Int) - 1 = (kc c : Nat) := by
  have := w c (by simp)
  unfold kc
  omega
theorem Wd.tl {s : Nat} {c : Int} {r : List Int} (w : Wd s (c :: r)) : Wd s r := fun x hx => w x (List.mem_cons_of_mem _ hx)
theorem Prm.sw {s : Nat} {l : List Int} (p : Prm s l) {k : Nat} (hk : k + 1 < s) : Prm s (NH.K25.sw l k) := ⟨p.s2, p.s4, (p.pf.step k hk).1⟩
theorem Prm.run {s : Nat} : ∀ {ws l : List Int}, Prm s l → Wd s ws → Prm s (NH.K25.run l ws)
  | [], _, p, _ => p
  | c :: r, l, p, w => show Prm s (NH.K25.run (NH.K25.sw l (kc c)) r) from Prm.run (ws := r) (l := NH.K25.sw l (kc c)) (p.sw w.k.1) w.tl
theorem run_app (l : List Int) : ∀ (v w : List Int), run l (v ++ w) = run (run l v) w := fun v => by
  induction v generalizing l with
  | nil => intro w; rfl
  | cons c r ih => intro w; exact ih _ w
theorem tr_app (l : List Int) (a b : Int) : ∀ (v w : List Int), tr l a b (v ++ w) = tr l a b v + tr (run l v) a b w := fun v => by
  induction v generalizing l with
  | nil => intro w; show _ = 0 + _; rw [Int.zero_add]; rfl
  | cons c r ih =>
    intro w
    have := ih (sw l (kc c)) w
    show (if hit (at0 l (kc c)) (at0 l (kc c + 1)) a b then sgn c else 0) + tr (sw l (kc c)) a b (r ++ w) = (if hit (at0 l (kc c)) (at0 l (kc c + 1)) a b then sgn c else 0) + tr (sw l (kc c)) a b r + tr (run (sw l (kc c)) r) a b w
    omega
def bk (ws : List Int) : List Int := ws.reverse.map fun c => -c
theorem bk_cons (c : Int) (r : List Int) : bk (c :: r) = bk r ++ [-c] := by simp [bk]
theorem kc_neg (c : Int) : kc (-c) = kc c := by unfold kc; rw [Int.natAbs_neg]
theorem Wd.bk {s : Nat} {ws : List Int} (w : Wd s ws) : Wd s (bk ws) := fun c hc => by
  unfold NH.K25.bk at hc
  obtain ⟨x, hx, rfl⟩ := List.mem_map.mp hc
  rw [Int.natAbs_neg]; exact w x (List.mem_reverse.mp hx)
theorem sgn_neg {c : Int} (h : 1 ≤ c.natAbs) : sgn (-c) = - sgn c := by
  unfold sgn
  split <;> split <;> omega
theorem hit_sym (x y a b : Int) : hit y x a b = hit x y a b := by
  unfold hit
  by_cases h1 : x = a <;> by_cases h2 : y = b <;> by_cases h3 : x = b <;> by_cases h4 : y = a <;> simp [h1, h2, h3, h4]
theorem hit_swp (x y a b : Int) : hit x y b a = hit x y a b := by
  unfold hit
  rw [Bool.or_comm]
theorem run_bk {s : Nat} : ∀ {ws l : List Int}, Prm s l → Wd s ws → run (run l ws) (bk ws) = l ∧ ∀ a b, tr (run l ws) a b (bk ws) = - tr l a b ws
  | [], l, _, _ => ⟨rfl, fun _ _ => rfl⟩
  | c :: r, l, p, w => by
    obtain ⟨f1, f2, f3, f4, _⟩ := p.pf.step (kc c) w.k.1
    obtain ⟨h1, h2⟩ := run_bk (p.sw w.k.1) w.tl
    rw [bk_cons]
    constructor
    · rw [run_app]
      show run (run (run (sw l (kc c)) r) (bk r)) [-c] = l
      rw [h1]
      show sw (sw l (kc c)) (kc (-c)) = l
      rw [kc_neg, f2]
    · intro a b
      rw [tr_app]
      show tr (run (sw l (kc c)) r) a b (bk r) + tr (run (run (sw l (kc c)) r) (bk r)) a b [-c] = -((if hit (at0 l (kc c)) (at0 l (kc c + 1)) a b then sgn c else 0) + tr (sw l (kc c)) a b r)
      rw [h1, h2]
      show _ + ((if hit (at0 (sw l (kc c)) (kc (-c))) (at0 (sw l (kc c)) (kc (-c) + 1)) a b then sgn (-c) else 0) + 0) = _
      rw [kc_neg, f3, f4, hit_sym, sgn_neg (w c (by simp)).1]
      split <;> omega
def tws : List Int → Int
  | [] => 0
  | c :: r => sgn c + tws r
theorem pairs_add {s : Nat} (f g : Int → Int → Int) : pairs s (fun a b => f a b + g a b) = pairs s f + pairs s g := by
  unfold pairs
  split <;> (try dsimp only) <;> omega
theorem pairs_mul {s : Nat} (c : Int) (f : Int → Bool) (g : Int → Int → Bool) : pairs s (fun a b => if g a b then c else 0) = c * pairs s (fun a b => one (g a b)) := by
  have h : ∀ q : Bool, (if q then c else 0) = c * one q := fun q => by
    cases q
    · show (0 : Int) = c * 0; rw [Int.mul_zero]
    · show c = c * 1; rw [Int.mul_one]
  unfold pairs
  split <;> simp only [h, Int.mul_add]
theorem tr_pairs {s : Nat} : ∀ {ws l : List Int}, Prm s l → Wd s ws → pairs s (fun a b => tr l a b ws) = tws ws
  | [], l, _, _ => by
    show pairs s (fun _ _ => 0) = 0
    unfold pairs
    split <;> rfl
  | c :: r, l, p, w => by
    have ih := tr_pairs (p.sw w.k.1) w.tl
    obtain ⟨_, _, _, _, f5⟩ := p.pf.step (kc c) w.k.1
    show pairs s (fun a b => (if hit (at0 l (kc c)) (at0 l (kc c + 1)) a b then sgn c else 0) + tr (sw l (kc c)) a b r) = sgn c + tws r
    rw [pairs_add, ih, pairs_mul (sgn c) (fun _ => true), f5, Int.mul_one]
end NH.K25
set_option Elab.async false
set_option linter.all false
set_option maxRecDepth 100000
/-! K25q2: what the functions of plaits compute. -/
namespace NH.K25
open PySem L2
variable {n : Nat}
theorem c_int (i : Int) : C (n + 1) 0 [.int i] = .ok (.z (.bl true)) := rfl
theorem c_btw (a b c : Int) : C (n + 2) 1 [.int a, .int b, .int c] = .ok (.z (.bl (decide (b ≤ a) && decide (a ≤ c)))) := by
  rw [c_at (d := d1) rfl]
  refine run_ret rfl (ret_z ?_)
  have h1 : ev gl (C (n + 1)) (.call 0 [.var 0]) [some (.v (.int a)), some (.v (.int b)), some (.v (.int c))] = .ok (.z (.bl true)) := ev_call (xs := [.z (.int a)]) rfl rfl (c_int a) (by intro d h; cases h)
  exact (ev_and_t h1 rfl).trans (ev_and_1.trans (ev_chain (x := .z (.int b)) (y := .z (.int a)) (z := .z (.int c)) rfl rfl rfl rfl rfl))
/-- a plait -/
structure Pl (s : Nat) (ws : List Int) : Prop where
  s2 : 2 ≤ s
  s4 : s ≤ 4
  len : ws.length ≤ 10
  wd : Wd s ws
theorem abs_of (c : Int) : biD .abs [.int c] = .ok (.z (.int (c.natAbs : Int))) := by
  show R.ok (EV.z (.int (if c < 0 then -c else c))) = _
  have : (if c < 0 then -c else c) = (c.natAbs : Int) := by split <;> omega
  rw [this]
section
variable {s : Nat} {ws : List Int}
theorem x0 {cf : Nat → List D → R EV} {env : En} {i : Nat} (h : env[i]? = some (sv (plD s ws))) : ev gl cf (.ix (.var i) (.c (.int 0))) env = .ok (.z (.int (s : Int))) := ev_ix (gv h) (y := .z (.int 0)) rfl rfl
theorem x1 {cf : Nat → List D → R EV} {env : En} {i : Nat} (h : env[i]? = some (sv (plD s ws))) : ev gl cf (.ix (.var i) (.c (.int 1))) env = .ok (.z (tupI ws)) := ev_ix (gv h) (y := .z (.int 1)) rfl rfl
theorem c_need (p : Pl s ws) : C (n + 4) 4 [plD s ws] = .ok (.z .non) := by
  have s2 := p.s2; have s4 := p.s4; have hl := p.len
  have h3 : C (n + 3) 3 [plD s ws] = .ok (.z (.bl true)) := by
    rw [c_at (d := d3) rfl]
    refine run_ret rfl ?_
    have b1 := c_btw (n := n) (s : Int) 2 4
    rw [decide_eq_true (by omega), decide_eq_true (by omega)] at b1
    have e1 : ev gl (C (n + 2)) (.not (.call 2 [.var 0, .c (.int 2)])) [sv (plD s ws), none] = .ok (.z (.bl false)) := ev_not (x := .z (.bl true)) (ev_call (xs := [.z (plD s ws), .z (.int 2)]) rfl rfl (show C (n + 2) 2 [plD s ws, .int 2] = .ok (.z (.bl true)) from rfl) (by intro d h; cases h)) rfl
    have e2 : ev gl (C (n + 2)) (.not (.call 1 [.ix (.var 0) (.c (.int 0)), .gl 0, .gl 1])) [sv (plD s ws), none] = .ok (.z (.bl false)) := ev_not (x := .z (.bl true)) (ev_call (xs := [.z (.int (s : Int)), .z (.int 2), .z (.int 4)]) rfl rfl b1 (by intro d h; cases h)) rfl
    refine (if_f (x := .z (.bl false)) ((ev_or_f e1 rfl).trans (ev_or_1.trans e2)) rfl).trans ?_
    have e3 : ev gl (C (n + 2)) (.not (.isi (.ix (.var 0) (.c (.int 1))) .tuple)) [sv (plD s ws), none] = .ok (.z (.bl false)) := rfl
    have e4 : ev gl (C (n + 2)) (.cmp .gt (.bi .len [.ix (.var 0) (.c (.int 1))]) (.gl 2)) [sv (plD s ws), none] = .ok (.z (.bl false)) := by
      refine ev_cmp (x := .z (.int (ws.length : Nat))) (y := .z (.int 10)) (ev_bi1 (x1 rfl) ?_) rfl ?_
      · show R.ok (EV.z (.int ((ws.map D.int).length : Nat))) = _
        rw [List.length_map]
      · show R.ok (decide ((10 : Int) < (ws.length : Nat))) = _
        rw [decide_eq_false (by omega)]
    refine (if_f (x := .z (.bl false)) ((ev_or_f e3 rfl).trans (ev_or_1.trans e4)) rfl).trans (ret_z ?_)
    refine ev_bi1 (ev_lc (x := .z (tupI ws)) (d := tupI ws) (xs := ws.map .int) (i := 1) (ev_seq (x1 rfl) rfl) rfl rfl (lcD_map (fun _ => .bl true) _ (fun x _ => rfl) fun x hx => ?_) (le_size (by rw [List.length_map, List.length_map]; omega))) (bi_all_true _)
    obtain ⟨c, hc, rfl⟩ := List.mem_map.mp hx
    obtain ⟨w1, w2⟩ := p.wd c hc
    refine el_one (x := .z (.bl true)) ?_ rfl
    have i1 : ev gl (C (n + 2)) (.call 0 [.var 1]) [sv (plD s ws), sv (.int c)] = .ok (.z (.bl true)) := ev_call (xs := [.z (.int c)]) rfl rfl (c_int c) (by intro d h; cases h)
    refine (ev_and_t i1 rfl).trans (ev_and_1.trans ((ev_chain (x := .z (.int 1)) (y := .z (.int (c.natAbs : Int))) (z := .z (.int (s : Int))) rfl (ev_bi1 (x := .z (.int c)) rfl (abs_of c)) (x0 rfl) rfl rfl).trans ?_))
    rw [decide_eq_true (by omega), decide_eq_true (by omega)]; rfl
  rw [c_at (d := d4) rfl]
  exact run_nx rfl ((if_f (x := .z (.bl false)) (ev_not (x := .z (.bl true)) (ev_call (xs := [.z (plD s ws)]) rfl rfl h3 (by intro d h; cases h)) rfl) rfl).trans exs_nil)
/-- places, at first -/
theorem rng_id (s : Nat) : rngI 0 (s : Int) = (idp s).map .int := by
  unfold rngI idp
  rw [show ((s : Int) - 0).toNat = s by omega, List.map_map]
  apply List.map_congr_left
  intro k _
  show D.int (0 + (k : Int)) = D.int (k : Int)
  rw [Int.zero_add]
theorem first_l {cf : Nat → List D → R EV} {env : En} {e : E} (hs : s ≤ 4) (h : ev gl cf e env = .ok (.z (.int (s : Int)))) : ev gl cf (.rl1 false e) env = .ok (.o (lstI (idp s))) := by
  have := rl1_ok (tu := false) h (rngOk_le _ _ (by omega) (by omega) (by omega) (by omega))
  rw [rng_id] at this; exact this
theorem first_t {cf : Nat → List D → R EV} {env : En} {e : E} (hs : s ≤ 4) (h : ev gl cf e env = .ok (.z (.int (s : Int)))) : ev gl cf (.rl1 true e) env = .ok (.z (tupI (idp s))) := by
  have := rl1_ok (tu := true) h (rngOk_le _ _ (by omega) (by omega) (by omega) (by omega))
  rw [rng_id] at this; exact this
theorem l_ix {l : List Int} {k : Nat} (hk : k < l.length) : ixD (lstI l) (.int (k : Int)) = .ok (.int (at0 l k)) := by
  show R.of (atI (l.map D.int) (k : Int)) = _
  rw [atI_map _ _ _ hk, at0_get hk]; rfl
theorem t_ix {l : List Int} {k : Nat} (hk : k < l.length) : ixD (tupI l) (.int (k : Int)) = .ok (.int (at0 l k)) := by
  show R.of (atI (l.map D.int) (k : Int)) = _
  rw [atI_map _ _ _ hk, at0_get hk]; rfl
/-- x[at], x[at + 1] = x[at + 1], x[at] -/
theorem ex_swp {cf : Nat → List D → R EV} {env e2 : En} {i a : Nat} {l : List Int} {k : Nat} (ho : env[i]? = some (so (lstI l))) (ha : env[a]? = some (sv (.int (k : Int)))) (hk : k + 1 < l.length)
    (h2 : ∀ d, (setE env i (.o d))[a]? = some (sv (.int (k : Int)))) (he : setE (setE env i (.o (lstI (l.set k (at0 l (k + 1)))))) i (.o (lstI (sw l k))) = e2) :
    ex gl cf 100 (.swp i (.var a) (.bin .add (.var a) (.c (.int 1))) (.tup [.ix (.var i) (.bin .add (.var a) (.c (.int 1))), .ix (.var i) (.var a)])) env = .ok (.nx e2) := by
  have ek : ((k + 1 : Nat) : Int) = (k : Int) + 1 := by omega
  have g1 : ev gl cf (.ix (.var i) (.bin .add (.var a) (.c (.int 1)))) env = .ok (.z (.int (at0 l (k + 1)))) := ev_ix (go ho) (ev_bin (gv ha) (y := .z (.int 1)) rfl rfl) (by show ixD (lstI l) (.int ((k : Int) + 1)) = _; rw [← ek]; exact l_ix hk)
  have g2 : ev gl cf (.ix (.var i) (.var a)) env = .ok (.z (.int (at0 l k))) := ev_ix (go ho) (gv ha) (l_ix (by omega))
  have g3 : ev gl cf (.tup [.ix (.var i) (.bin .add (.var a) (.c (.int 1))), .ix (.var i) (.var a)]) env = .ok (.z (.tup [.int (at0 l (k + 1)), .int (at0 l k)])) := ev_tup (evs_cons g1 rfl (evs_cons g2 rfl evs_nil)) (le_size (by simp))
  have s1 : storeD (lstI l) (.int (k : Int)) (.int (at0 l (k + 1))) = .ok (lstI (l.set k (at0 l (k + 1)))) := by
    refine (store_at (by rw [List.length_map]; omega) _).trans ?_
    rw [← List.map_set]
  have s2 : storeD (lstI (l.set k (at0 l (k + 1)))) (.int ((k : Int) + 1)) (.int (at0 l k)) = .ok (lstI (sw l k)) := by
    rw [← ek]
    refine (store_at (by rw [List.length_map, List.length_set]; omega) _).trans ?_
    rw [← List.map_set]; rfl
  have hw : own env i = .ok (lstI l) := by unfold own; rw [ho]
  show (stE env (ev gl cf (.tup [.ix (.var i) (.bin .add (.var a) (.c (.int 1))), .ix (.var i) (.var a)]) env) fun x => (x.keep).bind fun d => (pairD d).bind fun p => (own env i).bind fun c => stE env (ev gl cf (.var a) env) fun y => (storeD c y.d p.1).bind fun c1 => stE (setE env i (.o c1)) (ev gl cf (.bin .add (.var a) (.c (.int 1))) (setE env i (.o c1))) fun z => (storeD c1 z.d p.2).bind fun c2 => R.ok (Fl.nx (setE (setE env i (.o c1)) i (.o c2)))) = _
  rw [g3]
  show ((own env i).bind fun c => stE env (ev gl cf (.var a) env) fun y => (storeD c y.d (.int (at0 l (k + 1)))).bind fun c1 => stE (setE env i (.o c1)) (ev gl cf (.bin .add (.var a) (.c (.int 1))) (setE env i (.o c1))) fun z => (storeD c1 z.d (.int (at0 l k))).bind fun c2 => R.ok (Fl.nx (setE (setE env i (.o c1)) i (.o c2)))) = _
  rw [hw, R.bind_ok, gv ha]
  show ((storeD (lstI l) (.int (k : Int)) (.int (at0 l (k + 1)))).bind fun c1 => stE (setE env i (.o c1)) (ev gl cf (.bin .add (.var a) (.c (.int 1))) (setE env i (.o c1))) fun z => (storeD c1 z.d (.int (at0 l k))).bind fun c2 => R.ok (Fl.nx (setE (setE env i (.o c1)) i (.o c2)))) = _
  rw [s1, R.bind_ok, ev_bin (gv (h2 _)) (y := .z (.int 1)) rfl rfl]
  show ((storeD (lstI (l.set k (at0 l (k + 1)))) (.int ((k : Int) + 1)) (.int (at0 l k))).bind fun c2 => R.ok (Fl.nx (setE (setE env i (.o (lstI (l.set k (at0 l (k + 1)))))) i (.o c2)))) = _
  rw [s2, R.bind_ok, he]
abbrev swpS (i a : Nat) : S := .swp i (.var a) (.bin .add (.var a) (.c (.int 1))) (.tup [.ix (.var i) (.bin .add (.var a) (.c (.int 1))), .ix (.var i) (.var a)])
/-- the strands' places behind a word -/
theorem ends_loop {cf : Nat → List D → R EV} {P : D} : ∀ (v : List Int) (l : List Int) (c3 a3 z : Option Sl), Prm s l → Wd s v → ∃ c4 a4, forF (.n 2) (fun e => exs gl cf 100 [.asg (.n 3) (.bin .sub (.bi .abs [.var 2]) (.c (.int 1))), swpS 1 3] e) (v.map .int) [sv P, so (lstI l), c3, a3, z] = .ok (.nx [sv P, so (lstI (run l v)), c4, a4, z])
  | [], l, c3, a3, z, _, _ => ⟨c3, a3, rfl⟩
  | c :: r, l, c3, a3, z, p, w => by
    obtain ⟨c4, a4, ih⟩ := ends_loop (cf := cf) (P := P) r (sw l (kc c)) (sv (.int c)) (sv (.int (kc c : Nat))) z (p.sw w.k.1) w.tl
    refine ⟨c4, a4, (forF_go (e1 := [sv P, so (lstI l), sv (.int c), a3, z]) rfl ?_).trans ih⟩
    refine (asg_z (d := .int (kc c : Nat)) ?_).trans ((exs_nx (ex_swp (k := kc c) (l := l) rfl rfl (by rw [p.pf.len]; exact w.k.1) (fun _ => rfl) rfl)).trans rfl)
    refine (ev_bin (x := .z (.int (c.natAbs : Int))) (y := .z (.int 1)) (ev_bi1 (x := .z (.int c)) rfl (abs_of c)) rfl rfl).trans ?_
    rw [w.k.2]
theorem find_idx {l : List Int} {i : Int} (h : i ∈ l) : l.findIdx? (fun j => decide (j = i)) = some (l.idxOf i) := by
  induction l with
  | nil => cases h
  | cons x r ih =>
    rw [List.findIdx?_cons, List.idxOf_cons]
    by_cases q : x = i
    · subst q; simp
    · have h' : i ∈ r := by
        rcases List.mem_cons.mp h with e | e
        · exact absurd e.symm q
        · exact e
      have hb : (x == i) = false := by simpa using q
      rw [hb, if_neg (by simpa using q), ih h']; rfl
theorem me_idx {cf : Nat → List D → R EV} {env : En} {o a : E} {l : List Int} {i : Int} (ho : ev gl cf o env = .ok (.z (lstI l))) (ha : ev gl cf a env = .ok (.z (.int i))) (hm : i ∈ l) : ev gl cf (.me .index o [a]) env = .ok (.z (.int ((l.idxOf i : Nat) : Int))) := by
  show ((ev gl cf o env).bind fun x => (meT .index x.d).bind fun _ => (evA gl cf [a] env).bind fun xs => meD .index x.d (xs.map EV.d)) = _
  rw [ho, R.bind_ok]
  show ((evA gl cf [a] env).bind fun xs => meD .index (lstI l) (xs.map EV.d)) = _
  rw [evA_cons ha evA_nil, R.bind_ok]
  show ((R.of (allInt (l.map .int))).bind fun ns => (R.of (ns.findIdx? fun j => decide (j = i))).bind fun k => R.ok (EV.z (.int (k : Nat)))) = _
  rw [allInt_map, R.of_some, R.bind_ok, find_idx hm]; rfl
theorem c_ends_g {f : Nat} {d : Df} (hd : T[f]? = some d) (hb : d.body = d5.body) (hn : d.N.length = 5) (hp : d.np = 1) (p : Pl s ws) : C (n + 1) f [plD s ws] = .ok (.z (tupI (inv s (run (idp s) ws)))) := by
  rw [c_at hd]
  have pr := (prm_id p.s2 p.s4).run p.wd
  have s4 := p.s4
  refine run_ret (by rw [hp]; rfl) ?_
  rw [hb, hn, hp]
  obtain ⟨c4, a4, lp⟩ := ends_loop (cf := C n) (P := plD s ws) ws (idp s) none none none (prm_id p.s2 p.s4) p.wd
  refine (asg_o (d := lstI (idp s)) (first_l s4 (x0 rfl))).trans ?_
  refine (exs_nx ((ex_for (x := .z (tupI ws)) (d := tupI ws) (xs := ws.map .int) (ev_seq (x1 rfl) rfl) rfl rfl).trans lp)).trans ?_
  refine (exs_nx (e := [sv (plD s ws), sv (lstI (run (idp s) ws)), c4, a4, none]) rfl).trans (ret_z ?_)
  have hr := rng1_ok (gl := gl) (cf := C n) (env := frzAll [sv (plD s ws), sv (lstI (run (idp s) ws)), c4, a4, none]) (e := .ix (.var 0) (.c (.int 0))) (t := (s : Int)) (x0 rfl) (rngOk_le _ _ (by omega) (by omega) (by omega) (by omega))
  refine ev_bi1 (x := .o (lstI (inv s (run (idp s) ws)))) ?_ rfl
  have hl : lstI (inv s (run (idp s) ws)) = .lst ((rngI 0 (s : Int)).map fun d => match d with | .int j => .int (((run (idp s) ws).idxOf j : Nat) : Int) | d => d) := by
    rw [rng_id]
    show D.lst ((inv s (run (idp s) ws)).map .int) = _
    unfold inv idp
    rw [List.map_map, List.map_map, List.map_map]; rfl
  rw [hl]
  refine ev_lc hr rfl rfl (lcD_map _ _ (fun x _ => rfl) fun x hx => ?_) (le_size (by rw [List.length_map, rng_id, List.length_map]; simp [idp]; omega))
  obtain ⟨k, rfl, hk⟩ := mem_rngI hx
  rw [Int.zero_add]
  refine el_one (x := .z (.int (((run (idp s) ws).idxOf (k : Int) : Nat) : Int))) ?_ rfl
  have hm := pr.pf.has k (by omega)
  exact me_idx (gv rfl) (gv rfl) hm
theorem c_endsof (p : Pl s ws) : C (n + 1) 5 [plD s ws] = .ok (.z (tupI (inv s (run (idp s) ws)))) := c_ends_g (d := d5) rfl rfl rfl rfl p
theorem c_lends (p : Pl s ws) : C (n + 1) 18 [plD s ws] = .ok (.z (tupI (inv s (run (idp s) ws)))) := c_ends_g (d := d18) rfl rfl rfl rfl p
theorem ev_need (p : Pl s ws) {env : En} (h0 : env[0]? = some (sv (plD s ws))) : ev gl (C (n + 4)) (.call 4 [.var 0]) env = .ok (.z .non) := ev_call (evA_cons (gv h0) evA_nil) rfl (c_need p) (by intro d h; cases h)
theorem c_ends (p : Pl s ws) : C (n + 5) 6 [plD s ws] = .ok (.z (tupI (inv s (run (idp s) ws)))) := by
  rw [c_at (d := d6) rfl]
  exact run_ret rfl ((exs_nx (ex_expr (ev_need p rfl))).trans (ret_z (ev_call (xs := [.z (plD s ws)]) rfl rfl (c_endsof (n := n + 3) p) (by intro d h; cases h))))
theorem c_back (p : Pl s ws) : C (n + 5) 7 [plD s ws] = .ok (.z (plD s (bk ws))) := by
  rw [c_at (d := d7) rfl]
  refine run_ret rfl ((exs_nx (ex_expr (ev_need p rfl))).trans (ret_z (ev_tup (evs_cons (x0 rfl) rfl (evs_cons (x := .z (tupI (bk ws))) ?_ rfl evs_nil)) (le_size (by simp)))))
  refine ev_bi1 (x := .o (lstI (bk ws))) ?_ rfl
  have er : ev gl (C (n + 4)) (.seq (.rev (.ix (.var 0) (.c (.int 1))))) (frzAll [sv (plD s ws), none]) = .ok (.z (.tup (ws.map D.int).reverse)) := by
    refine ev_seq (x := .z (.tup (ws.map D.int).reverse)) ?_ rfl
    show ((ev gl (C (n + 4)) (.ix (.var 0) (.c (.int 1))) (frzAll [sv (plD s ws), none])).bind fun x => revD x.d) = _
    rw [x1 rfl]; rfl
  have hb : lstI (bk ws) = .lst (((ws.map D.int).reverse).map (fun x => match x with | .int f => D.int (-f) | d => d)) := by
    show D.lst ((bk ws).map .int) = _
    unfold bk
    rw [← List.map_reverse, List.map_map, List.map_map]; rfl
  rw [hb]
  refine ev_lc er rfl rfl (lcD_map _ _ (fun x _ => rfl) fun x hx => ?_) (le_size (by rw [List.length_map, List.length_reverse, List.length_map]; have := p.len; omega))
  obtain ⟨f, hf, rfl⟩ := List.mem_map.mp (List.mem_reverse.mp hx)
  exact el_one (x := .z (.int (-f))) (ev_neg (x := .z (.int f)) rfl rfl) rfl
end
end NH.K25
set_option Elab.async false
set_option linter.all false
set_option maxRecDepth 100000
/-! K25q3: twists, times_round, plait_again; the law's own functions. -/
namespace NH.K25
open PySem L2
variable {n : Nat}
section
variable {s : Nat} {ws : List Int}
def pP : D → Bool
  | .int c => decide (0 < c)
  | _ => false
def pN : D → Bool
  | .int c => decide (c < 0)
  | _ => false
theorem tws_cnt : ∀ {ws : List Int}, Wd s ws → ((((ws.map D.int).filter pP).length : Nat) : Int) - ((((ws.map D.int).filter pN).length : Nat) : Int) = tws ws
  | [], _ => rfl
  | c :: r, w => by
    have ih := tws_cnt w.tl
    have hc := (w c (by simp)).1
    rw [List.map_cons, List.filter_cons, List.filter_cons]
    show _ = sgn c + tws r
    unfold sgn
    show (((if decide (0 < c) then D.int c :: (r.map D.int).filter pP else (r.map D.int).filter pP).length : Nat) : Int) - (((if decide (c < 0) then D.int c :: (r.map D.int).filter pN else (r.map D.int).filter pN).length : Nat) : Int) = _
    by_cases h : 0 < c
    · rw [decide_eq_true h, decide_eq_false (by omega), if_pos rfl, if_neg (by decide), if_pos h, List.length_cons]; omega
    · rw [decide_eq_false h, decide_eq_true (by omega), if_neg (by decide), if_pos rfl, if_neg h, List.length_cons]; omega
theorem id_map (xs : List D) : xs.map (fun d => d) = xs := List.map_id' _
theorem c_twists (p : Pl s ws) : C (n + 5) 8 [plD s ws] = .ok (.z (.int (tws ws))) := by
  rw [c_at (d := d8) rfl]
  have hl := p.len
  refine run_ret rfl ((exs_nx (ex_expr (ev_need p rfl))).trans (ret_z ?_))
  have part : ∀ (e : E) (q : D → Bool), (∀ c ∈ ws, ev gl (C (n + 4)) e [sv (plD s ws), sv (.int c)] = .ok (.z (.bl (q (.int c))))) → ev gl (C (n + 4)) (.bi .len [.lc (.var 1) (.n 1) (.seq (.ix (.var 0) (.c (.int 1)))) [e]]) [sv (plD s ws), none] = .ok (.z (.int ((((ws.map D.int).filter q).length : Nat) : Int))) := fun e q he => by
    refine ev_bi1 (x := .o (.lst ((ws.map D.int).filter q))) ?_ rfl
    refine (ev_lc (x := .z (tupI ws)) (d := tupI ws) (xs := ws.map .int) (i := 1) (ev_seq (x1 rfl) rfl) rfl rfl (lcD_filter q (fun d => d) _ (fun x hx => ?_) fun x hx _ => el_one (gv rfl) rfl) (le_size ?_)).trans ?_
    · obtain ⟨c, hc, rfl⟩ := List.mem_map.mp hx
      show ((ev gl (C (n + 4)) e [sv (plD s ws), sv (.int c)]).bind fun x => (truD x.d).bind fun r => if r then R.ok true else R.ok false) = _
      rw [he c hc]
      show (if q (.int c) then R.ok true else R.ok false) = R.ok (q (.int c))
      cases q (.int c) <;> rfl
    · rw [List.length_map]
      have := List.length_filter_le q (ws.map D.int)
      rw [List.length_map] at this
      omega
    · rw [id_map]
  rw [← tws_cnt p.wd]
  exact ev_bin (part _ pP fun c _ => ev_cmp (x := .z (.int c)) (y := .z (.int 0)) rfl rfl rfl) (part _ pN fun c _ => ev_cmp (x := .z (.int c)) (y := .z (.int 0)) rfl rfl rfl) rfl
/-! ### times_round -/
theorem sort2 (x y a b : Int) : decide (sortI [x, y] = sortI [a, b]) = hit x y a b := by
  show decide ((if x ≤ y then [x, y] else [y, x]) = (if a ≤ b then [a, b] else [b, a])) = _
  unfold hit
  by_cases h : ((if x ≤ y then [x, y] else [y, x]) = (if a ≤ b then [a, b] else [b, a]))
  · rw [decide_eq_true h]
    split at h <;> split at h <;> simp only [List.cons.injEq, and_true] at h <;> obtain ⟨h1, h2⟩ := h <;> subst h1 h2 <;> simp
  · rw [decide_eq_false h]
    by_cases q : (x = a ∧ y = b) ∨ (x = b ∧ y = a)
    · exfalso
      apply h
      rcases q with ⟨rfl, rfl⟩ | ⟨rfl, rfl⟩
      · rfl
      · split <;> split
        · have : x = y := by omega
          subst this; rfl
        · rfl
        · rfl
        · omega
    · cases hh : ((decide (x = a) && decide (y = b)) || (decide (x = b) && decide (y = a))) with
      | false => rfl
      | true =>
        simp only [Bool.or_eq_true, Bool.and_eq_true, decide_eq_true_eq] at hh
        exact absurd hh q
theorem take2 {l : List Int} {k : Nat} (h : k + 1 < l.length) : (l.drop k).take 2 = [at0 l k, at0 l (k + 1)] := by
  rw [at0_get (by omega), at0_get h, List.drop_eq_getElem_cons (by omega), List.drop_eq_getElem_cons h]; rfl
theorem ev_cut2 {cf : Nat → List D → R EV} {env : En} {i a : Nat} {l : List Int} {k : Nat} (ho : env[i]? = some (so (lstI l))) (ha : env[a]? = some (sv (.int (k : Int)))) (h : k + 1 < l.length) :
    ev gl cf (.sl (.var i) (.var a) (.bin .add (.var a) (.c (.int 2)))) env = .ok (.o (lstI [at0 l k, at0 l (k + 1)])) := by
  show ((ev gl cf (.var i) env).bind fun x => ((ev gl cf (.var a) env).bind fun l => partD l.d).bind fun lo => ((ev gl cf (.bin .add (.var a) (.c (.int 2))) env).bind fun h => partD h.d).bind fun hi => slD x.d lo hi) = _
  rw [go ho, R.bind_ok, gv ha, R.bind_ok, ev_bin (gv ha) (y := .z (.int 2)) rfl rfl, R.bind_ok]
  show R.ok (EV.o (.lst (cutD (l.map D.int) (some (k : Int)) (some ((k : Int) + 2))))) = _
  have : cutD (l.map D.int) (some (k : Int)) (some ((k : Int) + 2)) = ([at0 l k, at0 l (k + 1)]).map D.int := by
    unfold cutD
    rw [show (k : Int) + 2 = ((k + 2 : Nat) : Int) by omega, HT.sIx_nat, HT.sIx_nat, List.length_map, Nat.min_eq_left (by omega), Nat.min_eq_left (by omega), show k + 2 - k = 2 by omega, ← List.map_drop, ← List.map_take, take2 h]
  rw [this]
theorem ex_aug {cf : Nat → List D → R EV} {env : En} {i : Nat} {e : E} {a b : Int} (h : env[i]? = some (sv (.int a))) (he : ev gl cf e env = .ok (.z (.int b))) : ex gl cf 100 (.aug i .add e) env = .ok (.nx (setE env i (.v (.int (a + b))))) := by
  show ((gets env i).bind fun x => stE env (ev gl cf e env) fun y => (augD .add x.d y.d).bind fun z => (putS env i (.z z)).bind fun env' => R.ok (Fl.nx env')) = _
  have : gets env i = .ok (.z (.int a)) := gv (cf := cf) h
  rw [this, he]; rfl
theorem if_in {cf : Nat → List D → R EV} {env e' : En} {c : E} {x : EV} {s t r : List S} (h : ev gl cf c env = .ok x) (k : truD x.d = .ok true) (hs : exs gl cf 100 s env = .ok (.nx e')) : exs gl cf 100 (.ite c s t :: r) env = exs gl cf 100 r e' := exs_nx ((ex_ite h k).trans hs)
abbrev trS : List S := [.asg (.n 7) (.bin .sub (.bi .abs [.var 6]) (.c (.int 1))), .ite (.cmp .eq (.bi .sorted [.sl (.var 4) (.var 7) (.bin .add (.var 7) (.c (.int 2)))]) (.bi .sorted [.lst [.var 1, .var 2]])) [.aug 5 .add (.ite (.cmp .gt (.var 6) (.c (.int 0))) (.c (.int 1)) (.neg (.c (.int 1))))] [], swpS 4 7]
theorem tr_loop {cf : Nat → List D → R EV} {P : D} {a b : Int} {z : Option Sl} : ∀ (v : List Int) (l : List Int) (f : Int) (c3 a3 : Option Sl), Prm s l → Wd s v → ∃ c4 a4, forF (.n 6) (fun e => exs gl cf 100 trS e) (v.map .int) [sv P, sv (.int a), sv (.int b), z, so (lstI l), sv (.int f), c3, a3] = .ok (.nx [sv P, sv (.int a), sv (.int b), z, so (lstI (run l v)), sv (.int (f + tr l a b v)), c4, a4])
  | [], l, f, c3, a3, _, _ => ⟨c3, a3, by show _ = R.ok (Fl.nx [_, _, _, _, _, sv (.int (f + 0)), _, _]); rw [Int.add_zero]; rfl⟩
  | c :: r, l, f, c3, a3, p, w => by
    have hk : kc c + 1 < l.length := by rw [p.pf.len]; exact w.k.1
    obtain ⟨c4, a4, ih⟩ := tr_loop (cf := cf) (P := P) (a := a) (b := b) (z := z) r (sw l (kc c)) (f + (if hit (at0 l (kc c)) (at0 l (kc c + 1)) a b then sgn c else 0)) (sv (.int c)) (sv (.int (kc c : Nat))) (p.sw w.k.1) w.tl
    have hf : f + (if hit (at0 l (kc c)) (at0 l (kc c + 1)) a b then sgn c else 0) + tr (sw l (kc c)) a b r = f + tr l a b (c :: r) := by
      show _ = f + ((if hit (at0 l (kc c)) (at0 l (kc c + 1)) a b then sgn c else 0) + tr (sw l (kc c)) a b r)
      omega
    rw [hf] at ih
    refine ⟨c4, a4, (forF_go (e1 := [sv P, sv (.int a), sv (.int b), z, so (lstI l), sv (.int f), sv (.int c), a3]) rfl ?_).trans ih⟩
    refine (asg_z (d := .int (kc c : Nat)) ?_).trans ?_
    · refine (ev_bin (x := .z (.int (c.natAbs : Int))) (y := .z (.int 1)) (ev_bi1 (x := .z (.int c)) rfl (abs_of c)) rfl rfl).trans ?_
      rw [w.k.2]
    have e1 : ev gl cf (.cmp .eq (.bi .sorted [.sl (.var 4) (.var 7) (.bin .add (.var 7) (.c (.int 2)))]) (.bi .sorted [.lst [.var 1, .var 2]])) [sv P, sv (.int a), sv (.int b), z, so (lstI l), sv (.int f), sv (.int c), sv (.int (kc c : Nat))] = .ok (.z (.bl (hit (at0 l (kc c)) (at0 l (kc c + 1)) a b))) := by
      have so1 : ∀ is : List Int, biD .sorted [lstI is] = .ok (.o (lstI (sortI is))) := fun is => by
        show ((R.of (allInt (is.map .int))).bind fun ns => R.ok (EV.o (.lst ((sortI ns).map .int)))) = _
        rw [allInt_map]; rfl
      refine ev_cmp (x := .o (lstI (sortI [at0 l (kc c), at0 l (kc c + 1)]))) (y := .o (lstI (sortI [a, b]))) (ev_bi1 (ev_cut2 rfl rfl hk) (so1 _)) (ev_bi1 (x := .o (lstI [a, b])) (ev_lst (evs_cons (gv rfl) rfl (evs_cons (gv rfl) rfl evs_nil)) (le_size (by simp))) (so1 _)) ?_
      refine (eqD_lst _ _).trans ?_
      rw [sort2]
    have sw1 : ∀ f', ex gl cf 100 (swpS 4 7) [sv P, sv (.int a), sv (.int b), z, so (lstI l), sv (.int f'), sv (.int c), sv (.int (kc c : Nat))] = .ok (.nx [sv P, sv (.int a), sv (.int b), z, so (lstI (sw l (kc c))), sv (.int f'), sv (.int c), sv (.int (kc c : Nat))]) := fun f' => ex_swp (k := kc c) (l := l) rfl rfl hk (fun _ => rfl) rfl
    by_cases h : hit (at0 l (kc c)) (at0 l (kc c + 1)) a b = true
    · rw [h] at e1 ⊢
      rw [if_pos rfl]
      refine (if_in e1 rfl ((exs_nx (ex_aug (a := f) (b := sgn c) rfl ?_)).trans exs_nil)).trans ((exs_nx (sw1 _)).trans rfl)
      refine (ev_ite (x := .z (.bl (decide (0 < c)))) (ev_cmp (x := .z (.int c)) (y := .z (.int 0)) rfl rfl rfl) rfl).trans ?_
      unfold sgn
      by_cases q : 0 < c
      · rw [decide_eq_true q, if_pos rfl, if_pos q]; rfl
      · rw [decide_eq_false q, if_neg (by decide), if_neg q]; rfl
    · have h := Bool.eq_false_iff.mpr h
      rw [h] at e1 ⊢
      rw [if_neg (by decide), Int.add_zero]
      exact (if_f e1 rfl).trans ((exs_nx (sw1 _)).trans rfl)
/-- the strands asked of -/
theorem btw_s {cf : Nat → List D → R EV} (hcf : cf = C (n + 2)) {x : Int} {env : En} (h0 : env[0]? = some (sv (plD s ws))) (h3 : env[3]? = some (sv (.int x))) : ev gl cf (.not (.call 1 [.var 3, .c (.int 0), .bin .sub (.ix (.var 0) (.c (.int 0))) (.c (.int 1))])) env = .ok (.z (.bl (!(decide (0 ≤ x) && decide (x ≤ (s : Int) - 1))))) := by
  subst hcf
  exact ev_not (x := .z (.bl (decide (0 ≤ x) && decide (x ≤ (s : Int) - 1)))) (ev_call (evA_cons (gv h3) (evA_cons (x := .z (.int 0)) rfl (evA_cons (ev_bin (x0 h0) (y := .z (.int 1)) rfl rfl) evA_nil))) rfl (c_btw x 0 ((s : Int) - 1)) (by intro d h; cases h)) rfl
abbrev askS : List S := [.ite (.not (.call 1 [.var 3, .c (.int 0), .bin .sub (.ix (.var 0) (.c (.int 0))) (.c (.int 1))])) [.raise 1] []]
theorem ask_ok {x : Int} (h1 : 0 ≤ x) (h2 : x < s) {e1 e2 e4 e5 e6 e7 : Option Sl} : exs gl (C (n + 2)) 100 askS [sv (plD s ws), e1, e2, sv (.int x), e4, e5, e6, e7] = .ok (.nx [sv (plD s ws), e1, e2, sv (.int x), e4, e5, e6, e7]) := by
  have := btw_s (n := n) (s := s) (ws := ws) rfl (x := x) (env := [sv (plD s ws), e1, e2, sv (.int x), e4, e5, e6, e7]) rfl rfl
  rw [decide_eq_true h1, decide_eq_true (by omega)] at this
  exact (if_f this rfl).trans exs_nil
theorem ask_no {x : Int} (h2 : ¬ x < s) {e1 e2 e4 e5 e6 e7 : Option Sl} : exs gl (C (n + 2)) 100 askS [sv (plD s ws), e1, e2, sv (.int x), e4, e5, e6, e7] = .ok (.ex 1 [] [sv (plD s ws), e1, e2, sv (.int x), e4, e5, e6, e7]) := by
  have := btw_s (n := n) (s := s) (ws := ws) rfl (x := x) (env := [sv (plD s ws), e1, e2, sv (.int x), e4, e5, e6, e7]) rfl rfl
  rw [decide_eq_false (p := x ≤ (s : Int) - 1) (by omega), Bool.and_false] at this
  exact exs_exc ((ex_ite (t := true) this rfl).trans (exs_exc rfl))
theorem c_round (p : Pl s ws) {a b : Int} (ha : 0 ≤ a ∧ a < s) (hb : 0 ≤ b ∧ b < s) (hab : a ≠ b) : C (n + 5) 9 [plD s ws, .int a, .int b] = .ok (.z (.int (tr (idp s) a b ws))) := by
  rw [c_at (d := d9) rfl]
  refine run_ret rfl ((exs_nx (ex_expr (ev_need p rfl))).trans ?_)
  have l1 : ex gl (C (n + 4)) 100 (.for_ (.n 3) (.seq (.tup [.var 1, .var 2])) askS) [sv (plD s ws), sv (.int a), sv (.int b), none, none, none, none, none] = .ok (.nx [sv (plD s ws), sv (.int a), sv (.int b), sv (.int b), none, none, none, none]) := by
    refine (ex_for (x := .z (.tup [.int a, .int b])) (d := .tup [.int a, .int b]) (xs := [.int a, .int b]) rfl rfl rfl).trans ?_
    exact (forF_go rfl (ask_ok (n := n + 2) ha.1 ha.2)).trans ((forF_go rfl (ask_ok (n := n + 2) hb.1 hb.2)).trans rfl)
  refine (exs_nx l1).trans ?_
  refine (if_f (x := .z (.bl false)) (ev_cmp (x := .z (.int a)) (y := .z (.int b)) rfl rfl (by show R.ok (a == b) = _; rw [beq_eq_false_iff_ne.mpr hab])) rfl).trans ?_
  refine (asg_o (d := lstI (idp s)) (first_l p.s4 (x0 rfl))).trans ((asg_z (d := .int 0) rfl).trans ?_)
  obtain ⟨c4, a4, lp⟩ := tr_loop (cf := C (n + 4)) (P := plD s ws) (a := a) (b := b) (z := sv (.int b)) ws (idp s) 0 none none (prm_id p.s2 p.s4) p.wd
  rw [Int.zero_add] at lp
  exact (exs_nx ((ex_for (x := .z (tupI ws)) (d := tupI ws) (xs := ws.map .int) (ev_seq (x1 rfl) rfl) rfl rfl).trans lp)).trans rfl
theorem c_round_same (p : Pl s ws) : C (n + 5) 9 [plD s ws, .int 0, .int 0] = .exc 1 [] := by
  rw [c_at (d := d9) rfl]
  have s2 := p.s2
  refine run_exc (e := [sv (plD s ws), sv (.int 0), sv (.int 0), sv (.int 0), none, none, none, none]) rfl ((exs_nx (ex_expr (ev_need p rfl))).trans ?_)
  have l1 : ex gl (C (n + 4)) 100 (.for_ (.n 3) (.seq (.tup [.var 1, .var 2])) askS) [sv (plD s ws), sv (.int 0), sv (.int 0), none, none, none, none, none] = .ok (.nx [sv (plD s ws), sv (.int 0), sv (.int 0), sv (.int 0), none, none, none, none]) := by
    refine (ex_for (x := .z (.tup [.int 0, .int 0])) (d := .tup [.int 0, .int 0]) (xs := [.int 0, .int 0]) rfl rfl rfl).trans ?_
    exact (forF_go rfl (ask_ok (n := n + 2) (by omega) (by omega))).trans ((forF_go rfl (ask_ok (n := n + 2) (by omega) (by omega))).trans rfl)
  refine (exs_nx l1).trans ?_
  exact exs_exc ((ex_ite (t := true) (x := .z (.bl true)) (ev_cmp (x := .z (.int 0)) (y := .z (.int 0)) rfl rfl rfl) rfl).trans (exs_exc rfl))
theorem c_round_far (p : Pl s ws) : C (n + 5) 9 [plD s ws, .int 0, .int (s : Int)] = .exc 1 [] := by
  rw [c_at (d := d9) rfl]
  have s2 := p.s2
  refine run_exc (e := [sv (plD s ws), sv (.int 0), sv (.int (s : Int)), sv (.int (s : Int)), none, none, none, none]) rfl ((exs_nx (ex_expr (ev_need p rfl))).trans ?_)
  refine exs_exc ((ex_for (x := .z (.tup [.int 0, .int (s : Int)])) (d := .tup [.int 0, .int (s : Int)]) (xs := [.int 0, .int (s : Int)]) rfl rfl rfl).trans ?_)
  refine (forF_go rfl (ask_ok (n := n + 2) (s := s) (ws := ws) (x := 0) (by omega) (by omega))).trans ?_
  have := ask_no (n := n + 2) (s := s) (ws := ws) (x := (s : Int)) (by omega) (e1 := sv (.int 0)) (e2 := sv (.int (s : Int))) (e4 := none) (e5 := none) (e6 := none) (e7 := none)
  show ((R.ok [sv (plD s ws), sv (.int 0), sv (.int (s : Int)), sv (.int (s : Int)), none, none, none, none]).bind fun env1 => (exs gl (C (n + 4)) 100 askS env1).bind fun f => match f with
    | .nx e => forF (.n 3) (fun e => exs gl (C (n + 4)) 100 askS e) [] e
    | .ct e => forF (.n 3) (fun e => exs gl (C (n + 4)) 100 askS e) [] e
    | .bk e => .ok (.nx e)
    | f => .ok f) = _
  rw [R.bind_ok, this]; rfl
theorem c_told {a b : Int} {r : Int} (h : C (n + 5) 9 [plD s ws, .int a, .int b] = .ok (.z (.int r))) : C (n + 6) 20 [plD s ws, .int a, .int b] = .ok (.z (.int r)) := by
  rw [c_at (d := d20) rfl]
  refine run_ret rfl (exs_ret ?_)
  have : exs gl (C (n + 5)) 100 [.ret (.call 9 [.var 0, .var 1, .var 2])] [sv (plD s ws), sv (.int a), sv (.int b), none] = .ok (.ret (.z (.int r))) := ret_z (ev_call (xs := [.z (plD s ws), .z (.int a), .z (.int b)]) rfl rfl h (by intro d h; cases h))
  show ((exs gl (C (n + 5)) 100 [.ret (.call 9 [.var 0, .var 1, .var 2])] [sv (plD s ws), sv (.int a), sv (.int b), none]).bind fun f => match f with
    | .ex c p e => if 3 ≤ c ∨ e.length ≤ 3 then .stk else if subx c 0 then (hnD (.pair (.str "number") 1) c p e).bind fun d => .ok (.ret (.z d)) else .ok (.ex c p e)
    | f => .ok f) = _
  rw [this]; rfl
theorem c_told_x {a b : Int} (h : C (n + 5) 9 [plD s ws, .int a, .int b] = .exc 1 []) : C (n + 6) 20 [plD s ws, .int a, .int b] = .ok (.z (.tup [.str "number", .bl true])) := by
  rw [c_at (d := d20) rfl]
  refine run_ret rfl (exs_ret ?_)
  have e1 : ev gl (C (n + 5)) (.call 9 [.var 0, .var 1, .var 2]) (frzAll [sv (plD s ws), sv (.int a), sv (.int b), none]) = .exc 1 [] := by
    have e : ev gl (C (n + 5)) (.call 9 [.var 0, .var 1, .var 2]) (frzAll [sv (plD s ws), sv (.int a), sv (.int b), none]) = (evA gl (C (n + 5)) [.var 0, .var 1, .var 2] (frzAll [sv (plD s ws), sv (.int a), sv (.int b), none])).bind fun xs => (C (n + 5) 9 (xs.map EV.d)).bind fun r => match r with
        | .b _ => .stk
        | r => if xs.any EV.lent then (if r.d.pure then .ok r else .stk) else .ok r := by unfold ev; rfl
    rw [e]
    show (C (n + 5) 9 [plD s ws, .int a, .int b]).bind _ = _
    rw [h]; rfl
  have : exs gl (C (n + 5)) 100 [.ret (.call 9 [.var 0, .var 1, .var 2])] [sv (plD s ws), sv (.int a), sv (.int b), none] = .ok (.ex 1 [] [sv (plD s ws), sv (.int a), sv (.int b), none]) := by
    refine exs_exc ?_
    show stE [sv (plD s ws), sv (.int a), sv (.int b), none] (ev gl (C (n + 5)) (.call 9 [.var 0, .var 1, .var 2]) (frzAll [sv (plD s ws), sv (.int a), sv (.int b), none])) (fun v => match v with
      | .b _ => .stk
      | v => .ok (.ret v)) = _
    rw [e1]; rfl
  show ((exs gl (C (n + 5)) 100 [.ret (.call 9 [.var 0, .var 1, .var 2])] [sv (plD s ws), sv (.int a), sv (.int b), none]).bind fun f => match f with
    | .ex c p e => if 3 ≤ c ∨ e.length ≤ 3 then .stk else if subx c 0 then (hnD (.pair (.str "number") 1) c p e).bind fun d => .ok (.ret (.z d)) else .ok (.ex c p e)
    | f => .ok f) = _
  rw [this]; rfl
/-! ### the law's count -/
theorem shp_pair (b c : List Int) : (D.lst [tupI b, tupI c]).shp = true := by
  show (PyData.canLayAll0 [.tuple (D.pyL (b.map .int)), .tuple (D.pyL (c.map .int))] && decide (PyData.depth (.list [.tuple (D.pyL (b.map .int)), .tuple (D.pyL (c.map .int))]) ≤ 64)) = true
  have h1 : PyData.canLayAll0 [.tuple (D.pyL (b.map .int)), .tuple (D.pyL (c.map .int))] = true := by
    show (PyData.canLayAll0 (D.pyL (b.map .int)) && (PyData.canLayAll0 (D.pyL (c.map .int)) && true)) = true
    rw [lay_ints, lay_ints]; rfl
  rw [h1, Bool.true_and, decide_eq_true_eq]
  have d1 := depth_ints b
  have d2 := depth_ints c
  show max (PyData.depthAll (D.pyL (b.map .int)) + 1) (max (PyData.depthAll (D.pyL (c.map .int)) + 1) 0) + 1 ≤ 64
  omega
theorem mem_hit (x y a b : Int) : cmpD .mem (tupI [x, y]) (.lst [tupI [a, b], tupI [b, a]]) = .ok (hit x y a b) := by
  show memL (tupI [x, y]) [tupI [a, b], tupI [b, a]] = _
  unfold memL
  rw [shp_tup, shp_pair]
  show R.ok (PyData.eqvAll (D.pyL ([a, b].map .int)) (D.pyL ([x, y].map .int)) || (PyData.eqvAll (D.pyL ([b, a].map .int)) (D.pyL ([x, y].map .int)) || false)) = _
  rw [eqv_ints, eqv_ints, Bool.or_false]
  have h1 : decide ([a, b] = [x, y]) = (decide (x = a) && decide (y = b)) := by
    by_cases p : x = a <;> by_cases q : y = b <;> simp [p, q, eq_comm]
  have h2 : decide ([b, a] = [x, y]) = (decide (x = b) && decide (y = a)) := by
    by_cases p : x = b <;> by_cases q : y = a <;> simp [p, q, eq_comm]
  rw [h1, h2]; rfl
abbrev lrS : List S := [.asg (.n 6) (.bin .sub (.bi .abs [.var 5]) (.c (.int 1))), .ite (.cmp .mem (.tup [.ix (.var 3) (.var 6), .ix (.var 3) (.bin .add (.var 6) (.c (.int 1)))]) (.lst [.tup [.var 1, .var 2], .tup [.var 2, .var 1]])) [.asg (.n 4) (.bin .add (.var 4) (.ix (.lst [.neg (.c (.int 1)), .c (.int 1)]) (.bi .int [.cmp .gt (.var 5) (.c (.int 0))])))] [], swpS 3 6]
theorem lr_loop {cf : Nat → List D → R EV} {P : D} {a b : Int} : ∀ (v : List Int) (l : List Int) (f : Int) (c3 a3 : Option Sl), Prm s l → Wd s v → ∃ c4 a4, forF (.n 5) (fun e => exs gl cf 100 lrS e) (v.map .int) [sv P, sv (.int a), sv (.int b), so (lstI l), sv (.int f), c3, a3] = .ok (.nx [sv P, sv (.int a), sv (.int b), so (lstI (run l v)), sv (.int (f + tr l a b v)), c4, a4])
  | [], l, f, c3, a3, _, _ => ⟨c3, a3, by show _ = R.ok (Fl.nx [_, _, _, _, sv (.int (f + 0)), _, _]); rw [Int.add_zero]; rfl⟩
  | c :: r, l, f, c3, a3, p, w => by
    have hk : kc c + 1 < l.length := by rw [p.pf.len]; exact w.k.1
    obtain ⟨c4, a4, ih⟩ := lr_loop (cf := cf) (P := P) (a := a) (b := b) r (sw l (kc c)) (f + (if hit (at0 l (kc c)) (at0 l (kc c + 1)) a b then sgn c else 0)) (sv (.int c)) (sv (.int (kc c : Nat))) (p.sw w.k.1) w.tl
    have hf : f + (if hit (at0 l (kc c)) (at0 l (kc c + 1)) a b then sgn c else 0) + tr (sw l (kc c)) a b r = f + tr l a b (c :: r) := by
      show _ = f + ((if hit (at0 l (kc c)) (at0 l (kc c + 1)) a b then sgn c else 0) + tr (sw l (kc c)) a b r)
      omega
    rw [hf] at ih
    refine ⟨c4, a4, (forF_go (e1 := [sv P, sv (.int a), sv (.int b), so (lstI l), sv (.int f), sv (.int c), a3]) rfl ?_).trans ih⟩
    refine (asg_z (d := .int (kc c : Nat)) ?_).trans ?_
    · refine (ev_bin (x := .z (.int (c.natAbs : Int))) (y := .z (.int 1)) (ev_bi1 (x := .z (.int c)) rfl (abs_of c)) rfl rfl).trans ?_
      rw [w.k.2]
    have e1 : ev gl cf (.cmp .mem (.tup [.ix (.var 3) (.var 6), .ix (.var 3) (.bin .add (.var 6) (.c (.int 1)))]) (.lst [.tup [.var 1, .var 2], .tup [.var 2, .var 1]])) [sv P, sv (.int a), sv (.int b), so (lstI l), sv (.int f), sv (.int c), sv (.int (kc c : Nat))] = .ok (.z (.bl (hit (at0 l (kc c)) (at0 l (kc c + 1)) a b))) := by
      have t1 : ev gl cf (.tup [.ix (.var 3) (.var 6), .ix (.var 3) (.bin .add (.var 6) (.c (.int 1)))]) [sv P, sv (.int a), sv (.int b), so (lstI l), sv (.int f), sv (.int c), sv (.int (kc c : Nat))] = .ok (.z (tupI [at0 l (kc c), at0 l (kc c + 1)])) :=
        ev_tup (evs_cons (ev_ix (go rfl) (gv rfl) (l_ix (by omega))) rfl (evs_cons (ev_ix (go rfl) (ev_bin (gv rfl) (y := .z (.int 1)) rfl rfl) (by show ixD (lstI l) (.int ((kc c : Int) + 1)) = _; rw [show (kc c : Int) + 1 = ((kc c + 1 : Nat) : Int) by omega]; exact l_ix hk)) rfl evs_nil)) (le_size (by simp))
      have t2 : ev gl cf (.lst [.tup [.var 1, .var 2], .tup [.var 2, .var 1]]) [sv P, sv (.int a), sv (.int b), so (lstI l), sv (.int f), sv (.int c), sv (.int (kc c : Nat))] = .ok (.o (.lst [tupI [a, b], tupI [b, a]])) :=
        ev_lst (evs_cons (ev_tup (evs_cons (gv rfl) rfl (evs_cons (gv rfl) rfl evs_nil)) (le_size (by simp))) rfl (evs_cons (ev_tup (evs_cons (gv rfl) rfl (evs_cons (gv rfl) rfl evs_nil)) (le_size (by simp))) rfl evs_nil)) (le_size (by simp))
      exact ev_cmp t1 t2 (mem_hit _ _ _ _)
    have sw1 : ∀ f', ex gl cf 100 (swpS 3 6) [sv P, sv (.int a), sv (.int b), so (lstI l), sv (.int f'), sv (.int c), sv (.int (kc c : Nat))] = .ok (.nx [sv P, sv (.int a), sv (.int b), so (lstI (sw l (kc c))), sv (.int f'), sv (.int c), sv (.int (kc c : Nat))]) := fun f' => ex_swp (k := kc c) (l := l) rfl rfl hk (fun _ => rfl) rfl
    by_cases h : hit (at0 l (kc c)) (at0 l (kc c + 1)) a b = true
    · rw [h] at e1 ⊢
      rw [if_pos rfl]
      refine (if_in e1 rfl ((asg_z (d := .int (f + sgn c)) (ev_bin (x := .z (.int f)) (gv rfl) (y := .z (.int (sgn c))) ?_ rfl)).trans exs_nil)).trans ((exs_nx (sw1 _)).trans rfl)
      refine ev_ix (x := .o (lstI [-1, 1])) (y := .z (.int (if decide (0 < c) then 1 else 0))) rfl (ev_bi1 (ev_cmp (x := .z (.int c)) (y := .z (.int 0)) rfl rfl rfl) rfl) ?_
      unfold sgn
      by_cases q : 0 < c
      · rw [decide_eq_true q, if_pos rfl, if_pos q]; rfl
      · rw [decide_eq_false q, if_neg (by decide), if_neg q]; rfl
    · have h := Bool.eq_false_iff.mpr h
      rw [h] at e1 ⊢
      rw [if_neg (by decide), Int.add_zero]
      exact (if_f e1 rfl).trans ((exs_nx (sw1 _)).trans rfl)
theorem c_lround (p : Pl s ws) (a b : Int) : C (n + 1) 19 [plD s ws, .int a, .int b] = .ok (.z (.int (tr (idp s) a b ws))) := by
  rw [c_at (d := d19) rfl]
  refine run_ret rfl ?_
  refine (asg_o (d := lstI (idp s)) (first_l p.s4 (x0 rfl))).trans ((asg_z (d := .int 0) rfl).trans ?_)
  obtain ⟨c4, a4, lp⟩ := lr_loop (cf := C n) (P := plD s ws) (a := a) (b := b) ws (idp s) 0 none none (prm_id p.s2 p.s4) p.wd
  rw [Int.zero_add] at lp
  exact (exs_nx ((ex_for (x := .z (tupI ws)) (d := tupI ws) (xs := ws.map .int) (ev_seq (x1 rfl) rfl) rfl rfl).trans lp)).trans rfl
end
end NH.K25
set_option Elab.async false
set_option linter.all false
set_option maxRecDepth 100000
/-! K25q4: plait_again; plaits drawn; what is refused. -/
namespace NH.K25
open PySem L2
variable {n : Nat}
section
variable {s : Nat} {ws : List Int}
/-- the first time, from 0, by which the strands come back, of the first k -/
def fi (s : Nat) (row : List Int) : Nat → Option Nat
  | 0 => none
  | k + 1 => match fi s row k with
    | some a => some a
    | none => if it s row (k + 1) = idp s then some k else none
def fiD : Option Nat → D
  | none => .non
  | some a => .int ((a : Int) + 1)
theorem fi_none {s : Nat} {row : List Int} : ∀ {k : Nat}, fi s row k = none → ∀ j, j < k → it s row (j + 1) ≠ idp s
  | 0, _, j, hj => by omega
  | k + 1, h, j, hj => by
    unfold fi at h
    cases hg : fi s row k with
    | some a => rw [hg] at h; cases h
    | none =>
      rw [hg] at h
      by_cases c : it s row (k + 1) = idp s
      · simp [c] at h
      · by_cases e : j = k
        · subst e; exact c
        · exact fi_none hg j (by omega)
theorem fi_some {s : Nat} {row : List Int} {a : Nat} : ∀ {k : Nat}, fi s row k = some a → a < k ∧ fi s row a = none ∧ it s row (a + 1) = idp s
  | 0, h => by cases h
  | k + 1, h => by
    unfold fi at h
    cases hg : fi s row k with
    | some b =>
      rw [hg] at h; cases h
      obtain ⟨h1, h2, h3⟩ := fi_some hg
      exact ⟨by omega, h2, h3⟩
    | none =>
      rw [hg] at h
      by_cases c : it s row (k + 1) = idp s
      · simp [c] at h
        subst h
        exact ⟨by omega, hg, c⟩
      · simp [c] at h
theorem comp_ev {cf : Nat → List D → R EV} {env : En} {r h p : Nat} {row l : List Int} (hh : env[h]? = some (sv (tupI l))) (hr : ∀ d, (setE (wipeE env [p]) p (.v d))[r]? = some (sv (tupI row))) (hp : ∀ d, (setE (wipeE env [p]) p (.v d))[p]? = some (sv d)) (hb : ∀ x ∈ l, 0 ≤ x ∧ x < row.length) (hl : l.length ≤ 1000) : ev gl cf (.bi .tuple [.lc (.ix (.var r) (.var p)) (.n p) (.seq (.var h)) []]) env = .ok (.z (tupI (comp row l))) := by
  refine ev_bi1 (x := .o (lstI (comp row l))) ?_ rfl
  have e : lstI (comp row l) = .lst ((l.map D.int).map fun x => match x with | .int q => .int (at0 row q.toNat) | d => d) := by
    show D.lst ((comp row l).map .int) = _
    unfold comp
    rw [List.map_map, List.map_map]; rfl
  rw [e]
  refine ev_lc (x := .z (tupI l)) (d := tupI l) (xs := l.map .int) (ev_seq (gv hh) rfl) rfl rfl (lcD_map _ _ (fun x _ => rfl) fun x hx => ?_) (le_size (by rw [List.length_map, List.length_map]; omega))
  obtain ⟨q, hq, rfl⟩ := List.mem_map.mp hx
  obtain ⟨h0, h1⟩ := hb q hq
  refine el_one (x := .z (.int (at0 row q.toNat))) (ev_ix (gv (hr _)) (gv (hp _)) ?_) rfl
  obtain ⟨k, rfl⟩ := Int.eq_ofNat_of_zero_le h0
  exact t_ix (by omega)
theorem it_bd {row : List Int} (p : Prm s row) {k : Nat} (hk : k ≤ 12) : (∀ x ∈ it s row k, 0 ≤ x ∧ x < row.length) ∧ (it s row k).length ≤ 1000 := by
  have q : Prm s (it s row k) := ⟨p.s2, p.s4, p.pf.itm k hk⟩
  have s4 := p.s4
  refine ⟨fun x hx => ?_, by rw [q.pf.len]; omega⟩
  rw [p.pf.len]; exact q.pf.bd x hx
/-- the strand's places, again -/
theorem eq_id {cf : Nat → List D → R EV} {env : En} {i j : Nat} {l : List Int} (hs : s ≤ 4) (h0 : env[i]? = some (sv (plD s ws))) (h1 : env[j]? = some (sv (tupI l))) : ev gl cf (.cmp .eq (.var j) (.rl1 true (.ix (.var i) (.c (.int 0))))) env = .ok (.z (.bl (decide (l = idp s)))) :=
  ev_cmp (gv h1) (first_t hs (x0 h0)) (eqD_tup _ _)
theorem c_again (p : Pl s ws) {t : Nat} (h1 : 1 ≤ t) (h2 : t ≤ 12) : C (n + 5) 10 [plD s ws, .int (t : Int)] = .ok (.z (fiD (fi s (inv s (run (idp s) ws)) t))) := by
  rw [c_at (d := d10) rfl]
  have pr := (prm_id p.s2 p.s4).run p.wd
  have s4 := p.s4
  have q : Prm s (inv s (run (idp s) ws)) := ⟨p.s2, p.s4, pr.pf.invm⟩
  generalize hrow : inv s (run (idp s) ws) = row at q
  refine run_ret rfl ((exs_nx (ex_expr (ev_need p rfl))).trans ?_)
  have b1 := c_btw (n := n + 2) (t : Int) 1 12
  rw [decide_eq_true (by omega), decide_eq_true (by omega)] at b1
  refine (if_f (x := .z (.bl false)) (ev_not (x := .z (.bl true)) (ev_call (xs := [.z (.int (t : Int)), .z (.int 1), .z (.int 12)]) rfl rfl b1 (by intro d h; cases h)) rfl) rfl).trans ?_
  refine (asg_z (d := tupI row) ?_).trans ?_
  · rw [← hrow]
    exact ev_call (xs := [.z (plD s ws)]) rfl rfl (c_endsof (n := n + 3) p) (by intro d h; cases h)
  refine (asg_z (d := tupI (idp s)) (first_t s4 (x0 rfl))).trans ?_
  let P : Nat → En := fun k => [sv (plD s ws), sv (.int (t : Int)), sv (tupI row), sv (tupI (it s row k)), lvar 1 k, none]
  let E1 : Nat → En := fun k => [sv (plD s ws), sv (.int (t : Int)), sv (tupI row), sv (tupI (it s row k)), sv (.int (1 + (k : Int))), none]
  let E2 : Nat → En := fun k => [sv (plD s ws), sv (.int (t : Int)), sv (tupI row), sv (tupI (it s row (k + 1))), sv (.int (1 + (k : Int))), none]
  have asn : ∀ k : Nat, asgT (.n 4) (.int (1 + (k : Int))) (P (0 + k)) = .ok (E1 k) := fun k => by
    rw [Nat.zero_add]
    cases k <;> rfl
  have st1 : ∀ (k : Nat) (r : List S), k < 12 → exs gl (C (n + 4)) 100 (.asg (.n 3) (.bi .tuple [.lc (.ix (.var 2) (.var 5)) (.n 5) (.seq (.var 3)) []]) :: r) (E1 k) = exs gl (C (n + 4)) 100 r (E2 k) := fun k r hk => by
    obtain ⟨bd, ln⟩ := it_bd q (k := k) (by omega)
    exact (asg_z (d := tupI (it s row (k + 1))) (comp_ev (r := 2) (h := 3) (p := 5) (row := row) (l := it s row k) rfl (fun _ => rfl) (fun _ => rfl) bd ln)).trans rfl
  have go1 : ∀ k : Nat, k < 12 → it s row (k + 1) ≠ idp s → exs gl (C (n + 4)) 100 [.asg (.n 3) (.bi .tuple [.lc (.ix (.var 2) (.var 5)) (.n 5) (.seq (.var 3)) []]), .ite (.cmp .eq (.var 3) (.rl1 true (.ix (.var 0) (.c (.int 0))))) [.ret (.var 4)] []] (E1 k) = .ok (.nx (P (0 + k + 1))) := fun k hk hne => by
    have c := eq_id (cf := C (n + 4)) (s := s) (ws := ws) (env := E2 k) (i := 0) (j := 3) (l := it s row (k + 1)) s4 rfl rfl
    rw [decide_eq_false hne] at c
    rw [Nat.zero_add]
    exact (st1 k _ hk).trans ((if_f c rfl).trans rfl)
  have hr := rng2_ok (gl := gl) (cf := C (n + 4)) (env := [sv (plD s ws), sv (.int (t : Int)), sv (tupI row), sv (tupI (idp s)), none, none]) (e := .c (.int 1)) (e' := .bin .add (.var 1) (.c (.int 1))) (s := 1) (t := 1 + (t : Int)) rfl (by
    refine (ev_bin (x := .z (.int (t : Int))) (y := .z (.int 1)) rfl rfl rfl).trans ?_
    rw [Int.add_comm]) (rngOk_le _ _ (by omega) (by omega) (by omega) (by omega))
  cases hg : fi s row t with
  | none =>
    have loop := forF_rng (tg := .n 4) (b := fun e => exs gl (C (n + 4)) 100 [.asg (.n 3) (.bi .tuple [.lc (.ix (.var 2) (.var 5)) (.n 5) (.seq (.var 3)) []]), .ite (.cmp .eq (.var 3) (.rl1 true (.ix (.var 0) (.c (.int 0))))) [.ret (.var 4)] []] e) P t 1 0 (fun k hk => ⟨E1 k, asn k, .inl (go1 k (by omega) (fi_none hg k hk))⟩)
    exact (exs_nx ((ex_for (d := .lst (rngI 1 (1 + (t : Int)))) (xs := rngI 1 (1 + (t : Int))) hr rfl rfl).trans loop)).trans (ret_z rfl)
  | some a =>
    obtain ⟨ha, hn, hlt⟩ := fi_some hg
    have loop := forF_ret (tg := .n 4) (b := fun e => exs gl (C (n + 4)) 100 [.asg (.n 3) (.bi .tuple [.lc (.ix (.var 2) (.var 5)) (.n 5) (.seq (.var 3)) []]), .ite (.cmp .eq (.var 3) (.rl1 true (.ix (.var 0) (.c (.int 0))))) [.ret (.var 4)] []] e) P (v := .z (.int ((a : Int) + 1))) a t 1 0 ha (fun k hk => ⟨E1 k, asn k, go1 k (by omega) (fi_none hn k hk)⟩) (by
      refine ⟨E1 a, asn a, ?_⟩
      have c := eq_id (cf := C (n + 4)) (s := s) (ws := ws) (env := E2 a) (i := 0) (j := 3) (l := it s row (a + 1)) s4 rfl rfl
      rw [decide_eq_true hlt] at c
      refine (st1 a _ (by omega)).trans (if_ret c rfl (exs_ret ?_))
      show R.ok (Fl.ret (.z (.int (1 + (a : Int))))) = _
      rw [Int.add_comm])
    exact exs_ret ((ex_for (d := .lst (rngI 1 (1 + (t : Int)))) (xs := rngI 1 (1 + (t : Int))) hr rfl rfl).trans loop)
/-! ### what is refused -/
def badD : Nat → D
  | 0 => .int 0
  | 1 => .int 13
  | 2 => .non
  | _ => .bl true
theorem btw_bad : ∀ {b : Nat}, b < 4 → C (n + 3) 1 [badD b, .int 1, .int 12] = .ok (.z (.bl false))
  | 0, _ => c_btw (n := n + 1) 0 1 12
  | 1, _ => c_btw (n := n + 1) 13 1 12
  | 2, _ => rfl
  | 3, _ => rfl
theorem again_bad (p : Pl s ws) {b : Nat} (hb : b < 4) : C (n + 5) 10 [plD s ws, badD b] = .exc 1 [] := by
  rw [c_at (d := d10) rfl]
  refine run_exc (e := [sv (plD s ws), sv (badD b), none, none, none, none]) rfl ((exs_nx (ex_expr (ev_need p rfl))).trans ?_)
  exact if_exc (x := .z (.bl true)) (ev_not (x := .z (.bl false)) (ev_call (evA_cons (x := .z (badD b)) (gv rfl) (evA_cons (x := .z (.int 1)) rfl (evA_cons (x := .z (.int 12)) rfl evA_nil))) rfl (btw_bad (n := n + 1) hb) (by intro d h; cases h)) rfl) rfl (exs_exc rfl)
theorem c_refused (p : Pl s ws) {b : Nat} (hb : b < 4) : C (n + 6) 16 [.fn 10, plD s ws, badD b, .str "NoNumber"] = .ok (.z (.bl true)) := by
  rw [c_at (d := d16) rfl]
  refine run_ret rfl (exs_ret (try_x (c := 1) (p := []) (e := [sv (.fn 10), sv (plD s ws), sv (badD b), sv (.str "NoNumber"), none]) (expr_x ?_) (by decide) (show 4 < 5 by decide) rfl rfl))
  exact ev_callv_x (f := 10) (xs := [.z (plD s ws), .z (badD b)]) rfl rfl (again_bad p hb)
/-! ### plaits drawn -/
def letter (ns : List Int) (s : Nat) (k : Nat) : Int :=
  if numI ns (2 + k) / 7 % 2 = 1 then -(1 + numI ns (2 + k) % ((s : Int) - 1)) else 1 + numI ns (2 + k) % ((s : Int) - 1)
def wordL (ns : List Int) (s : Nat) (m : Nat) : List Int := (List.range m).map (letter ns s)
theorem word_succ (ns : List Int) (s m : Nat) : wordL ns s (m + 1) = wordL ns s m ++ [letter ns s m] := by
  unfold wordL
  rw [List.range_succ, List.map_append]; rfl
theorem word_ok (ns : List Int) {s m : Nat} (h2 : 2 ≤ s) (h4 : s ≤ 4) (hm : m ≤ 10) : Pl s (wordL ns s m) where
  s2 := h2
  s4 := h4
  len := by unfold wordL; rw [List.length_map, List.length_range]; exact hm
  wd := fun c hc => by
    unfold wordL at hc
    obtain ⟨k, _, rfl⟩ := List.mem_map.mp hc
    have a := Int.emod_nonneg (numI ns (2 + k)) (show ((s : Int) - 1) ≠ 0 by omega)
    have b := Int.emod_lt_of_pos (numI ns (2 + k)) (show (0 : Int) < (s : Int) - 1 by omega)
    unfold letter
    split <;> omega
theorem num_at {ns : List Int} (hn : ns.length ≤ 63) {env : En} {a b : E} (k : Nat) (hk : k ≤ 1000) (ha : ev gl (C (n + 2)) a env = .ok (.z (.klst (ns.map .int)))) (hb : ev gl (C (n + 2)) b env = .ok (.z (.int (k : Nat)))) : ev gl (C (n + 2)) (.call 14 [a, b]) env = .ok (.z (.int (numI ns k))) :=
  ev_num (gl := gl) (T := T) (wf := 100) (n := n) (iM := 12) (iL := 13) (iN := 14) rfl rfl rfl hn ha hb hk
theorem num_mod {ns : List Int} (hn : ns.length ≤ 63) {env : En} {a b c : E} (k m : Nat) (hk : k ≤ 1000) (hm : 0 < m) (ha : ev gl (C (n + 2)) a env = .ok (.z (.klst (ns.map .int)))) (hb : ev gl (C (n + 2)) b env = .ok (.z (.int (k : Nat)))) (hc : ev gl (C (n + 2)) c env = .ok (.z (.int (m : Nat)))) : ∃ i, i < m ∧ ev gl (C (n + 2)) (.bin .mod (.bi .int [.call 14 [a, b]]) c) env = .ok (.z (.int (i : Nat))) :=
  ev_num_mod (T := T) (wf := 100) (iM := 12) (iL := 13) (iN := 14) rfl rfl rfl hn k m hk hm ha hb hc
theorem c_plait {ns : List Int} (hn : ns.length ≤ 63) : ∃ s ws, Pl s ws ∧ C (n + 3) 17 [.klst (ns.map .int), .int 0, .int 10] = .ok (.z (plD s ws)) := by
  rw [c_at (d := d17) rfl]
  obtain ⟨i, hi, e1⟩ := num_mod (n := n) hn (env := [sv (.klst (ns.map .int)), sv (.int 0), sv (.int 10), none, none, none, none, none]) (a := .var 0) (b := .var 1) (c := .c (.int 3)) 0 3 (by omega) (by omega) (gv rfl) (gv rfl) rfl
  let s := 2 + i
  have hs : ((s : Nat) : Int) = 2 + (i : Int) := by show ((2 + i : Nat) : Int) = _; omega
  obtain ⟨m, hm, e2⟩ := num_mod (n := n) hn (env := [sv (.klst (ns.map .int)), sv (.int 0), sv (.int 10), sv (.int (s : Int)), so (.lst []), none, none, none]) (a := .var 0) (b := .bin .add (.var 1) (.c (.int 1))) (c := .bin .add (.var 2) (.c (.int 1))) 1 11 (by omega) (by omega) (gv rfl) rfl rfl
  refine ⟨s, wordL ns s m, word_ok ns (by omega) (by omega) (by omega), run_ret rfl ?_⟩
  refine (asg_z (d := .int (s : Int)) ?_).trans ((asg_o (d := .lst []) rfl).trans ?_)
  · rw [hs]; exact ev_bin (x := .z (.int 2)) rfl e1 rfl
  let v : Nat → Int := fun k => numI ns (2 + k)
  let P : Nat → En := fun k => [sv (.klst (ns.map .int)), sv (.int 0), sv (.int 10), sv (.int (s : Int)), so (lstI (wordL ns s k)), lvar 0 k, (match k with | 0 => none | k + 1 => sv (.int (v k))), (match k with | 0 => none | k + 1 => sv (.int (letter ns s k)))]
  have loop := forF_rng (tg := .n 5) (b := fun e => exs gl (C (n + 2)) 100 [.asg (.n 6) (.call 14 [.var 0, .bin .add (.bin .add (.var 1) (.c (.int 2))) (.var 5)]), .asg (.n 7) (.bin .add (.c (.int 1)) (.bin .mod (.bi .int [.var 6]) (.bin .sub (.var 3) (.c (.int 1))))), .ite (.cmp .eq (.bin .mod (.bi .int [.bin .fdiv (.var 6) (.c (.int 7))]) (.c (.int 2))) (.c (.int 1))) [.asg (.n 7) (.neg (.var 7))] [], .app 4 (.var 7)] e) P m 0 0 (fun k hk => by
    refine ⟨setE (P k) 5 (.v (.int (0 + (k : Int)))), by rw [Nat.zero_add]; rfl, .inl ?_⟩
    rw [Nat.zero_add]
    have go1 : ∀ z6 z7 : Option Sl, exs gl (C (n + 2)) 100 [.asg (.n 6) (.call 14 [.var 0, .bin .add (.bin .add (.var 1) (.c (.int 2))) (.var 5)]), .asg (.n 7) (.bin .add (.c (.int 1)) (.bin .mod (.bi .int [.var 6]) (.bin .sub (.var 3) (.c (.int 1))))), .ite (.cmp .eq (.bin .mod (.bi .int [.bin .fdiv (.var 6) (.c (.int 7))]) (.c (.int 2))) (.c (.int 1))) [.asg (.n 7) (.neg (.var 7))] [], .app 4 (.var 7)]
        [sv (.klst (ns.map .int)), sv (.int 0), sv (.int 10), sv (.int (s : Int)), so (lstI (wordL ns s k)), sv (.int (0 + (k : Int))), z6, z7] = .ok (.nx (P (k + 1))) := fun z6 z7 => by
      refine (asg_z (d := .int (v k)) (num_at (n := n) hn (2 + k) (by omega) (gv rfl) ?_)).trans ?_
      · refine (ev_bin (x := .z (.int 2)) (y := .z (.int (0 + (k : Int)))) rfl (gv rfl) rfl).trans ?_
        rw [show ((2 + k : Nat) : Int) = 2 + (0 + (k : Int)) by omega]
      refine (asg_z (d := .int (1 + v k % ((s : Int) - 1))) (ev_bin (x := .z (.int 1)) (y := .z (.int (v k % ((s : Int) - 1)))) rfl (ev_modv (v := v k) (m := (s : Int) - 1) rfl (ev_bin (gv rfl) (y := .z (.int 1)) rfl rfl) (by omega)) rfl)).trans ?_
      have c1 : ∀ w, ev gl (C (n + 2)) (.cmp .eq (.bin .mod (.bi .int [.bin .fdiv (.var 6) (.c (.int 7))]) (.c (.int 2))) (.c (.int 1))) [sv (.klst (ns.map .int)), sv (.int 0), sv (.int 10), sv (.int (s : Int)), so (lstI (wordL ns s k)), sv (.int (0 + (k : Int))), sv (.int (v k)), w] = .ok (.z (.bl (v k / 7 % 2 == 1))) := fun w =>
        ev_cmp (ev_modn (v := v k / 7) (ev_bin (x := .z (.int (v k))) (y := .z (.int 7)) rfl rfl rfl) (by decide)) (y := .z (.int 1)) rfl rfl
      have fin : exs gl (C (n + 2)) 100 [.app 4 (.var 7)] [sv (.klst (ns.map .int)), sv (.int 0), sv (.int 10), sv (.int (s : Int)), so (lstI (wordL ns s k)), sv (.int (0 + (k : Int))), sv (.int (v k)), sv (.int (letter ns s k))] = .ok (.nx (P (k + 1))) := by
        refine (exs_nx (ex_app (xs := (wordL ns s k).map .int) (x := .z (.int (letter ns s k))) rfl rfl rfl (lt_size' (by rw [List.length_map]; unfold wordL; rw [List.length_map, List.length_range]; omega)))).trans ?_
        show R.ok (Fl.nx [_, _, _, _, so (.lst ((wordL ns s k).map .int ++ [.int (letter ns s k)])), _, _, _]) = R.ok (Fl.nx [_, _, _, _, so (.lst ((wordL ns s (k + 1)).map .int)), _, _, _])
        rw [word_succ, List.map_append]; rfl
      by_cases h : v k / 7 % 2 = 1
      · have hl : letter ns s k = -(1 + v k % ((s : Int) - 1)) := if_pos h
        have c2 := c1 (sv (.int (1 + v k % ((s : Int) - 1))))
        rw [beq_iff_eq.mpr h] at c2
        refine (if_in c2 rfl ((asg_z (d := .int (letter ns s k)) ?_).trans exs_nil)).trans fin
        rw [hl]
        exact ev_neg (x := .z (.int (1 + v k % ((s : Int) - 1)))) rfl rfl
      · have hl : letter ns s k = 1 + v k % ((s : Int) - 1) := if_neg h
        have c2 := c1 (sv (.int (1 + v k % ((s : Int) - 1))))
        rw [beq_eq_false_iff_ne.mpr h] at c2
        rw [hl] at fin
        exact (if_f c2 rfl).trans fin
    cases k with
    | zero => exact go1 none none
    | succ k => exact go1 _ _)
  have hr := rng1_ok (gl := gl) (cf := C (n + 2)) (t := 0 + (m : Int)) (e := .bin .mod (.bi .int [.call 14 [.var 0, .bin .add (.var 1) (.c (.int 1))]]) (.bin .add (.var 2) (.c (.int 1)))) (env := [sv (.klst (ns.map .int)), sv (.int 0), sv (.int 10), sv (.int (s : Int)), so (.lst []), none, none, none]) (by rw [Int.zero_add]; exact e2) (rngOk_le _ _ (by omega) (by omega) (by omega) (by omega))
  rw [Nat.zero_add] at loop
  refine (exs_nx ((ex_for (d := .lst (rngI 0 (0 + (m : Int)))) (xs := rngI 0 (0 + (m : Int))) hr rfl rfl).trans loop)).trans (ret_z ?_)
  exact ev_tup (evs_cons (gv rfl) rfl (evs_cons (x := .z (tupI (wordL ns s m))) (ev_bi1 (gv rfl) rfl) rfl evs_nil)) (le_size (by simp))
end
end NH.K25
set_option Elab.async false
set_option linter.all false
set_option maxRecDepth 100000
/-! K25p: the plain law of k25. -/
namespace NH.K25
open PySem L2
abbrev EN (L : D) (s1 s2 s3 s4 s5 s6 s7 s8 s9 s10 s11 s12 s13 : Option Sl) : En := [sv L, s1, s2, s3, s4, s5, s6, s7, s8, s9, s10, s11, s12, s13, none]
theorem tr_swp (a b : Int) : ∀ (ws l : List Int), tr l b a ws = tr l a b ws
  | [], _ => rfl
  | c :: r, l => by
    show (if hit (at0 l (kc c)) (at0 l (kc c + 1)) b a then sgn c else 0) + tr (sw l (kc c)) b a r = (if hit (at0 l (kc c)) (at0 l (kc c + 1)) a b then sgn c else 0) + tr (sw l (kc c)) a b r
    rw [hit_swp, tr_swp a b r]
theorem sgn_bd (c : Int) : -1 ≤ sgn c ∧ sgn c ≤ 1 := by unfold sgn; split <;> omega
theorem tr_bd (a b : Int) : ∀ (ws l : List Int), -(ws.length : Int) ≤ tr l a b ws ∧ tr l a b ws ≤ ws.length
  | [], _ => by constructor <;> exact Int.le_refl _
  | c :: r, l => by
    have ih := tr_bd a b r (sw l (kc c))
    have h := sgn_bd c
    show -(((r.length + 1 : Nat) : Int)) ≤ (if hit (at0 l (kc c)) (at0 l (kc c + 1)) a b then sgn c else 0) + tr (sw l (kc c)) a b r ∧ (if hit (at0 l (kc c)) (at0 l (kc c + 1)) a b then sgn c else 0) + tr (sw l (kc c)) a b r ≤ ((r.length + 1 : Nat) : Int)
    split <;> omega
theorem ne_int (x : Int) : cmpD .ne (.int x) (.int x) = .ok false := by
  show R.ok (!(x == x)) = _
  rw [beq_self_eq_true]; rfl
theorem ne_tup_same (a : List Int) : cmpD .ne (tupI a) (tupI a) = .ok false := by
  show ((eqD (tupI a) (tupI a)).bind fun r => R.ok (!r)) = _
  rw [eqD_tup, decide_eq_true rfl]; rfl
theorem cut_lo {xs : List D} {k : Nat} : cutD xs none (some (k : Int)) = xs.take k := by
  unfold cutD
  rw [HT.sIx_none, HT.sIx_nat, List.drop_zero, Nat.sub_zero]
  by_cases h : k ≤ xs.length
  · rw [Nat.min_eq_left h]
  · rw [Nat.min_eq_right (by omega), List.take_of_length_le (Nat.le_refl _), List.take_of_length_le (by omega)]
theorem inv_id {s : Nat} (h2 : 2 ≤ s) (h4 : s ≤ 4) : inv s (idp s) = idp s := by
  have : s = 2 ∨ s = 3 ∨ s = 4 := by omega
  rcases this with rfl | rfl | rfl <;> decide +kernel
theorem allBl_false {α : Type} : ∀ xs : List α, allBl (xs.map fun _ => D.bl false) = some (xs.map fun _ => false)
  | [] => rfl
  | x :: r => by
    show (allBl (r.map fun _ => D.bl false)).map (false :: ·) = _
    rw [allBl_false r]; rfl
theorem bi_any_false {α : Type} (xs : List α) : biD .any [.lst (xs.map fun _ => .bl false)] = .ok (.z (.bl false)) := by
  show ((R.of (allBl (xs.map fun _ => D.bl false))).bind fun bs => R.ok (EV.z (.bl (bs.any id)))) = _
  rw [allBl_false, R.of_some, R.bind_ok]
  have : (xs.map fun _ => false).any id = false := by
    induction xs with
    | nil => rfl
    | cons x r ih => rw [List.map_cons, List.any_cons, ih]; rfl
  rw [this]
section
variable {s : Nat} {ws : List Int}
abbrev inS : List S := [.asg (.n 13) (.call 20 [.var 1, .var 3, .var 11]), .ite (.or [.not (.call 15 [.var 13]), .cmp .ne (.var 13) (.call 19 [.var 1, .var 3, .var 11]), .cmp .ne (.call 20 [.var 1, .var 11, .var 3]) (.var 13)]) [.ret (.c (.bl false))] [], .asg (.n 2) (.bin .add (.var 2) (.var 13))]
abbrev F1 (L : D) (s : Nat) (ws : List Int) (t : Int) (x3 x11 x13 : Option Sl) : En := EN L (sv (plD s ws)) (sv (.int t)) x3 none none none none none none none x11 none x13
theorem in_step (p : Pl s ws) {L : D} {a b t : Int} {x13 : Option Sl} (ha : 0 ≤ a ∧ a < s) (hb : 0 ≤ b ∧ b < s) (hab : a ≠ b) : exs gl (C 11) 100 inS (F1 L s ws t (sv (.int a)) (sv (.int b)) x13) = .ok (.nx (F1 L s ws (t + tr (idp s) a b ws) (sv (.int a)) (sv (.int b)) (sv (.int (tr (idp s) a b ws))))) := by
  have t1 : C 11 20 [plD s ws, .int a, .int b] = .ok (.z (.int (tr (idp s) a b ws))) := c_told (n := 5) (c_round (n := 5) p ha hb hab)
  have t2 : C 11 20 [plD s ws, .int b, .int a] = .ok (.z (.int (tr (idp s) a b ws))) := by
    rw [← tr_swp]
    exact c_told (n := 5) (c_round (n := 5) p hb ha (fun h => hab h.symm))
  have t3 : C 11 19 [plD s ws, .int a, .int b] = .ok (.z (.int (tr (idp s) a b ws))) := c_lround (n := 10) p a b
  refine (asg_z (d := .int (tr (idp s) a b ws)) (ev_call (evA_cons (gv rfl) (evA_cons (gv rfl) (evA_cons (gv rfl) evA_nil))) rfl t1 (by intro d h; cases h))).trans ?_
  generalize tr (idp s) a b ws = r at t1 t2 t3
  have w1 : C 11 15 [.int r] = .ok (.z (.bl true)) := rfl
  have e1 : ev gl (C 11) (.not (.call 15 [.var 13])) (F1 L s ws t (sv (.int a)) (sv (.int b)) (sv (.int r))) = .ok (.z (.bl false)) := ev_not (x := .z (.bl true)) (ev_call (evA_cons (gv rfl) evA_nil) rfl w1 (by intro d h; cases h)) rfl
  have e2 : ev gl (C 11) (.cmp .ne (.var 13) (.call 19 [.var 1, .var 3, .var 11])) (F1 L s ws t (sv (.int a)) (sv (.int b)) (sv (.int r))) = .ok (.z (.bl false)) := ev_cmp (gv rfl) (ev_call (evA_cons (gv rfl) (evA_cons (gv rfl) (evA_cons (gv rfl) evA_nil))) rfl t3 (by intro d h; cases h)) (ne_int _)
  have e3 : ev gl (C 11) (.cmp .ne (.call 20 [.var 1, .var 11, .var 3]) (.var 13)) (F1 L s ws t (sv (.int a)) (sv (.int b)) (sv (.int r))) = .ok (.z (.bl false)) := ev_cmp (ev_call (evA_cons (gv rfl) (evA_cons (gv rfl) (evA_cons (gv rfl) evA_nil))) rfl t2 (by intro d h; cases h)) (gv rfl) (ne_int _)
  exact (if_f (x := .z (.bl false)) ((ev_or_f e1 rfl).trans ((ev_or_f e2 rfl).trans (ev_or_1.trans e3))) rfl).trans ((asg_z (d := .int (t + r)) (ev_bin (x := .z (.int t)) (y := .z (.int r)) (gv rfl) (gv rfl) rfl)).trans rfl)
theorem in_loop (p : Pl s ws) {L : D} {a : Int} (ha : 0 ≤ a ∧ a < s) : ∀ (bs : List Int) (t : Int) (x11 x13 : Option Sl), (∀ b ∈ bs, (0 ≤ b ∧ b < s) ∧ a ≠ b) → ∃ y11 y13, forF (.n 11) (fun e => exs gl (C 11) 100 inS e) (bs.map .int) (F1 L s ws t (sv (.int a)) x11 x13) = .ok (.nx (F1 L s ws (t + (bs.map fun b => tr (idp s) a b ws).sum) (sv (.int a)) y11 y13))
  | [], t, x11, x13, _ => ⟨x11, x13, by show _ = R.ok (Fl.nx (F1 L s ws (t + 0) _ _ _)); rw [Int.add_zero]; rfl⟩
  | b :: r, t, x11, x13, h => by
    obtain ⟨hb, hab⟩ := h b (by simp)
    obtain ⟨y11, y13, ih⟩ := in_loop p (L := L) ha r (t + tr (idp s) a b ws) (sv (.int b)) (sv (.int (tr (idp s) a b ws))) fun c hc => h c (List.mem_cons_of_mem _ hc)
    refine ⟨y11, y13, (forF_go (e1 := F1 L s ws t (sv (.int a)) (sv (.int b)) x13) rfl (in_step p ha hb hab)).trans (ih.trans ?_)⟩
    rw [List.map_cons, List.sum_cons, Int.add_assoc]
abbrev outS : List S := [.for_ (.n 11) (.rng2 (.bin .add (.var 3) (.c (.int 1))) (.ix (.var 1) (.c (.int 0)))) inS]
def rowSum (s : Nat) (ws : List Int) (a : Int) : Int := ((irng (a + 1) s).map fun b => tr (idp s) a b ws).sum
theorem out_loop (p : Pl s ws) {L : D} : ∀ (as : List Int) (t : Int) (x3 x11 x13 : Option Sl), (∀ a ∈ as, 0 ≤ a ∧ a < s) → ∃ y3 y11 y13, forF (.n 3) (fun e => exs gl (C 11) 100 outS e) (as.map .int) (F1 L s ws t x3 x11 x13) = .ok (.nx (F1 L s ws (t + (as.map (rowSum s ws)).sum) y3 y11 y13))
  | [], t, x3, x11, x13, _ => ⟨x3, x11, x13, by show _ = R.ok (Fl.nx (F1 L s ws (t + 0) _ _ _)); rw [Int.add_zero]; rfl⟩
  | a :: r, t, x3, x11, x13, h => by
    have ha := h a (by simp)
    have s4 := p.s4
    obtain ⟨y11, y13, lp⟩ := in_loop p (L := L) ha (irng (a + 1) s) t x11 x13 (fun b hb => by
      unfold irng at hb
      obtain ⟨k, hk, rfl⟩ := List.mem_map.mp hb
      have := List.mem_range.mp hk
      omega)
    rw [← rngI_irng] at lp
    obtain ⟨z3, z11, z13, ih⟩ := out_loop p (L := L) r (t + rowSum s ws a) (sv (.int a)) y11 y13 fun c hc => h c (List.mem_cons_of_mem _ hc)
    refine ⟨z3, z11, z13, (forF_go (e1 := F1 L s ws t (sv (.int a)) x11 x13) rfl ?_).trans (ih.trans ?_)⟩
    · have hr := rng2_ok (gl := gl) (cf := C 11) (env := F1 L s ws t (sv (.int a)) x11 x13) (e := .bin .add (.var 3) (.c (.int 1))) (e' := .ix (.var 1) (.c (.int 0))) (s := a + 1) (t := (s : Int)) (ev_bin (gv rfl) (y := .z (.int 1)) rfl rfl) (x0 rfl) (rngOk_le _ _ (by omega) (by omega) (by omega) (by omega))
      exact (exs_nx ((ex_for (d := .lst (rngI (a + 1) s)) (xs := rngI (a + 1) s) hr rfl rfl).trans lp)).trans rfl
    · rw [List.map_cons, List.sum_cons, Int.add_assoc]
theorem rows_pairs (p : Pl s ws) : ((irng 0 s).map (rowSum s ws)).sum = tws ws := by
  have h := tr_pairs (prm_id p.s2 p.s4) p.wd
  rw [← h]
  have : s = 2 ∨ s = 3 ∨ s = 4 := by have := p.s2; have := p.s4; omega
  rcases this with rfl | rfl | rfl
  · show (tr (idp 2) 0 1 ws + 0) + (0 + 0) = tr (idp 2) 0 1 ws
    omega
  · show (tr (idp 3) 0 1 ws + (tr (idp 3) 0 2 ws + 0)) + ((tr (idp 3) 1 2 ws + 0) + (0 + 0)) = tr (idp 3) 0 1 ws + tr (idp 3) 0 2 ws + tr (idp 3) 1 2 ws
    omega
  · show (tr (idp 4) 0 1 ws + (tr (idp 4) 0 2 ws + (tr (idp 4) 0 3 ws + 0))) + ((tr (idp 4) 1 2 ws + (tr (idp 4) 1 3 ws + 0)) + ((tr (idp 4) 2 3 ws + 0) + (0 + 0))) = tr (idp 4) 0 1 ws + tr (idp 4) 0 2 ws + tr (idp 4) 0 3 ws + tr (idp 4) 1 2 ws + tr (idp 4) 1 3 ws + tr (idp 4) 2 3 ws
    omega
theorem Pl.app {v w : List Int} (p : Pl s v) (q : Pl s w) (h : v.length + w.length ≤ 10) : Pl s (v ++ w) := ⟨p.s2, p.s4, by rw [List.length_append]; exact h, fun c hc => by
  rcases List.mem_append.mp hc with h | h
  · exact p.wd c h
  · exact q.wd c h⟩
theorem Pl.cut (p : Pl s ws) : Pl s (ws.take 5) := ⟨p.s2, p.s4, by rw [List.length_take]; omega, fun c hc => p.wd c (List.mem_of_mem_take hc)⟩
theorem Pl.back (p : Pl s ws) : Pl s (bk ws) := ⟨p.s2, p.s4, by unfold bk; rw [List.length_map, List.length_reverse]; exact p.len, p.wd.bk⟩
theorem bk_len (ws : List Int) : (bk ws).length = ws.length := by unfold bk; rw [List.length_map, List.length_reverse]
theorem add_tup {v w : List Int} (h : v.length + w.length ≤ 1000) : binD .add (tupI v) (tupI w) = .ok (.z (tupI (v ++ w))) := by
  show (if (v.map D.int).length + (w.map D.int).length ≤ sizeLine then R.ok (EV.z (.tup (v.map D.int ++ w.map D.int))) else .stk) = _
  rw [if_pos (le_size (by rw [List.length_map, List.length_map]; exact h)), ← List.map_append]
theorem bk_nil (ws : List Int) (h : ws.length ≤ 5) (p : Pl s ws) : run (idp s) (ws ++ bk ws) = idp s ∧ ∀ a b, tr (idp s) a b (ws ++ bk ws) = 0 := by
  obtain ⟨h1, h2⟩ := run_bk (prm_id p.s2 p.s4) p.wd
  refine ⟨by rw [run_app, h1], fun a b => ?_⟩
  rw [tr_app, h2]; omega
abbrev told0 : D := .tup [.str "number", .bl true]
theorem ne_told : cmpD .ne told0 told0 = .ok false := by kernel_rfl
theorem told_00 (p : Pl s ws) : C 11 20 [plD s ws, .int 0, .int 0] = .ok (.z told0) := c_told_x (n := 5) (c_round_same (n := 5) p)
theorem told_0s (p : Pl s ws) : C 11 20 [plD s ws, .int 0, .int (s : Int)] = .ok (.z told0) := c_told_x (n := 5) (c_round_far (n := 5) p)
/-- times by which the strands come back, told -/
def fiO (s : Nat) (row : List Int) (t : Nat) : D := fiD (fi s row t)
abbrev dueS : List S := [.asg (.n 7) (.bi .tuple [.lc (.ix (.var 6) (.var 14)) (.n 14) (.seq (.var 7)) []]), .ite (.and [.cmp .is (.var 8) (.c (.non)), .cmp .eq (.var 7) (.rl1 true (.ix (.var 1) (.c (.int 0))))]) [.asg (.n 8) (.bin .add (.var 10) (.c (.int 1)))] []]
theorem due_loop {L : D} {row : List Int} (q : Prm s row) {t : Nat} (ht : t ≤ 12) {x2 x3 x4 x5 x9 x11 x12 x13 : Option Sl} :
    forF (.n 10) (fun e => exs gl (C 11) 100 dueS e) (rngI 0 (0 + (t : Int))) (EN L (sv (plD s ws)) x2 x3 x4 x5 (sv (tupI row)) (sv (tupI (idp s))) (sv .non) x9 none x11 x12 x13) = .ok (.nx (EN L (sv (plD s ws)) x2 x3 x4 x5 (sv (tupI row)) (sv (tupI (it s row t))) (sv (fiD (fi s row t))) x9 (lvar 0 t) x11 x12 x13)) := by
  have s4 := q.s4
  let P : Nat → En := fun k => EN L (sv (plD s ws)) x2 x3 x4 x5 (sv (tupI row)) (sv (tupI (it s row k))) (sv (fiD (fi s row k))) x9 (lvar 0 k) x11 x12 x13
  have loop := forF_rng (tg := .n 10) (b := fun e => exs gl (C 11) 100 dueS e) P t 0 0 (fun k hk => by
    refine ⟨EN L (sv (plD s ws)) x2 x3 x4 x5 (sv (tupI row)) (sv (tupI (it s row k))) (sv (fiD (fi s row k))) x9 (sv (.int (0 + (k : Int)))) x11 x12 x13, by rw [Nat.zero_add]; rfl, .inl ?_⟩
    rw [Nat.zero_add]
    obtain ⟨bd, ln⟩ := it_bd q (k := k) (by omega)
    refine (asg_z (d := tupI (it s row (k + 1))) (comp_ev (r := 6) (h := 7) (p := 14) (row := row) (l := it s row k) rfl (fun _ => rfl) (fun _ => rfl) bd ln)).trans ?_
    have c := eq_id (cf := C 11) (s := s) (ws := ws) (env := EN L (sv (plD s ws)) x2 x3 x4 x5 (sv (tupI row)) (sv (tupI (it s row (k + 1)))) (sv (fiD (fi s row k))) x9 (sv (.int (0 + (k : Int)))) x11 x12 x13) (i := 1) (j := 7) (l := it s row (k + 1)) s4 rfl rfl
    show exs gl (C 11) 100 [.ite (.and [.cmp .is (.var 8) (.c (.non)), .cmp .eq (.var 7) (.rl1 true (.ix (.var 1) (.c (.int 0))))]) [.asg (.n 8) (.bin .add (.var 10) (.c (.int 1)))] []] (EN L (sv (plD s ws)) x2 x3 x4 x5 (sv (tupI row)) (sv (tupI (it s row (k + 1)))) (sv (fiD (fi s row k))) x9 (sv (.int (0 + (k : Int)))) x11 x12 x13) = .ok (.nx (EN L (sv (plD s ws)) x2 x3 x4 x5 (sv (tupI row)) (sv (tupI (it s row (k + 1)))) (sv (fiD (fi s row (k + 1)))) x9 (sv (.int (0 + (k : Int)))) x11 x12 x13))
    cases hg : fi s row k with
    | some a =>
      have e : fi s row (k + 1) = some a := by unfold fi; rw [hg]
      rw [e]
      exact (if_f (x := .z (.bl false)) (ev_and_f (by simp) (x := .z (.bl false)) rfl rfl) rfl).trans rfl
    | none =>
      rw [hg] at c
      have e : fi s row (k + 1) = if it s row (k + 1) = idp s then some k else none := by
        show (match fi s row k with
          | some a => some a
          | none => if it s row (k + 1) = idp s then some k else none) = _
        rw [hg]
      by_cases h : it s row (k + 1) = idp s
      · rw [decide_eq_true h] at c
        rw [e, if_pos h]
        refine (if_in ((ev_and_t (x := .z (.bl true)) rfl rfl).trans (ev_and_1.trans c)) rfl ((asg_z (d := .int ((k : Int) + 1)) ?_).trans exs_nil)).trans rfl
        refine (ev_bin (x := .z (.int (0 + (k : Int)))) (y := .z (.int 1)) rfl rfl rfl).trans ?_
        rw [Int.zero_add]
      · rw [decide_eq_false h] at c
        rw [e, if_neg h]
        exact (if_f ((ev_and_t (x := .z (.bl true)) rfl rfl).trans (ev_and_1.trans c)) rfl).trans rfl)
  rw [Nat.zero_add] at loop
  exact loop
theorem ne_due (o : Option Nat) : cmpD .ne (fiD o) (fiD o) = .ok false := by
  cases o with
  | none => rfl
  | some a => exact ne_int _
theorem bad_lst {cf : Nat → List D → R EV} {env : En} : ev gl cf (.lst [.c (.int 0), .c (.int 13), .c (.non), .c (.bl true)]) env = .ok (.o (.lst [badD 0, badD 1, badD 2, badD 3])) := rfl
end
theorem ans : ∀ ns : List Int, ns.length ≤ 63 → callF gl T 100 12 21 [.klst (ns.map .int)] = .ok (.z (.bl true)) := by
  intro ns hn
  rw [callF_at (n := 11) (f := 21) (d := d21) rfl]
  refine run_ret rfl ?_
  generalize hL : D.klst (ns.map .int) = L
  show exs gl (C 11) 100 d21.body (EN L none none none none none none none none none none none none none) = _
  obtain ⟨s, ws, p, hp⟩ := c_plait (n := 8) hn
  rw [hL] at hp
  have s2 := p.s2
  have s4 := p.s4
  have hl := p.len
  refine (asg_z (d := plD s ws) (ev_call (evA_cons (x := .z L) rfl (evA_cons (x := .z (.int 0)) rfl (evA_cons (x := .z (.int 10)) rfl evA_nil))) rfl hp (by intro d h; cases h))).trans ?_
  refine (asg_z (d := .int 0) rfl).trans ?_
  obtain ⟨y3, y11, y13, lp⟩ := out_loop p (L := L) (irng 0 s) 0 none none none (fun a ha => by
    unfold irng at ha
    obtain ⟨k, hk, rfl⟩ := List.mem_map.mp ha
    have := List.mem_range.mp hk
    omega)
  rw [← rngI_irng, rows_pairs p, Int.zero_add] at lp
  have hr := rng1_ok (gl := gl) (cf := C 11) (env := F1 L s ws 0 none none none) (e := .ix (.var 1) (.c (.int 0))) (t := (s : Int)) (x0 rfl) (rngOk_le _ _ (by omega) (by omega) (by omega) (by omega))
  refine (exs_nx ((ex_for (d := .lst (rngI 0 (s : Int))) (xs := rngI 0 (s : Int)) hr rfl rfl).trans lp)).trans ?_
  refine (if_f (x := .z (.bl false)) (ev_cmp (x := .z (.int (tws ws))) (y := .z (.int (tws ws))) rfl (ev_call (xs := [.z (plD s ws)]) rfl rfl (c_twists (n := 6) p) (by intro d h; cases h)) (ne_int _)) rfl).trans ?_
  have pc := p.cut
  generalize hsh : ws.take 5 = sh at pc
  have hsl : sh.length ≤ 5 := by rw [← hsh, List.length_take]; omega
  refine (asg_z (d := plD s sh) ?_).trans ?_
  · refine ev_tup (evs_cons (x0 rfl) rfl (evs_cons (x := .z (tupI sh)) ?_ rfl evs_nil)) (le_size (by simp))
    show ((ev gl (C 11) (.ix (.var 1) (.c (.int 1))) _).bind fun x => (R.ok none).bind fun l => ((ev gl (C 11) (.c (.int 5)) _).bind fun h => partD h.d).bind fun h => slD x.d l h) = _
    rw [x1 rfl]
    show R.ok (EV.z (.tup (cutD (ws.map D.int) none (some ((5 : Nat) : Int))))) = _
    rw [cut_lo, ← List.map_take, hsh]
  have pb := pc.back
  have p2 := pc.app pb (by rw [bk_len]; omega)
  obtain ⟨b1, b2⟩ := bk_nil sh hsl pc
  refine (asg_z (d := plD s (sh ++ bk sh)) ?_).trans ?_
  · refine ev_tup (evs_cons (x0 rfl) rfl (evs_cons (x := .z (tupI (sh ++ bk sh))) ?_ rfl evs_nil)) (le_size (by simp))
    exact ev_bin (x1 rfl) (ev_ix (x := .z (plD s (bk sh))) (y := .z (.int 1)) (d := tupI (bk sh)) (ev_call (xs := [.z (plD s sh)]) rfl rfl (c_back (n := 6) pc) (by intro d h; cases h)) rfl rfl) (add_tup (by rw [bk_len]; omega))
  refine (if_f (x := .z (.bl false)) ?_ rfl).trans ?_
  · refine (ev_or_f (x := .z (.bl false)) ?_ rfl).trans (ev_or_1.trans ?_)
    · have r1 := rng2_ok (gl := gl) (cf := C 11) (env := EN L (sv (plD s ws)) (sv (.int (tws ws))) y3 (sv (plD s sh)) (sv (plD s (sh ++ bk sh))) none none none none none y11 none y13) (e := .c (.int 1)) (e' := .ix (.var 1) (.c (.int 0))) (s := 1) (t := (s : Int)) rfl (x0 rfl) (rngOk_le _ _ (by omega) (by omega) (by omega) (by omega))
      refine ev_bi1 (ev_lc r1 rfl rfl (lcD_map (fun _ => .bl false) _ (fun x _ => rfl) fun x hx => ?_) (le_size ?_)) (bi_any_false _)
      · obtain ⟨k, rfl, hk⟩ := mem_rngI hx
        have t1 := c_told (n := 5) (c_round (n := 5) p2 (a := 0) (b := 1 + (k : Int)) (by omega) (by omega) (by omega))
        rw [b2] at t1
        exact el_one (x := .z (.bl false)) (ev_cmp (x := .z (.int 0)) (y := .z (.int 0)) (ev_call (evA_cons (x := .z (plD s (sh ++ bk sh))) rfl (evA_cons (x := .z (.int 0)) rfl (evA_cons (x := .z (.int (1 + (k : Int)))) rfl evA_nil))) rfl t1 (by intro d h; cases h)) rfl rfl) rfl
      · rw [List.length_map]; unfold rngI; rw [List.length_map, List.length_range]; omega
    · have e1 := c_ends (n := 6) p2
      rw [b1, inv_id s2 s4] at e1
      exact ev_cmp (x := .z (tupI (idp s))) (ev_call (xs := [.z (plD s (sh ++ bk sh))]) rfl rfl e1 (by intro d h; cases h)) (first_t s4 (x0 rfl)) (ne_tup_same _)
  have pr := (prm_id s2 s4).run p.wd
  have q : Prm s (inv s (run (idp s) ws)) := ⟨s2, s4, pr.pf.invm⟩
  have ag := fun t h1 h2 => c_again (n := 6) p (t := t) h1 h2
  have le := c_lends (n := 10) p
  generalize hrow : inv s (run (idp s) ws) = row at q ag le
  refine (asg_z (d := tupI row) (ev_call (xs := [.z (plD s ws)]) rfl rfl le (by intro d h; cases h))).trans ?_
  refine (asg_z (d := tupI (idp s)) (first_t s4 (x0 rfl))).trans ((asg_z (d := .non) rfl).trans ?_)
  obtain ⟨i, hi, e1⟩ := num_mod (n := 9) hn (env := EN L (sv (plD s ws)) (sv (.int (tws ws))) y3 (sv (plD s sh)) (sv (plD s (sh ++ bk sh))) (sv (tupI row)) (sv (tupI (idp s))) (sv .non) none none y11 none y13) (a := .var 0) (b := .c (.int 20)) (c := .c (.int 12)) 20 12 (by omega) (by omega) (by rw [hL]; rfl) rfl rfl
  refine (asg_z (d := .int ((i + 1 : Nat) : Int)) ?_).trans ?_
  · rw [show ((i + 1 : Nat) : Int) = 1 + (i : Int) by omega]
    exact ev_bin (x := .z (.int 1)) rfl e1 rfl
  have hr2 := rng1_ok (gl := gl) (cf := C 11) (env := EN L (sv (plD s ws)) (sv (.int (tws ws))) y3 (sv (plD s sh)) (sv (plD s (sh ++ bk sh))) (sv (tupI row)) (sv (tupI (idp s))) (sv .non) (sv (.int ((i + 1 : Nat) : Int))) none y11 none y13) (e := .var 9) (t := 0 + ((i + 1 : Nat) : Int)) (by rw [Int.zero_add]; rfl) (rngOk_le _ _ (by omega) (by omega) (by omega) (by omega))
  refine (exs_nx ((ex_for (d := .lst (rngI 0 (0 + ((i + 1 : Nat) : Int)))) (xs := rngI 0 (0 + ((i + 1 : Nat) : Int))) hr2 rfl rfl).trans (due_loop (ws := ws) q (by omega)))).trans ?_
  generalize hX : EN L (sv (plD s ws)) (sv (.int (tws ws))) y3 (sv (plD s sh)) (sv (plD s (sh ++ bk sh))) (sv (tupI row)) (sv (tupI (it s row (i + 1)))) (sv (fiD (fi s row (i + 1)))) (sv (.int ((i + 1 : Nat) : Int))) (lvar 0 (i + 1)) y11 none y13 = X
  refine (if_f (x := .z (.bl false)) ?_ rfl).trans ?_
  · rw [← hX]
    refine (ev_or_f (x := .z (.bl false)) (ev_cmp (ev_call (evA_cons (gv rfl) (evA_cons (gv rfl) evA_nil)) rfl (ag (i + 1) (by omega) (by omega)) (by intro d h; cases h)) (gv rfl) (ne_due _)) rfl).trans (ev_or_1.trans ?_)
    by_cases h : i = 11
    · subst h
      refine (ev_and_t (x := .z (.bl true)) rfl rfl).trans (ev_and_1.trans ?_)
      cases hg : fi s row 12 with
      | none => exact absurd q.pf.ord (fi_none hg 11 (by omega))
      | some a => rfl
    · refine ev_and_f (by simp) (x := .z (.bl false)) (ev_cmp (gv rfl) (y := .z (.int 12)) rfl ?_) rfl
      show R.ok (((i + 1 : Nat) : Int) == 12) = _
      rw [beq_eq_false_iff_ne.mpr (by omega)]
  have tw : ∃ z12, exs gl (C 11) 100 (d21.body.drop 13) X = exs gl (C 11) 100 (d21.body.drop 14) (EN L (sv (plD s ws)) (sv (.int (tws ws))) y3 (sv (plD s sh)) (sv (plD s (sh ++ bk sh))) (sv (tupI row)) (sv (tupI (it s row (i + 1)))) (sv (fiD (fi s row (i + 1)))) (sv (.int ((i + 1 : Nat) : Int))) (lvar 0 (i + 1)) y11 z12 y13) := by
    have c := eq_id (cf := C 11) (s := s) (ws := ws) (env := X) (i := 1) (j := 6) (l := row) s4 (by rw [← hX]; rfl) (by rw [← hX]; rfl)
    by_cases h : row = idp s
    · rw [decide_eq_true h] at c
      refine ⟨sv (plD s (sh ++ sh)), if_in c rfl ?_⟩
      rw [← hX]
      refine (asg_z (d := plD s (sh ++ sh)) ?_).trans ?_
      · exact ev_tup (evs_cons (x0 rfl) rfl (evs_cons (x := .z (tupI (sh ++ sh))) (ev_bin (x1 rfl) (x1 rfl) (add_tup (by omega))) rfl evs_nil)) (le_size (by simp))
      refine (if_f (x := .z (.bl false)) ?_ rfl).trans exs_nil
      have ls := c_lends (n := 10) pc
      have e1 : ∀ env : En, env[4]? = some (sv (plD s sh)) → env[6]? = some (sv (tupI row)) → ev gl (C 11) (.cmp .eq (.call 18 [.var 4]) (.var 6)) env = .ok (.z (.bl (decide (inv s (run (idp s) sh) = row)))) := fun env h4 h6 => ev_cmp (ev_call (evA_cons (gv h4) evA_nil) rfl ls (by intro d h; cases h)) (gv h6) (eqD_tup _ _)
      have e1 := e1 (EN L (sv (plD s ws)) (sv (.int (tws ws))) y3 (sv (plD s sh)) (sv (plD s (sh ++ bk sh))) (sv (tupI row)) (sv (tupI (it s row (i + 1)))) (sv (fiD (fi s row (i + 1)))) (sv (.int ((i + 1 : Nat) : Int))) (lvar 0 (i + 1)) y11 (sv (plD s (sh ++ sh))) y13) rfl rfl
      by_cases g : inv s (run (idp s) sh) = row
      · rw [decide_eq_true g] at e1
        refine (ev_and_t e1 rfl).trans (ev_and_1.trans ?_)
        have prs := (prm_id s2 s4).run pc.wd
        have hid : run (idp s) sh = idp s := prs.pf.invid (by rw [g, h])
        have ps := pc.app pc (by omega)
        have t1 := c_told (n := 5) (c_round (n := 5) ps (a := 0) (b := 1) (by omega) (by omega) (by decide))
        rw [tr_app, hid] at t1
        have t2 := c_lround (n := 10) pc 0 1
        have bd := tr_bd 0 1 sh (idp s)
        generalize tr (idp s) 0 1 sh = r at t1 t2 bd
        refine ev_cmp (x := .z (.int (r + r))) (y := .z (.int (r + r))) (ev_call (xs := [.z (plD s (sh ++ sh)), .z (.int 0), .z (.int 1)]) rfl rfl t1 (by intro d h; cases h)) ?_ (ne_int _)
        refine ev_bin (x := .z (.int 2)) (y := .z (.int r)) rfl (ev_call (xs := [.z (plD s sh), .z (.int 0), .z (.int 1)]) rfl rfl t2 (by intro d h; cases h)) ?_
        show (if cmulB 2 r then R.ok (EV.z (.int (2 * r))) else .stk) = _
        rw [cmulR 2 r (by omega), if_pos rfl, Int.two_mul]
      · rw [decide_eq_false g] at e1
        exact ev_and_f (by simp) e1 rfl
    · rw [decide_eq_false h] at c
      refine ⟨none, ?_⟩
      rw [hX]
      exact if_f c rfl
  obtain ⟨z12, tw⟩ := tw
  refine tw.trans ?_
  refine (if_f (x := .z (.bl false)) ?_ rfl).trans ?_
  · refine (ev_or_f (x := .z (.bl false)) (ev_cmp (x := .z told0) (y := .z told0) (ev_call (xs := [.z (plD s ws), .z (.int 0), .z (.int 0)]) rfl rfl (told_00 p) (by intro d h; cases h)) rfl ne_told) rfl).trans (ev_or_1.trans ?_)
    exact ev_cmp (x := .z told0) (y := .z told0) (ev_call (evA_cons (x := .z (plD s ws)) rfl (evA_cons (x := .z (.int 0)) rfl (evA_cons (x0 rfl) evA_nil))) rfl (told_0s p) (by intro d h; cases h)) rfl ne_told
  obtain ⟨b, hb, eb⟩ := num_mod (n := 9) hn (env := frzAll (EN L (sv (plD s ws)) (sv (.int (tws ws))) y3 (sv (plD s sh)) (sv (plD s (sh ++ bk sh))) (sv (tupI row)) (sv (tupI (it s row (i + 1)))) (sv (fiD (fi s row (i + 1)))) (sv (.int ((i + 1 : Nat) : Int))) (lvar 0 (i + 1)) y11 z12 y13)) (a := .var 0) (b := .c (.int 21)) (c := .c (.int 4)) 21 4 (by omega) (by omega) (by rw [hL]; rfl) rfl rfl
  refine ret_z (ev_call (evA_cons (x := .z (.fn 10)) rfl (evA_cons (x := .z (plD s ws)) rfl (evA_cons (ev_ix bad_lst eb (d := badD b) ?_) (evA_cons (x := .z (.str "NoNumber")) rfl evA_nil)))) rfl (c_refused (n := 5) p hb) (by intro d h; cases h))
  match b, hb with
  | 0, _ => rfl
  | 1, _ => rfl
  | 2, _ => rfl
  | 3, _ => rfl
end NH.K25
set_option maxHeartbeats 2000000
namespace NH.K25
open PySem PySem.Spec PyProof.Rows L2
def topS (i : Nat) : Stmt := PySem.Challenge.pw_needlehouse_k25_strands_of_plaits.main.body.getD i (.Pass ⟨0, 0, 0, 0⟩)
theorem ok0 : okD tx d0 (topS 5) = true := by decide +kernel
theorem hb0 : ∀ (kV doc pm : Value) (an : Option Addr) (cdv ct : Value) (us : List Value), us.length = (d0.N.take d0.np).length → bindArgs (PySem.W.fnOf d0.name d0.name (defArgs (topS 5)) (defBody (topS 5)) (defScope (topS 5)) .none kV doc pm an cdv ct) ⟨us, []⟩ = pure ((d0.N.take d0.np).zip us) := fun _ _ _ _ _ _ us hl => match us, hl with | [_], _ => rfl
theorem ok1 : okD tx d1 (topS 6) = true := by decide +kernel
theorem hb1 : ∀ (kV doc pm : Value) (an : Option Addr) (cdv ct : Value) (us : List Value), us.length = (d1.N.take d1.np).length → bindArgs (PySem.W.fnOf d1.name d1.name (defArgs (topS 6)) (defBody (topS 6)) (defScope (topS 6)) .none kV doc pm an cdv ct) ⟨us, []⟩ = pure ((d1.N.take d1.np).zip us) := fun _ _ _ _ _ _ us hl => match us, hl with | [_, _, _], _ => rfl
theorem ok2 : okD tx d2 (topS 7) = true := by decide +kernel
theorem hb2 : ∀ (kV doc pm : Value) (an : Option Addr) (cdv ct : Value) (us : List Value), us.length = (d2.N.take d2.np).length → bindArgs (PySem.W.fnOf d2.name d2.name (defArgs (topS 7)) (defBody (topS 7)) (defScope (topS 7)) .none kV doc pm an cdv ct) ⟨us, []⟩ = pure ((d2.N.take d2.np).zip us) := fun _ _ _ _ _ _ us hl => match us, hl with | [_, _], _ => rfl
theorem ok3 : okD tx d3 (topS 12) = true := by decide +kernel
theorem hb3 : ∀ (kV doc pm : Value) (an : Option Addr) (cdv ct : Value) (us : List Value), us.length = (d3.N.take d3.np).length → bindArgs (PySem.W.fnOf d3.name d3.name (defArgs (topS 12)) (defBody (topS 12)) (defScope (topS 12)) .none kV doc pm an cdv ct) ⟨us, []⟩ = pure ((d3.N.take d3.np).zip us) := fun _ _ _ _ _ _ us hl => match us, hl with | [_], _ => rfl
theorem ok4 : okD tx d4 (topS 13) = true := by decide +kernel
theorem hb4 : ∀ (kV doc pm : Value) (an : Option Addr) (cdv ct : Value) (us : List Value), us.length = (d4.N.take d4.np).length → bindArgs (PySem.W.fnOf d4.name d4.name (defArgs (topS 13)) (defBody (topS 13)) (defScope (topS 13)) .none kV doc pm an cdv ct) ⟨us, []⟩ = pure ((d4.N.take d4.np).zip us) := fun _ _ _ _ _ _ us hl => match us, hl with | [_], _ => rfl
theorem ok5 : okD tx d5 (topS 14) = true := by decide +kernel
theorem hb5 : ∀ (kV doc pm : Value) (an : Option Addr) (cdv ct : Value) (us : List Value), us.length = (d5.N.take d5.np).length → bindArgs (PySem.W.fnOf d5.name d5.name (defArgs (topS 14)) (defBody (topS 14)) (defScope (topS 14)) .none kV doc pm an cdv ct) ⟨us, []⟩ = pure ((d5.N.take d5.np).zip us) := fun _ _ _ _ _ _ us hl => match us, hl with | [_], _ => rfl
theorem ok6 : okD tx d6 (topS 15) = true := by decide +kernel
theorem hb6 : ∀ (kV doc pm : Value) (an : Option Addr) (cdv ct : Value) (us : List Value), us.length = (d6.N.take d6.np).length → bindArgs (PySem.W.fnOf d6.name d6.name (defArgs (topS 15)) (defBody (topS 15)) (defScope (topS 15)) .none kV doc pm an cdv ct) ⟨us, []⟩ = pure ((d6.N.take d6.np).zip us) := fun _ _ _ _ _ _ us hl => match us, hl with | [_], _ => rfl
theorem ok7 : okD tx d7 (topS 16) = true := by decide +kernel
theorem hb7 : ∀ (kV doc pm : Value) (an : Option Addr) (cdv ct : Value) (us : List Value), us.length = (d7.N.take d7.np).length → bindArgs (PySem.W.fnOf d7.name d7.name (defArgs (topS 16)) (defBody (topS 16)) (defScope (topS 16)) .none kV doc pm an cdv ct) ⟨us, []⟩ = pure ((d7.N.take d7.np).zip us) := fun _ _ _ _ _ _ us hl => match us, hl with | [_], _ => rfl
theorem ok8 : okD tx d8 (topS 17) = true := by decide +kernel
theorem hb8 : ∀ (kV doc pm : Value) (an : Option Addr) (cdv ct : Value) (us : List Value), us.length = (d8.N.take d8.np).length → bindArgs (PySem.W.fnOf d8.name d8.name (defArgs (topS 17)) (defBody (topS 17)) (defScope (topS 17)) .none kV doc pm an cdv ct) ⟨us, []⟩ = pure ((d8.N.take d8.np).zip us) := fun _ _ _ _ _ _ us hl => match us, hl with | [_], _ => rfl
theorem ok9 : okD tx d9 (topS 18) = true := by decide +kernel
theorem hb9 : ∀ (kV doc pm : Value) (an : Option Addr) (cdv ct : Value) (us : List Value), us.length = (d9.N.take d9.np).length → bindArgs (PySem.W.fnOf d9.name d9.name (defArgs (topS 18)) (defBody (topS 18)) (defScope (topS 18)) .none kV doc pm an cdv ct) ⟨us, []⟩ = pure ((d9.N.take d9.np).zip us) := fun _ _ _ _ _ _ us hl => match us, hl with | [_, _, _], _ => rfl
theorem ok10 : okD tx d10 (topS 19) = true := by decide +kernel
theorem hb10 : ∀ (kV doc pm : Value) (an : Option Addr) (cdv ct : Value) (us : List Value), us.length = (d10.N.take d10.np).length → bindArgs (PySem.W.fnOf d10.name d10.name (defArgs (topS 19)) (defBody (topS 19)) (defScope (topS 19)) .none kV doc pm an cdv ct) ⟨us, []⟩ = pure ((d10.N.take d10.np).zip us) := fun _ _ _ _ _ _ us hl => match us, hl with | [_, _], _ => rfl
theorem ok11 : okD tx d11 (topS 21) = true := by decide +kernel
theorem lk11 : (C8.scC ["e", "name"] ["e", "name"] (defScope (topS 21)) && mL tx (defScope (topS 21)) lwp (defBody (topS 21))) = true := by decide +kernel
theorem hb11 : ∀ (kV doc pm : Value) (an : Option Addr) (cdv ct : Value) (us : List Value), us.length = (d11.N.take d11.np).length → bindArgs (PySem.W.fnOf d11.name d11.name (defArgs (topS 21)) (defBody (topS 21)) (defScope (topS 21)) .none kV doc pm an cdv ct) ⟨us, []⟩ = pure ((d11.N.take d11.np).zip us) := fun _ _ _ _ _ _ us hl => match us, hl with | [_, _], _ => rfl
theorem ok12 : okD tx d12 (topS 22) = true := by decide +kernel
theorem hb12 : ∀ (kV doc pm : Value) (an : Option Addr) (cdv ct : Value) (us : List Value), us.length = (d12.N.take d12.np).length → bindArgs (PySem.W.fnOf d12.name d12.name (defArgs (topS 22)) (defBody (topS 22)) (defScope (topS 22)) .none kV doc pm an cdv ct) ⟨us, []⟩ = pure ((d12.N.take d12.np).zip us) := fun _ _ _ _ _ _ us hl => match us, hl with | [_, _], _ => rfl
theorem ok13 : okD tx d13 (topS 23) = true := by decide +kernel
theorem hb13 : ∀ (kV doc pm : Value) (an : Option Addr) (cdv ct : Value) (us : List Value), us.length = (d13.N.take d13.np).length → bindArgs (PySem.W.fnOf d13.name d13.name (defArgs (topS 23)) (defBody (topS 23)) (defScope (topS 23)) .none kV doc pm an cdv ct) ⟨us, []⟩ = pure ((d13.N.take d13.np).zip us) := fun _ _ _ _ _ _ us hl => match us, hl with | [_, _], _ => rfl
theorem ok14 : okD tx d14 (topS 24) = true := by decide +kernel
theorem hb14 : ∀ (kV doc pm : Value) (an : Option Addr) (cdv ct : Value) (us : List Value), us.length = (d14.N.take d14.np).length → bindArgs (PySem.W.fnOf d14.name d14.name (defArgs (topS 24)) (defBody (topS 24)) (defScope (topS 24)) .none kV doc pm an cdv ct) ⟨us, []⟩ = pure ((d14.N.take d14.np).zip us) := fun _ _ _ _ _ _ us hl => match us, hl with | [_, _], _ => rfl
theorem ok15 : okD tx d15 (topS 25) = true := by decide +kernel
theorem hb15 : ∀ (kV doc pm : Value) (an : Option Addr) (cdv ct : Value) (us : List Value), us.length = (d15.N.take d15.np).length → bindArgs (PySem.W.fnOf d15.name d15.name (defArgs (topS 25)) (defBody (topS 25)) (defScope (topS 25)) .none kV doc pm an cdv ct) ⟨us, []⟩ = pure ((d15.N.take d15.np).zip us) := fun _ _ _ _ _ _ us hl => match us, hl with | [_], _ => rfl
theorem ok16 : okD tx d16 (topS 26) = true := by decide +kernel
theorem hb16 : ∀ (kV doc pm : Value) (an : Option Addr) (cdv ct : Value) (us : List Value), us.length = (d16.N.take d16.np).length → bindArgs (PySem.W.fnOf d16.name d16.name (defArgs (topS 26)) (defBody (topS 26)) (defScope (topS 26)) .none kV doc pm an cdv ct) ⟨us, []⟩ = pure ((d16.N.take d16.np).zip us) := fun _ _ _ _ _ _ us hl => match us, hl with | [_, _, _, _], _ => rfl
theorem ok17 : okD tx d17 (topS 27) = true := by decide +kernel
theorem hb17 : ∀ (kV doc pm : Value) (an : Option Addr) (cdv ct : Value) (us : List Value), us.length = (d17.N.take d17.np).length → bindArgs (PySem.W.fnOf d17.name d17.name (defArgs (topS 27)) (defBody (topS 27)) (defScope (topS 27)) .none kV doc pm an cdv ct) ⟨us, []⟩ = pure ((d17.N.take d17.np).zip us) := fun _ _ _ _ _ _ us hl => match us, hl with | [_, _, _], _ => rfl
theorem ok18 : okD tx d18 (topS 28) = true := by decide +kernel
theorem hb18 : ∀ (kV doc pm : Value) (an : Option Addr) (cdv ct : Value) (us : List Value), us.length = (d18.N.take d18.np).length → bindArgs (PySem.W.fnOf d18.name d18.name (defArgs (topS 28)) (defBody (topS 28)) (defScope (topS 28)) .none kV doc pm an cdv ct) ⟨us, []⟩ = pure ((d18.N.take d18.np).zip us) := fun _ _ _ _ _ _ us hl => match us, hl with | [_], _ => rfl
theorem ok19 : okD tx d19 (topS 29) = true := by decide +kernel
theorem hb19 : ∀ (kV doc pm : Value) (an : Option Addr) (cdv ct : Value) (us : List Value), us.length = (d19.N.take d19.np).length → bindArgs (PySem.W.fnOf d19.name d19.name (defArgs (topS 29)) (defBody (topS 29)) (defScope (topS 29)) .none kV doc pm an cdv ct) ⟨us, []⟩ = pure ((d19.N.take d19.np).zip us) := fun _ _ _ _ _ _ us hl => match us, hl with | [_, _, _], _ => rfl
theorem ok20 : okD tx d20 (topS 30) = true := by decide +kernel
theorem hb20 : ∀ (kV doc pm : Value) (an : Option Addr) (cdv ct : Value) (us : List Value), us.length = (d20.N.take d20.np).length → bindArgs (PySem.W.fnOf d20.name d20.name (defArgs (topS 30)) (defBody (topS 30)) (defScope (topS 30)) .none kV doc pm an cdv ct) ⟨us, []⟩ = pure ((d20.N.take d20.np).zip us) := fun _ _ _ _ _ _ us hl => match us, hl with | [_, _, _], _ => rfl
theorem ok21 : okD tx d21 (topS 31) = true := by decide +kernel
theorem hb21 : ∀ (kV doc pm : Value) (an : Option Addr) (cdv ct : Value) (us : List Value), us.length = (d21.N.take d21.np).length → bindArgs (PySem.W.fnOf d21.name d21.name (defArgs (topS 31)) (defBody (topS 31)) (defScope (topS 31)) .none kV doc pm an cdv ct) ⟨us, []⟩ = pure ((d21.N.take d21.np).zip us) := fun _ _ _ _ _ _ us hl => match us, hl with | [_], _ => rfl
end NH.K25
open PySem PySem.W PyProof.Rows
set_option maxHeartbeats 0 in
theorem PySem.Challenge.cw_needlehouse_k25_strands_of_plaits_holds : PySem.Challenge.rw_needlehouse_k25_strands_of_plaits.Holds := by
  w_on; o_law; k_head; (case hw => w_witness2)
  k_fill
  refine L2.walk_of (l := PySem.Challenge.rw_needlehouse_k25_strands_of_plaits) (n := 63) (k := 13) (x := "script") (CX := fun w => L2N.CX PySem.Challenge.rw_needlehouse_k25_strands_of_plaits.prog w) (sp := fun w => NH.spL _) rfl (by decide) rfl ⟨rfl, by decide, by decide⟩ (fun w h Y => PySem.W.kIn_of Y) ?F (fun _ _ a ns hl _ hS => ⟨a, ns, rfl, hS, hl, fun _ => rfl⟩) (fun _ _ _ _ _ h => NH.noCX h)
  case F =>
    intro w mg fa h KX G hmg
    have E0 := by
      refine' NH.dfX KX (gn := "is_integer") (nm := "is_integer") (d := NH.K25.d0) rfl rfl NH.K25.ok0 NH.K25.hb0 ?a ?l ?c ?k
      (case a => k_is); (case l => k_is); (case c => k_is); (case k => k_is)
    obtain ⟨f0, D0⟩ := E0
    have E1 := by
      refine' NH.dfX KX (gn := "is_between") (nm := "is_between") (d := NH.K25.d1) rfl rfl NH.K25.ok1 NH.K25.hb1 ?a ?l ?c ?k
      (case a => k_is); (case l => k_is); (case c => k_is); (case k => k_is)
    obtain ⟨f1, D1⟩ := E1
    have E2 := by
      refine' NH.dfX KX (gn := "is_tuple_of") (nm := "is_tuple_of") (d := NH.K25.d2) rfl rfl NH.K25.ok2 NH.K25.hb2 ?a ?l ?c ?k
      (case a => k_is); (case l => k_is); (case c => k_is); (case k => k_is)
    obtain ⟨f2, D2⟩ := E2
    have E3 := by
      refine' NH.dfX KX (gn := "is_plait") (nm := "is_plait") (d := NH.K25.d3) rfl rfl NH.K25.ok3 NH.K25.hb3 ?a ?l ?c ?k
      (case a => k_is); (case l => k_is); (case c => k_is); (case k => k_is)
    obtain ⟨f3, D3⟩ := E3
    have E4 := by
      refine' NH.dfX KX (gn := "need_plait") (nm := "need_plait") (d := NH.K25.d4) rfl rfl NH.K25.ok4 NH.K25.hb4 ?a ?l ?c ?k
      (case a => k_is); (case l => k_is); (case c => k_is); (case k => k_is)
    obtain ⟨f4, D4⟩ := E4
    have E5 := by
      refine' NH.dfX KX (gn := "ends_of") (nm := "ends_of") (d := NH.K25.d5) rfl rfl NH.K25.ok5 NH.K25.hb5 ?a ?l ?c ?k
      (case a => k_is); (case l => k_is); (case c => k_is); (case k => k_is)
    obtain ⟨f5, D5⟩ := E5
    have E6 := by
      refine' NH.dfX KX (gn := "ends") (nm := "ends") (d := NH.K25.d6) rfl rfl NH.K25.ok6 NH.K25.hb6 ?a ?l ?c ?k
      (case a => k_is); (case l => k_is); (case c => k_is); (case k => k_is)
    obtain ⟨f6, D6⟩ := E6
    have E7 := by
      refine' NH.dfX KX (gn := "turned_back") (nm := "turned_back") (d := NH.K25.d7) rfl rfl NH.K25.ok7 NH.K25.hb7 ?a ?l ?c ?k
      (case a => k_is); (case l => k_is); (case c => k_is); (case k => k_is)
    obtain ⟨f7, D7⟩ := E7
    have E8 := by
      refine' NH.dfX KX (gn := "twists") (nm := "twists") (d := NH.K25.d8) rfl rfl NH.K25.ok8 NH.K25.hb8 ?a ?l ?c ?k
      (case a => k_is); (case l => k_is); (case c => k_is); (case k => k_is)
    obtain ⟨f8, D8⟩ := E8
    have E9 := by
      refine' NH.dfX KX (gn := "times_round") (nm := "times_round") (d := NH.K25.d9) rfl rfl NH.K25.ok9 NH.K25.hb9 ?a ?l ?c ?k
      (case a => k_is); (case l => k_is); (case c => k_is); (case k => k_is)
    obtain ⟨f9, D9⟩ := E9
    have E10 := by
      refine' NH.dfX KX (gn := "plait_again") (nm := "plait_again") (d := NH.K25.d10) rfl rfl NH.K25.ok10 NH.K25.hb10 ?a ?l ?c ?k
      (case a => k_is); (case l => k_is); (case c => k_is); (case k => k_is)
    obtain ⟨f10, D10⟩ := E10
    have E11 := by
      refine' NH.dfLX KX (gn := "_law_is") (ps := NH.K25.lwp) (d := NH.K25.d11) rfl rfl NH.K25.ok11 NH.K25.lk11 rfl NH.K25.hb11 ?a ?l ?c ?k
      (case a => k_is); (case l => k_is); (case c => k_is); (case k => k_is)
    obtain ⟨f11, D11, L11⟩ := E11
    have E12 := by
      refine' NH.dfX KX (gn := "_law_mixed") (nm := "_law_mixed") (d := NH.K25.d12) rfl rfl NH.K25.ok12 NH.K25.hb12 ?a ?l ?c ?k
      (case a => k_is); (case l => k_is); (case c => k_is); (case k => k_is)
    obtain ⟨f12, D12⟩ := E12
    have E13 := by
      refine' NH.dfX KX (gn := "_law_left") (nm := "_law_left") (d := NH.K25.d13) rfl rfl NH.K25.ok13 NH.K25.hb13 ?a ?l ?c ?k
      (case a => k_is); (case l => k_is); (case c => k_is); (case k => k_is)
    obtain ⟨f13, D13⟩ := E13
    have E14 := by
      refine' NH.dfX KX (gn := "_law_number") (nm := "_law_number") (d := NH.K25.d14) rfl rfl NH.K25.ok14 NH.K25.hb14 ?a ?l ?c ?k
      (case a => k_is); (case l => k_is); (case c => k_is); (case k => k_is)
    obtain ⟨f14, D14⟩ := E14
    have E15 := by
      refine' NH.dfX KX (gn := "_law_whole") (nm := "_law_whole") (d := NH.K25.d15) rfl rfl NH.K25.ok15 NH.K25.hb15 ?a ?l ?c ?k
      (case a => k_is); (case l => k_is); (case c => k_is); (case k => k_is)
    obtain ⟨f15, D15⟩ := E15
    have E16 := by
      refine' NH.dfX KX (gn := "_law_refused") (nm := "_law_refused") (d := NH.K25.d16) rfl rfl NH.K25.ok16 NH.K25.hb16 ?a ?l ?c ?k
      (case a => k_is); (case l => k_is); (case c => k_is); (case k => k_is)
    obtain ⟨f16, D16⟩ := E16
    have E17 := by
      refine' NH.dfX KX (gn := "_law_plait") (nm := "_law_plait") (d := NH.K25.d17) rfl rfl NH.K25.ok17 NH.K25.hb17 ?a ?l ?c ?k
      (case a => k_is); (case l => k_is); (case c => k_is); (case k => k_is)
    obtain ⟨f17, D17⟩ := E17
    have E18 := by
      refine' NH.dfX KX (gn := "_law_ends") (nm := "_law_ends") (d := NH.K25.d18) rfl rfl NH.K25.ok18 NH.K25.hb18 ?a ?l ?c ?k
      (case a => k_is); (case l => k_is); (case c => k_is); (case k => k_is)
    obtain ⟨f18, D18⟩ := E18
    have E19 := by
      refine' NH.dfX KX (gn := "_law_round") (nm := "_law_round") (d := NH.K25.d19) rfl rfl NH.K25.ok19 NH.K25.hb19 ?a ?l ?c ?k
      (case a => k_is); (case l => k_is); (case c => k_is); (case k => k_is)
    obtain ⟨f19, D19⟩ := E19
    have E20 := by
      refine' NH.dfX KX (gn := "_law_told") (nm := "_law_told") (d := NH.K25.d20) rfl rfl NH.K25.ok20 NH.K25.hb20 ?a ?l ?c ?k
      (case a => k_is); (case l => k_is); (case c => k_is); (case k => k_is)
    obtain ⟨f20, D20⟩ := E20
    have E21 := by
      refine' NH.dfX KX (gn := "law") (nm := "law") (d := NH.K25.d21) rfl rfl NH.K25.ok21 NH.K25.hb21 ?a ?l ?c ?k
      (case a => k_is); (case l => k_is); (case c => k_is); (case k => k_is)
    obtain ⟨f21, D21⟩ := E21
    have G0 := by (refine' NH.cfI KX (x := "FEWEST_STRANDS") (i := 2) ?a; (case a => k_is))
    have G1 := by (refine' NH.cfI KX (x := "MOST_STRANDS") (i := 4) ?a; (case a => k_is))
    have G2 := by (refine' NH.cfI KX (x := "MOST_CROSSINGS") (i := 10) ?a; (case a => k_is))
    obtain ⟨C0, C1, C2, X0, X1, X2, P0_0, P0_1, P0_2, P1_0, P1_1, P1_2, P2_0, P2_1, P2_2⟩ : ∃ C0 C1 C2 : Addr, NH.XFx KX "NeedleError" C0 ∧ NH.XFx KX "NoNumber" C1 ∧ NH.XFx KX "NoPlait" C2 ∧ NH.XPx KX C0 C0 true ∧ NH.XPx KX C0 C1 false ∧ NH.XPx KX C0 C2 false ∧ NH.XPx KX C1 C0 true ∧ NH.XPx KX C1 C1 true ∧ NH.XPx KX C1 C2 false ∧ NH.XPx KX C2 C0 true ∧ NH.XPx KX C2 C1 false ∧ NH.XPx KX C2 C2 true := by
      refine' ⟨_, _, _, ⟨?a0_0, ?a0_1, ?a0_2, ?a0_3, ?a0_4, ⟨?a0_5, ?a0_6, ?a0_7, ?a0_8, ?a0_9, ?a0_10, ?a0_11, ?a0_12⟩⟩, ⟨?a1_0, ?a1_1, ?a1_2, ?a1_3, ?a1_4, ⟨?a1_5, ?a1_6, ?a1_7, ?a1_8, ?a1_9, ?a1_10, ?a1_11, ?a1_12⟩⟩, ⟨?a2_0, ?a2_1, ?a2_2, ?a2_3, ?a2_4, ⟨?a2_5, ?a2_6, ?a2_7, ?a2_8, ?a2_9, ?a2_10, ?a2_11, ?a2_12⟩⟩, ⟨?s0_0⟩, ⟨?s0_1⟩, ⟨?s0_2⟩, ⟨?s1_0⟩, ⟨?s1_1⟩, ⟨?s1_2⟩, ⟨?s2_0⟩, ⟨?s2_1⟩, ⟨?s2_2⟩⟩
      (case a0_0 => k_is)
      (case a0_1 => k_is)
      (case a0_2 => k_exc)
      (case a0_3 => k_is)
      (case a0_4 => k_is)
      (case a0_5 => k_is)
      (case a0_6 => k_is)
      (case a0_7 => k_is)
      (case a0_8 => k_is)
      (case a0_9 => k_is)
      (case a0_10 => k_is)
      (case a0_11 => k_is)
      (case a0_12 => k_is)
      (case a1_0 => k_is)
      (case a1_1 => k_is)
      (case a1_2 => k_exc)
      (case a1_3 => k_is)
      (case a1_4 => k_is)
      (case a1_5 => k_is)
      (case a1_6 => k_is)
      (case a1_7 => k_is)
      (case a1_8 => k_is)
      (case a1_9 => k_is)
      (case a1_10 => k_is)
      (case a1_11 => k_is)
      (case a1_12 => k_is)
      (case a2_0 => k_is)
      (case a2_1 => k_is)
      (case a2_2 => k_exc)
      (case a2_3 => k_is)
      (case a2_4 => k_is)
      (case a2_5 => k_is)
      (case a2_6 => k_is)
      (case a2_7 => k_is)
      (case a2_8 => k_is)
      (case a2_9 => k_is)
      (case a2_10 => k_is)
      (case a2_11 => k_is)
      (case a2_12 => k_is)
      (case s0_0 => k_is)
      (case s0_1 => k_is)
      (case s0_2 => k_is)
      (case s1_0 => k_is)
      (case s1_1 => k_is)
      (case s1_2 => k_is)
      (case s2_0 => k_is)
      (case s2_1 => k_is)
      (case s2_2 => k_is)
    have B0 := by (refine' NH.btX KX (x := "len") ?a; (case a => k_is))
    have B1 := by (refine' NH.btX KX (x := "abs") ?a; (case a => k_is))
    have B2 := by (refine' NH.btX KX (x := "max") ?a; (case a => k_is))
    have B3 := by (refine' NH.btX KX (x := "min") ?a; (case a => k_is))
    have B4 := by (refine' NH.btX KX (x := "sum") ?a; (case a => k_is))
    have B5 := by (refine' NH.btX KX (x := "sorted") ?a; (case a => k_is))
    have B6 := by (refine' NH.btX KX (x := "all") ?a; (case a => k_is))
    have B7 := by (refine' NH.btX KX (x := "any") ?a; (case a => k_is))
    have B8 := by (refine' NH.btX KX (x := "tuple") ?a; (case a => k_is))
    have B9 := by (refine' NH.btX KX (x := "list") ?a; (case a => k_is))
    have B10 := by (refine' NH.btX KX (x := "int") ?a; (case a => k_is))
    have B11 := by (refine' NH.btX KX (x := "str") ?a; (case a => k_is))
    have B12 := by (refine' NH.btX KX (x := "dict") ?a; (case a => k_is))
    have B13 := by (refine' NH.btX KX (x := "isinstance") ?a; (case a => k_is))
    have B14 := by (refine' NH.btX KX (x := "bool") ?a; (case a => k_is))
    have B15 := by (refine' NH.btX KX (x := "range") ?a; (case a => k_is))
    have B16 := by (refine' NH.btX KX (x := "enumerate") ?a; (case a => k_is))
    have B17 := by (refine' NH.btX KX (x := "zip") ?a; (case a => k_is))
    have B18 := by (refine' NH.btX KX (x := "set") ?a; (case a => k_is))
    have B19 := by (refine' NH.btX KX (x := "reversed") ?a; (case a => k_is))
    have M : NH.Top1x KX NH.K25.gl NH.K25.tx NH.K25.T [f0, f1, f2, f3, f4, f5, f6, f7, f8, f9, f10, f11, f12, f13, f14, f15, f16, f17, f18, f19, f20, f21] [C0, C1, C2] := by
      refine ⟨rfl, rfl, ?df, ?gl, ?xs, ?xp, ?lw, ?bt⟩
      case df =>
        intro i x hx
        have hi : i < 22 := (List.getElem?_eq_some_iff.mp hx).1
        match i, hi, hx with
        | 0, _, hx => cases hx; exact D0
        | 1, _, hx => cases hx; exact D1
        | 2, _, hx => cases hx; exact D2
        | 3, _, hx => cases hx; exact D3
        | 4, _, hx => cases hx; exact D4
        | 5, _, hx => cases hx; exact D5
        | 6, _, hx => cases hx; exact D6
        | 7, _, hx => cases hx; exact D7
        | 8, _, hx => cases hx; exact D8
        | 9, _, hx => cases hx; exact D9
        | 10, _, hx => cases hx; exact D10
        | 11, _, hx => cases hx; exact D11
        | 12, _, hx => cases hx; exact D12
        | 13, _, hx => cases hx; exact D13
        | 14, _, hx => cases hx; exact D14
        | 15, _, hx => cases hx; exact D15
        | 16, _, hx => cases hx; exact D16
        | 17, _, hx => cases hx; exact D17
        | 18, _, hx => cases hx; exact D18
        | 19, _, hx => cases hx; exact D19
        | 20, _, hx => cases hx; exact D20
        | 21, _, hx => cases hx; exact D21
      case gl =>
        intro i x hx
        have hi : i < 3 := (List.getElem?_eq_some_iff.mp hx).1
        match i, hi, hx with
        | 0, _, hx => cases hx; exact ⟨_, rfl, G0⟩
        | 1, _, hx => cases hx; exact ⟨_, rfl, G1⟩
        | 2, _, hx => cases hx; exact ⟨_, rfl, G2⟩
      case xs =>
        intro i x hx
        have hi : i < 3 := (List.getElem?_eq_some_iff.mp hx).1
        match i, hi, hx with
        | 0, _, hx => cases hx; exact X0
        | 1, _, hx => cases hx; exact X1
        | 2, _, hx => cases hx; exact X2
      case xp =>
        intro i j x y hx hy
        have hi : i < 3 := (List.getElem?_eq_some_iff.mp hx).1
        have hj : j < 3 := (List.getElem?_eq_some_iff.mp hy).1
        match i, hi, j, hj with
        | 0, _, 0, _ => exact P0_0
        | 0, _, 1, _ => exact P0_1
        | 0, _, 2, _ => exact P0_2
        | 1, _, 0, _ => exact P1_0
        | 1, _, 1, _ => exact P1_1
        | 1, _, 2, _ => exact P1_2
        | 2, _, 0, _ => exact P2_0
        | 2, _, 1, _ => exact P2_1
        | 2, _, 2, _ => exact P2_2
      case lw =>
        intro f ps h
        have h2 : List.lookup f [(11, NH.K25.lwp)] = some ps := h
        rw [List.lookup_cons] at h2
        by_cases e : (f == 11) = true
        · rw [e] at h2; cases h2; have e2 : f = 11 := (by simpa using e); subst e2; exact ⟨_, rfl, L11⟩
        · rw [Bool.not_eq_true] at e; rw [e] at h2; cases h2
      case bt =>
        intro x hx
        simp only [NH.btN, List.mem_cons, List.not_mem_nil, or_false] at hx
        rcases hx with rfl | rfl | rfl | rfl | rfl | rfl | rfl | rfl | rfl | rfl | rfl | rfl | rfl | rfl | rfl | rfl | rfl | rfl | rfl | rfl
        · exact B0
        · exact B1
        · exact B2
        · exact B3
        · exact B4
        · exact B5
        · exact B6
        · exact B7
        · exact B8
        · exact B9
        · exact B10
        · exact B11
        · exact B12
        · exact B13
        · exact B14
        · exact B15
        · exact B16
        · exact B17
        · exact B18
        · exact B19
    exact NH.law_all 100 12 KX G hmg M 21 NH.K25.d21 rfl rfl rfl rfl NH.K25.ans
