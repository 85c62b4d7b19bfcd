import PyProof.Rows.All
import Wide.All
import OpenK.AllK
import Wide.FinOn
import HandS.ForMost
import HandS.Walk
import HandS.Strs
import HandS.SetFor
import HandS.Style
import HandS.IsInst
import HandS.Codes
import HandS.Wide
import HandS.OwnEq
import HandS.Zip
import KE.GoesEnum
import PyProof.ReprRoads
import PySem.Challenge.RW_exactbeats_k02_whole_cells_of_arrivals
set_option Elab.async false
set_option linter.all false
set_option maxRecDepth 100000
set_option maxHeartbeats 4000000
/-! Rules of my own over the hand layer: enumerate of a tuple, set of a list of ints, repr of data, != by an own ==. -/
namespace Xb
open PySem PySem.Spec PyProof.Rows L2
/-! ### enumerate(t), t a tuple -/
section
variable {prog : Program} {w : World} {A : Around} {E : Value → Shared → Prop} {s : Shared}
abbrev enumObj (it : Addr) : Obj := { cls := .type "enumerate", data := .fields #[.none, .bool false, .ref it, rawInt 0, .none, .none] }
theorem enum_new {v : Value} {o : Obj} {G : Heap → Prop} (B : Begins v o G) :
    Meets (Builtin.«enumerate.__new__» ⟨[.type "enumerate", v], []⟩) (fun _ R s => G s.heap ∧
      R (.ok (.ret (.ref (s.heap.push o).objs.size))) { s with heap := (s.heap.push o).push (enumObj s.heap.objs.size) }) :=
  .of_wp fun prog w A R s h => by
    obtain ⟨hp, gs, dr, tk, os⟩ := s
    obtain ⟨hG, h⟩ := h
    have hsub := sub_enumerate
    have begun : ∀ {A' : Around} {E : Value → Shared → Prop} {Q : Value → Shared → Prop},
        Q (.ref hp.objs.size) ⟨hp.push o, gs, dr, tk, os⟩ → wpAny (model prog w) A' (pyIter v) Q E ⟨hp, gs, dr, tk, os⟩ :=
      fun q => B.iter prog w _ _ ⟨hp, gs, dr, tk, os⟩ _ hG q
    wp_walk using begun
    refine wpAny_stack_any (fun st => wpAny_pure ?_)
    split
    · rename_i c _ _ _ _ _
      cases (c == Value.type "enumerate") <;> (wp_walk using begun; exact ⟨_, rfl, h⟩)
    · wp_walk using begun
      exact ⟨_, rfl, h⟩
theorem enum_call {v : Value} {o : Obj} {G : Heap → Prop} {Q : Value → Shared → Prop} (B : Begins v o G) (hG : G s.heap)
    (h : ∀ h', IsEnum h' (s.heap.objs.size + 1) s.heap.objs.size 0 .none → h'.get? s.heap.objs.size = some o →
      (∀ b u, s.heap.get? b = some u → h'.get? b = some u) → Q (.ref (s.heap.objs.size + 1)) { s with heap := h' }) :
    wpAny (model prog w) A (call (.type "enumerate") [v]) Q E s := by
  refine callType_new F.called_enumerate (by decide) (F.typeCall_enumerate_1 _) (F.newCall_enumerate_1 _) (fun obj => F.args_object_init_2 obj _) F.entry_enumerate_new (enum_new B) ⟨hG, ?_⟩
  have hz : (s.heap.push o).objs.size = s.heap.objs.size + 1 := Heap.size_push ..
  rw [hz]
  have he : IsEnum ((s.heap.push o).push (enumObj s.heap.objs.size)) (s.heap.objs.size + 1) s.heap.objs.size 0 .none := by
    have q := Heap.get?_push_size (s.heap.push o) (o := enumObj s.heap.objs.size) rfl
    rw [hz] at q
    exact q
  exact ⟨⟨_, he, rfl⟩, h _ he (Heap.get?_push_of_some _ (Heap.get?_push_size _ B.free)) fun b u x => Heap.get?_push_of_some _ (Heap.get?_push_of_some _ x)⟩
end
/-- the tuple at a, each item in a new pair with its place -/
def ItE (K : PySem.W.Frag) (a : Addr) : It where
  go := fun i H => ∃ (xs : List V) (x : V), SqT K H a xs ∧ xs[i]? = some x
  yld := fun i H v H' => ∃ T x, v = .ref T ∧ H T = none ∧ H' = upd H T (.tup [.int (i : Nat), x]) ∧ ∀ xs, SqT K H a xs → xs[i]? = some x
  stop := fun i H => ∃ xs : List V, SqT K H a xs ∧ i = xs.length
theorem turn_enumT {P : Program} {w : World} {K : PySem.W.Frag} {elts : List Expr} {kk : Nat} {tpos : Pos} (a e it : Addr) (hae : a ≠ e) (hai : a ≠ it) (hei : e ≠ it) :
    Turn P w K (.Tuple elts kk tpos) (ItE K a) [e, it] e (fun i h => (∃ old, IsEnum h e it ((i : Nat) : Int) old) ∧ h.IsTupleIter it a i) where
  mem := by simp
  obj := fun i h st b hb => by
    obtain ⟨⟨old, he⟩, o, ho, hc, hd⟩ := st
    rcases (show b = e ∨ b = it by simpa using hb) with z | z
    · rw [z]; exact ⟨_, he, fun v q => nomatch q⟩
    · rw [z]; exact ⟨o, ho, fun v q => by rw [hd] at q; cases q⟩
  keep := fun i h h' st k => ⟨⟨st.1.choose, k e (by simp) _ st.1.choose_spec⟩, st.2.at fun o q => k it (by simp) o q⟩
  item := by
    intro X hP hw hK hc i pins s σ H E I hf st hg
    subst hP hw hK
    obtain ⟨⟨old, he⟩, hit⟩ := st
    obtain ⟨xs, x, hq, hx⟩ := hg
    obtain ⟨its, rv, p, hz⟩ := I.tuple hq
    obtain ⟨u, hu, ru⟩ := rv.get hx
    have hel : e < s.heap.objs.size := Heap.lt_size he
    have hil : it < s.heap.objs.size := by obtain ⟨_, q, _⟩ := hit; exact Heap.lt_size q
    have hh : X.A.in1.handled = none := I.ok.hd hc
    have D := Draws.tuple (prog := X.prog) (w := X.w) hh it a hai its.toArray
    have hlt : i < its.toArray.size := by
      have := (List.getElem?_eq_some_iff.mp hu).1
      simpa using this
    refine wpAny_pyNext_enum_itemD D he ⟨hit, p⟩ hlt hei (by simp [hei, Ne.symm hae]) fun y h' tk hy ho hst hT hsz hk => ?_
    have ey : y = u := by
      have q : its[i]? = some y := by simpa using hy
      rw [hu] at q
      exact (Option.some.inj q).symm
    subst ey
    refine ⟨_, rfl, wpAny_letOwnedTupleGo_enum (s := { s with heap := h', toks := tk + 1 }) ho fun h2 he2 sb => ?_⟩
    have hT2 : h2.get? s.heap.objs.size = some { cls := .type "tuple", data := .seq #[.int i tk, y] } := (sb.2 _ (Nat.ne_of_gt hel)).trans hT
    have fresh : ObjOk X.prog X.w (upd H s.heap.objs.size (.tup [.int (i : Nat), x])) h2 s.heap.objs.size (.tup [.int (i : Nat), x]) :=
      ⟨by show 2 ≤ sizeLine; decide, [.int i tk, y], .cons ⟨_, rfl⟩ (.cons ru .nil), ⟨_, hT2, rfl, _, rfl⟩⟩
    have I1 : Inv X pins σ (upd H s.heap.objs.size (.tup [.int (i : Nat), x])) { s with heap := h2, toks := tk + 1 } :=
      I.turnedNew (ch := [e, it]) (fun b ob hb q => (sb.2 b (fun z => hb (by simp [z]))).trans (hk b ob (fun z => hb (by simp [z])) (fun z => hb (by simp [z])) q)) hf (Nat.le_refl _) fresh
    refine ⟨.ref s.heap.objs.size, _, I1, rfl, ⟨_, x, rfl, I.hok.fresh (Nat.le_refl _), rfl, fun ys hy => by rw [I.tuple_inj hy hq]; exact hx⟩, ⟨⟨y, ?_⟩, hst.1.at fun o q => (sb.2 it (Ne.symm hei)).trans q⟩, fun b hb => ?_⟩
    · have e1 : ((i + 1 : Nat) : Int) = (i : Int) + 1 := by omega
      rw [e1]
      exact he2
    · have hb' : b < s.heap.objs.size := by
        rcases (show b = e ∨ b = it by simpa using hb) with z | z
        · rw [z]; exact hel
        · rw [z]; exact hil
      rw [upd_ne (Nat.ne_of_lt hb')]
      exact (hf b hb).1
  done := by
    intro X hP hw hK hc i pins s σ H E I hf st hg
    subst hP hw hK
    obtain ⟨⟨old, he⟩, hit⟩ := st
    obtain ⟨xs, hq, hx⟩ := hg
    subst hx
    obtain ⟨its, rv, p, hz⟩ := I.tuple hq
    obtain ⟨f0, f1, f2, f3, f4, f5⟩ := hf it (by simp)
    have hl : xs.length = its.toArray.size := by rw [rv.length]; simp
    have hh : X.A.in1.handled = none := I.ok.hd hc
    have D := Draws.tuple (prog := X.prog) (w := X.w) hh it a hai its.toArray
    refine wpAny_pyNext_enum_endD D he ⟨by rw [← hl]; exact hit, p⟩ fun h' eb => ⟨rfl, I.turned (t' := s.toks) (fun b o hb q => eb b o hb q) f0 f1 f3 f4 f5⟩
  self := fun A i s Q E st h => wpAny_pyIter_enum st.1.choose_spec h
def iEnumT (K : PySem.W.Frag) (ta : TA) : TI := fun σ H R => ta σ H fun vs H1 => ∃ a xs, vs = [.ref a] ∧ SqT K H1 a xs ∧ R (ItE K a) H1
theorem pi_enumT {X : Cx} {e : Expr} {ta : TA} {p pos tpos : Pos} {elts : List Expr} {kk : Nat} (hg : Gl X "enumerate") (hm : X.mg "enumerate" = none) (ha : PA X [e] ta) (hs : starEach [e] X.env = [(false, eval e X.env)] := by rfl) :
    PI X (.Tuple elts kk tpos) (.Call (.Name "enumerate" p) [e] [] pos) (iEnumT X.K ta) := by
  refine ⟨fun pins s σ H R I h => ?_⟩
  refine Call_ (ld_blt I hg hm boot_enumerate (PyProof.Rows.callWith_type1 (thn (ha.run pos pins s σ H _ I h) fun us s1 ⟨vs, H1, I1, r1, q1⟩ => ?_) hs rfl))
  obtain ⟨a, xs, ex, hq, q⟩ := q1
  subst ex
  cases r1 with
  | cons r rr =>
    cases rr
    cases r
    obtain ⟨its, rv, p', hz⟩ := I1.tuple hq
    have hal : a < s1.heap.objs.size := p'.lt
    refine enum_call (begins_tuple a its.toArray) p' fun h' he hit hk => wpAny_pyIter_enum he ?_
    have I2 : Inv X pins σ H1 { s1 with heap := h' } := I1.kept (t' := s1.toks) hk
    refine ⟨s1.heap.objs.size + 1, [s1.heap.objs.size + 1, s1.heap.objs.size], _, _, H1, rfl, I2, turn_enumT a (s1.heap.objs.size + 1) s1.heap.objs.size (Nat.ne_of_lt (Nat.lt_succ_of_lt hal)) (Nat.ne_of_lt hal) (Nat.succ_ne_self _), ⟨⟨.none, he⟩, ⟨_, hit, rfl, rfl⟩⟩, fun b hb => ?_, q⟩
    have hle : s1.heap.objs.size ≤ b := by
      rcases (show b = s1.heap.objs.size + 1 ∨ b = s1.heap.objs.size by simpa using hb) with z | z
      · rw [z]; exact Nat.le_succ _
      · rw [z]; exact Nat.le_refl _
    exact I1.fpOk hle (I1.hok.fresh hle)
theorem walk_enumT {K : PySem.W.Frag} {a : Addr} {xs : List V} (hinj : ∀ H (ys : List V), SqT K H a xs → SqT K H a ys → True := fun _ _ _ _ => trivial) : Walk (ItE K a) xs.length (fun H => SqT K H a xs) (YPair (fun i => some (.int (i : Nat))) (fun i => xs[i]?)) := by
  refine ⟨fun i _ hi q => ⟨xs, xs[i], q, by simp [hi]⟩, fun _ q => ⟨xs, q, rfl⟩, fun i H v H' _ q y => ?_⟩
  obtain ⟨T, x, h1, h2, h3, h4⟩ := y
  exact ⟨T, .int (i : Nat), x, h1, h2, h3, rfl, h4 xs q⟩
end Xb
namespace Xb
open PySem PySem.Spec PyProof.Rows L2
/-! ### set(l), l a list of ints -/
section
variable {P : Program} {w : World} {A : Around} {E : Value → Shared → Prop} {s : Shared}
/-- set() as it is laid -/
abbrev setObj (w : World) : Obj := { cls := .type "set", dict := none, data := .set #[] 0 (.fresh 0 0 (!w.params.followText "set-order")) }
/-- what set.__init__ has done -/
def SetDone (w : World) (s : Shared) (ns : List Int) (r : Value) (s2 : Shared) : Prop :=
  r = .none ∧ ∃ h' tk c, s2 = { s with heap := h', toks := tk } ∧ SetR w h' s.heap.objs.size (fun j => decide (j ∈ ns)) c ∧ c ≤ ns.length ∧ ∀ b o, s.heap.get? b = some o → h'.get? b = some o
theorem setL_fill {l : Addr} {items : Array Value} (ns : List Int) (hh : A.handled = none) (hl : s.heap.IsList l items) (hit : IntsAre items.toList ns) (hb : ns.length + 1 < scanBound) :
    wpAny (model P w) A (Builtin.«set.__init__» ⟨[.ref s.heap.objs.size, .ref l], []⟩) (fun fin s2 => match fin with
      | .done (.ret r) => SetDone w s ns r s2
      | _ => False) E { s with heap := s.heap.push (setObj w) } := by
  have hisz : items.size = ns.length := by
    have q := IntsAre.length hit
    rw [Array.length_toList] at q
    exact q
  have hlS : l < s.heap.objs.size := by obtain ⟨_, q, _⟩ := hl; exact Heap.lt_size q
  have hz : (s.heap.push (setObj w)).objs.size = s.heap.objs.size + 1 := Heap.size_push ..
  obtain ⟨⟨oc, od, odat, osl⟩, hol, hcl, nl, hdl⟩ := hl
  simp only at hcl hdl
  subst hcl; subst hdl
  have hS : (s.heap.push (setObj w)).get? s.heap.objs.size = some (setObj w) := Heap.get?_push_size _ rfl
  have hT : Shared.TypeIs { s with heap := s.heap.push (setObj w) } (.ref s.heap.objs.size) "set" := ⟨_, hS, rfl⟩
  have hol' : (s.heap.push (setObj w)).get? l = some { cls := .type "list", dict := od, data := .seq items nl, slots := osl } := Heap.get?_push_of_some _ hol
  have hsls := F.sub_list_set
  have hslf := F.sub_list_frozenset
  have hne : (Value.type "list" == Value.type "dict") = false := by decide
  have hl1 : (s.heap.push (setObj w)).IsList l items := ⟨_, hol', rfl, nl, rfl⟩
  unfold Builtin.«set.__init__» noKeywords Builtin.Frozenset.updateFrom
  generalize hPI : pyIter = PI
  wp_walk
  subst hPI
  refine wpAny_pyIter_list hl1 (wpAny_bind (wpAny_runValue ?_))
  have hh3 : A.in1.handled = none := hh
  have hneI : l ≠ (s.heap.push (setObj w)).objs.size := by rw [hz]; exact Nat.ne_of_lt (Nat.lt_succ_of_lt hlS)
  have hSf : s.heap.objs.size ∉ [(s.heap.push (setObj w)).objs.size, l] := by
    rw [hz]
    simp only [List.mem_cons, List.not_mem_nil, or_false, not_or]
    exact ⟨Nat.ne_of_lt (Nat.lt_succ_self _), Nat.ne_of_gt hlS⟩
  have hval : ∀ (i : Nat) (v : Value), items[i]? = some v → ∃ k t, ns[i]? = some k ∧ v = .int k t := fun i v hv => by
    have hi : i < ns.length := by rw [← hisz]; exact (Array.getElem?_eq_some_iff.mp hv).1
    obtain ⟨t, e⟩ := PyProof.Rows.IntsAre.int_at hit i v (by rw [Array.getElem?_toList]; exact hv)
    exact ⟨ns[i], t, List.getElem?_eq_getElem hi, by rw [e, List.getD_eq_getElem?_getD, List.getElem?_eq_getElem hi] <;> rfl⟩
  have hget : ((s.heap.push (setObj w)).push { cls := .type "list_iterator", data := .fields #[.ref l, .int 0 0] }).get? s.heap.objs.size = some (setObj w) := Heap.get?_push_of_some _ hS
  refine set_update_ints ((Walks.list hh3 _ l hneI items).toS) s.heap.objs.size hSf ns hisz hb hval (items.size - 0) 0 _ (by omega) (Nat.zero_le _) ⟨⟨_, Heap.get?_push_size _ rfl, rfl, rfl⟩, hl1.push _⟩ ?begun ?fin
  case begun => exact ⟨0, Nat.le_refl 0, setR_new_at hget⟩
  intro s' c' hm hc' hS'
  obtain ⟨h', g2, d', tk', os'⟩ := s'
  obtain rfl : g2 = s.gens := hm.gens
  obtain rfl : d' = s.drawn := hm.drawn
  obtain rfl : os' = s.os := hm.os
  show wpAny _ _ _ _ _ _
  refine wpAny_pure ?_
  show wpAny _ _ (ret Value.none) _ _ _
  refine wpAny_pure ⟨rfl, h', tk', c', rfl, hS', by rw [hisz] at hc'; exact hc', fun b o e => ?_⟩
  have hb0 : b < s.heap.objs.size := Heap.lt_size e
  refine hm.heap b o ?_ (Heap.get?_push_of_some _ (Heap.get?_push_of_some _ e))
  rw [hz]
  simp only [List.mem_cons, List.not_mem_nil, or_false, not_or]
  exact ⟨Nat.ne_of_lt hb0, Nat.ne_of_lt (Nat.lt_succ_of_lt hb0)⟩
theorem setL_call {l : Addr} {items : Array Value} (ns : List Int) {Q : Value → Shared → Prop} (hh : A.handled = none) (hl : s.heap.IsList l items) (hit : IntsAre items.toList ns) (hb : ns.length + 1 < scanBound)
    (h : ∀ (h' : Heap) (tk c : Nat), SetR w h' s.heap.objs.size (fun j => decide (j ∈ ns)) c → c ≤ ns.length → (∀ b o, s.heap.get? b = some o → h'.get? b = some o) → Q (.ref s.heap.objs.size) { s with heap := h', toks := tk }) :
    wpAny (model P w) A (call (.type "set") [.ref l]) Q E s := by
  obtain ⟨c, tl, hmro⟩ := F.called_set.mro
  have hmade := F.called_set.made
  have hsub := F.called_set.sub
  refine wpAny_call (codeAny_of_tree ?_)
  show wpAny _ _ (callAny (.type "set") _) _ _ _
  refine wpAny_pure ⟨Code.quiet_builtin _ (by decide +kernel), codeAny_builtin F.entry_type_call ?_⟩
  rw [Around.under_plain (weight_type_call_type "set" [.ref l] []) rfl]
  have h1 := F.called_set.notType
  have h2 := F.called_set.canCreate
  have hct := F.typeCall_set_1 (.ref l)
  repeat (any_goals (first | assumption | wp_step))
  refine codeAny_mono (code_set_led1 (.ref l) (E := E) (Q₁ := fun obj s₁ => obj = .ref s.heap.objs.size ∧ s₁ = { s with heap := s.heap.push (setObj w) }) ⟨rfl, rfl⟩) fun r s₁ hr => ?_
  cases r with
  | error e => exact hr
  | ok fl =>
    cases fl with
    | ret obj =>
      obtain ⟨rfl, rfl⟩ := hr
      have hS : (s.heap.push (setObj w)).get? s.heap.objs.size = some (setObj w) := Heap.get?_push_size _ rfl
      have hT : Shared.TypeIs { s with heap := s.heap.push (setObj w) } (.ref s.heap.objs.size) "set" := ⟨_, hS, rfl⟩
      have hli := F.called_set.init.lookup
      have hbi := F.called_set.init.bind (.ref s.heap.objs.size)
      repeat (any_goals (first | assumption | wp_step))
      refine codeAny_mono (codeAny_call_builtin (R := wants (SetDone w s ns) E) F.called_set.init.plain F.entry_set_init (check_set_init_1 hT ?_)) fun r₂ s₂ hr₂ => ?_
      · refine wpAny_mono (setL_fill (A := A.in1.in1) ns hh hl hit hb) (fun fin s' hf => ?_) fun e s' he => he
        cases fin with
        | done f =>
          cases f with
          | ret v => exact hf
          | _ => exact hf.elim
        | again c' => exact hf.elim
      · cases r₂ with
        | error e => exact hr₂
        | ok f2 =>
          cases f2 with
          | ret r =>
            obtain ⟨rfl, h', tk, c', rfl, hS', hc', hk'⟩ := hr₂
            repeat (any_goals (first | assumption | wp_step))
            exact h _ _ _ hS' hc' hk'
          | _ => exact hr₂.elim
    | _ => exact hr.elim
end
section
variable {X : Cx}
/-- set(l) as a rule: the set at a new place, of at most as many members -/
def rSetLI (K : PySem.W.Frag) (w : World) : List V → Hp → VK → Prop := fun xs H Q => ∃ (l : Addr) (ns : List Int), xs = [V.ref l] ∧ SqL K H l (ns.map V.int) ∧ ns.length + 1 < scanBound ∧
  ∀ (p : Addr) (c : Nat), H p = none → c ≤ ns.length → Q (.ref p) (upd H p (SetO w p (fun j => decide (j ∈ ns)) c))
theorem ints_vals : ∀ {ns : List Int} {us : List Value}, Vals (ns.map V.int) us → IntsAre us ns
  | [], _, r => by
    cases r
    exact .nil
  | n :: ns, _, r => by
    cases r with
    | cons a b =>
      obtain ⟨t, rfl⟩ := a
      exact .cons _ _ (ints_vals b)
theorem cr_setL (hc : X.calm = true) : CallR X (.type "set") (rSetLI X.K X.w) := by
  intro pins s σ H xs us Q I r h
  obtain ⟨l, ns, rfl, hq, hb, q⟩ := h
  rw [Vals.ref1 r]
  obtain ⟨its, rv, p, hz⟩ := I.list hq
  refine setL_call ns (I.ok.hd hc) p.isList (ints_vals rv) hb fun h' tk c hS hcn hk => ?_
  exact ⟨.ref s.heap.objs.size, _, I.laid hk (Nat.le_refl _) (setO_new hS), rfl, q _ _ (I.hok.fresh (Nat.le_refl _)) hcn⟩
end
end Xb
namespace Xb
open PySem PySem.Spec PyProof.Rows L2
/-! ### repr of data, where no repr is under way -/
section
variable {X : Cx}
def rReprD (K : PySem.W.Frag) : List V → Hp → VK → Prop := fun xs H Q => ∃ (a : Addr) (d : PyData), xs = [V.ref a] ∧ Dp K H (.ref a) d ∧ d.showable = true ∧ d.hasDict = false ∧ d.depth ≤ 60 ∧ d.shown.length ≤ sizeLine ∧ Q (.str d.shown) H
theorem cr_reprD (hg : X.A.guards = some []) (hu : X.A.units + 64 < cLine) : CallR X (.builtin "repr") (rReprD X.K) := by
  intro pins s σ H xs us Q I r h
  obtain ⟨a, d, rfl, hd, hs, hn, hp, hz, q⟩ := h
  rw [Vals.ref1 r]
  obtain ⟨as, rd⟩ := Dp.reads I d (.ref a) (.ref a) hd rfl
  exact repr_of_reads' (h₀ := s.heap) rd hs (fun z => by rw [hn] at z; cases z) hg (by omega) (fun _ _ e => e) (fun h' u tk k => ⟨.str d.shown, H, I.kept (t' := tk) k, ⟨u, rfl⟩, q⟩) hz
end
/-! ### != of two instances whose class has an own == and no own != -/
section
variable {prog : Program} {w : World} {M : Model} {A : Around} {E : Value → Shared → Prop} {s : Shared} {K : PySem.W.Frag} {x y C f : Addr} {ox oy : Obj} {od od' : Option Obj}
theorem bound_B {name : Str} {id : String} {args : List Value} {Q : Option Value → Shared → Prop} (X : K.In s.heap) (I : PySem.W.InstAt s.heap x ox C od) (hs : PySem.W.findIn K (.ref C) name = some (some (.builtin id)))
    (hb : ∀ self, bindSpecial (.builtin id) self = pure (.builtin id, [self])) (h : wpAny M A (call (.builtin id) (.ref x :: args)) (fun v => Q (some v)) E s) : wpAny M A (callSpecialIfBound? (.ref x) name args) Q E s := by
  simp only [callSpecialIfBound?, bindSpecialIfBound?]
  refine wpAny_holding (wpAny_bind (wpAny_bind (wpAny_bind (I.type.here ((PySem.W.looks_findIn X hs).here ?_)))))
  refine wpAny_bind (wpAny_askSetting (wpAny_ite ?_))
  have fin : wpAny M A (call (.builtin id) ([.ref x] ++ args) >>= fun v => pure (some v)) Q E s := wpAny_bind (wpAny_mono h (fun v s' h' => wpAny_pure h') fun _ _ h' => h')
  have hL : PySem.W.Looks M s.heap (bindSpecial (.builtin id) (.ref x)) (.builtin id, [.ref x]) := PySem.W.Looks.of_pure (hb _)
  split
  · exact wpAny_bind (hL.here (wpAny_pure (by exact fin)))
  · exact wpAny_tryCatch (wpAny_bind (hL.here (wpAny_pure (by exact fin))))
theorem ne_body {Q : Value → Shared → Prop} (hu : A.in1.units < cLine) (X : K.In s.heap) (I : PySem.W.InstAt s.heap x ox C od) (hm : PySem.W.mroIn K C (.type "object") = some true)
    (hs : PySem.W.findIn K (.ref C) "__eq__" = some (some (.ref f))) (hf : PySem.W.isFn K (.ref f) = true)
    (h : wpAny (model prog w) A.in1 (call (.ref f) [.ref x, .ref y]) (fun v s' => ∃ b, v = .bool b ∧ Q (.bool (!b)) s') E s) : wpAny (model prog w) A (call (.builtin "object.__ne__") [.ref x, .ref y]) Q E s := by
  refine wpAny_call (codeAny_call_builtin PySem.F.cmp_object.ne.plain PySem.F.cmpEntry_ne (PySem.W.check_slot (i := "object.__ne__") (owner := "object") (n := "__ne__") PySem.F.cmpKind_ne PySem.F.cmpSplit_ne (I.type.andThen (PySem.W.looks_mroIn X hm)) (PySem.F.cmpArgs_ne _ _) ?_))
  unfold Builtin.«object.__ne__»
  refine wpAny_bind (m := slotArgs "__ne__" 1 _) (wpAny_pure ?_)
  refine wpAny_bind (m := cRoomFor _ _) (wpAny_cRoomFor hu ?_)
  refine wpAny_bind (m := callSpecialIfBound? (.ref x) (Str.ofString "__eq__") _) (PySem.W.ifBound_K X I hs hf (wpAny_mono h (fun r s' hq => ?_) fun _ _ z => z))
  obtain ⟨b, rfl, q⟩ := hq
  refine wpAny_bind (m := truthy (.bool b)) (wpAny_truthy_bool ?_)
  exact wpAny_pure q
theorem rc_ne {Q : Value → Shared → Prop} (hu : A.in1.units < cLine) (X : K.In s.heap) (I : PySem.W.InstAt s.heap x ox C od) (J : PySem.W.InstAt s.heap y oy C od') (hm : PySem.W.mroIn K C (.type "object") = some true)
    (hn : PySem.W.findIn K (.ref C) "__ne__" = some (some (.builtin "object.__ne__"))) (hs : PySem.W.findIn K (.ref C) "__eq__" = some (some (.ref f))) (hf : PySem.W.isFn K (.ref f) = true)
    (h : wpAny (model prog w) A.in1 (call (.ref f) [.ref x, .ref y]) (fun v s' => ∃ b, v = .bool b ∧ Q (.bool (!b)) s') E s) : wpAny (model prog w) A (richCompare .NotEq (.ref x) (.ref y)) Q E s := by
  have hu0 : A.units < cLine := Nat.lt_of_succ_lt hu
  unfold richCompare
  simp only [oneThing_ref]
  refine wpAny_holding (wpAny_bind (wpAny_cRoomFor hu0 ?_))
  refine wpAny_bind (I.type.here (wpAny_bind (J.type.here ?_)))
  rw [cmpInfo_NotEq]
  rw [show (Value.ref C != Value.ref C) = false from by simp]
  simp only [Bool.false_eq_true, if_false]
  refine wpAny_bind (wpAny_pure ?_)
  simp only [Bool.false_eq_true, if_false]
  have one : wpAny (model prog w) A (tryCompare (.ref x) "__ne__" (.ref y)) (fun r s' => ∃ v, r = some v ∧ Q v s') E s := by
    unfold tryCompare
    refine wpAny_bind (bound_B X I hn PySem.F.cmp_object.ne.bind (ne_body hu X I hm hs hf (wpAny_mono h (fun v s' hv => ?_) fun _ _ e => e)))
    obtain ⟨b, rfl, q⟩ := hv
    exact ⟨b, rfl, wpAny_pure ⟨_, rfl, q⟩⟩
  refine wpAny_bind (wpAny_mono one (fun r s' z => ?_) fun _ _ e => e)
  obtain ⟨v, rfl, hq⟩ := z
  exact wpAny_pure hq
end
section
variable {X : Cx} {n : Nat}
/-- what the text's own == promises of two equal ones; their != -/
def rNeI (C : Addr) (R : Addr → Addr → Hp → Prop) : R2 := fun x y H Q => DIns C R x y H ∧ ∀ H', Ext H H' → Q (.bl false) H'
theorem op_neI {CX : CXT} {C f : Addr} {fd : FuncData} {ps : List Str} {R : Addr → Addr → Hp → Prop} {E : XK} (F : FnOk X.prog X.w X.K X.mg X.base CX n f fd ps (spEq R)) (hr : Room (n + 1) X.A)
    (hm : PySem.W.mroIn X.K C (.type "object") = some true) (hn : PySem.W.findIn X.K (.ref C) "__ne__" = some (some (.builtin "object.__ne__")))
    (hs : PySem.W.findIn X.K (.ref C) "__eq__" = some (some (.ref f))) (hf : PySem.W.isFn X.K (.ref f) = true) (hb : Binds X.K fd ps []) (hx : Passes CX X E) : OpR X (compareOp .NotEq) (rNeI C R) := by
  intro pins s σ H x y v u Q I rx ry hq
  obtain ⟨⟨a, b, dx, dy, fs, gs, rfl, rfl, ha, hb', hr'⟩, q⟩ := hq
  cases rx
  cases ry
  obtain ⟨mA, J, _⟩ := ins_get I.hok ha
  obtain ⟨mB, J', _⟩ := ins_get I.hok hb'
  obtain ⟨od, J, _⟩ := J.look
  obtain ⟨od', J', _⟩ := J'.look
  show wpAny (model X.prog X.w) X.A (richCompare .NotEq (.ref a) (.ref b)) (EP X pins σ Q) X.xe s
  refine rc_ne (by have := hr.un; show X.A.units + 1 < cLine; omega) I.kIn J J' hm hn hs hf ?_
  have hsp : spEq R [.ref a, .ref b] H (fun v H' => v = .bl true ∧ Ext H H') E := ⟨a, b, rfl, hr', fun H' e => ⟨rfl, e⟩⟩
  have hl := F.len _ _ _ _ hsp
  refine wpAny_call (codeAny_mono (F.run X.A.in1 X.stack s H ⟨[.ref a, .ref b], []⟩ [.ref a, .ref b] [.ref a, .ref b] _ E hr.in1 I.env0.in1 (by
    have z := hb s [.ref a, .ref b] I.kIn (by simpa using hl)
    simpa using z) (.cons rfl (.cons rfl .nil)) hsp) fun r s' hq => ?_)
  cases r with
  | error e => exact hx pins σ H s e s' I hq
  | ok fl =>
    cases fl with
    | ret w =>
      obtain ⟨z, H', I', rz, ez, ex⟩ := I.after hq
      subst ez
      cases rz
      exact ⟨true, rfl, .bl false, H', I', rfl, q H' ex⟩
    | next => exact False.elim hq
    | brk => exact False.elim hq
    | cont => exact False.elim hq
end
end Xb
namespace Xb
open PySem PySem.Spec PyProof.Rows L2
/-- the law's own def, called from outside: no repr is under way there -/
def LawOk (P : Program) (w : World) (K : PySem.W.Frag) (mg : Str → Option Value) (base : Heap) (f : Addr) (fd : FuncData) (x : Str) (sp : Sp) : Prop :=
  ∀ (s : Shared) (H : Hp) (a : Addr), Env0 P w K mg base callerA [] s H → BindsTo s fd ⟨[.ref a], []⟩ [(x, .ref a)] → sp [.ref a] H (fun v _ => v = .bl true) E0 →
    codeAny (model P w) callerA (.call (.ref f) ⟨[.ref a], []⟩) (CR CX0 [] P w H s (fun v _ => v = .bl true) E0) s
theorem lawOk_of {P : Program} {w : World} {K : PySem.W.Frag} {mg : Str → Option Value} {base : Heap} {k : Nat} {f : Addr} {fd : FuncData} {y qual x : Str} {st : Stmt} {N : List Str} {sp : Sp} (F : Fun K y qual st f fd) (S : FnScope N [x] (defScope st)) (hk : Room (k + 1) callerA)
    (hbody : ∀ (cdv : Value) (s : Shared) (H : Hp) (vs : List V) (Q : VK) (E : XK), Room k (callerA.deeper (envOfC qual (defScope st) s.heap.objs.size f cdv)) → (callerA.deeper (envOfC qual (defScope st) s.heap.objs.size f cdv)).guards = some [] → sp vs H Q E →
      ∃ t, PSs (cxOf CX0 P w K mg base N qual (defScope st) f cdv callerA [] s H E).nox (defBody st) t ∧ t { nx := fun _ H' => Q .non H', rt := Q } (start N vs) H) : LawOk P w K mg base f fd x sp := by
  obtain ⟨oc, od, kV, doc, pm, an, cdv, ct, osl, rfl, lk, hcd⟩ := F.ex
  intro s H a e0 hb hsp
  have old : ∀ b o, base.get? b = some o → s.heap.get? b = some o := fun b o e => (e0.bs b o e).1
  have KX : K.In s.heap := e0.mod.kin.keeps old
  have par : ∀ z ∈ [(x, Value.ref a)], (defScope st).names.lookup z.1 = some .local ∨ ((defScope st).names.lookup z.1 = some .cell ∧ ((cellsFrom (s.heap.objs.size + 1) (defScope st).names []).lookup z.1).isSome = true) := fun z hz => by
    obtain rfl := List.mem_singleton.mp hz
    exact (S.par x List.mem_cons_self).imp id fun q => ⟨q, PySem.W.cellsFrom_some _ _ _ (.inl q)⟩
  refine codeAny_call_function hk.depth (KX _ _ lk) rfl S.co S.gen rfl (PySem.W.codeRec_of KX hcd) (hb _ _ _ _ ?_)
  refine wpAny_newFunctionEnv_cells S.kind par fun env he s1 z => ?_
  subst he
  refine ⟨(e0.mod.nolimit.keeps old).keeps z.toInCall.keep, codeAny_func ?_⟩
  obtain ⟨t, ht, hq⟩ := hbody cdv s H [.ref a] _ E0 (hk.deeper _) rfl hsp
  have r1 : Vals [V.ref a] [Value.ref a] := .cons rfl .nil
  have I := inv_start (CX := CX0) (E := E0) S hk.hd e0 rfl r1 z
  refine wpAny_mono (ht.nox.run [] s1 (start N [.ref a]) H _ I hq) (fun fl s' hs => ?_) fun e s' hs => hs
  cases fl with
  | next =>
    obtain ⟨σ', H', J, q⟩ := hs
    exact ⟨.non, H', J.os, J.bare, J.base, J.hok, rfl, q⟩
  | ret u =>
    obtain ⟨v, σ', H', J, rv, q⟩ := hs
    exact ⟨v, H', J.os, J.bare, J.base, J.hok, rv, q⟩
  | brk => exact hs.choose_spec.choose_spec.2.elim
  | cont => exact hs.choose_spec.choose_spec.2.elim
/-- the script as it is known: as an object of its own, or one of the module's -/
theorem law_run {P : Program} {w : World} {K : PySem.W.Frag} {mg mb : Str → Option Value} {fa a : Addr} {fd : FuncData} {x : Str} {sp : Sp} {s : Shared} {vs : List Value} {ns : List Int}
    (KX : K.In s.heap) (hns : s.heap.Ns mainGlobals mg) (hb : s.heap.Ns builtinsNs mb) (hbb : ∀ x : Str, x ≠ "__name__" → mb x = bootBuiltins x) (hlim : s.heap.NoLimit) (hg : s.gens = #[])
    (ha : s.heap.get? a = some { cls := .type "list", data := .seq vs.toArray }) (hi : IntsAre vs ns) (hl : ns.length ≤ sizeLine)
    (F : ∀ base : Heap, K.In base → base.Ns mainGlobals mg → LawOk P w K mg base fa fd x sp) (hbind : ∀ (s : Shared) (u : Value), BindsTo s fd ⟨[u], []⟩ [(x, u)])
    (hsp : ∀ H : Hp, SqL K H a (ns.map V.int) → sp [.ref a] H (fun v _ => v = .bl true) E0) :
    codeAny (model P w) callerA (.call (.ref fa) ⟨[.ref a], []⟩) (fun r s' => r = .ok (.ret (.bool true)) ∧ OldK s.heap s'.heap ∧ s'.os = s.os ∧ AllBare s'.gens) s := by
  have rv := vals_ints hi
  have lenV := hi.length
  have go : ∀ H : Hp, (∀ b u, H b = some u → b = a ∧ u = .frz { cls := .type "list", data := .seq vs.toArray } (.lst (ns.map V.int)) ∧ K.lookup a = none) → SqL K H a (ns.map V.int) → HOk P w H s.heap →
      codeAny (model P w) callerA (.call (.ref fa) ⟨[.ref a], []⟩) (fun r s' => r = .ok (.ret (.bool true)) ∧ OldK s.heap s'.heap ∧ s'.os = s.os ∧ AllBare s'.gens) s := by
    intro H hH hS hok
    have off : ∀ {b : Addr} {o : Obj}, s.heap.get? b = some o → (b = a → K.lookup a = none → False) → H b = none := fun {b o} e n => by
      cases q : H b with
      | none => rfl
      | some u =>
        obtain ⟨h1, _, h3⟩ := hH b u q
        exact (n h1 h3).elim
    have nsK : ∀ {b : Addr} {m : Str → Option Value}, s.heap.Ns b m → (hidT s.heap H).Ns b m := fun {b m} ⟨o, es, ep, e, d, r⟩ => ⟨o, es, ep, hidT_get e (off e fun z _ => by
      rw [z, ha] at e
      cases e
      cases d), d, r⟩
    have hKb : K.In (hidT s.heap H) := fun b o e => hidT_get (KX b o e) (off (KX b o e) fun z n => by rw [z, n] at e; cases e)
    obtain ⟨mc, c1, c2⟩ := hlim
    have hM : Mod K mg (hidT s.heap H) := ⟨hKb, nsK hns, ⟨mb, nsK hb, hbb⟩, ⟨mc, nsK c1, c2⟩⟩
    have e0 : Env0 P w K mg (hidT s.heap H) callerA [] s H := ⟨rfl, hM, fun b o e => of_hidT e, Nat.le_of_eq (hidT_size _ _), trivial, fun b hb => absurd (show b ∈ ([] : List Addr) from hb) (by simp), hok, .of_eq hg⟩
    refine codeAny_mono (F _ hKb (nsK hns) s H a e0 (hbind s (.ref a)) (hsp H hS)) fun r s' h => ?_
    cases r with
    | error e => exact False.elim h
    | ok fl =>
      cases fl with
      | ret u =>
        obtain ⟨v, H', os, bare, un, hok', r', q⟩ := h
        obtain rfl : v = .bl true := q
        obtain rfl : u = Value.bool true := r'
        refine ⟨rfl, OldK.of_keep fun b o e => ?_, os, bare⟩
        cases q : H b with
        | none => exact un.keep b o e q (fun z => absurd (show b ∈ ([] : List Addr) from z) (by simp)) (by simp)
        | some u =>
          obtain ⟨_, rfl, _⟩ := hH b u q
          obtain ⟨e1, _⟩ := hok b _ q
          obtain ⟨e2, _⟩ := hok' b _ (un.frzs b _ _ q)
          rw [e] at e1
          cases e1
          exact e2
      | next => exact False.elim h
      | brk => exact False.elim h
      | cont => exact False.elim h
  cases hk : K.lookup a with
  | some o =>
    have e := KX a o hk
    rw [ha] at e
    cases e
    exact go (fun _ => none) (fun b u z => nomatch z) (.inr ⟨_, vs.toArray, _, hk, rfl, rfl, rfl, by rw [List.size_toArray, lenV]; exact hl, by simpa using rv⟩) fun b u z => nomatch z
  | none =>
    have hH : ∀ b u, (if b = a then some (HO.frz { cls := .type "list", data := .seq vs.toArray } (.lst (ns.map V.int))) else none) = some u → b = a ∧ u = .frz { cls := .type "list", data := .seq vs.toArray } (.lst (ns.map V.int)) ∧ K.lookup a = none := fun b u z => by
      by_cases hb : b = a
      · rw [if_pos hb] at z
        exact ⟨hb, (Option.some.inj z).symm, hk⟩
      · rw [if_neg hb] at z
        cases z
    refine go (fun b => if b = a then some (.frz { cls := .type "list", data := .seq vs.toArray } (.lst (ns.map V.int))) else none) hH (.inl (.inr ⟨_, if_pos rfl⟩)) fun b u z => ?_
    obtain ⟨rfl, rfl, _⟩ := hH b u z
    exact ⟨ha, by rw [List.length_map]; exact hl, vs, _, rv, ha⟩
/-- the goal that the head leaves -/
theorem law_walk {l : PySem.W.OpenLaw} {n : Nat} {q : Program} {loose : List Str} {XP : (Str → Option Value) → Heap → Prop} {YP : World → Heap → Prop} {d : DefRec} {K : Params → PySem.W.Frag} {sp : PySem.W.Frag → Sp} {x : Str}
    (hn : l.most = some n) (hn2 : n ≤ sizeLine) (hdf : d.params.defaults = []) (hY : ∀ (w : World) (h : Heap), YP w h → (K w.params).In h)
    (F : ∀ (w : World) (mg : Str → Option Value) (fa : Addr) (h : Heap), (K w.params).In h → h.Ns mainGlobals mg → XP mg h → mg d.name = some (.ref fa) →
      ∃ fd : FuncData, (∀ (s : Shared) (u : Value), BindsTo s fd ⟨[u], []⟩ [(x, u)]) ∧
        ∀ base : Heap, (K w.params).In base → base.Ns mainGlobals mg → LawOk l.prog w (K w.params) mg base fa fd x (sp (K w.params)))
    (hsp : ∀ (K : PySem.W.Frag) (H : Hp) (a : Addr) (ns : List Int), ns.length ≤ n → SqL K H a (ns.map V.int) → sp K [.ref a] H (fun v _ => v = .bl true) E0) :
    PySem.W.WalkO q loose XP YP l.row.toRowW d [] (fun f vs => PySem.call f vs) := by
  refine Att.attach_call hn hdf fun w s₀ s₁ mg mb fa o pm cd doc a vs ns G Y ho hd hcd hmg hobj hints hlen hg => ?_
  have KX := hY w _ Y
  obtain ⟨fd, hb, hF⟩ := F w mg fa _ KX G.T.g G.X hmg
  exact law_run KX G.T.g G.T.b G.T.builtins G.T.nolimit hg hobj hints (Nat.le_trans hlen hn2) hF hb fun H hS => hsp _ H a ns hlen hS
theorem loose_int {p : Program} {x : Str} {i : Int} {mg : Str → Option Value} {h : Heap} (X : PySem.W.XL p [(x, PySem.W.WData.int i)] mg h) : ∃ t, mg x = some (.int i t) := by
  obtain ⟨v, a, b⟩ := X.2.val _ List.mem_cons_self
  cases b
  exact ⟨_, a⟩
end Xb
namespace Xb
open PySem PySem.Spec PyProof.Rows L2
/-! ### the plain things: arrivals, cells, how cells are counted -/
structure Arr where
  st : Int
  kd : Int
  os : List Int
abbrev Item := Option Arr
structure Cl where
  no : Nat
  ln : Nat
  ar : Arr
/-- the cells of a beat, from the number n and the line l on -/
def row (n l : Nat) : List Item → List Cl
  | [] => []
  | none :: r => row n (l + 1) r
  | some a :: r => ⟨n, l, a⟩ :: row (n + 1) (l + 1) r
def rows (n : Nat) : List (List Item) → List (List Cl)
  | [] => []
  | b :: r => row n 0 b :: rows (n + (row n 0 b).length) r
/-- the number behind -/
def cnt (n : Nat) : List (List Item) → Nat
  | [] => n
  | b :: r => cnt (n + (row n 0 b).length) r
theorem row_none : ∀ (b : List Item) (n l : Nat), row n l (b ++ [none]) = row n l b
  | [], _, _ => rfl
  | none :: r, n, l => row_none r n (l + 1)
  | some a :: r, n, l => congrArg (fun z => (⟨n, l, a⟩ : Cl) :: z) (row_none r (n + 1) (l + 1))
theorem row_some (a : Arr) : ∀ (b : List Item) (n l : Nat), row n l (b ++ [some a]) = row n l b ++ [⟨n + (row n l b).length, l + b.length, a⟩]
  | [], _, _ => rfl
  | none :: r, n, l => by
    have h := row_some a r n (l + 1)
    rw [show l + (none :: r : List Item).length = l + 1 + r.length by simp only [List.length_cons]; omega]
    exact h
  | some c :: r, n, l => by
    have h := row_some a r (n + 1) (l + 1)
    have e1 : n + 1 + (row (n + 1) (l + 1) r).length = n + (row n l (some c :: r)).length := by
      show _ = n + ((row (n + 1) (l + 1) r).length + 1)
      omega
    have e2 : l + 1 + r.length = l + (some c :: r : List Item).length := by simp only [List.length_cons]; omega
    rw [e1, e2] at h
    exact congrArg (fun z => (⟨n, l, c⟩ : Cl) :: z) h
theorem row_len : ∀ (b : List Item) (n l : Nat), (row n l b).length ≤ b.length
  | [], _, _ => Nat.le_refl _
  | none :: r, n, l => Nat.le_succ_of_le (row_len r n (l + 1))
  | some a :: r, n, l => Nat.succ_le_succ (row_len r (n + 1) (l + 1))
theorem rows_snoc (b : List Item) : ∀ (bs : List (List Item)) (n : Nat), rows n (bs ++ [b]) = rows n bs ++ [row (cnt n bs) 0 b]
  | [], _ => rfl
  | c :: r, n => congrArg (fun z => row n 0 c :: z) (rows_snoc b r (n + (row n 0 c).length))
theorem cnt_snoc (b : List Item) : ∀ (bs : List (List Item)) (n : Nat), cnt n (bs ++ [b]) = cnt n bs + (row (cnt n bs) 0 b).length
  | [], _ => rfl
  | c :: r, n => cnt_snoc b r (n + (row n 0 c).length)
theorem rows_len : ∀ (bs : List (List Item)) (n : Nat), (rows n bs).length = bs.length
  | [], _ => rfl
  | c :: r, n => congrArg (· + 1) (rows_len r (n + (row n 0 c).length))
theorem cnt_le : ∀ (bs : List (List Item)) (n : Nat), (∀ b ∈ bs, b.length ≤ 12) → cnt n bs ≤ n + 12 * bs.length
  | [], _, _ => Nat.le_refl _
  | c :: r, n, h => by
    have h1 := cnt_le r (n + (row n 0 c).length) fun b hb => h b (List.mem_cons_of_mem _ hb)
    have h2 := row_len c n 0
    have h3 := h c List.mem_cons_self
    show cnt (n + (row n 0 c).length) r ≤ _
    rw [List.length_cons]
    omega
theorem take_more {α : Type} : ∀ {l : List α} {i : Nat} {x : α}, l[i]? = some x → l.take (i + 1) = l.take i ++ [x]
  | [], i, x, h => by simp at h
  | a :: l, 0, x, h => by
    have e : a = x := Option.some.inj h
    subst e
    rfl
  | a :: l, i + 1, x, h => congrArg (fun z => a :: z) (take_more (l := l) (i := i) (x := x) h)
theorem row_mem : ∀ (b : List Item) (n l : Nat) (c : Cl), c ∈ row n l b → some c.ar ∈ b ∧ n ≤ c.no ∧ c.no < n + b.length ∧ l ≤ c.ln ∧ c.ln < l + b.length
  | [], _, _, c, h => absurd h List.not_mem_nil
  | none :: r, n, l, c, h => by
    obtain ⟨h1, h2, h3, h4, h5⟩ := row_mem r n (l + 1) c h
    rw [List.length_cons]
    exact ⟨List.mem_cons_of_mem _ h1, h2, by omega, by omega, by omega⟩
  | some a :: r, n, l, c, h => by
    rw [List.length_cons]
    rcases List.mem_cons.mp h with e | h
    · subst e
      exact ⟨List.mem_cons_self, Nat.le_refl _, by show n < _; omega, Nat.le_refl _, by show l < _; omega⟩
    · obtain ⟨h1, h2, h3, h4, h5⟩ := row_mem r (n + 1) (l + 1) c h
      exact ⟨List.mem_cons_of_mem _ h1, by omega, by omega, by omega, by omega⟩

/-! ### what right arrivals are -/
structure OkOs (m k : Int) (os : List Int) : Prop where
  asc : os.Pairwise (· < ·)
  lo : ∀ o ∈ os, 0 ≤ o
  hi : ∀ o ∈ os, o < m
  ne : 1 ≤ os.length
  le : (os.length : Int) ≤ k
theorem OkOs.mono {m k m' k' : Int} {os : List Int} (h : OkOs m k os) (hm : m ≤ m') (hk : k ≤ k') : OkOs m' k' os :=
  ⟨h.asc, h.lo, fun o ho => Int.lt_of_lt_of_le (h.hi o ho) hm, h.ne, Int.le_trans h.le hk⟩
structure OkArr (m k : Int) (a : Arr) : Prop where
  s0 : 0 ≤ a.st
  s1 : a.st ≤ 99
  k0 : 0 ≤ a.kd
  k1 : a.kd ≤ 7
  os : OkOs m k a.os
structure OkBeat (m k : Int) (b : List Item) : Prop where
  len : (b.length : Int) = m
  all : ∀ a, some a ∈ b → OkArr m k a
structure OkAll (m k : Int) (bs : List (List Item)) : Prop where
  m1 : 1 ≤ m
  m12 : m ≤ 12
  k1 : 1 ≤ k
  k3 : k ≤ 3
  len : bs.length ≤ 200
  all : ∀ b ∈ bs, OkBeat m k b
theorem OkBeat.le12 {m k : Int} {b : List Item} (h : OkBeat m k b) (hm : m ≤ 12) : b.length ≤ 12 := by
  have := h.len
  omega

/-! ### pairs of lists -/
theorem paired_get {α β : Type} {F : α → β → Prop} : ∀ {l : List α} {r : List β} {i : Nat} {a : α}, Paired F l r → l[i]? = some a → ∃ b, r[i]? = some b ∧ F a b
  | _, _, _, _, .nil, h => by simp at h
  | _, _, 0, a, .cons h _, e => by
    obtain rfl := Option.some.inj e
    exact ⟨_, rfl, h⟩
  | _, _, i + 1, a, .cons _ t, e => paired_get (i := i) t e
theorem paired_len {α β : Type} {F : α → β → Prop} : ∀ {l : List α} {r : List β}, Paired F l r → l.length = r.length
  | _, _, .nil => rfl
  | _, _, .cons _ t => congrArg (· + 1) (paired_len t)
theorem paired_imp {α β : Type} {F G : α → β → Prop} (f : ∀ a b, F a b → G a b) : ∀ {l : List α} {r : List β}, Paired F l r → Paired G l r
  | _, _, .nil => .nil
  | _, _, .cons h t => .cons (f _ _ h) (paired_imp f t)
theorem paired_mem {α β : Type} {F : α → β → Prop} : ∀ {l : List α} {r : List β} {a : α}, Paired F l r → a ∈ l → ∃ b, b ∈ r ∧ F a b
  | _, _, _, .nil, h => absurd h List.not_mem_nil
  | _, _, a, .cons h t, e => by
    rcases List.mem_cons.mp e with rfl | e
    · exact ⟨_, List.mem_cons_self, h⟩
    · obtain ⟨b, h1, h2⟩ := paired_mem t e
      exact ⟨b, List.mem_cons_of_mem _ h1, h2⟩

/-! ### how they lie in the heap -/
/-- what never changes: tuples, instances -/
def Imm : HO → Prop
  | .tup _ => True
  | .ins _ _ _ => True
  | _ => False
def Im (H H' : Hp) : Prop := ∀ b o, Imm o → H b = some o → H' b = some o
theorem Im.refl (H : Hp) : Im H H := fun _ _ _ h => h
theorem Im.trans {H H1 H2 : Hp} (a : Im H H1) (b : Im H1 H2) : Im H H2 := fun c o i h => b c o i (a c o i h)
theorem Im.of {H H' : Hp} (h : Same H H') : Im H H' := fun b o _ e => h b o e
theorem same_new {H : Hp} {p : Addr} {o : HO} (h : H p = none) : Same H (upd H p o) := fun b x e => by
  rw [upd_ne (ne_of_none e h)]
  exact e
/-- what was not there may be written -/
theorem same_upd {H H' : Hp} {p : Addr} {o : HO} (s : Same H H') (h : H p = none) : Same H (upd H' p o) := fun b x e => by
  rw [upd_ne (ne_of_none e h)]
  exact s b x e
theorem im_lst {H : Hp} {p : Addr} {xs : List V} {o : HO} (h : H p = some (.lst xs)) : Im H (upd H p o) := fun b x i e => by
  rw [upd_ne (fun z => by rw [z, h] at e; cases e; exact i)]
  exact e
def Os (H : Hp) (p : Addr) (os : List Int) : Prop := H p = some (.tup (os.map V.int))
def ArrV (H : Hp) (v : V) : Item → Prop
  | none => v = .non
  | some a => ∃ p q, v = .ref p ∧ H p = some (.tup [.int a.st, .int a.kd, .ref q]) ∧ Os H q a.os
def BeatV (H : Hp) (v : V) (b : List Item) : Prop := ∃ p vs, v = .ref p ∧ H p = some (.tup vs) ∧ Paired (ArrV H) vs b
def AllV (H : Hp) (v : V) (bs : List (List Item)) : Prop := ∃ p vs, v = .ref p ∧ H p = some (.tup vs) ∧ Paired (BeatV H) vs bs
def flds (c : Cl) (q : Addr) : List (Str × V) := [("came_as", .int c.no), ("at_line", .int c.ln), ("of_stream", .int c.ar.st), ("of_kind", .int c.ar.kd), ("to_outs", .ref q)]
def CellV (C : Addr) (H : Hp) (v : V) (c : Cl) : Prop := ∃ p dx q, v = .ref p ∧ H p = some (.ins C dx (flds c q)) ∧ Os H q c.ar.os
def RowV (C : Addr) (H : Hp) (v : V) (cs : List Cl) : Prop := ∃ p vs, v = .ref p ∧ H p = some (.lst vs) ∧ Paired (CellV C H) vs cs
def PartV (H : Hp) (v : V) (c : Cl) : Prop := ∃ p q, v = .ref p ∧ H p = some (.tup [.int c.no, .int c.ln, .int c.ar.st, .int c.ar.kd, .ref q]) ∧ Os H q c.ar.os
def PRowV (H : Hp) (v : V) (cs : List Cl) : Prop := ∃ p vs, v = .ref p ∧ H p = some (.lst vs) ∧ Paired (PartV H) vs cs
section
variable {H H' : Hp} {v : V} {C : Addr}
theorem Os.im {p : Addr} {os : List Int} (h : Os H p os) (i : Im H H') : Os H' p os := i _ _ trivial h
theorem ArrV.im {a : Item} (h : ArrV H v a) (i : Im H H') : ArrV H' v a := by
  cases a with
  | none => exact h
  | some a =>
    obtain ⟨p, q, rfl, e, o⟩ := h
    exact ⟨p, q, rfl, i _ _ trivial e, o.im i⟩
theorem BeatV.im {b : List Item} (h : BeatV H v b) (i : Im H H') : BeatV H' v b := by
  obtain ⟨p, vs, rfl, e, o⟩ := h
  exact ⟨p, vs, rfl, i _ _ trivial e, paired_imp (fun _ _ z => z.im i) o⟩
theorem AllV.im {b : List (List Item)} (h : AllV H v b) (i : Im H H') : AllV H' v b := by
  obtain ⟨p, vs, rfl, e, o⟩ := h
  exact ⟨p, vs, rfl, i _ _ trivial e, paired_imp (fun _ _ z => z.im i) o⟩
theorem CellV.im {c : Cl} (h : CellV C H v c) (i : Im H H') : CellV C H' v c := by
  obtain ⟨p, dx, q, rfl, e, o⟩ := h
  exact ⟨p, dx, q, rfl, i _ _ trivial e, o.im i⟩
theorem PartV.im {c : Cl} (h : PartV H v c) (i : Im H H') : PartV H' v c := by
  obtain ⟨p, q, rfl, e, o⟩ := h
  exact ⟨p, q, rfl, i _ _ trivial e, o.im i⟩
theorem RowV.same {cs : List Cl} (h : RowV C H v cs) (s : Same H H') : RowV C H' v cs := by
  obtain ⟨p, vs, rfl, e, o⟩ := h
  exact ⟨p, vs, rfl, s _ _ e, paired_imp (fun _ _ z => z.im (Im.of s)) o⟩
theorem PRowV.same {cs : List Cl} (h : PRowV H v cs) (s : Same H H') : PRowV H' v cs := by
  obtain ⟨p, vs, rfl, e, o⟩ := h
  exact ⟨p, vs, rfl, s _ _ e, paired_imp (fun _ _ z => z.im (Im.of s)) o⟩
end

/-! ### the same as data -/
def dOs (os : List Int) : PyData := .tuple (os.map PyData.int)
def dArr : Item → PyData
  | none => .none
  | some a => .tuple [.int a.st, .int a.kd, dOs a.os]
def dBeat (b : List Item) : PyData := .tuple (b.map dArr)
def dAll (bs : List (List Item)) : PyData := .tuple (bs.map dBeat)
section
variable {K : PySem.W.Frag} {H : Hp}
theorem dp_ints : ∀ os : List Int, DpAll K H (os.map V.int) (os.map PyData.int)
  | [] => .nil
  | o :: r => .cons (.int o) (dp_ints r)
theorem dp_map {α : Type} {F : V → α → Prop} {f : α → PyData} (h : ∀ v a, F v a → Dp K H v (f a)) : ∀ {vs : List V} {l : List α}, Paired F vs l → DpAll K H vs (l.map f)
  | _, _, .nil => .nil
  | _, _, .cons x t => .cons (h _ _ x) (dp_map h t)
theorem Os.dp {p : Addr} {os : List Int} (h : Os H p os) : Dp K H (.ref p) (dOs os) := .tup (SqT.of h) (dp_ints os)
theorem ArrV.dp {v : V} {a : Item} (h : ArrV H v a) : Dp K H v (dArr a) := by
  cases a with
  | none =>
    have e : v = .non := h
    rw [e]
    exact .non
  | some a =>
    obtain ⟨p, q, rfl, e, o⟩ := h
    exact .tup (SqT.of e) (.cons (.int _) (.cons (.int _) (.cons o.dp .nil)))
theorem BeatV.dp {v : V} {b : List Item} (h : BeatV H v b) : Dp K H v (dBeat b) := by
  obtain ⟨p, vs, rfl, e, o⟩ := h
  exact .tup (SqT.of e) (dp_map (fun _ _ z => z.dp) o)
theorem AllV.dp {v : V} {b : List (List Item)} (h : AllV H v b) : Dp K H v (dAll b) := by
  obtain ⟨p, vs, rfl, e, o⟩ := h
  exact .tup (SqT.of e) (dp_map (fun _ _ z => z.dp) o)
end
/-! .. it can be shown, and is not long -/
theorem small_int {i : Int} (h0 : 0 ≤ i) (h1 : i ≤ 99) : PyData.leavesShort 8 (.int i) = true ∧ PyData.showable (.int i) = true ∧ PyData.weight (.int i) ≤ 7 := by
  have all : ∀ n : _root_.Fin 100, PyData.leavesShort 8 (.int ((n.1 : Nat) : Int)) = true ∧ PyData.showable (.int ((n.1 : Nat) : Int)) = true ∧ PyData.weight (.int ((n.1 : Nat) : Int)) ≤ 7 := by decide +kernel
  have q := all ⟨i.toNat, by omega⟩
  have e : ((i.toNat : Nat) : Int) = i := Int.toNat_of_nonneg h0
  simp only [e] at q
  exact q
/-- of a small leaf or a part: all that repr asks -/
structure Sm (B D : Nat) (d : PyData) : Prop where
  sh : d.leavesShort 8 = true
  ok : d.showable = true
  nd : d.hasDict = false
  dp : d.depth ≤ D
  wt : d.weight ≤ B
theorem sm_int {i : Int} (h0 : 0 ≤ i) (h1 : i ≤ 99) : Sm 7 0 (.int i) := by
  obtain ⟨a, b, c⟩ := small_int h0 h1
  exact ⟨a, b, rfl, Nat.le_refl _, c⟩
theorem sm_all {B D : Nat} : ∀ ds : List PyData, (∀ d ∈ ds, Sm B D d) → PyData.leavesShortAll 8 ds = true ∧ PyData.showableAll ds = true ∧ PyData.hasDictAll ds = false ∧ PyData.depthAll ds ≤ D ∧ PyData.weightAll ds ≤ (B + 1) * ds.length
  | [], _ => ⟨rfl, rfl, rfl, Nat.zero_le _, Nat.zero_le _⟩
  | d :: r, h => by
    have h1 := h d List.mem_cons_self
    obtain ⟨a, b, c, e, f⟩ := sm_all r fun x hx => h x (List.mem_cons_of_mem _ hx)
    refine ⟨by simp only [PyData.leavesShortAll, h1.sh, a, Bool.and_self], by simp only [PyData.showableAll, h1.ok, b, Bool.and_self], by simp only [PyData.hasDictAll, h1.nd, c, Bool.or_self], ?_, ?_⟩
    · simp only [PyData.depthAll]
      exact Nat.max_le.mpr ⟨h1.dp, e⟩
    · have q := h1.wt
      simp only [PyData.weightAll, List.length_cons, Nat.mul_add, Nat.mul_one]
      omega
theorem sm_tup {B D n : Nat} {ds : List PyData} (h : ∀ d ∈ ds, Sm B D d) (hn : ds.length ≤ n) : Sm ((B + 1) * n) (D + 1) (.tuple ds) := by
  obtain ⟨a, b, c, e, f⟩ := sm_all ds h
  refine ⟨by simpa only [PyData.leavesShort] using a, by simpa only [PyData.showable] using b, by simpa only [PyData.hasDict] using c, by simp only [PyData.depth]; omega, ?_⟩
  simp only [PyData.weight]
  exact Nat.le_trans f (Nat.mul_le_mul_left _ hn)
theorem Sm.mono {B D B' D' : Nat} {d : PyData} (h : Sm B D d) (hb : B ≤ B') (hd : D ≤ D') : Sm B' D' d := ⟨h.sh, h.ok, h.nd, Nat.le_trans h.dp hd, Nat.le_trans h.wt hb⟩
theorem sm_arr {m k : Int} {b : List Item} (hm : m ≤ 12) (hk : k ≤ 3) (h : ∀ a, some a ∈ b → OkArr m k a) : ∀ d ∈ b.map dArr, Sm 75 2 d := fun d hd => by
  obtain ⟨a, ha, rfl⟩ := List.mem_map.mp hd
  cases a with
  | none => exact ⟨rfl, rfl, rfl, Nat.zero_le _, Nat.zero_le _⟩
  | some a =>
    have q := h a ha
    have lo : Sm 24 1 (dOs a.os) := by
      refine (sm_tup (B := 7) (D := 0) (n := 3) (fun d hd => ?_) ?_)
      · obtain ⟨o, ho, rfl⟩ := List.mem_map.mp hd
        exact sm_int (q.os.lo o ho) (by have := q.os.hi o ho; omega)
      · rw [List.length_map]
        have := q.os.le
        omega
    refine sm_tup (B := 24) (D := 1) (n := 3) (fun d hd => ?_) (Nat.le_refl _)
    rcases List.mem_cons.mp hd with rfl | hd
    · exact (sm_int q.s0 q.s1).mono (by decide) (by decide)
    · rcases List.mem_cons.mp hd with rfl | hd
      · exact (sm_int q.k0 (Int.le_trans q.k1 (by decide))).mono (by decide) (by decide)
      · rw [List.mem_singleton.mp hd]
        exact lo
theorem sm_dAll {m k : Int} {bs : List (List Item)} (h : OkAll m k bs) : Sm 182600 4 (dAll bs) := by
  refine (sm_tup (B := 912) (D := 3) (n := 200) (fun d hd => ?_) (by rw [List.length_map]; exact h.len))
  obtain ⟨b, hb, rfl⟩ := List.mem_map.mp hd
  exact sm_tup (B := 75) (D := 2) (n := 12) (sm_arr h.m12 h.k3 (h.all b hb).all) (by rw [List.length_map]; exact (h.all b hb).le12 h.m12)
theorem shown_dAll {m k : Int} {bs : List (List Item)} (h : OkAll m k bs) : (dAll bs).shown.length ≤ sizeLine :=
  PyData.shown_fits (B := 8) (by decide) (by decide) (sm_dAll h).sh (Nat.le_trans (sm_dAll h).wt (by decide))
theorem lay_ints : ∀ os : List Int, PyData.canLayAll0 (os.map PyData.int) = true
  | [] => rfl
  | o :: r => by simp only [List.map_cons, PyData.canLayAll0, PyData.canLay0, lay_ints r, Bool.and_self]
theorem dep_ints : ∀ os : List Int, PyData.depthAll (os.map PyData.int) = 0
  | [] => rfl
  | o :: r => by simp only [List.map_cons, PyData.depthAll, PyData.depth, dep_ints r, Nat.max_self]
theorem shaped_lst (ns : List Int) : SeqAt.shaped (.list (ns.map PyData.int)) = true := by
  unfold SeqAt.shaped
  simp only [PyData.canLay0, PyData.depth, lay_ints, dep_ints, Bool.true_and]
  decide
theorem eqv_same {d : PyData} (h : SeqAt.shaped d = true) : PyData.eqv d d = true := SeqAt.eqv_refl d (SeqAt.canLay_of_shaped h)
/-- the parts of a cell, as data -/
def dParts (c : Cl) : PyData := .tuple [.int c.no, .int c.ln, .int c.ar.st, .int c.ar.kd, dOs c.ar.os]
theorem shaped_parts (c : Cl) : SeqAt.shaped (dParts c) = true := by
  unfold SeqAt.shaped dParts dOs
  simp only [PyData.canLay0, PyData.canLayAll0, PyData.depth, PyData.depthAll, lay_ints, dep_ints, Bool.true_and]
  decide
/-- its copies -/
def dCop (n : Nat) (os : List Int) : PyData := .tuple (os.map fun o => .tuple [.int n, .int o])
theorem lay_cop (n : Nat) : ∀ os : List Int, PyData.canLayAll0 (os.map fun o => .tuple [.int n, .int o]) = true
  | [] => rfl
  | o :: r => by simp only [List.map_cons, PyData.canLayAll0, PyData.canLay0, lay_cop n r, Bool.and_self]
theorem dep_cop (n : Nat) : ∀ os : List Int, PyData.depthAll (os.map fun o => PyData.tuple [.int n, .int o]) ≤ 1
  | [] => Nat.zero_le _
  | o :: r => by
    simp only [List.map_cons, PyData.depthAll, PyData.depth]
    exact Nat.max_le.mpr ⟨by decide, dep_cop n r⟩
theorem shaped_cop (n : Nat) (os : List Int) : SeqAt.shaped (dCop n os) = true := by
  have h := dep_cop n os
  unfold SeqAt.shaped dCop
  simp only [PyData.canLay0, PyData.depth, lay_cop, Bool.true_and]
  exact decide_eq_true (by omega)
def CopV (H : Hp) (n : Nat) (v : V) (o : Int) : Prop := ∃ p, v = .ref p ∧ H p = some (.tup [.int n, .int o])
theorem dp_cop {K : PySem.W.Frag} {H : Hp} {n : Nat} {p : Addr} {vs : List V} {os : List Int} (h : H p = some (.tup vs)) (r : Paired (CopV H n) vs os) : Dp K H (.ref p) (dCop n os) :=
  .tup (SqT.of h) (dp_map (fun v o z => by
    obtain ⟨q, rfl, e⟩ := z
    exact .tup (SqT.of e) (.cons (.int _) (.cons (.int _) .nil))) r)
end Xb
namespace Xb
open PySem PySem.Spec PyProof.Rows L2
/-! ### the text by places -/
def topS (i : Nat) : Stmt := PySem.Challenge.pw_exactbeats_k02_whole_cells_of_arrivals.main.body.getD i (.Pass ⟨0, 0, 0, 0⟩)
abbrev sIsInteger : Stmt := topS 1
abbrev sIsWithin : Stmt := topS 2
abbrev sIsLot : Stmt := topS 3
abbrev sCheckLines : Stmt := topS 17
abbrev sCheckMost : Stmt := topS 18
abbrev sAreOuts : Stmt := topS 19
abbrev sInit : Stmt := inClass (topS 20) 0
abbrev sParts : Stmt := inClass (topS 20) 1
abbrev sEq : Stmt := inClass (topS 20) 2
abbrev sCopies : Stmt := topS 21
abbrev sIsArrival : Stmt := topS 22
abbrev sFbb : Stmt := topS 23
abbrev sFb : Stmt := topS 24
abbrev sIsArrivals : Stmt := topS 25
abbrev sCheckArrivals : Stmt := topS 26
abbrev sCob : Stmt := topS 27
abbrev sCellsIn : Stmt := topS 28
abbrev sCells : Stmt := topS 29
abbrev sHand : Stmt := topS 31
abbrev sDraw : Stmt := topS 32
abbrev sAny : Stmt := topS 33
abbrev sOuts : Stmt := topS 34
abbrev sArrival : Stmt := topS 35
abbrev sArrivals : Stmt := topS 36
abbrev sSizes : Stmt := topS 37
abbrev sLawCells : Stmt := topS 38
abbrev sLaw : Stmt := topS 39
theorem scIsInteger : FnScope ["thing"] ["thing"] (defScope sIsInteger) := ⟨rfl, rfl, rfl, by decide +kernel, rfl, by decide +kernel, by decide +kernel⟩
theorem scIsWithin : FnScope ["thing", "least", "most"] ["thing", "least", "most"] (defScope sIsWithin) := ⟨rfl, rfl, rfl, by decide +kernel, rfl, by decide +kernel, by decide +kernel⟩
theorem scIsLot : FnScope ["thing", "many", "last", "number"] ["thing", "many"] (defScope sIsLot) := ⟨rfl, rfl, rfl, by decide +kernel, rfl, by decide +kernel, by decide +kernel⟩
theorem scCheckLines : FnScope ["thing"] ["thing"] (defScope sCheckLines) := ⟨rfl, rfl, rfl, by decide +kernel, rfl, by decide +kernel, by decide +kernel⟩
theorem scCheckMost : FnScope ["thing"] ["thing"] (defScope sCheckMost) := ⟨rfl, rfl, rfl, by decide +kernel, rfl, by decide +kernel, by decide +kernel⟩
theorem scAreOuts : FnScope ["lines", "most", "thing"] ["lines", "most", "thing"] (defScope sAreOuts) := ⟨rfl, rfl, rfl, by decide +kernel, rfl, by decide +kernel, by decide +kernel⟩
theorem scInit : FnScope ["self", "number", "line", "stream", "kind", "outs"] ["self", "number", "line", "stream", "kind", "outs"] (defScope sInit) := ⟨rfl, rfl, rfl, by decide +kernel, rfl, by decide +kernel, by decide +kernel⟩
theorem scParts : FnScope ["self"] ["self"] (defScope sParts) := ⟨rfl, rfl, rfl, by decide +kernel, rfl, by decide +kernel, by decide +kernel⟩
theorem scEq : FnScope ["self", "other"] ["self", "other"] (defScope sEq) := ⟨rfl, rfl, rfl, by decide +kernel, rfl, by decide +kernel, by decide +kernel⟩
theorem scCopies : FnScope ["cell", "output"] ["cell"] (defScope sCopies) := ⟨rfl, rfl, rfl, by decide +kernel, rfl, by decide +kernel, by decide +kernel⟩
theorem scIsArrival : FnScope ["lines", "most", "thing", "stream", "kind", "outs"] ["lines", "most", "thing"] (defScope sIsArrival) := ⟨rfl, rfl, rfl, by decide +kernel, rfl, by decide +kernel, by decide +kernel⟩
theorem scFbb : FnScope ["lines", "most", "thing", "line", "item"] ["lines", "most", "thing"] (defScope sFbb) := ⟨rfl, rfl, rfl, by decide +kernel, rfl, by decide +kernel, by decide +kernel⟩
theorem scFb : FnScope ["lines", "most", "thing", "beat", "items", "line"] ["lines", "most", "thing"] (defScope sFb) := ⟨rfl, rfl, rfl, by decide +kernel, rfl, by decide +kernel, by decide +kernel⟩
theorem scIsArrivals : FnScope ["lines", "most", "thing"] ["lines", "most", "thing"] (defScope sIsArrivals) := ⟨rfl, rfl, rfl, by decide +kernel, rfl, by decide +kernel, by decide +kernel⟩
theorem scCheckArrivals : FnScope ["lines", "most", "thing", "bad"] ["lines", "most", "thing"] (defScope sCheckArrivals) := ⟨rfl, rfl, rfl, by decide +kernel, rfl, by decide +kernel, by decide +kernel⟩
theorem scCob : FnScope ["first", "items", "found", "line", "item"] ["first", "items"] (defScope sCob) := ⟨rfl, rfl, rfl, by decide +kernel, rfl, by decide +kernel, by decide +kernel⟩
theorem scCellsIn : FnScope ["arrivals", "found", "many", "items"] ["arrivals"] (defScope sCellsIn) := ⟨rfl, rfl, rfl, by decide +kernel, rfl, by decide +kernel, by decide +kernel⟩
theorem scCells : FnScope ["lines", "most", "arrivals"] ["lines", "most", "arrivals"] (defScope sCells) := ⟨rfl, rfl, rfl, by decide +kernel, rfl, by decide +kernel, by decide +kernel⟩
theorem scHand : FnScope ["_law_script", "_law_given", "_law_cell"] ["_law_script"] (defScope sHand) := ⟨rfl, rfl, rfl, by decide +kernel, rfl, by decide +kernel, by decide +kernel⟩
theorem scDraw : FnScope ["_law_hand_here", "_law_many", "_law_cell", "_law_digit", "_law_number"] ["_law_hand_here", "_law_many"] (defScope sDraw) := ⟨rfl, rfl, rfl, by decide +kernel, rfl, by decide +kernel, by decide +kernel⟩
theorem scAny : FnScope ["_law_hand_here", "_law_some"] ["_law_hand_here", "_law_some"] (defScope sAny) := ⟨rfl, rfl, rfl, by decide +kernel, rfl, by decide +kernel, by decide +kernel⟩
theorem scOuts : FnScope ["_law_hand_here", "_law_lines", "_law_most", "_law_turn"] ["_law_hand_here", "_law_lines", "_law_most"] (defScope sOuts) := ⟨rfl, rfl, rfl, by decide +kernel, rfl, by decide +kernel, by decide +kernel⟩
theorem scArrival : FnScope ["_law_hand_here", "_law_lines", "_law_most", "_law_stream", "_law_kind"] ["_law_hand_here", "_law_lines", "_law_most"] (defScope sArrival) := ⟨rfl, rfl, rfl, by decide +kernel, rfl, by decide +kernel, by decide +kernel⟩
theorem scArrivals : FnScope ["_law_hand_here", "_law_lines", "_law_most", "_law_beats", "_law_thick", "_law_found", "_law_beat", "_law_some", "_law_line"] ["_law_hand_here", "_law_lines", "_law_most", "_law_beats"] (defScope sArrivals) := ⟨rfl, rfl, rfl, by decide +kernel, rfl, by decide +kernel, by decide +kernel⟩
theorem scSizes : FnScope ["_law_hand_here"] ["_law_hand_here"] (defScope sSizes) := ⟨rfl, rfl, rfl, by decide +kernel, rfl, by decide +kernel, by decide +kernel⟩
theorem scLawCells : FnScope ["_law_arrivals_here", "_law_found", "_law_many", "_law_items", "_law_some", "_law_line", "_law_item"] ["_law_arrivals_here"] (defScope sLawCells) := ⟨rfl, rfl, rfl, by decide +kernel, rfl, by decide +kernel, by decide +kernel⟩
theorem scLaw : FnScope ["_law_script", "_law_hand_here", "_law_turn", "_law_lines", "_law_most", "_law_beats", "_law_arrivals_here", "_law_kept", "_law_due", "_law_told", "_law_some", "_law_parts_of", "_law_one", "_law_parts", "_law_again", "_law_output"] ["_law_script"] (defScope sLaw) := ⟨rfl, rfl, rfl, by decide +kernel, rfl, by decide +kernel, by decide +kernel⟩
/-! ### what the walk asks of the top -/
structure Txt (K : PySem.W.Frag) (mg : Str → Option Value) (C : Addr) : Prop where
  ins : C8.InsC K C
  n1 : NoAttr K C "came_as"
  n2 : NoAttr K C "at_line"
  n3 : NoAttr K C "of_stream"
  n4 : NoAttr K C "of_kind"
  n5 : NoAttr K C "to_outs"
  mgC : mg "Cell" = some (.ref C)
  kC : PySem.W.keepIn K (.ref C) = true
  neC : PySem.W.findIn K (.ref C) "__ne__" = some (some (.builtin "object.__ne__"))
  mlines : ∃ t, mg "MOST_LINES" = some (.int 12 t)
  mcopies : ∃ t, mg "MOST_COPIES" = some (.int 3 t)
  mstream : ∃ t, mg "MOST_STREAM" = some (.int 99 t)
  mkind : ∃ t, mg "MOST_KIND" = some (.int 7 t)
  mnumber : ∃ t, mg "MOST_NUMBER" = some (.int 1000000000 t)
  mbeats : ∃ t, mg "MOST_BEATS" = some (.int 200 t)
  isi : mg "isinstance" = none
  tint : mg "int" = none
  tbool : mg "bool" = none
  ttuple : mg "tuple" = none
  tlist : mg "list" = none
  tset : mg "set" = none
  len : mg "len" = none
  enum : mg "enumerate" = none
  rng : mg "range" = none
  abs : mg "abs" = none
  srt : mg "sorted" = none
  zip : mg "zip" = none
  rep : mg "repr" = none
end Xb
namespace Xb
open PySem PySem.Spec PyProof.Rows L2
/-! ### defs as they are called -/
/-- a def of the top under its name -/
structure DefAt (K : PySem.W.Frag) (mg : Str → Option Value) (x : Str) (st : Stmt) (ps : List Str) : Prop where
  ex : ∃ (f : Addr) (fd : FuncData), Fun K x x st f fd ∧ Binds K fd ps [] ∧ mg x = some (.ref f)
/-- a method of Cell -/
structure MethAt (K : PySem.W.Frag) (C : Addr) (m qual : Str) (st : Stmt) (ps : List Str) : Prop where
  ex : ∃ (f : Addr) (fd : FuncData), Fun K m qual st f fd ∧ Binds K fd ps [] ∧ Meth K C m f
section
variable {P : Program} {w : World} {K : PySem.W.Frag} {mg : Str → Option Value} {base : Heap} {C : Addr}
theorem DefAt.cal {x : Str} {st : Stmt} {N ps : List Str} {k : Nat} {sp : Sp} (D : DefAt K mg x st ps) (S : FnScope N ps (defScope st)) (len : ∀ vs H Q E, sp vs H Q E → vs.length = ps.length)
    (hbody : ∀ (f : Addr) (cdv : Value) (A : Around) (outer : List Env) (s : Shared) (H : Hp) (vs : List V) (Q : VK) (E : XK), Room k (A.deeper (envOfC x (defScope st) s.heap.objs.size f cdv)) → sp vs H Q E →
      ∃ t, PSs (cxOf CX0 P w K mg base N x (defScope st) f cdv A outer s H E).nox (defBody st) t ∧ t { nx := fun _ H' => Q .non H', rt := Q } (start N vs) H) : C8.Cal P w K mg base (k + 1) x sp [] := by
  obtain ⟨f, fd, F, b, g⟩ := D.ex
  exact ⟨f, fd, ps, [], F.ok S len (hbody f), g, F.kp, b, .nil⟩
theorem gc_int {x : Str} {i : Int} (h : ∃ t, mg x = some (.int i t)) : ∃ u, mg x = some u ∧ RelV (.int i) u := by
  obtain ⟨t, e⟩ := h
  exact ⟨_, e, t, rfl⟩
def spInteger : Sp := fun vs H Q _ => ∃ i, vs = [.int i] ∧ Q (.bl true) H
theorem ok_integer {T : Txt K mg C} (D : DefAt K mg "is_integer" sIsInteger ["thing"]) : C8.Cal P w K mg base 1 "is_integer" spInteger [] := by
  refine D.cal scIsInteger (fun vs H Q E h => ?_) (fun f cdv A outer s H vs Q E hr h => ?_)
  · obtain ⟨i, rfl, _⟩ := h
    rfl
  · obtain ⟨i, rfl, q⟩ := h
    refine ⟨_, pss_one (ps_ret (pe_and (pe_callB call_isi (by rfl) T.isi boot_isinstance (pa_cons (pv 0) (pa_cons (pe_bltn (v := .ty "int") (by rfl) T.tint boot_int rfl) pa_nil)))
      (pe_one (pe_not (pe_callB call_isi (by rfl) T.isi boot_isinstance (pa_cons (pv 0) (pa_cons (pe_bltn (v := .ty "bool") (by rfl) T.tbool boot_bool rfl) pa_nil))))))), ?_⟩
    refine ⟨_, rfl, _, .ty "int", _, _, true, rfl, .ty "int", .base (.int i), kit_ty (by decide +kernel), true, rfl, iteT ?_⟩
    exact ⟨_, rfl, _, .ty "bool", _, _, false, rfl, .ty "bool", .base (.int i), kit_ty (by decide +kernel), false, rfl, q⟩
def spWithin : Sp := fun vs H Q _ => ∃ t a b : Int, vs = [.int t, .int a, .int b] ∧ a ≤ t ∧ t ≤ b ∧ Q (.bl true) H
theorem ok_within (D : DefAt K mg "is_within" sIsWithin ["thing", "least", "most"]) (c1 : C8.Cal P w K mg base 1 "is_integer" spInteger []) : C8.Cal P w K mg base 2 "is_within" spWithin [] := by
  refine D.cal scIsWithin (fun vs H Q E h => ?_) (fun f cdv A outer s H vs Q E hr h => ?_)
  · obtain ⟨t, a, b, rfl, _⟩ := h
    rfl
  · obtain ⟨t, a, b, rfl, h1, h2, q⟩ := h
    refine ⟨_, pss_one (ps_ret (pe_and (C8.pe_c c1 hr (Nat.le_refl _) (by rfl) (pa_cons (pv 0) pa_nil)) (pe_one (pe_chain op_le op_le (pv 1) (pv 0) (pv 2))))), ?_⟩
    refine ⟨_, rfl, t, rfl, true, rfl, iteT ?_⟩
    refine ⟨_, rfl, _, rfl, a, t, rfl, rfl, _, rfl, ?_⟩
    rw [decide_eq_true h1]
    refine iteT ⟨_, rfl, t, b, rfl, rfl, ?_⟩
    show Q (.bl (decide (t ≤ b))) H
    rw [decide_eq_true h2]
    exact q
theorem asc_next {os : List Int} {i : Nat} {o : Int} (h : os.Pairwise (· < ·)) (e : os[i]? = some o) : ∀ x ∈ os.drop (i + 1), o < x := by
  obtain ⟨hi, rfl⟩ := List.getElem?_eq_some_iff.mp e
  have q := h.drop (i := i)
  rw [List.drop_eq_getElem_cons hi] at q
  exact (List.pairwise_cons.mp q).1
def spLot : Sp := fun vs H Q _ => ∃ (p : Addr) (m : Int) (os : List Int), vs = [.ref p, .int m] ∧ Os H p os ∧ os.Pairwise (· < ·) ∧ (∀ o ∈ os, 0 ≤ o ∧ o < m) ∧ Q (.bl true) H
theorem ok_lot {T : Txt K mg C} (D : DefAt K mg "is_lot" sIsLot ["thing", "many"]) (c2 : C8.Cal P w K mg base 2 "is_within" spWithin []) : C8.Cal P w K mg base 3 "is_lot" spLot [] := by
  refine D.cal scIsLot (fun vs H Q E h => ?_) (fun f cdv A outer s H vs Q E hr h => ?_)
  · obtain ⟨p, m, os, rfl, _⟩ := h
    rfl
  · obtain ⟨p, m, os, rfl, hp, asc, bd, q⟩ := h
    refine ⟨_, pss_cons (ps_if (pt_not (pt_val (pe_callB call_isi (by rfl) T.isi boot_isinstance (pa_cons (pv 0) (pa_cons (pe_bltn (v := .ty "tuple") (by rfl) T.ttuple boot_tuple rfl) pa_nil))))) (pss_one (ps_ret pe_bl)) pss_nil)
      (pss_cons (ps_set (i := 2) scIsLot.nd rfl (.inl rfl) (pe_un un_neg pe_int))
      (pss_cons (ps_for PassesOwn.never rfl (pi_tup (pv 0)) (pg_name (i := 3) scIsLot.nd rfl (.inl rfl))
        (pss_cons (ps_if (pt_not (pt_val (C8.pe_c c2 hr (Nat.le_refl _) (by rfl) (pa_cons (pv 3) (pa_cons (pe_op op_add (pv 2) pe_int) (pa_cons (pe_op op_sub (pv 1) pe_int) pa_nil)))))) (pss_one (ps_ret pe_bl)) pss_nil)
        (pss_one (ps_set (i := 2) scIsLot.nd rfl (.inl rfl) (pv 3)))))
      (pss_one (ps_ret pe_bl)))), ?_⟩
    refine ⟨_, rfl, _, .ty "tuple", _, _, true, rfl, .ty "tuple", .base (.tup hp), kit_ty (by decide +kernel), true, rfl, iteF ?_⟩
    refine ⟨1, rfl, ?_⟩
    refine ⟨_, rfl, p, rfl, ⟨_, SqT.of hp⟩, for_tup (K := K) (a := p) (xs := os.map V.int) (fun i σ H2 => ∃ (l : Int) (y : Option V), σ = [some (.ref p), some (.int m), some (.int l), y] ∧ H2 = H ∧ -1 ≤ l ∧ ∀ o ∈ os.drop i, l < o)
      ⟨-1, none, rfl, rfl, Int.le_refl _, fun o ho => by have := (bd o ho).1; omega⟩ (fun i σ H2 _ ⟨_, _, _, e, _⟩ => by rw [e]; exact SqT.of hp) ?_ ?_⟩
    · rintro i x σ H2 hi ⟨l, y, rfl, rfl, hl, hd⟩
      rw [List.getElem?_map] at hi
      obtain ⟨o, ho, rfl⟩ := Option.map_eq_some_iff.mp hi
      have hm := bd o (List.mem_of_getElem? ho)
      have hlt : l < o := hd o (by
        obtain ⟨hi', e⟩ := List.getElem?_eq_some_iff.mp ho
        rw [List.drop_eq_getElem_cons hi', e]
        exact List.mem_cons_self)
      refine ⟨_, rfl, ⟨_, rfl, _, _, rfl, rfl, ⟨_, rfl, _, _, rfl, rfl, ?_⟩⟩⟩
      refine ⟨o, l + 1, m - 1, rfl, by omega, by omega, true, rfl, iteF ?_⟩
      exact ⟨_, rfl, o, _, rfl, rfl, by omega, asc_next asc ho⟩
    · rintro σ H2 ⟨l, y, rfl, rfl, _⟩
      exact q
def spLines : Sp := fun vs H Q _ => ∃ n : Int, vs = [.int n] ∧ 1 ≤ n ∧ n ≤ 12 ∧ Q .non H
theorem ok_lines {T : Txt K mg C} (D : DefAt K mg "check_lines" sCheckLines ["thing"]) (c2 : C8.Cal P w K mg base 2 "is_within" spWithin []) : C8.Cal P w K mg base 3 "check_lines" spLines [] := by
  refine D.cal scCheckLines (fun vs H Q E h => ?_) (fun f cdv A outer s H vs Q E hr h => ?_)
  · obtain ⟨n, rfl, _⟩ := h
    rfl
  · obtain ⟨n, rfl, h1, h2, q⟩ := h
    refine ⟨_, pss_one (ps_if (pt_not (pt_val (C8.pe_c c2 hr (Nat.le_refl _) (by rfl) (pa_cons (pv 0) (pa_cons pe_int (pa_cons (C8.pe_gc (by rfl) (gc_int T.mlines)) pa_nil)))))) pss_never pss_nil), ?_⟩
    exact ⟨_, rfl, n, 1, 12, rfl, h1, h2, true, rfl, iteF q⟩
def spMost : Sp := fun vs H Q _ => ∃ n : Int, vs = [.int n] ∧ 1 ≤ n ∧ n ≤ 3 ∧ Q .non H
theorem ok_most {T : Txt K mg C} (D : DefAt K mg "check_most" sCheckMost ["thing"]) (c2 : C8.Cal P w K mg base 2 "is_within" spWithin []) : C8.Cal P w K mg base 3 "check_most" spMost [] := by
  refine D.cal scCheckMost (fun vs H Q E h => ?_) (fun f cdv A outer s H vs Q E hr h => ?_)
  · obtain ⟨n, rfl, _⟩ := h
    rfl
  · obtain ⟨n, rfl, h1, h2, q⟩ := h
    refine ⟨_, pss_one (ps_if (pt_not (pt_val (C8.pe_c c2 hr (Nat.le_refl _) (by rfl) (pa_cons (pv 0) (pa_cons pe_int (pa_cons (C8.pe_gc (by rfl) (gc_int T.mcopies)) pa_nil)))))) pss_never pss_nil), ?_⟩
    exact ⟨_, rfl, n, 1, 3, rfl, h1, h2, true, rfl, iteF q⟩
def spOuts : Sp := fun vs H Q _ => ∃ (m k : Int) (p : Addr) (os : List Int), vs = [.int m, .int k, .ref p] ∧ Os H p os ∧ OkOs m k os ∧ Q (.bl true) H
theorem ok_outs {T : Txt K mg C} (D : DefAt K mg "are_outs" sAreOuts ["lines", "most", "thing"]) (c3 : C8.Cal P w K mg base 3 "is_lot" spLot []) : C8.Cal P w K mg base 4 "are_outs" spOuts [] := by
  refine D.cal scAreOuts (fun vs H Q E h => ?_) (fun f cdv A outer s H vs Q E hr h => ?_)
  · obtain ⟨m, k, p, os, rfl, _⟩ := h
    rfl
  · obtain ⟨m, k, p, os, rfl, hp, ho, q⟩ := h
    refine ⟨_, pss_one (ps_ret (pe_and (C8.pe_c c3 hr (Nat.le_refl _) (by rfl) (pa_cons (pv 2) (pa_cons (pv 0) pa_nil)))
      (pe_one (pe_chain op_le op_le pe_int (pe_callB call_len_seq (by rfl) T.len PySem.boot_len (pa_cons (pv 2) pa_nil)) (pv 1))))), ?_⟩
    refine ⟨_, rfl, _, rfl, p, m, os, rfl, hp, ho.asc, fun o h => ⟨ho.lo o h, ho.hi o h⟩, true, rfl, iteT ?_⟩
    refine ⟨_, rfl, p, os.map V.int, rfl, .inr (SqT.of hp), 1, _, rfl, rfl, _, rfl, ?_⟩
    have h1 := ho.ne
    have h2 := ho.le
    rw [decide_eq_true (show (1 : Int) ≤ ((os.map V.int).length : Nat) by rw [List.length_map]; omega)]
    refine iteT ⟨_, rfl, _, k, rfl, rfl, ?_⟩
    show Q (.bl (decide ((((os.map V.int).length : Nat) : Int) ≤ k))) H
    rw [decide_eq_true (by rw [List.length_map]; exact h2)]
    exact q
end
end Xb
namespace Xb
open PySem PySem.Spec PyProof.Rows L2
/-! ### the class Cell -/
theorem put_all (a b c d e : V) : putF "to_outs" e (putF "of_kind" d (putF "of_stream" c (putF "at_line" b (putF "came_as" a [])))) = ([("came_as", a), ("at_line", b), ("of_stream", c), ("of_kind", d), ("to_outs", e)] : List (Str × V)) := by
  have n1 : ¬ (("came_as" : Str) = "at_line") := by decide +kernel
  have n2 : ¬ (("came_as" : Str) = "of_stream") := by decide +kernel
  have n3 : ¬ (("came_as" : Str) = "of_kind") := by decide +kernel
  have n4 : ¬ (("came_as" : Str) = "to_outs") := by decide +kernel
  have n5 : ¬ (("at_line" : Str) = "of_stream") := by decide +kernel
  have n6 : ¬ (("at_line" : Str) = "of_kind") := by decide +kernel
  have n7 : ¬ (("at_line" : Str) = "to_outs") := by decide +kernel
  have n8 : ¬ (("of_stream" : Str) = "of_kind") := by decide +kernel
  have n9 : ¬ (("of_stream" : Str) = "to_outs") := by decide +kernel
  have n10 : ¬ (("of_kind" : Str) = "to_outs") := by decide +kernel
  simp only [putF, if_neg n1, if_neg n2, if_neg n3, if_neg n4, if_neg n5, if_neg n6, if_neg n7, if_neg n8, if_neg n9, if_neg n10]
section
variable (c : Cl) (q : Addr)
theorem flds_put : flds c q = putF "to_outs" (.ref q) (putF "of_kind" (.int c.ar.kd) (putF "of_stream" (.int c.ar.st) (putF "at_line" (.int c.ln) (putF "came_as" (.int c.no) [])))) := (put_all _ _ _ _ _).symm
theorem lk1 : (flds c q).lookup ("came_as" : Str) = some (.int c.no) := by
  rw [flds_put]
  simp only [lookup_putF, if_neg (show ¬ (("came_as" : Str) = "at_line") by decide +kernel), if_neg (show ¬ (("came_as" : Str) = "of_stream") by decide +kernel), if_neg (show ¬ (("came_as" : Str) = "of_kind") by decide +kernel), if_neg (show ¬ (("came_as" : Str) = "to_outs") by decide +kernel), if_true]
theorem lk2 : (flds c q).lookup ("at_line" : Str) = some (.int c.ln) := by
  rw [flds_put]
  simp only [lookup_putF, if_neg (show ¬ (("at_line" : Str) = "of_stream") by decide +kernel), if_neg (show ¬ (("at_line" : Str) = "of_kind") by decide +kernel), if_neg (show ¬ (("at_line" : Str) = "to_outs") by decide +kernel), if_true]
theorem lk3 : (flds c q).lookup ("of_stream" : Str) = some (.int c.ar.st) := by
  rw [flds_put]
  simp only [lookup_putF, if_neg (show ¬ (("of_stream" : Str) = "of_kind") by decide +kernel), if_neg (show ¬ (("of_stream" : Str) = "to_outs") by decide +kernel), if_true]
theorem lk4 : (flds c q).lookup ("of_kind" : Str) = some (.int c.ar.kd) := by
  rw [flds_put]
  simp only [lookup_putF, if_neg (show ¬ (("of_kind" : Str) = "to_outs") by decide +kernel), if_true]
theorem lk5 : (flds c q).lookup ("to_outs" : Str) = some (.ref q) := by
  rw [flds_put]
  simp only [lookup_putF, if_true]
theorem lkP : (flds c q).lookup ("parts" : Str) = none := by
  rw [flds_put]
  simp only [lookup_putF, if_neg (show ¬ (("parts" : Str) = "came_as") by decide +kernel), if_neg (show ¬ (("parts" : Str) = "at_line") by decide +kernel), if_neg (show ¬ (("parts" : Str) = "of_stream") by decide +kernel), if_neg (show ¬ (("parts" : Str) = "of_kind") by decide +kernel), if_neg (show ¬ (("parts" : Str) = "to_outs") by decide +kernel)]
  rfl
end
section
variable {P : Program} {w : World} {K : PySem.W.Frag} {mg : Str → Option Value} {base : Heap} {C : Addr}
def spInit (C : Addr) : Sp := fun vs H Q _ => ∃ (x dx : Addr) (c : Cl) (q : Addr), vs = [.ref x, .int c.no, .int c.ln, .int c.ar.st, .int c.ar.kd, .ref q] ∧ H x = some (.ins C dx []) ∧ Os H q c.ar.os ∧ OkArr 12 3 c.ar ∧ c.ln < 12 ∧ c.no ≤ 1000000000 ∧
  Q .non (upd H x (.ins C dx (flds c q)))
theorem ok_init {T : Txt K mg C} (M : ∃ f, Mk K C f ∧ ∃ fd, Fun K "__init__" "Cell.__init__" sInit f fd ∧ Binds K fd ["self", "number", "line", "stream", "kind", "outs"] []) (c2 : C8.Cal P w K mg base 2 "is_within" spWithin []) (c4 : C8.Cal P w K mg base 4 "are_outs" spOuts []) :
    C8.Mak P w K mg base 5 "Cell" C (spInit C) [] := by
  obtain ⟨f, M, fd, F, b⟩ := M
  refine ⟨f, fd, _, [], M, ?_, T.mgC, b, .nil⟩
  refine F.ok scInit (fun vs H Q E h => ?_) (fun cdv A outer s H vs Q E hr h => ?_)
  · obtain ⟨x, dx, c, q, rfl, _⟩ := h
    rfl
  · obtain ⟨x, dx, c, q, rfl, hx, ho, ok, hl, hn, k⟩ := h
    have nxq : q ≠ x := ne_of ho hx (by intro z; cases z)
    refine ⟨_, pss_cons (ps_if (pt_not (pt_val (C8.pe_c c2 hr (by decide) (by rfl) (pa_cons (pv 1) (pa_cons pe_int (pa_cons (C8.pe_gc (by rfl) (gc_int T.mnumber)) pa_nil)))))) pss_never pss_nil)
      (pss_cons (ps_if (pt_not (pt_val (C8.pe_c c2 hr (by decide) (by rfl) (pa_cons (pv 2) (pa_cons pe_int (pa_cons (pe_op op_sub (C8.pe_gc (by rfl) (gc_int T.mlines)) pe_int) pa_nil)))))) pss_never pss_nil)
      (pss_cons (ps_if (pt_not (pt_val (C8.pe_c c2 hr (by decide) (by rfl) (pa_cons (pv 3) (pa_cons pe_int (pa_cons (C8.pe_gc (by rfl) (gc_int T.mstream)) pa_nil)))))) pss_never pss_nil)
      (pss_cons (ps_if (pt_not (pt_val (C8.pe_c c2 hr (by decide) (by rfl) (pa_cons (pv 4) (pa_cons pe_int (pa_cons (C8.pe_gc (by rfl) (gc_int T.mkind)) pa_nil)))))) pss_never pss_nil)
      (pss_cons (ps_if (pt_not (pt_val (C8.pe_c c4 hr (by decide) (by rfl) (pa_cons (C8.pe_gc (by rfl) (gc_int T.mlines)) (pa_cons (C8.pe_gc (by rfl) (gc_int T.mcopies)) (pa_cons (pv 5) pa_nil)))))) pss_never pss_nil)
      (pss_cons (ps_fld (pv 0) (pv 1) rfl) (pss_cons (ps_fld (pv 0) (pv 2) rfl) (pss_cons (ps_fld (pv 0) (pv 3) rfl) (pss_cons (ps_fld (pv 0) (pv 4) rfl) (pss_one (ps_fld (pv 0) (pv 5) rfl)))))))))), ?_⟩
    refine ⟨_, rfl, c.no, 0, 1000000000, rfl, by omega, by omega, true, rfl, iteF ?_⟩
    refine ⟨_, rfl, 12, 1, rfl, rfl, c.ln, 0, 12 - 1, rfl, by omega, by omega, true, rfl, iteF ?_⟩
    refine ⟨_, rfl, c.ar.st, 0, 99, rfl, ok.s0, ok.s1, true, rfl, iteF ?_⟩
    refine ⟨_, rfl, c.ar.kd, 0, 7, rfl, ok.k0, ok.k1, true, rfl, iteF ?_⟩
    refine ⟨_, rfl, 12, 3, q, c.ar.os, rfl, ho, ok.os, true, rfl, iteF ?_⟩
    refine ⟨_, rfl, _, rfl, x, C, dx, _, rfl, hx, T.ins.cl, T.n1, (by show 0 < 1000; decide), ?_⟩
    refine ⟨_, rfl, _, rfl, x, C, dx, _, rfl, upd_same, T.ins.cl, T.n2, (by show 1 < 1000; decide), ?_⟩
    rw [upd_upd]
    refine ⟨_, rfl, _, rfl, x, C, dx, _, rfl, upd_same, T.ins.cl, T.n3, Nat.lt_of_le_of_lt (length_putF _ _ _) (Nat.lt_of_le_of_lt (Nat.succ_le_succ (length_putF _ _ _)) (by show 2 < 1000; decide)), ?_⟩
    rw [upd_upd]
    refine ⟨_, rfl, _, rfl, x, C, dx, _, rfl, upd_same, T.ins.cl, T.n4, Nat.lt_of_le_of_lt (length_putF _ _ _) (Nat.lt_of_le_of_lt (Nat.succ_le_succ (length_putF _ _ _)) (Nat.lt_of_le_of_lt (Nat.succ_le_succ (Nat.succ_le_succ (length_putF _ _ _))) (by show 3 < 1000; decide))), ?_⟩
    rw [upd_upd]
    refine ⟨_, rfl, _, rfl, x, C, dx, _, rfl, upd_same, T.ins.cl, T.n5, ?_, ?_⟩
    · have := length_putF "of_kind" (V.int c.ar.kd) (putF "of_stream" (V.int c.ar.st) (putF "at_line" (V.int c.ln) (putF "came_as" (V.int c.no) [])))
      have := length_putF "of_stream" (V.int c.ar.st) (putF "at_line" (V.int c.ln) (putF "came_as" (V.int c.no) []))
      have := length_putF "at_line" (V.int c.ln) (putF "came_as" (V.int c.no) [])
      have := length_putF "came_as" (V.int c.no) []
      have e : ([] : List (Str × V)).length = 0 := rfl
      omega
    rw [upd_upd, put_all]
    exact k
def spParts (C : Addr) : Sp := fun vs H Q _ => ∃ (v : V) (c : Cl), vs = [v] ∧ CellV C H v c ∧ ∀ p H', H p = none → Same H H' → PartV H' (.ref p) c → Q (.ref p) H'
theorem ok_parts {T : Txt K mg C} (D : MethAt K C "parts" "Cell.parts" sParts ["self"]) : C8.Met P w K mg base 1 C "parts" (spParts C) [] := by
  obtain ⟨f, fd, F, b, m⟩ := D.ex
  refine ⟨f, fd, _, [], T.ins.cl, m, ?_, b, .nil⟩
  refine F.ok scParts (fun vs H Q E h => ?_) (fun cdv A outer s H vs Q E hr h => ?_)
  · obtain ⟨v, c, rfl, _⟩ := h
    rfl
  · obtain ⟨v, c, rfl, ⟨x, dx, q, rfl, hx, ho⟩, k⟩ := h
    refine ⟨_, pss_one (ps_ret (pe_tup (pa_cons (pe_fld (pv 0) rfl) (pa_cons (pe_fld (pv 0) rfl) (pa_cons (pe_fld (pv 0) rfl) (pa_cons (pe_fld (pv 0) rfl) (pa_cons (pe_fld (pv 0) rfl) pa_nil))))))), ?_⟩
    refine ⟨_, rfl, x, C, dx, _, _, rfl, hx, T.ins.cl, T.n1, lk1 c q, ?_⟩
    refine ⟨_, rfl, x, C, dx, _, _, rfl, hx, T.ins.cl, T.n2, lk2 c q, ?_⟩
    refine ⟨_, rfl, x, C, dx, _, _, rfl, hx, T.ins.cl, T.n3, lk3 c q, ?_⟩
    refine ⟨_, rfl, x, C, dx, _, _, rfl, hx, T.ins.cl, T.n4, lk4 c q, ?_⟩
    refine ⟨_, rfl, x, C, dx, _, _, rfl, hx, T.ins.cl, T.n5, lk5 c q, ?_⟩
    refine ⟨by show 5 ≤ sizeLine; decide, fun p np => ?_⟩
    exact k p _ np (same_new np) ⟨p, q, rfl, upd_same, ho.im (Im.of (same_new np))⟩
/-- two cells of the same parts -/
def REq (C : Addr) : Addr → Addr → Hp → Prop := fun a b H => ∃ c, CellV C H (.ref a) c ∧ CellV C H (.ref b) c
theorem PartV.dp {H : Hp} {v : V} {c : Cl} (h : PartV H v c) : Dp K H v (dParts c) := by
  obtain ⟨p, q, rfl, e, o⟩ := h
  exact .tup (SqT.of e) (.cons (.int _) (.cons (.int _) (.cons (.int _) (.cons (.int _) (.cons o.dp .nil)))))
theorem ok_eq {T : Txt K mg C} {f : Addr} {fd : FuncData} (F : Fun K "__eq__" "Cell.__eq__" sEq f fd) (m : C8.Met P w K mg base 1 C "parts" (spParts C) []) : FnOk P w K mg base CX0 2 f fd ["self", "other"] (spEq (REq C)) := by
  refine F.ok scEq (fun vs H Q E h => ?_) (fun cdv A outer s H vs Q E hr h => ?_)
  · obtain ⟨a, b, rfl, _⟩ := h
    rfl
  · obtain ⟨a, b, rfl, ⟨c, ca, cb⟩, k⟩ := h
    refine ⟨_, pss_one (ps_ret (pe_and (pe_callB (C8.call_isC T.ins) (by rfl) T.isi boot_isinstance (pa_cons (pv 1) (pa_cons (pe_glob (v := .ref C) (by rfl) T.mgC rfl) pa_nil)))
      (pe_one (pe_cmpR (op_eqD hr.units) (C8.pe_mt0 m hr (Nat.le_refl _) (pv 0)) (C8.pe_mt0 m hr (Nat.le_refl _) (pv 1)) (nomark _))))), ?_⟩
    obtain ⟨a', dx, q, ea, ha, oa⟩ := id ca
    cases ea
    obtain ⟨b', dy, r, eb, hb, ob⟩ := id cb
    cases eb
    refine ⟨_, rfl, b, dy, _, rfl, hb, true, rfl, iteT ?_⟩
    refine ⟨_, rfl, a, dx, _, rfl, ha, lkP c q, _, c, rfl, ca, fun p1 H1 n1 s1 v1 => ?_⟩
    refine ⟨_, rfl, b, dy, _, rfl, s1 _ _ hb, lkP c r, _, c, rfl, cb.im (Im.of s1), fun p2 H2 n2 s2 v2 => ?_⟩
    refine ⟨dParts c, dParts c, (v1.im (Im.of s2)).dp, v2.dp, shaped_parts c, shaped_parts c, ?_⟩
    rw [eqv_same (shaped_parts c)]
    exact k _ (s1.trans s2)
/-- a comprehension without a test -/
theorem tyes {σ : L2.St} {H : Hp} {A B : Hp → Prop} (h : A H) : tYes σ H (fun b H3 => if b = true then A H3 else B H3) := by
  show (if true = true then A H else B H)
  rw [if_pos rfl]
  exact h
def spCopies (C : Addr) : Sp := fun vs H Q _ => ∃ (v : V) (c : Cl), vs = [v] ∧ CellV C H v c ∧ c.ar.os.length ≤ 1000 ∧ ∀ p H' us, H p = none → Same H H' → H' p = some (.tup us) → Paired (CopV H' c.no) us c.ar.os → Q (.ref p) H'
theorem CopV.im {H H' : Hp} {n : Nat} {v : V} {o : Int} (h : CopV H n v o) (i : Im H H') : CopV H' n v o := by
  obtain ⟨p, rfl, e⟩ := h
  exact ⟨p, rfl, i _ _ trivial e⟩
theorem ok_copies {T : Txt K mg C} (D : DefAt K mg "copies" sCopies ["cell"]) : C8.Cal P w K mg base 1 "copies" (spCopies C) [] := by
  refine D.cal scCopies (fun vs H Q E h => ?_) (fun f cdv A outer s H vs Q E hr h => ?_)
  · obtain ⟨v, c, rfl, _⟩ := h
    rfl
  · obtain ⟨v, c, rfl, ⟨x, dx, q, rfl, hx, ho⟩, hlen, k⟩ := h
    refine ⟨_, pss_one (ps_ret (pe_callTy call_tuple_of (by rfl) T.ttuple boot_tuple (pa_cons
      (pe_lc (own := [("output", 1)]) (g := gName 1) (te := tTup (tCons (tFld K (tVar 0) "came_as") (tCons (tVar 1) tNil))) rfl scCopies.nd (pi_tup (pe_fld (pv 0) rfl)) (blkOk_by (own := [("output", 1)]) (N := ["cell", "output"]) (sc := defScope sCopies) (by decide +kernel))
        (fun _ _ _ _ _ => pg_name (i := 1) scCopies.nd rfl (Or.inl rfl)) (fun _ _ _ _ _ => pts_nil) (fun _ _ _ _ _ => pe_tup (pa_cons (pe_fld (pv 0) rfl) (pa_cons (pv 1) pa_nil)))) pa_nil))), ?_⟩
    refine ⟨_, rfl, x, C, dx, _, _, rfl, hx, T.ins.cl, T.n5, lk5 c q, q, rfl, ⟨_, SqT.of ho⟩, fun D nD => ?_⟩
    refine lc_tup (K := K) (a := q) (xs := c.ar.os.map V.int) (fun i H2 => Same H H2 ∧ ∃ us, H2 D = some (.lst us) ∧ Paired (CopV H2 c.no) us (c.ar.os.take i))
      ⟨same_new nD, [], upd_same, .nil⟩ (fun i H2 _ h2 => SqT.of (h2.1 _ _ ho)) ?_ ?_
    · rintro i y H2 hi ⟨s2, us, hD, pr⟩
      rw [List.getElem?_map] at hi
      obtain ⟨o, ho', rfl⟩ := Option.map_eq_some_iff.mp hi
      refine ⟨rfl, tyes ?_⟩
      refine ⟨_, rfl, x, C, dx, _, _, rfl, s2 _ _ hx, T.ins.cl, T.n1, lk1 c q, _, rfl, by show 2 ≤ sizeLine; decide, fun p np => ?_⟩
      have nDp : D ≠ p := ne_of_none hD np
      refine ⟨us, by rw [upd_ne nDp]; exact hD, ?_, ?_⟩
      · rw [paired_len pr, List.length_take]
        exact small1000 (by omega)
      · have hD' : (upd H2 p (.tup [V.int c.no, V.int o])) D = some (.lst us) := by rw [upd_ne nDp]; exact hD
        have i1 : Im H2 (upd (upd H2 p (.tup [V.int c.no, V.int o])) D (.lst (us ++ [V.ref p]))) := (Im.of (same_new np)).trans (im_lst hD')
        refine ⟨same_upd (s2.trans (same_new np)) nD, _, upd_same, ?_⟩
        rw [take_more ho']
        exact (paired_imp (fun _ _ z => z.im i1) pr).snoc ⟨p, rfl, by rw [upd_ne nDp.symm, upd_same]⟩
    · rintro H2 ⟨s2, us, hD, pr⟩
      rw [List.length_map, List.take_length] at pr
      refine ⟨D, us, rfl, .inl ⟨SqL.of hD, fun l nl => ?_⟩⟩
      exact k l _ us (s2.free nl) (s2.trans (same_new nl)) upd_same (paired_imp (fun _ _ z => z.im (Im.of (same_new nl))) pr)
end
end Xb
namespace Xb
open PySem PySem.Spec PyProof.Rows L2
section
variable {P : Program} {w : World} {K : PySem.W.Frag} {mg : Str → Option Value} {base : Heap} {C : Addr}
def spArrival : Sp := fun vs H Q _ => ∃ (m k : Int) (v : V) (a : Arr), vs = [.int m, .int k, v] ∧ ArrV H v (some a) ∧ OkArr m k a ∧ Q (.bl true) H
theorem ok_arrival {T : Txt K mg C} (D : DefAt K mg "is_arrival" sIsArrival ["lines", "most", "thing"]) (c2 : C8.Cal P w K mg base 2 "is_within" spWithin []) (c4 : C8.Cal P w K mg base 4 "are_outs" spOuts []) :
    C8.Cal P w K mg base 5 "is_arrival" spArrival [] := by
  refine D.cal scIsArrival (fun vs H Q E h => ?_) (fun f cdv A outer s H vs Q E hr h => ?_)
  · obtain ⟨m, k, v, a, rfl, _⟩ := h
    rfl
  · obtain ⟨m, k, v, a, rfl, ⟨p, r, rfl, hp, ho⟩, ok, q⟩ := h
    refine ⟨_, pss_cons (ps_if (PW.pt (pw_or (pt_not (pt_val (pe_callB call_isi (by rfl) T.isi boot_isinstance (pa_cons (pv 2) (pa_cons (pe_bltn (v := .ty "tuple") (by rfl) T.ttuple boot_tuple rfl) pa_nil)))))
        (pw_or1 (pt_cmpR op_ne (pe_callB call_len_seq (by rfl) T.len PySem.boot_len (pa_cons (pv 2) pa_nil)) pe_int (nomark _))))) (pss_one (ps_ret pe_bl)) pss_nil)
      (pss_cons (ps_asg (pv 2) (pg_tup rfl (pgs_cons (pg_name (i := 3) scIsArrival.nd rfl (.inl rfl)) (pgs_cons (pg_name (i := 4) scIsArrival.nd rfl (.inl rfl)) (pgs_cons (pg_name (i := 5) scIsArrival.nd rfl (.inl rfl)) pgs_nil)))))
      (pss_one (ps_ret (pe_and (C8.pe_c c2 hr (by decide) (by rfl) (pa_cons (pv 3) (pa_cons pe_int (pa_cons (C8.pe_gc (by rfl) (gc_int T.mstream)) pa_nil))))
        (pe_and (C8.pe_c c2 hr (by decide) (by rfl) (pa_cons (pv 4) (pa_cons pe_int (pa_cons (C8.pe_gc (by rfl) (gc_int T.mkind)) pa_nil))))
        (pe_one (C8.pe_c c4 hr (by decide) (by rfl) (pa_cons (pv 0) (pa_cons (pv 1) (pa_cons (pv 5) pa_nil)))))))))), ?_⟩
    refine ⟨_, rfl, _, .ty "tuple", _, _, true, rfl, .ty "tuple", .base (.tup hp), kit_ty (by decide +kernel), true, rfl, iteF ?_⟩
    refine ⟨_, rfl, p, _, rfl, .inr (SqT.of hp), rfl, _, rfl, iteNS rfl ?_⟩
    refine ⟨_, rfl, p, _, rfl, SqT.of hp, rfl, _, _, rfl, _, _, rfl, _, _, rfl, rfl, ?_⟩
    refine ⟨_, rfl, a.st, 0, 99, rfl, ok.s0, ok.s1, true, rfl, iteT ?_⟩
    refine ⟨_, rfl, a.kd, 0, 7, rfl, ok.k0, ok.k1, true, rfl, iteT ?_⟩
    exact ⟨_, rfl, _, rfl, _, rfl, m, k, r, a.os, rfl, ho, ok.os, q⟩
def spFbb : Sp := fun vs H Q _ => ∃ (m k : Int) (v : V) (b : List Item), vs = [.int m, .int k, v] ∧ BeatV H v b ∧ OkBeat m k b ∧ ∀ H', Same H H' → Q .non H'
theorem ok_fbb {T : Txt K mg C} (D : DefAt K mg "first_bad_of_beat" sFbb ["lines", "most", "thing"]) (c5 : C8.Cal P w K mg base 5 "is_arrival" spArrival []) : C8.Cal P w K mg base 6 "first_bad_of_beat" spFbb [] := by
  refine D.cal scFbb (fun vs H Q E h => ?_) (fun f cdv A outer s H vs Q E hr h => ?_)
  · obtain ⟨m, k, v, b, rfl, _⟩ := h
    rfl
  · obtain ⟨m, k, v, b, rfl, ⟨p, us, rfl, hp, pr⟩, ok, q⟩ := h
    refine ⟨_, pss_cons (ps_if (PW.pt (pw_or (pt_not (pt_val (pe_callB call_isi (by rfl) T.isi boot_isinstance (pa_cons (pv 2) (pa_cons (pe_bltn (v := .ty "tuple") (by rfl) T.ttuple boot_tuple rfl) pa_nil)))))
        (pw_or1 (pt_cmpR op_ne (pe_callB call_len_seq (by rfl) T.len PySem.boot_len (pa_cons (pv 2) pa_nil)) (pv 0) (nomark _))))) (pss_one (ps_ret (pe_un un_neg pe_int))) pss_nil)
      (pss_cons (ps_for PassesOwn.never rfl (pi_enumT (by rfl) T.enum (pa_cons (pv 2) pa_nil)) (pg_tup rfl (pgs_cons (pg_name (i := 3) scFbb.nd rfl (.inl rfl)) (pgs_cons (pg_name (i := 4) scFbb.nd rfl (.inl rfl)) pgs_nil)))
        (pss_one (ps_if (PW.pt (pw_and (pt_cmp (pc_notN (pv 4))) (pw_and1 (pt_not (pt_val (C8.pe_c c5 hr (Nat.le_refl _) (by rfl) (pa_cons (pv 0) (pa_cons (pv 1) (pa_cons (pv 4) pa_nil))))))))) (pss_one (ps_ret (pv 3))) pss_nil)))
      (pss_one (ps_ret pe_non))), ?_⟩
    refine ⟨_, rfl, _, .ty "tuple", _, _, true, rfl, .ty "tuple", .base (.tup hp), kit_ty (by decide +kernel), true, rfl, iteF ?_⟩
    refine ⟨_, rfl, p, _, rfl, .inr (SqT.of hp), _, rfl, rfl, _, rfl, iteNS (by rw [paired_len pr, ok.len]) ?_⟩
    refine ⟨_, rfl, p, us, rfl, SqT.of hp, for_it walk_enumT (fun i σ H2 => ∃ y3 y4, σ = [some (.int m), some (.int k), some (.ref p), y3, y4] ∧ Same H H2)
      ⟨none, none, rfl, Same.refl _⟩ (fun i σ H2 _ ⟨_, _, _, s2⟩ => SqT.of (s2 _ _ hp)) ?_ ?_⟩
    · rintro i x σ H2 H3 hi ⟨y3, y4, rfl, s2⟩ ⟨t, z1, z2, rfl, nt, rfl, e1, e2⟩
      obtain rfl := Option.some.inj e1
      obtain ⟨it, hit, hv⟩ := paired_get pr e2
      have s3 := s2.trans (same_new (o := .tup [V.int (i : Nat), z2]) nt)
      refine ⟨t, _, rfl, SqT.of upd_same, rfl, _, _, rfl, _, _, rfl, rfl, ?_⟩
      cases it with
      | none =>
        obtain rfl : z2 = .non := hv
        exact ⟨_, rfl, _, rfl, iteF ⟨_, _, rfl, s3⟩⟩
      | some a =>
        obtain ⟨r, r2, rfl, _⟩ := id hv
        refine ⟨_, rfl, _, rfl, iteT ?_⟩
        refine ⟨_, rfl, _, rfl, _, rfl, m, k, _, a, rfl, hv.im (Im.of s3), ok.all a (List.mem_of_getElem? hit), true, rfl, iteF ⟨_, _, rfl, s3⟩⟩
    · rintro σ H2 ⟨y3, y4, rfl, s2⟩
      exact q H2 s2
def spFb : Sp := fun vs H Q _ => ∃ (m k : Int) (v : V) (bs : List (List Item)), vs = [.int m, .int k, v] ∧ AllV H v bs ∧ OkAll m k bs ∧ ∀ H', Same H H' → Q .non H'
theorem ok_fb {T : Txt K mg C} (D : DefAt K mg "first_bad" sFb ["lines", "most", "thing"]) (c6 : C8.Cal P w K mg base 6 "first_bad_of_beat" spFbb []) : C8.Cal P w K mg base 7 "first_bad" spFb [] := by
  refine D.cal scFb (fun vs H Q E h => ?_) (fun f cdv A outer s H vs Q E hr h => ?_)
  · obtain ⟨m, k, v, b, rfl, _⟩ := h
    rfl
  · obtain ⟨m, k, v, bs, rfl, ⟨p, us, rfl, hp, pr⟩, ok, q⟩ := h
    refine ⟨_, pss_cons (ps_if (PW.pt (pw_or (pt_not (pt_val (pe_callB call_isi (by rfl) T.isi boot_isinstance (pa_cons (pv 2) (pa_cons (pe_bltn (v := .ty "tuple") (by rfl) T.ttuple boot_tuple rfl) pa_nil)))))
        (pw_or1 (pt_cmpR op_gt (pe_callB call_len_seq (by rfl) T.len PySem.boot_len (pa_cons (pv 2) pa_nil)) (C8.pe_gc (by rfl) (gc_int T.mbeats)) (nomark _))))) (pss_one (ps_ret (pe_un un_neg pe_int))) pss_nil)
      (pss_cons (ps_for PassesOwn.never rfl (pi_enumT (by rfl) T.enum (pa_cons (pv 2) pa_nil)) (pg_tup rfl (pgs_cons (pg_name (i := 3) scFb.nd rfl (.inl rfl)) (pgs_cons (pg_name (i := 4) scFb.nd rfl (.inl rfl)) pgs_nil)))
        (pss_cons (ps_set (i := 5) scFb.nd rfl (.inl rfl) (C8.pe_c c6 hr (Nat.le_refl _) (by rfl) (pa_cons (pv 0) (pa_cons (pv 1) (pa_cons (pv 4) pa_nil)))))
        (pss_one (ps_if (pt_cmp (pc_notN (pv 5))) pss_never pss_nil))))
      (pss_one (ps_ret pe_non))), ?_⟩
    refine ⟨_, rfl, _, .ty "tuple", _, _, true, rfl, .ty "tuple", .base (.tup hp), kit_ty (by decide +kernel), true, rfl, iteF ?_⟩
    refine ⟨_, rfl, p, _, rfl, .inr (SqT.of hp), _, _, rfl, rfl, _, rfl, ?_⟩
    rw [decide_eq_false (show ¬ (200 : Int) < ((us.length : Nat) : Int) by rw [paired_len pr]; have := ok.len; omega)]
    refine iteF ?_
    refine ⟨_, rfl, p, us, rfl, SqT.of hp, for_it walk_enumT (fun i σ H2 => ∃ y3 y4 y5, σ = [some (.int m), some (.int k), some (.ref p), y3, y4, y5] ∧ Same H H2)
      ⟨none, none, none, rfl, Same.refl _⟩ (fun i σ H2 _ ⟨_, _, _, _, s2⟩ => SqT.of (s2 _ _ hp)) ?_ ?_⟩
    · rintro i x σ H2 H3 hi ⟨y3, y4, y5, rfl, s2⟩ ⟨t, z1, z2, rfl, nt, rfl, e1, e2⟩
      obtain rfl := Option.some.inj e1
      obtain ⟨b, hb, hv⟩ := paired_get pr e2
      have s3 := s2.trans (same_new (o := .tup [V.int (i : Nat), z2]) nt)
      refine ⟨t, _, rfl, SqT.of upd_same, rfl, _, _, rfl, _, _, rfl, rfl, ?_⟩
      refine ⟨_, rfl, _, rfl, _, rfl, m, k, z2, b, rfl, hv.im (Im.of s3), ok.all b (List.mem_of_getElem? hb), fun H4 s4 => ?_⟩
      exact ⟨_, rfl, _, rfl, iteF ⟨_, _, _, rfl, s3.trans s4⟩⟩
    · rintro σ H2 ⟨y3, y4, y5, rfl, s2⟩
      exact q H2 s2
def spIsArrivals : Sp := fun vs H Q _ => ∃ (m k : Int) (v : V) (bs : List (List Item)), vs = [.int m, .int k, v] ∧ AllV H v bs ∧ OkAll m k bs ∧ ∀ H', Same H H' → Q (.bl true) H'
theorem ok_isArrivals (D : DefAt K mg "is_arrivals" sIsArrivals ["lines", "most", "thing"]) (cl : C8.Cal P w K mg base 3 "check_lines" spLines []) (cm : C8.Cal P w K mg base 3 "check_most" spMost [])
    (c7 : C8.Cal P w K mg base 7 "first_bad" spFb []) : C8.Cal P w K mg base 8 "is_arrivals" spIsArrivals [] := by
  refine D.cal scIsArrivals (fun vs H Q E h => ?_) (fun f cdv A outer s H vs Q E hr h => ?_)
  · obtain ⟨m, k, v, b, rfl, _⟩ := h
    rfl
  · obtain ⟨m, k, v, bs, rfl, hv, ok, q⟩ := h
    refine ⟨_, pss_cons (ps_expr (C8.pe_c cl hr (by decide) (by rfl) (pa_cons (pv 0) pa_nil))) (pss_cons (ps_expr (C8.pe_c cm hr (by decide) (by rfl) (pa_cons (pv 1) pa_nil)))
      (pss_one (ps_ret (pe_cmp (pc_isN (C8.pe_c c7 hr (Nat.le_refl _) (by rfl) (pa_cons (pv 0) (pa_cons (pv 1) (pa_cons (pv 2) pa_nil))))))))), ?_⟩
    refine ⟨_, rfl, m, rfl, ok.m1, ok.m12, _, rfl, k, rfl, ok.k1, ok.k3, _, rfl, _, rfl, _, rfl, m, k, v, bs, rfl, hv, ok, fun H' s' => ?_⟩
    exact q H' s'
def spCheckArrivals : Sp := fun vs H Q _ => ∃ (m k : Int) (v : V) (bs : List (List Item)), vs = [.int m, .int k, v] ∧ AllV H v bs ∧ OkAll m k bs ∧ ∀ H', Same H H' → Q .non H'
theorem ok_checkArrivals (D : DefAt K mg "check_arrivals" sCheckArrivals ["lines", "most", "thing"]) (cl : C8.Cal P w K mg base 3 "check_lines" spLines []) (cm : C8.Cal P w K mg base 3 "check_most" spMost [])
    (c7 : C8.Cal P w K mg base 7 "first_bad" spFb []) : C8.Cal P w K mg base 8 "check_arrivals" spCheckArrivals [] := by
  refine D.cal scCheckArrivals (fun vs H Q E h => ?_) (fun f cdv A outer s H vs Q E hr h => ?_)
  · obtain ⟨m, k, v, b, rfl, _⟩ := h
    rfl
  · obtain ⟨m, k, v, bs, rfl, hv, ok, q⟩ := h
    refine ⟨_, pss_cons (ps_expr (C8.pe_c cl hr (by decide) (by rfl) (pa_cons (pv 0) pa_nil))) (pss_cons (ps_expr (C8.pe_c cm hr (by decide) (by rfl) (pa_cons (pv 1) pa_nil)))
      (pss_cons (ps_set (i := 3) scCheckArrivals.nd rfl (.inl rfl) (C8.pe_c c7 hr (Nat.le_refl _) (by rfl) (pa_cons (pv 0) (pa_cons (pv 1) (pa_cons (pv 2) pa_nil)))))
      (pss_one (ps_if (pt_cmp (pc_notN (pv 3))) pss_never pss_nil)))), ?_⟩
    refine ⟨_, rfl, m, rfl, ok.m1, ok.m12, _, rfl, k, rfl, ok.k1, ok.k3, _, rfl, _, rfl, _, rfl, m, k, v, bs, rfl, hv, ok, fun H' s' => ?_⟩
    exact ⟨_, rfl, _, rfl, iteF (q H' s')⟩
/-- a beat's cells, numbered from n on -/
def spCob (C : Addr) : Sp := fun vs H Q _ => ∃ (n : Nat) (m k : Int) (v : V) (b : List Item), vs = [.int n, v] ∧ BeatV H v b ∧ OkBeat m k b ∧ m ≤ 12 ∧ k ≤ 3 ∧ n ≤ 1000000 ∧
  ∀ p H', H p = none → Same H H' → RowV C H' (.ref p) (row n 0 b) → Q (.ref p) H'
theorem ok_cob {T : Txt K mg C} (D : DefAt K mg "cells_of_beat" sCob ["first", "items"]) (mk : C8.Mak P w K mg base 5 "Cell" C (spInit C) []) : C8.Cal P w K mg base 7 "cells_of_beat" (spCob C) [] := by
  refine D.cal scCob (fun vs H Q E h => ?_) (fun f cdv A outer s H vs Q E hr h => ?_)
  · obtain ⟨n, m, k, v, b, rfl, _⟩ := h
    rfl
  · obtain ⟨n, m, k, v, b, rfl, ⟨p, us, rfl, hp, pr⟩, ok, hm, hk, hn, q⟩ := h
    refine ⟨_, pss_cons (ps_set (i := 2) scCob.nd rfl (.inl rfl) (pe_lst pa_nil))
      (pss_cons (ps_for PassesOwn.never rfl (pi_enumT (by rfl) T.enum (pa_cons (pv 1) pa_nil)) (pg_tup rfl (pgs_cons (pg_name (i := 3) scCob.nd rfl (.inl rfl)) (pgs_cons (pg_name (i := 4) scCob.nd rfl (.inl rfl)) pgs_nil)))
        (pss_one (ps_if (pt_cmp (pc_notN (pv 4))) (pss_one (ps_expr (pe_bm PySem.F.plainAttrs_list PySem.F.slot_list_append PySem.F.type_list_append mt_append (pv 2) (pa_cons
          (C8.pe_mk mk hr (Nat.le_refl _) (by rfl) (pa_cons (pe_op op_add (pv 0) (pe_callB call_len_seq (by rfl) T.len PySem.boot_len (pa_cons (pv 2) pa_nil))) (pa_cons (pv 3)
            (pa_cons (pe_ix ix_tup (pv 4) pe_int (fun _ _ => rfl)) (pa_cons (pe_ix ix_tup (pv 4) pe_int (fun _ _ => rfl)) (pa_cons (pe_ix ix_tup (pv 4) pe_int (fun _ _ => rfl)) pa_nil)))))) pa_nil)))) pss_nil)))
      (pss_one (ps_ret (pv 2)))), ?_⟩
    refine ⟨Nat.zero_le _, fun F nF => ?_⟩
    have s1 : Same H (upd H F (.lst [])) := same_new nF
    refine ⟨_, rfl, p, us, rfl, SqT.of (s1 _ _ hp), for_it walk_enumT (fun i σ H2 => ∃ y3 y4, σ = [some (.int n), some (.ref p), some (.ref F), y3, y4] ∧ Same H H2 ∧ ∃ fs, H2 F = some (.lst fs) ∧ Paired (CellV C H2) fs (row n 0 (b.take i)))
      ⟨none, none, rfl, s1, [], upd_same, .nil⟩ (fun i σ H2 _ ⟨_, _, _, s2, _⟩ => SqT.of (s2 _ _ hp)) ?_ ?_⟩
    · rintro i x σ H2 H3 hi ⟨y3, y4, rfl, s2, fs, hF, pf⟩ ⟨t, z1, z2, rfl, nt, rfl, e1, e2⟩
      obtain rfl := Option.some.inj e1
      obtain ⟨it, hit, hv⟩ := paired_get pr e2
      have sT : Same H2 (upd H2 t (.tup [V.int (i : Nat), z2])) := same_new nt
      have s3 := s2.trans sT
      have hF3 := sT _ _ hF
      have pf3 : Paired (CellV C (upd H2 t (.tup [V.int (i : Nat), z2]))) fs (row n 0 (b.take i)) := paired_imp (fun _ _ z => z.im (Im.of sT)) pf
      have hv3 := hv.im (Im.of s3)
      have ht : (upd H2 t (.tup [V.int (i : Nat), z2])) t = some (.tup [V.int (i : Nat), z2]) := upd_same
      have hib : i < b.length := (List.getElem?_eq_some_iff.mp hit).1
      have hb12 := ok.le12 hm
      have hfs : fs.length = (row n 0 (b.take i)).length := paired_len pf
      have hfl : fs.length ≤ 12 := by
        have := row_len (b.take i) n 0
        rw [List.length_take] at this
        omega
      clear hF pf hv sT
      generalize upd H2 t (.tup [V.int (i : Nat), z2]) = H3 at *
      refine ⟨t, _, rfl, SqT.of ht, rfl, _, _, rfl, _, _, rfl, rfl, ?_⟩
      cases it with
      | none =>
        obtain rfl : z2 = .non := hv3
        refine ⟨_, rfl, _, rfl, iteF ⟨_, _, rfl, s3, fs, hF3, ?_⟩⟩
        rw [take_more hit, row_none]
        exact pf3
      | some a =>
        obtain ⟨r, r2, rfl, hr1, hr2⟩ := id hv3
        have oka := ok.all a (List.mem_of_getElem? hit)
        refine ⟨_, rfl, _, rfl, iteT ?_⟩
        refine ⟨_, rfl, .inl ⟨rfl, _, SqL.of hF3⟩, ?_⟩
        refine ⟨_, rfl, _, rfl, F, fs, rfl, .inl (SqL.of hF3), _, _, rfl, rfl, _, rfl, ?_⟩
        refine ⟨_, rfl, r, _, 0, _, rfl, rfl, SqT.of hr1, atI_nat (j := 0) rfl, ?_⟩
        refine ⟨_, rfl, r, _, 1, _, rfl, rfl, SqT.of hr1, atI_nat (j := 1) rfl, ?_⟩
        refine ⟨_, rfl, r, _, 2, _, rfl, rfl, SqT.of hr1, atI_nat (j := 2) rfl, ?_⟩
        intro x dx nx ndx nex
        have sA : Same H3 (upd (upd H3 dx (.own x)) x (.ins C dx [])) := same_upd (same_new ndx) nx
        refine ⟨x, dx, ⟨n + fs.length, i, a⟩, r2, rfl, upd_same, hr2.im (Im.of sA), ⟨oka.s0, oka.s1, oka.k0, oka.k1, oka.os.mono hm hk⟩, by show i < 12; omega, by show n + fs.length ≤ 1000000000; omega, rfl, ?_⟩
        rw [upd_upd]
        have nFx : F ≠ x := ne_of_none hF3 nx
        have nFd : F ≠ dx := ne_of_none hF3 ndx
        have sB : Same H3 (upd (upd H3 dx (.own x)) x (.ins C dx (flds ⟨n + fs.length, i, a⟩ r2))) := same_upd (same_new ndx) nx
        have hF4 := sB _ _ hF3
        refine ⟨F, fs, _, rfl, rfl, hF4, Nat.lt_of_le_of_lt hfl (by decide), ?_⟩
        have i5 : Im H3 (upd (upd (upd H3 dx (.own x)) x (.ins C dx (flds ⟨n + fs.length, i, a⟩ r2))) F (.lst (fs ++ [V.ref x]))) := (Im.of sB).trans (im_lst hF4)
        refine ⟨_, _, rfl, same_upd (s3.trans sB) nF, _, upd_same, ?_⟩
        rw [take_more hit, row_some, ← hfs, List.length_take, Nat.min_eq_left (Nat.le_of_lt hib), Nat.zero_add]
        exact (paired_imp (fun _ _ z => z.im i5) pf3).snoc ⟨x, dx, r2, rfl, by rw [upd_ne nFx.symm, upd_same], hr2.im i5⟩
    · rintro σ H2 ⟨y3, y4, rfl, s2, fs, hF, pf⟩
      rw [paired_len pr, List.take_length] at pf
      exact ⟨_, rfl, q F H2 nF s2 ⟨F, fs, rfl, hF, pf⟩⟩
end
end Xb
namespace Xb
open PySem PySem.Spec PyProof.Rows L2
section
variable {P : Program} {w : World} {K : PySem.W.Frag} {mg : Str → Option Value} {base : Heap} {C : Addr}
/-- one of the lists of cells: a new list, not the outer one -/
def NewRow (C : Addr) (H H' : Hp) (p : Addr) (v : V) (cs : List Cl) : Prop := ∃ q, v = .ref q ∧ q ≠ p ∧ H q = none ∧ RowV C H' (.ref q) cs
/-- the list of the lists of cells, all new -/
def ToldV (C : Addr) (H H' : Hp) (p : Addr) (css : List (List Cl)) : Prop := ∃ us, H p = none ∧ H' p = some (.lst us) ∧ Paired (NewRow C H H' p) us css
theorem NewRow.keep {H H1 H2 : Hp} {p : Addr} {v : V} {cs : List Cl} (h : NewRow C H H1 p v cs) (i : Im H1 H2) (e : ∀ q o, q ≠ p → H1 q = some o → H2 q = some o) : NewRow C H H2 p v cs := by
  obtain ⟨q, rfl, nq, fq, q', us, eq, hq, pr⟩ := h
  cases eq
  exact ⟨q, rfl, nq, fq, q, us, rfl, e _ _ nq hq, paired_imp (fun _ _ z => z.im i) pr⟩
theorem NewRow.same {H H1 H2 : Hp} {p : Addr} {v : V} {cs : List Cl} (h : NewRow C H H1 p v cs) (s : Same H1 H2) : NewRow C H H2 p v cs := h.keep (Im.of s) fun _ _ _ e => s _ _ e
def spCellsIn (C : Addr) : Sp := fun vs H Q _ => ∃ (m k : Int) (v : V) (bs : List (List Item)), vs = [v] ∧ AllV H v bs ∧ OkAll m k bs ∧ ∀ p H', Same H H' → ToldV C H H' p (rows 0 bs) → Q (.ref p) H'
theorem ok_cellsIn {T : Txt K mg C} (D : DefAt K mg "cells_in" sCellsIn ["arrivals"]) (c7 : C8.Cal P w K mg base 7 "cells_of_beat" (spCob C) []) : C8.Cal P w K mg base 8 "cells_in" (spCellsIn C) [] := by
  refine D.cal scCellsIn (fun vs H Q E h => ?_) (fun f cdv A outer s H vs Q E hr h => ?_)
  · obtain ⟨m, k, v, b, rfl, _⟩ := h
    rfl
  · obtain ⟨m, k, v, bs, rfl, ⟨p, us, rfl, hp, pr⟩, ok, q⟩ := h
    refine ⟨_, pss_cons (ps_set (i := 1) scCellsIn.nd rfl (.inl rfl) (pe_lst pa_nil))
      (pss_cons (ps_set (i := 2) scCellsIn.nd rfl (.inl rfl) pe_int)
      (pss_cons (ps_for PassesOwn.never rfl (pi_tup (pv 0)) (pg_name (i := 3) scCellsIn.nd rfl (.inl rfl))
        (pss_cons (ps_expr (pe_bm PySem.F.plainAttrs_list PySem.F.slot_list_append PySem.F.type_list_append mt_append (pv 1) (pa_cons (C8.pe_c c7 hr (Nat.le_refl _) (by rfl) (pa_cons (pv 2) (pa_cons (pv 3) pa_nil))) pa_nil)))
        (pss_one (ps_aug (i := 2) scCellsIn.nd rfl (.inl rfl) (pe_callB call_len_seq (by rfl) T.len PySem.boot_len (pa_cons (pe_ix ix_list (pv 1) (pe_un un_neg pe_int) (fun _ _ => rfl)) pa_nil)) ip_add))))
      (pss_one (ps_ret (pv 1))))), ?_⟩
    refine ⟨Nat.zero_le _, fun F nF => ?_⟩
    have s1 : Same H (upd H F (.lst [])) := same_new nF
    refine ⟨_, rfl, p, rfl, ⟨us, SqT.of (s1 _ _ hp)⟩, for_tup (K := K) (a := p) (xs := us) (fun i σ H2 => ∃ y, σ = [some (.ref p), some (.ref F), some (.int (cnt 0 (bs.take i) : Nat)), y] ∧ Same H H2 ∧ ∃ fs, H2 F = some (.lst fs) ∧ Paired (NewRow C H H2 F) fs (rows 0 (bs.take i)))
      ⟨none, rfl, s1, [], upd_same, .nil⟩ (fun i σ H2 _ ⟨_, _, s2, _⟩ => SqT.of (s2 _ _ hp)) ?_ ?_⟩
    · rintro i x σ H2 hi ⟨y, rfl, s2, fs, hF, pf⟩
      obtain ⟨b, hb, hv⟩ := paired_get pr hi
      have okb := ok.all b (List.mem_of_getElem? hb)
      have hi200 : i < bs.length := (List.getElem?_eq_some_iff.mp hb).1
      have h200 := ok.len
      have hc : cnt 0 (bs.take i) ≤ 1000000 := by
        have := cnt_le (bs.take i) 0 fun z hz => (ok.all z (List.mem_of_mem_take hz)).le12 ok.m12
        rw [List.length_take] at this
        omega
      have hfl : fs.length ≤ 200 := by
        rw [paired_len pf, rows_len, List.length_take]
        omega
      refine ⟨_, rfl, .inl ⟨rfl, _, SqL.of hF⟩, ?_⟩
      refine ⟨_, rfl, _, rfl, cnt 0 (bs.take i), m, k, x, b, rfl, hv.im (Im.of s2), okb, ok.m12, ok.k3, hc, fun r H3 nr s3 hrow => ?_⟩
      have hF3 := s3 _ _ hF
      have nFr : F ≠ r := ne_of_none hF nr
      refine ⟨F, fs, _, rfl, rfl, hF3, Nat.lt_of_le_of_lt hfl (by decide), ?_⟩
      have nH : H r = none := s2.free nr
      have s4 : Same H (upd H3 F (.lst (fs ++ [V.ref r]))) := same_upd (s2.trans s3) nF
      obtain ⟨r', rs, er, hr3, prow⟩ := hrow
      cases er
      have hr4 : (upd H3 F (.lst (fs ++ [V.ref r]))) r = some (.lst rs) := by rw [upd_ne nFr.symm]; exact hr3
      refine ⟨_, rfl, _, rfl, _, rfl, F, _, -1, _, rfl, rfl, SqL.of upd_same, atI_last _ _, r, rs, rfl, .inl (SqL.of hr4), _, _, rfl, rfl, ?_⟩
      refine ⟨some x, ?_, s4, _, upd_same, ?_⟩
      · rw [take_more hb, cnt_snoc, paired_len prow]
        rfl
      · rw [take_more hb, rows_snoc]
        refine ((paired_imp (fun _ _ z => (z.same s3).keep (im_lst hF3) fun _ _ nq e => by rw [upd_ne nq]; exact e) pf)).snoc ?_
        exact ⟨r, rfl, nFr.symm, nH, r, rs, rfl, hr4, paired_imp (fun _ _ z => z.im (im_lst hF3)) prow⟩
    · rintro σ H2 ⟨y, rfl, s2, fs, hF, pf⟩
      rw [paired_len pr, List.take_length] at pf
      exact ⟨_, rfl, q F H2 s2 ⟨fs, nF, hF, pf⟩⟩
def spCells (C : Addr) : Sp := fun vs H Q _ => ∃ (m k : Int) (v : V) (bs : List (List Item)), vs = [.int m, .int k, v] ∧ AllV H v bs ∧ OkAll m k bs ∧ ∀ p H', Same H H' → ToldV C H H' p (rows 0 bs) → Q (.ref p) H'
theorem ok_cells (D : DefAt K mg "cells" sCells ["lines", "most", "arrivals"]) (ca : C8.Cal P w K mg base 8 "check_arrivals" spCheckArrivals []) (c8 : C8.Cal P w K mg base 8 "cells_in" (spCellsIn C) []) : C8.Cal P w K mg base 9 "cells" (spCells C) [] := by
  refine D.cal scCells (fun vs H Q E h => ?_) (fun f cdv A outer s H vs Q E hr h => ?_)
  · obtain ⟨m, k, v, b, rfl, _⟩ := h
    rfl
  · obtain ⟨m, k, v, bs, rfl, hv, ok, q⟩ := h
    refine ⟨_, pss_cons (ps_expr (C8.pe_c ca hr (Nat.le_refl _) (by rfl) (pa_cons (pv 0) (pa_cons (pv 1) (pa_cons (pv 2) pa_nil)))))
      (pss_one (ps_ret (C8.pe_c c8 hr (Nat.le_refl _) (by rfl) (pa_cons (pv 2) pa_nil)))), ?_⟩
    refine ⟨_, rfl, _, rfl, _, rfl, m, k, v, bs, rfl, hv, ok, fun H1 s1 => ?_⟩
    refine ⟨_, rfl, m, k, v, bs, rfl, hv.im (Im.of s1), ok, fun p H2 s2 ⟨us, n1, hp, pr⟩ => ?_⟩
    refine q p H2 (s1.trans s2) ⟨us, s1.free n1, hp, paired_imp (fun _ _ ⟨r, e, nr, fr, z⟩ => ⟨r, e, nr, s1.free fr, z⟩) pr⟩
end
end Xb
namespace Xb
open PySem PySem.Spec PyProof.Rows L2
/-! ### the law's own draws: a list that changes, told by its bounds alone -/
abbrev hd5 (g : Addr) (i cu st ct : Int) : List V := [.ref g, .int i, .int cu, .int st, .int ct]
structure Hand (H : Hp) (h g : Addr) : Prop where
  ne : h ≠ g
  ex : ∃ (gs : List Int) (i cu st ct : Int), H h = some (.lst (hd5 g i cu st ct)) ∧ H g = some (.lst (gs.map V.int)) ∧ (∀ x ∈ gs, 0 ≤ x) ∧ 0 ≤ i ∧ 0 ≤ cu ∧ 0 ≤ st ∧ st < 2147483647
/-- all else stays -/
def Kp (h : Addr) (H H' : Hp) : Prop := ∀ b o, b ≠ h → H b = some o → H' b = some o
theorem Kp.refl (h : Addr) (H : Hp) : Kp h H H := fun _ _ _ e => e
theorem Kp.trans {h : Addr} {H H1 H2 : Hp} (a : Kp h H H1) (b : Kp h H1 H2) : Kp h H H2 := fun c o n e => b c o n (a c o n e)
theorem Kp.of {h : Addr} {H H' : Hp} (s : Same H H') : Kp h H H' := fun b o _ e => s b o e
theorem Kp.upd {h p : Addr} {H H' : Hp} {o : HO} (k : Kp h H H') (np : H p = none) : Kp h H (upd H' p o) := fun b x n e => by
  rw [upd_ne (ne_of_none e np)]
  exact k b x n e
theorem Hand.lst {H : Hp} {h g : Addr} (a : Hand H h g) : ∃ xs, H h = some (.lst xs) := by
  obtain ⟨_, gs, i, cu, st, ct, e, _⟩ := a
  exact ⟨_, e⟩
theorem Kp.im {h g : Addr} {H H' : Hp} (k : Kp h H H') (a : Hand H h g) : Im H H' := fun b o i e => k b o (fun z => by
  obtain ⟨xs, q⟩ := a.lst
  rw [z, q] at e
  cases e
  exact i) e
theorem Hand.same {H H' : Hp} {h g : Addr} (a : Hand H h g) (s : Same H H') : Hand H' h g := by
  obtain ⟨n, gs, i, cu, st, ct, e, e2, r⟩ := a
  exact ⟨n, gs, i, cu, st, ct, s _ _ e, s _ _ e2, r⟩
theorem Hand.upd {H : Hp} {h g p : Addr} {o : HO} (a : Hand H h g) (nh : p ≠ h) (ng : p ≠ g) : Hand (upd H p o) h g := by
  obtain ⟨n, gs, i, cu, st, ct, e, e2, r⟩ := a
  exact ⟨n, gs, i, cu, st, ct, by rw [upd_ne nh.symm]; exact e, by rw [upd_ne ng.symm]; exact e2, r⟩
theorem Hand.off {H : Hp} {h g p : Addr} (a : Hand H h g) (np : H p = none) : p ≠ h ∧ p ≠ g := by
  obtain ⟨n, gs, i, cu, st, ct, e, e2, r⟩ := a
  exact ⟨fun z => ne_of_none e np z.symm, fun z => ne_of_none e2 np z.symm⟩
section
variable {P : Program} {w : World} {K : PySem.W.Frag} {mg : Str → Option Value} {base : Heap} {C : Addr}
def spHand (K : PySem.W.Frag) : Sp := fun vs H Q _ => ∃ (a : Addr) (ns : List Int), vs = [.ref a] ∧ SqL K H a (ns.map V.int) ∧ ns.length ≤ 63 ∧ ∀ h g H', Same H H' → Hand H' h g → Q (.ref h) H'
theorem cut63 (ns : List Int) : ∃ ms : List Int, cutV (ns.map V.int) none (some 63) = ms.map V.int ∧ ms.length ≤ ns.length := by
  refine ⟨(ns.drop (HT.sIx (ns.map V.int).length 0 none)).take (HT.sIx (ns.map V.int).length (ns.map V.int).length (some 63) - HT.sIx (ns.map V.int).length 0 none), ?_, ?_⟩
  · unfold cutV
    rw [← List.map_drop, ← List.map_take]
  · rw [List.length_take, List.length_drop]
    omega
theorem ok_hand {T : Txt K mg C} (D : DefAt K mg "_law_hand" sHand ["_law_script"]) : C8.Cal P w K mg base 1 "_law_hand" (spHand K) [] := by
  refine D.cal scHand (fun vs H Q E h => ?_) (fun f cdv A outer s H vs Q E hr h => ?_)
  · obtain ⟨a, ns, rfl, _⟩ := h
    rfl
  · obtain ⟨a, ns, rfl, hS, hlen, q⟩ := h
    refine ⟨_, pss_cons (ps_setLc (i := 1) (own := [("_law_cell", 2)]) (g := gName 2) (by rfl) scHand.nd rfl rfl (sw_true rfl rfl rfl (by decide +kernel)) (pi_list (pe_slice sl_list (pv 0) po_none (po_some pe_int))) (blkOk_by (own := [("_law_cell", 2)]) (N := ["_law_script", "_law_given", "_law_cell"]) (sc := defScope sHand) (by decide +kernel))
        (fun _ _ _ _ _ => pg_name (i := 2) scHand.nd rfl (Or.inl rfl)) (fun _ _ _ _ _ => pts_nil)
        (fun _ _ _ _ _ => pe_callB call_abs (by rfl) T.abs boot_abs (pa_cons (pe_callTy call_int1 (by rfl) T.tint boot_int (pa_cons (pv 2) pa_nil)) pa_nil)))
      (pss_one (ps_ret (pe_lst (pa_cons (pv 1) (pa_cons pe_int (pa_cons pe_int (pa_cons (pe_op op_add pe_int (pe_callB call_len_seq (by rfl) T.len PySem.boot_len (pa_cons (pv 1) pa_nil))) (pa_cons pe_int pa_nil)))))))), ?_⟩
    obtain ⟨ms, ems, lms⟩ := cut63 ns
    refine ⟨_, rfl, 63, rfl, a, _, rfl, hS, fun p np => ?_⟩
    rw [ems]
    have sp : Same H (upd H p (.lst (ms.map V.int))) := same_new np
    refine ⟨p, rfl, ⟨_, SqL.of upd_same⟩, fun D nD => ?_⟩
    have nDp : p ≠ D := ne_of_none upd_same nD
    have nH : H D = none := sp.free nD
    refine lc_list (K := K) (a := p) (xs := ms.map V.int) (fun i H2 => Same H H2 ∧ H2 p = some (.lst (ms.map V.int)) ∧ ∃ gs : List Int, H2 D = some (.lst (gs.map V.int)) ∧ gs.length ≤ i ∧ ∀ x ∈ gs, 0 ≤ x)
      ⟨same_upd sp nH, by rw [upd_ne nDp, upd_same], [], upd_same, Nat.le_refl _, fun _ z => absurd z List.not_mem_nil⟩ (fun i H2 _ h2 => SqL.of h2.2.1) ?_ ?_
    · rintro i y H2 hi ⟨s2, hp, gs, hD, gl, gp⟩
      have hil : i < ms.length := by
        have := (List.getElem?_eq_some_iff.mp hi).1
        rwa [List.length_map] at this
      rw [List.getElem?_map] at hi
      obtain ⟨z, hz, rfl⟩ := Option.map_eq_some_iff.mp hi
      refine ⟨rfl, tyes ?_⟩
      refine ⟨_, rfl, .inl ⟨z, rfl, z, rfl, _, hD, ?_, ?_⟩⟩
      · rw [List.length_map]
        exact small1000 (by omega)
      · refine ⟨same_upd s2 nH, by rw [upd_ne nDp]; exact hp, gs ++ [if z < 0 then -z else z], ?_, by rw [List.length_append]; exact Nat.succ_le_succ gl, fun x hx => ?_⟩
        · rw [upd_same, List.map_append]
          rfl
        · rcases List.mem_append.mp hx with hx | hx
          · exact gp x hx
          · rw [List.mem_singleton.mp hx]
            split <;> omega
    · rintro H2 ⟨s2, hp, gs, hD, gl, gp⟩
      rw [List.length_map] at gl
      refine ⟨_, rfl, _, rfl, D, _, rfl, .inl (SqL.of hD), _, _, rfl, rfl, by show 5 ≤ sizeLine; decide, fun h nh => ?_⟩
      have nhD : h ≠ D := fun z => by rw [z, hD] at nh; cases nh
      refine q h D _ (same_upd s2 (s2.free nh)) ⟨nhD, gs, 0, 0, _, 0, upd_same, by rw [upd_ne nhD.symm]; exact hD, gp, Int.le_refl _, Int.le_refl _, ?_, ?_⟩
      · show (0 : Int) ≤ 1 + ((gs.map V.int).length : Nat)
        omega
      · show (1 : Int) + ((gs.map V.int).length : Nat) < 2147483647
        rw [List.length_map]
        omega
end
end Xb
namespace Xb
open PySem PySem.Spec PyProof.Rows L2
section
variable {P : Program} {w : World} {K : PySem.W.Frag} {mg : Str → Option Value} {base : Heap} {C : Addr}
def spDraw : Sp := fun vs H Q _ => ∃ (h g : Addr) (m : Int), vs = [.ref h, .int m] ∧ Hand H h g ∧ 1 ≤ m ∧ m ≤ 1000 ∧ ∀ d H', 0 ≤ d → d < m → Kp h H H' → Hand H' h g → Q (.int d) H'
theorem kp_at {h : Addr} {H : Hp} {o : HO} : Kp h H (upd H h o) := fun b x n e => by rw [upd_ne n]; exact e
theorem ok_draw {T : Txt K mg C} (D : DefAt K mg "_law_draw" sDraw ["_law_hand_here", "_law_many"]) : C8.Cal P w K mg base 1 "_law_draw" spDraw [] := by
  refine D.cal scDraw (fun vs H Q E h => ?_) (fun f cdv A outer s H vs Q E hr h => ?_)
  · obtain ⟨h, g, m, rfl, _⟩ := h
    rfl
  · obtain ⟨h, g, m, rfl, hand, m1, m2, q⟩ := h
    refine ⟨_, C8.pss_cut (ps_if (PW.pt (pw_and (pt_cmpR op_eq (pe_ix ix_list (pv 0) pe_int (fun _ _ => rfl)) pe_int (nomark _))
          (pw_and1 (pt_cmpR op_lt (pe_ix ix_list (pv 0) pe_int (fun _ _ => rfl)) (pe_callB call_len_seq (by rfl) T.len PySem.boot_len (pa_cons (pe_ix ix_list (pv 0) pe_int (fun _ _ => rfl)) pa_nil)) (nomark _)))))
        (pss_cons (ps_set (i := 2) scDraw.nd rfl (.inl rfl) (pe_ix ix_list (pe_ix ix_list (pv 0) pe_int (fun _ _ => rfl)) (pe_ix ix_list (pv 0) pe_int (fun _ _ => rfl)) (fun _ _ => rfl)))
        (pss_cons (ps_asg (pe_op op_add (pe_ix ix_list (pv 0) pe_int (fun _ _ => rfl)) pe_int) (pg_sub (pv 0) pe_int set_list))
        (pss_cons (ps_asg (pe_op op_mod (pe_callTy call_int1 (by rfl) T.tint boot_int (pa_cons (pe_op op_add (pe_op op_add (pe_op op_mul (pe_ix ix_list (pv 0) pe_int (fun _ _ => rfl)) pe_int) (pv 2)) pe_int) pa_nil)) pe_int) (pg_sub (pv 0) pe_int set_list))
        (pss_one (ps_if (pt_cmpR op_ge (pv 2) (pe_op op_pow pe_int pe_int) (nomark _)) (pss_one (ps_asg (pv 2) (pg_sub (pv 0) pe_int set_list))) pss_nil))))) pss_nil)
      (pss_cons (ps_if (pt_cmpR op_gt (pe_ix ix_list (pv 0) pe_int (fun _ _ => rfl)) pe_int (nomark _))
        (pss_cons (ps_set (i := 3) scDraw.nd rfl (.inl rfl) (pe_op op_mod (pe_callTy call_int1 (by rfl) T.tint boot_int (pa_cons (pe_ix ix_list (pv 0) pe_int (fun _ _ => rfl)) pa_nil)) (pv 1)))
        (pss_cons (ps_asg (pe_op op_fdiv (pe_ix ix_list (pv 0) pe_int (fun _ _ => rfl)) (pv 1)) (pg_sub (pv 0) pe_int set_list))
        (pss_one (ps_ret (pv 3))))) pss_nil)
      (pss_cons (ps_asg (pe_op op_add (pe_ix ix_list (pv 0) pe_int (fun _ _ => rfl)) pe_int) (pg_sub (pv 0) pe_int set_list))
      (pss_cons (ps_set (i := 4) scDraw.nd rfl (.inl rfl) (pe_op op_mod (pe_callTy call_int1 (by rfl) T.tint boot_int (pa_cons (pe_op op_mul (pe_callTy call_int1 (by rfl) T.tint boot_int (pa_cons (pe_op op_add (pe_ix ix_list (pv 0) pe_int (fun _ _ => rfl)) (pe_op op_mul pe_int (pe_ix ix_list (pv 0) pe_int (fun _ _ => rfl)))) pa_nil)) pe_int) pa_nil)) pe_int))
      (pss_cons (ps_set (i := 4) scDraw.nd rfl (.inl rfl) (pe_op op_mod (pe_callTy call_int1 (by rfl) T.tint boot_int (pa_cons (pe_op op_mul (pv 4) (pe_op op_add (pe_op op_fdiv (pv 4) pe_int) pe_int)) pa_nil)) pe_int))
      (pss_cons (ps_set (i := 4) scDraw.nd rfl (.inl rfl) (pe_op op_mod (pe_callTy call_int1 (by rfl) T.tint boot_int (pa_cons (pe_op op_mul (pv 4) (pe_op op_add (pe_op op_fdiv (pv 4) pe_int) pe_int)) pa_nil)) pe_int))
      (pss_one (ps_ret (pe_op op_mod (pe_callTy call_int1 (by rfl) T.tint boot_int (pa_cons (pe_op op_fdiv (pv 4) pe_int) pa_nil)) (pv 1))))))))), ?_⟩
    refine ⟨fun σ' H' => ∃ y, σ' = [some (.ref h), some (.int m), y, none, none] ∧ Kp h H H' ∧ Hand H' h g, ?_, ?_⟩
    · obtain ⟨nhg, gs, i, cu, st, ct, hh, hg, gp, i0, c0, s0, s1⟩ := id hand
      have same : ∃ y, ([some (V.ref h), some (V.int m), none, none, none] : L2.St) = [some (.ref h), some (.int m), y, none, none] ∧ Kp h H H ∧ Hand H h g := ⟨none, rfl, Kp.refl _ _, hand⟩
      refine ⟨_, rfl, h, _, 2, _, rfl, rfl, SqL.of hh, atI_nat (j := 2) rfl, rfl, _, rfl, ite2 (fun e1 => ?_) (fun _ => ?_)⟩
      · refine ⟨_, rfl, h, _, 1, _, rfl, rfl, SqL.of hh, atI_nat (j := 1) rfl, ?_⟩
        refine ⟨_, rfl, h, _, 0, _, rfl, rfl, SqL.of hh, atI_nat (j := 0) rfl, g, _, rfl, .inl (SqL.of hg), _, _, rfl, rfl, _, rfl, ite2 (fun e2 => ?_) (fun _ => same)⟩
        have e3 : i < ((gs.map V.int).length : Nat) := of_decide_eq_true e2
        rw [List.length_map] at e3
        have hget : (gs.map V.int)[i.toNat]? = some (.int gs[i.toNat]) := by
          rw [List.getElem?_map, List.getElem?_eq_getElem (show i.toNat < gs.length by omega)]
          rfl
        have hc0 : 0 ≤ gs[i.toNat] := gp _ (List.getElem_mem _)
        generalize gs[i.toNat] = c at hget hc0
        refine ⟨_, rfl, h, _, 0, _, rfl, rfl, SqL.of hh, atI_nat (j := 0) rfl, _, rfl, h, _, 1, _, rfl, rfl, SqL.of hh, atI_nat (j := 1) rfl, g, _, i, _, rfl, rfl, SqL.of hg, at_of (j := i.toNat) (by omega) hget, ?_⟩
        refine ⟨_, rfl, h, _, 1, _, rfl, rfl, SqL.of hh, atI_nat (j := 1) rfl, _, _, rfl, rfl, _, rfl, h, _, 1, 1, rfl, rfl, hh, rfl, ?_⟩
        refine ⟨_, rfl, h, _, 3, _, rfl, rfl, SqL.of upd_same, atI_nat (j := 3) rfl, _, _, rfl, rfl, .inr ⟨by decide, by decide⟩, ?_⟩
        refine ⟨_, rfl, _, _, rfl, rfl, _, _, rfl, rfl, .inl ⟨_, rfl, _, _, rfl, rfl, (by show (0 : Int) < 2147483629; decide), ?_⟩⟩
        refine ⟨_, rfl, h, _, 3, 3, rfl, rfl, upd_same, rfl, ?_⟩
        rw [upd_upd]
        have hn : 0 ≤ (st * 69621 + c + 11) % 2147483629 := Int.emod_nonneg _ (by decide)
        have hl : (st * 69621 + c + 11) % 2147483629 < 2147483629 := Int.emod_lt_of_pos _ (by decide)
        have hand2 : ∀ cu', 0 ≤ cu' → Hand (upd H h (.lst (hd5 g (i + 1) cu' ((st * 69621 + c + 11) % 2147483629) ct))) h g := fun cu' c0' =>
          ⟨nhg, gs, i + 1, cu', _, ct, upd_same, by rw [upd_ne nhg.symm]; exact hg, gp, by omega, c0', hn, by omega⟩
        refine ⟨_, rfl, _, _, rfl, rfl, ⟨by decide, by decide, by decide⟩, _, _, rfl, rfl, _, rfl, ite2 (fun _ => ?_) (fun _ => ?_)⟩
        · refine ⟨_, rfl, _, rfl, h, _, 2, 2, rfl, rfl, upd_same, rfl, ?_⟩
          rw [upd_upd]
          exact ⟨_, rfl, kp_at, hand2 c hc0⟩
        · exact ⟨_, rfl, kp_at, hand2 cu c0⟩
      · exact iteF same
    · rintro σ' H2 ⟨y, rfl, k2, hand2⟩
      obtain ⟨nhg, gs, i, cu, st, ct, hh, hg, gp, i0, c0, s0, s1⟩ := id hand2
      have fin : ∀ cu' ct' d, 0 ≤ cu' → 0 ≤ d → d < m → Q (.int d) (upd H2 h (.lst (hd5 g i cu' st ct'))) := fun cu' ct' d c0' d0 d1 =>
        q d _ d0 d1 (k2.trans kp_at) ⟨nhg, gs, i, cu', st, ct', upd_same, by rw [upd_ne nhg.symm]; exact hg, gp, i0, c0', s0, s1⟩
      refine ⟨_, rfl, h, _, 2, _, rfl, rfl, SqL.of hh, atI_nat (j := 2) rfl, _, _, rfl, rfl, _, rfl, ite2 (fun _ => ?_) (fun _ => ?_)⟩
      · refine ⟨_, rfl, h, _, 2, _, rfl, rfl, SqL.of hh, atI_nat (j := 2) rfl, .inl ⟨_, rfl, _, rfl, _, _, rfl, rfl, by omega, ?_⟩⟩
        refine ⟨_, rfl, h, _, 2, _, rfl, rfl, SqL.of hh, atI_nat (j := 2) rfl, _, rfl, _, _, rfl, rfl, ⟨by omega, by omega⟩, _, rfl, h, _, 2, 2, rfl, rfl, hh, rfl, ?_⟩
        exact ⟨_, rfl, fin (cu / m) ct _ (Int.ediv_nonneg c0 (by omega)) (Int.emod_nonneg _ (by omega)) (Int.emod_lt_of_pos _ (by omega))⟩
      · refine ⟨_, rfl, h, _, 4, _, rfl, rfl, SqL.of hh, atI_nat (j := 4) rfl, _, _, rfl, rfl, _, rfl, h, _, 4, 4, rfl, rfl, hh, rfl, ?_⟩
        refine ⟨_, rfl, h, _, 3, _, rfl, rfl, SqL.of upd_same, atI_nat (j := 3) rfl, _, rfl, h, _, 4, _, rfl, rfl, SqL.of upd_same, atI_nat (j := 4) rfl, _, _, rfl, rfl, .inl ⟨by decide, by decide⟩, _, _, rfl, rfl, .inl ⟨_, rfl, ?_⟩⟩
        refine ⟨_, _, rfl, rfl, .inr ⟨by decide, by decide⟩, .inl ⟨_, rfl, _, _, rfl, rfl, (by show (0 : Int) < 2147483647; decide), ?_⟩⟩
        have n0 : 0 ≤ (st + 7919 * (ct + 1)) * 48271 % 2147483647 := Int.emod_nonneg _ (by decide)
        have n1 : (st + 7919 * (ct + 1)) * 48271 % 2147483647 < 2147483647 := Int.emod_lt_of_pos _ (by decide)
        generalize (st + 7919 * (ct + 1)) * 48271 % 2147483647 = a at n0 n1
        refine ⟨_, rfl, _, rfl, _, _, rfl, rfl, ⟨by decide, by decide⟩, _, _, rfl, rfl, _, _, rfl, rfl, .inl ⟨by omega, by omega⟩, .inl ⟨_, rfl, _, _, rfl, rfl, (by show (0 : Int) < 2147483647; decide), ?_⟩⟩
        have p0 : 0 ≤ a * (a / 1009 + 69621) % 2147483647 := Int.emod_nonneg _ (by decide)
        have p1 : a * (a / 1009 + 69621) % 2147483647 < 2147483647 := Int.emod_lt_of_pos _ (by decide)
        generalize a * (a / 1009 + 69621) % 2147483647 = b at p0 p1
        refine ⟨_, rfl, _, rfl, _, _, rfl, rfl, ⟨by decide, by decide⟩, _, _, rfl, rfl, _, _, rfl, rfl, .inl ⟨by omega, by omega⟩, .inl ⟨_, rfl, _, _, rfl, rfl, (by show (0 : Int) < 2147483399; decide), ?_⟩⟩
        generalize b * (b / 2003 + 40692) % 2147483399 = c
        refine ⟨_, rfl, _, _, rfl, rfl, ⟨by decide, by decide⟩, .inl ⟨_, rfl, _, rfl, _, _, rfl, rfl, by omega, ?_⟩⟩
        exact fin cu (ct + 1) _ c0 (Int.emod_nonneg _ (by omega)) (Int.emod_lt_of_pos _ (by omega))
end
end Xb
namespace Xb
open PySem PySem.Spec PyProof.Rows L2
section
variable {P : Program} {w : World} {K : PySem.W.Frag} {mg : Str → Option Value} {base : Heap} {C : Addr}
def spAny : Sp := fun vs H Q _ => ∃ (h g l : Addr) (xs : List V), vs = [.ref h, .ref l] ∧ Hand H h g ∧ H l = some (.lst xs) ∧ l ≠ h ∧ 1 ≤ xs.length ∧ xs.length ≤ 100 ∧ ∀ x H', x ∈ xs → Kp h H H' → Hand H' h g → Q x H'
theorem ok_any {T : Txt K mg C} (D : DefAt K mg "_law_any" sAny ["_law_hand_here", "_law_some"]) (cd : C8.Cal P w K mg base 1 "_law_draw" spDraw []) : C8.Cal P w K mg base 2 "_law_any" spAny [] := by
  refine D.cal scAny (fun vs H Q E h => ?_) (fun f cdv A outer s H vs Q E hr h => ?_)
  · obtain ⟨h, g, l, xs, rfl, _⟩ := h
    rfl
  · obtain ⟨h, g, l, xs, rfl, hand, hl, nl, x1, x2, q⟩ := h
    refine ⟨_, pss_one (ps_ret (pe_ix ix_list (pv 1) (C8.pe_c cd hr (Nat.le_refl _) (by rfl) (pa_cons (pv 0) (pa_cons (pe_callB call_len_seq (by rfl) T.len PySem.boot_len (pa_cons (pv 1) pa_nil)) pa_nil))) (fun _ _ => rfl))), ?_⟩
    refine ⟨_, rfl, _, rfl, _, rfl, l, xs, rfl, .inl (SqL.of hl), h, g, _, rfl, hand, by omega, by omega, fun d H1 d0 d1 k1 hand1 => ?_⟩
    have hd : d.toNat < xs.length := by omega
    exact ⟨l, xs, d, _, rfl, rfl, SqL.of (k1 _ _ nl hl), at_of (j := d.toNat) (by omega) (List.getElem?_eq_getElem hd), q _ _ (List.getElem_mem hd) k1 hand1⟩
/-- ascending: what a set's sorted members are -/
def spLawOuts : Sp := fun vs H Q _ => ∃ (h g : Addr) (m k : Int), vs = [.ref h, .int m, .int k] ∧ Hand H h g ∧ 1 ≤ m ∧ m ≤ 12 ∧ 1 ≤ k ∧ k ≤ 3 ∧ ∀ p os H', Kp h H H' → Hand H' h g → Os H' p os → OkOs m k os → Q (.ref p) H'
theorem ok_lawOuts {T : Txt K mg C} (D : DefAt K mg "_law_outs" sOuts ["_law_hand_here", "_law_lines", "_law_most"]) (cd : C8.Cal P w K mg base 1 "_law_draw" spDraw []) : C8.Cal P w K mg base 2 "_law_outs" spLawOuts [] := by
  refine D.cal scOuts (fun vs H Q E h => ?_) (fun f cdv A outer s H vs Q E hr h => ?_)
  · obtain ⟨h, g, m, k, rfl, _⟩ := h
    rfl
  · obtain ⟨h, g, m, k, rfl, hand, m1, m12, k1, k3, q⟩ := h
    refine ⟨_, pss_one (ps_ret (pe_callTy call_tuple_of (by rfl) T.ttuple boot_tuple (pa_cons (pe_callB (cr_sortedSet rfl) (by rfl) T.srt boot_sorted (pa_cons (pe_callTy (cr_setL rfl) (by rfl) T.tset boot_set (pa_cons
      (pe_lc (own := [("_law_turn", 3)]) (g := gName 3) rfl scOuts.nd (pi_range1 (by rfl) T.rng (pa_cons (pe_op op_add pe_int (C8.pe_c cd hr (Nat.le_refl _) (by rfl) (pa_cons (pv 0) (pa_cons (pv 2) pa_nil)))) pa_nil))
        (blkOk_by (own := [("_law_turn", 3)]) (N := ["_law_hand_here", "_law_lines", "_law_most", "_law_turn"]) (sc := defScope sOuts) (by decide +kernel))
        (fun _ _ _ _ _ => pg_name (i := 3) scOuts.nd rfl (Or.inl rfl)) (fun _ _ _ _ _ => pts_nil) (fun _ _ _ _ _ => C8.pe_c cd hr (Nat.le_refl _) (by rfl) (pa_cons (pv 0) (pa_cons (pv 1) pa_nil)))) pa_nil)) pa_nil)) pa_nil))), ?_⟩
    refine ⟨_, rfl, _, rfl, h, g, k, rfl, hand, k1, by omega, fun d H1 d0 d1 kp1 hand1 => ?_⟩
    refine ⟨_, _, rfl, rfl, 1 + d, rfl, by omega, by omega, fun D nD => ?_⟩
    obtain ⟨nDh, nDg⟩ := hand1.off nD
    have s1 : Same H1 (upd H1 D (.lst [])) := same_new nD
    refine lc_range (lo := 0) (n := (1 + d).toNat) (fun i H2 => ∃ os : List Int, Kp h H1 H2 ∧ Hand H2 h g ∧ H2 D = some (.lst (os.map V.int)) ∧ os.length = i ∧ ∀ o ∈ os, 0 ≤ o ∧ o < m)
      ⟨[], Kp.of s1, hand1.same s1, upd_same, rfl, fun _ z => absurd z List.not_mem_nil⟩ ?_ ?_
    · rintro i H2 hi ⟨os, kp2, hand2, hD, hl, bd⟩
      refine ⟨rfl, tyes ?_⟩
      refine ⟨_, rfl, _, rfl, h, g, m, rfl, hand2, m1, by omega, fun e H3 e0 e1 kp3 hand3 => ?_⟩
      have hD3 := kp3 _ _ nDh hD
      refine ⟨_, hD3, ?_, os ++ [e], (kp2.trans kp3).upd nD, hand3.upd nDh nDg, ?_, by rw [List.length_append, hl]; rfl, fun o ho => ?_⟩
      · rw [List.length_map]
        exact small1000 (by omega)
      · rw [upd_same, List.map_append]
        rfl
      · rcases List.mem_append.mp ho with ho | ho
        · exact bd o ho
        · rw [List.mem_singleton.mp ho]
          exact ⟨e0, e1⟩
    · rintro H2 ⟨os, kp2, hand2, hD, hl, bd⟩
      have hn : os.length ≤ 3 := by omega
      refine ⟨D, os, rfl, SqL.of hD, Nat.lt_of_le_of_lt (Nat.succ_le_succ hn) (by decide), fun S c nS hc => ?_⟩
      refine ⟨S, _, c, rfl, upd_same, by omega, fun ns l asc mem len nl => ?_⟩
      refine ⟨l, _, rfl, .inl ⟨SqL.of upd_same, fun p np => ?_⟩⟩
      have sA : Same H2 (upd (upd (upd H2 S (SetO w S (fun j => decide (j ∈ os)) c)) l (.lst (ns.map V.int))) p (.tup (ns.map V.int))) := by
        refine (same_new nS).trans ((same_new nl).trans (same_new np))
      refine q p ns _ (kp1.trans (kp2.trans (Kp.of sA))) (hand2.same sA) upd_same ⟨asc, fun o ho => (bd o (of_decide_eq_true ((mem o).mp ho))).1, fun o ho => (bd o (of_decide_eq_true ((mem o).mp ho))).2, ?_, ?_⟩
      · have : os ≠ [] := fun z => by rw [z] at hl; simp at hl; omega
        obtain ⟨o, r, rfl⟩ := List.exists_cons_of_ne_nil this
        have ho : o ∈ ns := (mem o).mpr (decide_eq_true List.mem_cons_self)
        exact List.length_pos_of_mem ho
      · rw [len]
        omega
def spLawArrival : Sp := fun vs H Q _ => ∃ (h g : Addr) (m k : Int), vs = [.ref h, .int m, .int k] ∧ Hand H h g ∧ 1 ≤ m ∧ m ≤ 12 ∧ 1 ≤ k ∧ k ≤ 3 ∧ ∀ v a H', Kp h H H' → Hand H' h g → ArrV H' v (some a) → OkArr m k a → Q v H'
theorem ok_lawArrival (D : DefAt K mg "_law_arrival" sArrival ["_law_hand_here", "_law_lines", "_law_most"]) (cd : C8.Cal P w K mg base 1 "_law_draw" spDraw []) (ca : C8.Cal P w K mg base 2 "_law_any" spAny [])
    (co : C8.Cal P w K mg base 2 "_law_outs" spLawOuts []) : C8.Cal P w K mg base 3 "_law_arrival" spLawArrival [] := by
  refine D.cal scArrival (fun vs H Q E h => ?_) (fun f cdv A outer s H vs Q E hr h => ?_)
  · obtain ⟨h, g, m, k, rfl, _⟩ := h
    rfl
  · obtain ⟨h, g, m, k, rfl, hand, m1, m12, k1, k3, q⟩ := h
    refine ⟨_, pss_cons (ps_par (i := 3) (j := 4) rfl scArrival.nd rfl rfl (by decide) rfl rfl
        (pa_cons (C8.pe_c ca hr (Nat.le_refl _) (by rfl) (pa_cons (pv 0) (pa_cons (pe_lst (pa_cons pe_int (pa_cons pe_int (pa_cons pe_int (pa_cons (C8.pe_c cd hr (by decide) (by rfl) (pa_cons (pv 0) (pa_cons pe_int pa_nil))) pa_nil))))) pa_nil)))
        (pa_cons (C8.pe_c ca hr (Nat.le_refl _) (by rfl) (pa_cons (pv 0) (pa_cons (pe_lst (pa_cons pe_int (pa_cons pe_int (pa_cons pe_int (pa_cons pe_int (pa_cons (C8.pe_c cd hr (by decide) (by rfl) (pa_cons (pv 0) (pa_cons pe_int pa_nil))) pa_nil)))))) pa_nil))) pa_nil)) (by rfl))
      (pss_one (ps_ret (pe_tup (pa_cons (pv 3) (pa_cons (pv 4) (pa_cons (C8.pe_c co hr (Nat.le_refl _) (by rfl) (pa_cons (pv 0) (pa_cons (pv 1) (pa_cons (pv 2) pa_nil)))) pa_nil)))))), ?_⟩
    refine ⟨_, rfl, _, rfl, h, g, 100, rfl, hand, by decide, by decide, fun d H1 d0 d1 kp1 hand1 => ?_⟩
    refine ⟨by show 4 ≤ sizeLine; decide, fun l nl => ?_⟩
    obtain ⟨nlh, nlg⟩ := hand1.off nl
    have s1 : Same H1 (upd H1 l (.lst [.int 0, .int 1, .int 99, .int d])) := same_new nl
    refine ⟨h, g, l, _, rfl, hand1.same s1, upd_same, nlh, by show 1 ≤ 4; decide, by show 4 ≤ 100; decide, fun x H2 hx kp2 hand2 => ?_⟩
    obtain ⟨xs, rfl, xs0, xs1⟩ : ∃ i : Int, x = .int i ∧ 0 ≤ i ∧ i ≤ 99 := by
      simp only [List.mem_cons, List.not_mem_nil, or_false] at hx
      rcases hx with rfl | rfl | rfl | rfl
      · exact ⟨0, rfl, by decide, by decide⟩
      · exact ⟨1, rfl, by decide, by decide⟩
      · exact ⟨99, rfl, by decide, by decide⟩
      · exact ⟨d, rfl, d0, by omega⟩
    refine ⟨_, rfl, _, rfl, h, g, 8, rfl, hand2, by decide, by decide, fun d' H3 d0' d1' kp3 hand3 => ?_⟩
    refine ⟨by show 5 ≤ sizeLine; decide, fun l' nl' => ?_⟩
    obtain ⟨nlh', nlg'⟩ := hand3.off nl'
    have s3 : Same H3 (upd H3 l' (.lst [.int 0, .int 0, .int 1, .int 7, .int d'])) := same_new nl'
    refine ⟨h, g, l', _, rfl, hand3.same s3, upd_same, nlh', by show 1 ≤ 5; decide, by show 5 ≤ 100; decide, fun y H4 hy kp4 hand4 => ?_⟩
    obtain ⟨ys, rfl, ys0, ys1⟩ : ∃ i : Int, y = .int i ∧ 0 ≤ i ∧ i ≤ 7 := by
      simp only [List.mem_cons, List.not_mem_nil, or_false] at hy
      rcases hy with rfl | rfl | rfl | rfl | rfl
      · exact ⟨0, rfl, by decide, by decide⟩
      · exact ⟨0, rfl, by decide, by decide⟩
      · exact ⟨1, rfl, by decide, by decide⟩
      · exact ⟨7, rfl, by decide, by decide⟩
      · exact ⟨d', rfl, d0', by omega⟩
    refine ⟨_, _, rfl, _, rfl, _, rfl, _, rfl, _, rfl, _, rfl, h, g, m, k, rfl, hand4, m1, m12, k1, k3, fun p os H5 kp5 hand5 hos ok => ?_⟩
    refine ⟨by show 3 ≤ sizeLine; decide, fun r nr => ?_⟩
    have s5 : Same H5 (upd H5 r (.tup [.int xs, .int ys, .ref p])) := same_new nr
    exact q (.ref r) ⟨xs, ys, os⟩ _ (kp1.trans ((Kp.of s1).trans (kp2.trans (kp3.trans ((Kp.of s3).trans (kp4.trans (kp5.trans (Kp.of s5)))))))) (hand5.same s5) ⟨r, p, rfl, upd_same, hos.im (Im.of s5)⟩ ⟨xs0, xs1, ys0, ys1, ok⟩
def spSizes : Sp := fun vs H Q _ => ∃ (h g : Addr), vs = [.ref h] ∧ Hand H h g ∧ ∀ p (m k : Int) H', Kp h H H' → Hand H' h g → H' p = some (.tup [.int m, .int k]) → 1 ≤ m → m ≤ 12 → 1 ≤ k → k ≤ 3 → Q (.ref p) H'
theorem ok_sizes (D : DefAt K mg "_law_sizes" sSizes ["_law_hand_here"]) (cd : C8.Cal P w K mg base 1 "_law_draw" spDraw []) (ca : C8.Cal P w K mg base 2 "_law_any" spAny []) : C8.Cal P w K mg base 3 "_law_sizes" spSizes [] := by
  refine D.cal scSizes (fun vs H Q E h => ?_) (fun f cdv A outer s H vs Q E hr h => ?_)
  · obtain ⟨h, g, rfl, _⟩ := h
    rfl
  · obtain ⟨h, g, rfl, hand, q⟩ := h
    refine ⟨_, pss_one (ps_ret (pe_tup (pa_cons (C8.pe_c ca hr (Nat.le_refl _) (by rfl) (pa_cons (pv 0) (pa_cons (pe_lst (pa_cons pe_int (pa_cons pe_int (pa_cons pe_int (pa_cons pe_int (pa_cons pe_int (pa_cons pe_int (pa_cons pe_int pa_nil)))))))) pa_nil)))
      (pa_cons (pe_op op_add pe_int (C8.pe_c cd hr (by decide) (by rfl) (pa_cons (pv 0) (pa_cons pe_int pa_nil)))) pa_nil)))), ?_⟩
    refine ⟨_, rfl, by show 7 ≤ sizeLine; decide, fun l nl => ?_⟩
    obtain ⟨nlh, nlg⟩ := hand.off nl
    have s1 : Same H (upd H l (.lst [.int 1, .int 2, .int 3, .int 4, .int 4, .int 5, .int 12])) := same_new nl
    refine ⟨h, g, l, _, rfl, hand.same s1, upd_same, nlh, by decide, by decide, fun x H2 hx kp2 hand2 => ?_⟩
    obtain ⟨m, rfl, m1, m12⟩ : ∃ i : Int, x = .int i ∧ 1 ≤ i ∧ i ≤ 12 := by
      simp only [List.mem_cons, List.not_mem_nil, or_false] at hx
      rcases hx with rfl | rfl | rfl | rfl | rfl | rfl | rfl <;> exact ⟨_, rfl, by decide, by decide⟩
    refine ⟨_, rfl, h, g, 3, rfl, hand2, by decide, by decide, fun d H3 d0 d1 kp3 hand3 => ?_⟩
    refine ⟨_, _, rfl, rfl, by show 2 ≤ sizeLine; decide, fun p np => ?_⟩
    have s3 : Same H3 (upd H3 p (.tup [.int m, .int (1 + d)])) := same_new np
    exact q p m (1 + d) _ ((Kp.of s1).trans (kp2.trans (kp3.trans (Kp.of s3)))) (hand3.same s3) upd_same m1 m12 (by omega) (by omega)
end
end Xb
namespace Xb
open PySem PySem.Spec PyProof.Rows L2
section
variable {P : Program} {w : World} {K : PySem.W.Frag} {mg : Str → Option Value} {base : Heap} {C : Addr}
def spLawArrivals : Sp := fun vs H Q _ => ∃ (h g : Addr) (m k n : Int), vs = [.ref h, .int m, .int k, .int n] ∧ Hand H h g ∧ 1 ≤ m ∧ m ≤ 12 ∧ 1 ≤ k ∧ k ≤ 3 ∧ 0 ≤ n ∧ n ≤ 200 ∧ ∀ v bs H', Kp h H H' → Hand H' h g → AllV H' v bs → OkAll m k bs → Q v H'
theorem ok_lawArrivals {T : Txt K mg C} (D : DefAt K mg "_law_arrivals" sArrivals ["_law_hand_here", "_law_lines", "_law_most", "_law_beats"]) (cd : C8.Cal P w K mg base 1 "_law_draw" spDraw [])
    (ca : C8.Cal P w K mg base 3 "_law_arrival" spLawArrival []) : C8.Cal P w K mg base 4 "_law_arrivals" spLawArrivals [] := by
  refine D.cal scArrivals (fun vs H Q E h => ?_) (fun f cdv A outer s H vs Q E hr h => ?_)
  · obtain ⟨h, g, m, k, n, rfl, _⟩ := h
    rfl
  · obtain ⟨h, g, m, k, n, rfl, hand, m1, m12, k1, k3, n0, n200, q⟩ := h
    refine ⟨_, pss_cons (ps_set (i := 4) scArrivals.nd rfl (.inr rfl) (pe_op op_add pe_int (C8.pe_c cd hr (by decide) (by rfl) (pa_cons (pv 0) (pa_cons pe_int pa_nil)))))
      (pss_cons (ps_set (i := 5) scArrivals.nd rfl (.inl rfl) (pe_lst pa_nil))
      (pss_cons (ps_for PassesOwn.never rfl (pi_range1 (by rfl) T.rng (pa_cons (pv 3) pa_nil)) (pg_name (i := 6) scArrivals.nd rfl (.inl rfl))
        (pss_cons (ps_setLc (i := 7) (own := [("_law_line", 8)]) (g := gName 8) (by rfl) scArrivals.nd rfl rfl (sw_true rfl rfl rfl (by decide +kernel)) (pi_range1 (by rfl) T.rng (pa_cons (pv 1) pa_nil))
          (blkOk_by (own := [("_law_line", 8)]) (N := ["_law_hand_here", "_law_lines", "_law_most", "_law_beats", "_law_thick", "_law_found", "_law_beat", "_law_some", "_law_line"]) (sc := defScope sArrivals) (by decide +kernel))
          (fun _ _ _ _ _ => pg_name (i := 8) scArrivals.nd rfl (Or.inl rfl)) (fun _ _ _ _ _ => pts_nil)
          (fun _ _ _ _ _ => pe_ifExp (pt_cmpR op_lt (C8.pe_c cd hr (by decide) (by rfl) (pa_cons (pv 0) (pa_cons pe_int pa_nil))) (pv 4) (nomark _))
            (C8.pe_c ca hr (Nat.le_refl _) (by rfl) (pa_cons (pv 0) (pa_cons (pv 1) (pa_cons (pv 2) pa_nil)))) pe_non))
        (pss_one (ps_expr (pe_bm PySem.F.plainAttrs_list PySem.F.slot_list_append PySem.F.type_list_append mt_append (pv 5) (pa_cons (pe_callTy call_tuple_of (by rfl) T.ttuple boot_tuple (pa_cons (pv 7) pa_nil)) pa_nil))))))
      (pss_one (ps_ret (pe_callTy call_tuple_of (by rfl) T.ttuple boot_tuple (pa_cons (pv 5) pa_nil)))))), ?_⟩
    refine ⟨_, rfl, h, g, 4, rfl, hand, by decide, by decide, fun d H1 d0 d1 kp1 hand1 => ?_⟩
    refine ⟨_, _, rfl, rfl, Nat.zero_le _, fun F nF => ?_⟩
    obtain ⟨nFh, nFg⟩ := hand1.off nF
    have s1 : Same H1 (upd H1 F (.lst [])) := same_new nF
    refine ⟨_, rfl, n, rfl, by omega, by omega, for_range (lo := 0) (n := n.toNat) (fun i σ H2 => ∃ y6 y7, σ = [some (.ref h), some (.int m), some (.int k), some (.int n), some (.int (1 + d)), some (.ref F), y6, y7, none] ∧ Kp h H1 H2 ∧ Hand H2 h g ∧
        ∃ us bs, H2 F = some (.lst us) ∧ Paired (BeatV H2) us bs ∧ bs.length = i ∧ ∀ b ∈ bs, OkBeat m k b)
      ⟨none, none, rfl, Kp.of s1, hand1.same s1, [], [], upd_same, .nil, rfl, fun _ z => absurd z List.not_mem_nil⟩ ?_ ?_⟩
    · rintro i σ H2 hi ⟨y6, y7, rfl, kp2, hand2, us, bs, hF, pr, hl, ok⟩
      refine ⟨_, rfl, m, rfl, by omega, by omega, fun D nD => ?_⟩
      obtain ⟨nDh, nDg⟩ := hand2.off nD
      have nFD : F ≠ D := ne_of_none hF nD
      have s2 : Same H2 (upd H2 D (.lst [])) := same_new nD
      refine lc_range (lo := 0) (n := m.toNat) (fun j H3 => ∃ vs b, Kp h H2 H3 ∧ Hand H3 h g ∧ H3 D = some (.lst vs) ∧ Paired (ArrV H3) vs b ∧ b.length = j ∧ ∀ a, some a ∈ b → OkArr m k a)
        ⟨[], [], Kp.of s2, hand2.same s2, upd_same, .nil, rfl, fun _ z => absurd z List.not_mem_nil⟩ ?_ ?_
      · rintro j H3 hj ⟨vs, b, kp3, hand3, hD, pb, bl, okb⟩
        refine ⟨rfl, tyes ?_⟩
        have hvl : vs.length < sizeLine := by
          rw [paired_len pb]
          exact small1000 (by omega)
        refine ⟨_, rfl, h, g, 4, rfl, hand3, by decide, by decide, fun e H4 e0 e1 kp4 hand4 => ?_⟩
        have hD4 := kp4 _ _ nDh hD
        have pb4 : Paired (ArrV H4) vs b := paired_imp (fun _ _ z => z.im (kp4.im hand3)) pb
        refine ⟨_, rfl, _, _, rfl, rfl, _, rfl, ite2 (fun _ => ?_) (fun _ => ?_)⟩
        · refine ⟨_, rfl, _, rfl, _, rfl, h, g, m, k, rfl, hand4, m1, m12, k1, k3, fun v a H5 kp5 hand5 hv oka => ?_⟩
          have hD5 := kp5 _ _ nDh hD4
          have i5 : Im H5 (upd H5 D (.lst (vs ++ [v]))) := im_lst hD5
          refine ⟨vs, hD5, hvl, vs ++ [v], b ++ [some a], (kp3.trans (kp4.trans kp5)).upd nD, hand5.upd nDh nDg, upd_same, ?_, by rw [List.length_append, bl]; rfl, fun x hx => ?_⟩
          · exact (paired_imp (fun _ _ z => z.im ((kp5.im hand4).trans i5)) pb4).snoc (hv.im i5)
          · rcases List.mem_append.mp hx with hx | hx
            · exact okb x hx
            · obtain rfl := Option.some.inj (List.mem_singleton.mp hx)
              exact oka
        · have i5 : Im H4 (upd H4 D (.lst (vs ++ [V.non]))) := im_lst hD4
          refine ⟨vs, hD4, hvl, vs ++ [V.non], b ++ [none], (kp3.trans kp4).upd nD, hand4.upd nDh nDg, upd_same, ?_, by rw [List.length_append, bl]; rfl, fun x hx => ?_⟩
          · exact (paired_imp (fun _ _ z => z.im i5) pb4).snoc rfl
          · rcases List.mem_append.mp hx with hx | hx
            · exact okb x hx
            · cases List.mem_singleton.mp hx
      · rintro H3 ⟨vs, b, kp3, hand3, hD, pb, bl, okb⟩
        have nFh' : F ≠ h := nFh
        have hF3 := kp3 _ _ nFh hF
        refine ⟨_, rfl, .inl ⟨rfl, _, SqL.of hF3⟩, _, rfl, D, vs, rfl, .inl ⟨SqL.of hD, fun p np => ?_⟩⟩
        have s3 : Same H3 (upd H3 p (.tup vs)) := same_new np
        have hF4 := s3 _ _ hF3
        have i4 : Im (upd H3 p (.tup vs)) (upd (upd H3 p (.tup vs)) F (.lst (us ++ [V.ref p]))) := im_lst hF4
        refine ⟨F, us, _, rfl, rfl, hF4, ?_, ?_⟩
        · rw [paired_len pr]
          exact small1000 (by omega)
        refine ⟨_, _, rfl, (kp2.trans (kp3.trans (Kp.of s3))).upd nF, (hand3.same s3).upd nFh nFg, us ++ [V.ref p], bs ++ [b], upd_same, ?_, by rw [List.length_append, hl]; rfl, fun x hx => ?_⟩
        · refine (paired_imp (fun _ _ z => z.im ((kp3.im hand2).trans ((Im.of s3).trans i4))) pr).snoc ?_
          exact ⟨p, vs, rfl, i4 _ _ trivial upd_same, paired_imp (fun _ _ z => z.im ((Im.of s3).trans i4)) pb⟩
        · rcases List.mem_append.mp hx with hx | hx
          · exact ok x hx
          · rw [List.mem_singleton.mp hx]
            exact ⟨by rw [bl]; omega, okb⟩
    · rintro σ H2 ⟨y6, y7, rfl, kp2, hand2, us, bs, hF, pr, hl, ok⟩
      refine ⟨_, rfl, F, us, rfl, .inl ⟨SqL.of hF, fun p np => ?_⟩⟩
      have s2 : Same H2 (upd H2 p (.tup us)) := same_new np
      exact q _ bs _ (kp1.trans (kp2.trans (Kp.of s2))) (hand2.same s2) ⟨p, us, rfl, upd_same, paired_imp (fun _ _ z => z.im (Im.of s2)) pr⟩ ⟨m1, m12, k1, k3, by omega, ok⟩
/-- the law's own list of the parts -/
def DueV (H H' : Hp) (p : Addr) (css : List (List Cl)) : Prop := ∃ us, H p = none ∧ H' p = some (.lst us) ∧ Paired (fun v cs => ∃ q, v = .ref q ∧ q ≠ p ∧ PRowV H' (.ref q) cs) us css
def spLawCells : Sp := fun vs H Q _ => ∃ (m k : Int) (v : V) (bs : List (List Item)), vs = [v] ∧ AllV H v bs ∧ OkAll m k bs ∧ ∀ p H', Same H H' → DueV H H' p (rows 0 bs) → Q (.ref p) H'
theorem ok_lawCells {T : Txt K mg C} (D : DefAt K mg "_law_cells" sLawCells ["_law_arrivals_here"]) : C8.Cal P w K mg base 1 "_law_cells" spLawCells [] := by
  refine D.cal scLawCells (fun vs H Q E h => ?_) (fun f cdv A outer s H vs Q E hr h => ?_)
  · obtain ⟨m, k, v, b, rfl, _⟩ := h
    rfl
  · obtain ⟨m, k, v, bs, rfl, ⟨p, us, rfl, hp, pr⟩, ok, q⟩ := h
    refine ⟨_, pss_cons (ps_par (i := 1) (j := 2) rfl scLawCells.nd rfl rfl (by decide) rfl rfl (pa_cons (pe_lst pa_nil) (pa_cons pe_int pa_nil)) (by rfl))
      (pss_cons (ps_for PassesOwn.never rfl (pi_tup (pv 0)) (pg_name (i := 3) scLawCells.nd rfl (.inl rfl))
        (pss_cons (ps_set (i := 4) scLawCells.nd rfl (.inl rfl) (pe_lst pa_nil))
        (pss_cons (ps_for PassesOwn.never rfl (pi_enumT (by rfl) T.enum (pa_cons (pv 3) pa_nil)) (pg_tup rfl (pgs_cons (pg_name (i := 5) scLawCells.nd rfl (.inl rfl)) (pgs_cons (pg_name (i := 6) scLawCells.nd rfl (.inl rfl)) pgs_nil)))
          (pss_one (ps_if (pt_cmp (pc_notN (pv 6)))
            (pss_cons (ps_expr (pe_bm PySem.F.plainAttrs_list PySem.F.slot_list_append PySem.F.type_list_append mt_append (pv 4) (pa_cons (pe_op op_catT (pe_tup (pa_cons (pv 2) (pa_cons (pv 5) pa_nil))) (pv 6)) pa_nil)))
            (pss_one (ps_set (i := 2) scLawCells.nd rfl (.inl rfl) (pe_op op_add (pv 2) pe_int)))) pss_nil)))
        (pss_one (ps_expr (pe_bm PySem.F.plainAttrs_list PySem.F.slot_list_append PySem.F.type_list_append mt_append (pv 1) (pa_cons (pv 4) pa_nil)))))))
      (pss_one (ps_ret (pv 1)))), ?_⟩
    refine ⟨Nat.zero_le _, fun F nF => ?_⟩
    have s1 : Same H (upd H F (.lst [])) := same_new nF
    refine ⟨_, _, rfl, _, rfl, p, rfl, ⟨us, SqT.of (s1 _ _ hp)⟩, for_tup (K := K) (a := p) (xs := us) (fun i σ H2 => ∃ y3 y4 y5 y6, σ = [some (.ref p), some (.ref F), some (.int (cnt 0 (bs.take i) : Nat)), y3, y4, y5, y6] ∧ Same H H2 ∧
        ∃ fs, H2 F = some (.lst fs) ∧ Paired (fun v cs => ∃ q, v = .ref q ∧ q ≠ F ∧ PRowV H2 (.ref q) cs) fs (rows 0 (bs.take i)))
      ⟨none, none, none, none, rfl, s1, [], upd_same, .nil⟩ (fun i σ H2 _ ⟨_, _, _, _, _, s2, _⟩ => SqT.of (s2 _ _ hp)) ?_ ?_⟩
    · rintro i x σ H2 hi ⟨y3, y4, y5, y6, rfl, s2, fs, hF, pf⟩
      obtain ⟨b, hb, hv⟩ := paired_get pr hi
      have okb := ok.all b (List.mem_of_getElem? hb)
      have hi200 : i < bs.length := (List.getElem?_eq_some_iff.mp hb).1
      have h200 := ok.len
      have hfl : fs.length ≤ 200 := by
        rw [paired_len pf, rows_len, List.length_take]
        omega
      obtain ⟨r, vs, rfl, hr', prb⟩ := hv.im (Im.of s2)
      have cb : cnt 0 (bs.take (i + 1)) = cnt 0 (bs.take i) + (row (cnt 0 (bs.take i)) 0 b).length := by rw [take_more hb, cnt_snoc]
      have rb : rows 0 (bs.take (i + 1)) = rows 0 (bs.take i) ++ [row (cnt 0 (bs.take i)) 0 b] := by rw [take_more hb, rows_snoc]
      rw [cb, rb]
      generalize cnt 0 (bs.take i) = n at *
      refine ⟨Nat.zero_le _, fun G nG => ?_⟩
      have nFG : F ≠ G := ne_of_none hF nG
      have sG : Same H2 (upd H2 G (.lst [])) := same_new nG
      refine ⟨_, rfl, r, vs, rfl, SqT.of (sG _ _ hr'), for_it walk_enumT (fun j σ H3 => ∃ y5 y6, σ = [some (.ref p), some (.ref F), some (.int ((n + (row n 0 (b.take j)).length : Nat) : Int)), some (.ref r), some (.ref G), y5, y6] ∧ Same H2 H3 ∧
          ∃ gs, H3 G = some (.lst gs) ∧ Paired (PartV H3) gs (row n 0 (b.take j)))
        ⟨_, _, rfl, sG, [], upd_same, .nil⟩ (fun j σ H3 _ ⟨_, _, _, s3, _⟩ => SqT.of (s3 _ _ hr')) ?_ ?_⟩
      · rintro j x' σ H3 H4 hj ⟨z5, z6, rfl, s3, gs, hG, pg⟩ ⟨t, z1, z2, rfl, nt, rfl, e1, e2⟩
        obtain rfl := Option.some.inj e1
        obtain ⟨it, hit, hv⟩ := paired_get prb e2
        have sT : Same H3 (upd H3 t (.tup [V.int (j : Nat), z2])) := same_new nt
        have s4 := s3.trans sT
        have hG4 := sT _ _ hG
        have pg4 : Paired (PartV (upd H3 t (.tup [V.int (j : Nat), z2]))) gs (row n 0 (b.take j)) := paired_imp (fun _ _ z => z.im (Im.of sT)) pg
        have hv4 := hv.im (Im.of s4)
        have ht : (upd H3 t (.tup [V.int (j : Nat), z2])) t = some (.tup [V.int (j : Nat), z2]) := upd_same
        have hjb : j < b.length := (List.getElem?_eq_some_iff.mp hit).1
        have hb12 := okb.le12 ok.m12
        have hgs : gs.length = (row n 0 (b.take j)).length := paired_len pg
        have hgl : gs.length ≤ 12 := by
          have := row_len (b.take j) n 0
          rw [List.length_take] at this
          omega
        clear hG pg hv sT
        generalize upd H3 t (.tup [V.int (j : Nat), z2]) = H4 at *
        refine ⟨t, _, rfl, SqT.of ht, rfl, _, _, rfl, _, _, rfl, rfl, ?_⟩
        cases it with
        | none =>
          obtain rfl : z2 = .non := hv4
          refine ⟨_, rfl, _, rfl, iteF ?_⟩
          rw [take_more hit, row_none]
          exact ⟨_, _, rfl, s4, gs, hG4, pg4⟩
        | some a =>
          obtain ⟨u, u2, rfl, hu1, hu2⟩ := id hv4
          refine ⟨_, rfl, _, rfl, iteT ?_⟩
          refine ⟨_, rfl, .inl ⟨rfl, _, SqL.of hG4⟩, ?_⟩
          refine ⟨_, rfl, _, rfl, by show 2 ≤ sizeLine; decide, fun l nl => ?_⟩
          have s5 : Same H4 (upd H4 l (.tup [V.int ((n + (row n 0 (b.take j)).length : Nat) : Int), V.int (j : Nat)])) := same_new nl
          refine ⟨_, rfl, l, u, _, _, rfl, rfl, SqT.of upd_same, SqT.of (s5 _ _ hu1), List.cons_ne_nil _ _, by show 5 ≤ sizeLine; decide, fun z => absurd z (List.cons_ne_nil _ _), fun _ l2 nl2 => ?_⟩
          have s6 := s5.trans (same_new (o := .tup [V.int ((n + (row n 0 (b.take j)).length : Nat) : Int), V.int (j : Nat), V.int a.st, V.int a.kd, V.ref u2]) nl2)
          have hG6 := s6 _ _ hG4
          have i7 := (Im.of s6).trans (im_lst (o := .lst (gs ++ [V.ref l2])) hG6)
          refine ⟨G, gs, _, rfl, rfl, hG6, Nat.lt_of_le_of_lt hgl (by decide), ?_⟩
          refine ⟨_, rfl, _, _, rfl, rfl, some (V.int (j : Nat)), some (V.ref u), ?_, same_upd (s4.trans s6) nG, _, upd_same, ?_⟩
          · rw [take_more hit, row_some, List.length_append]
            rfl
          · rw [take_more hit, row_some, List.length_take, Nat.min_eq_left (Nat.le_of_lt hjb), Nat.zero_add]
            refine (paired_imp (fun _ _ z => z.im i7) pg4).snoc ⟨l2, u2, rfl, ?_, hu2.im i7⟩
            have nGl : G ≠ l2 := ne_of_none (s5 _ _ hG4) nl2
            rw [upd_ne nGl.symm, upd_same]
            rfl
      · rintro σ H3 ⟨z5, z6, rfl, s3, gs, hG, pg⟩
        rw [paired_len prb, List.take_length] at pg ⊢
        have hF3 := s3 _ _ hF
        have i4 : Im H3 (upd H3 F (.lst (fs ++ [V.ref G]))) := im_lst hF3
        refine ⟨_, rfl, .inl ⟨rfl, _, SqL.of hF3⟩, _, rfl, F, fs, _, rfl, rfl, hF3, Nat.lt_of_le_of_lt hfl (by decide), ?_⟩
        refine ⟨_, _, _, _, rfl, same_upd (s2.trans s3) nF, _, upd_same, ?_⟩
        refine (paired_imp (fun v cs hz => ?_) pf).snoc ?_
        · obtain ⟨q, e, nq, z⟩ := hz
          obtain ⟨q', rs, eq, hq, pq⟩ := z.same s3
          cases eq
          exact ⟨q, e, nq, q, rs, rfl, by rw [upd_ne nq]; exact hq, paired_imp (fun _ _ z => z.im i4) pq⟩
        · exact ⟨G, rfl, nFG.symm, G, gs, rfl, by rw [upd_ne nFG.symm]; exact hG, paired_imp (fun _ _ z => z.im i4) pg⟩
    · rintro σ H2 ⟨y3, y4, y5, y6, rfl, s2, fs, hF, pf⟩
      rw [paired_len pr, List.take_length] at pf
      exact ⟨_, rfl, q F H2 s2 ⟨fs, nF, hF, pf⟩⟩
end
end Xb
namespace Xb
open PySem PySem.Spec PyProof.Rows L2
/-- [len(some) for some in ..], some in slot i -/
def tLen (K : PySem.W.Frag) (i : Nat) : TE := tCB (fun xs H Q => ∃ p ys, xs = [V.ref p] ∧ (SqL K H p ys ∨ SqT K H p ys) ∧ Q (.int ys.length) H) (tCons (tVar i) tNil)
def LenV (H : Hp) (v : V) (n : Nat) : Prop := ∃ q xs, v = .ref q ∧ H q = some (.lst xs) ∧ xs.length = n
theorem lens_read {K : PySem.W.Frag} {σ : L2.St} {H : Hp} {Q : VK} {j : Nat} {L : Addr} {us : List V} {ns : List Nat} (hj : σ[j]? = some (some (.ref L))) (hs : σ.length = 16) (hL : H L = some (.lst us)) (hu : Paired (LenV H) us ns) (hn : us.length ≤ 1000)
    (k : ∀ D H', H D = none → Same H H' → H' D = some (.lst (ns.map fun n : Nat => V.int n)) → Q (.ref D) H') : tLc (iList K (tVar j)) (gName 10) tYes (tLen K 10) [10] σ H Q := by
  refine ⟨_, hj, L, rfl, ⟨_, SqL.of hL⟩, fun D nD => ?_⟩
  refine lc_list (K := K) (a := L) (xs := us) (fun i H2 => Same H H2 ∧ H2 D = some (.lst ((ns.take i).map fun n : Nat => V.int n))) ⟨same_new nD, by rw [upd_same]; rfl⟩ (fun i H2 _ h2 => SqL.of (h2.1 _ _ hL)) ?_ ?_
  · rintro i x H2 hi ⟨s2, hD⟩
    obtain ⟨n, hn', q, xs, rfl, hq, rfl⟩ := paired_get hu hi
    have h10 : 10 < (wipe σ [10]).length := by rw [wipe_length, hs]; decide
    refine ⟨?_, tyes ?_⟩
    · show ((wipe σ [10]).set 10 (some (V.ref q))).set 10 none = wipe σ [10]
      rw [List.set_set]
      show ((σ.set 10 none).set 10 none) = σ.set 10 none
      rw [List.set_set]
    refine ⟨_, List.getElem?_set_self h10, q, xs, rfl, .inl (SqL.of (s2 _ _ hq)), _, hD, ?_, ?_⟩
    · rw [List.length_map, List.length_take, ← paired_len hu]
      exact small1000 (by omega)
    · refine ⟨same_upd s2 nD, ?_⟩
      rw [upd_same, take_more hn', List.map_append]
      rfl
  · rintro H2 ⟨s2, hD⟩
    rw [paired_len hu, List.take_length] at hD
    exact k D H2 nD s2 hD
theorem len_of {α : Type} {F : V → α → Prop} {H : Hp} {f : α → Nat} (h : ∀ v a, F v a → LenV H v (f a)) : ∀ {us : List V} {l : List α}, Paired F us l → Paired (LenV H) us (l.map f)
  | _, _, .nil => .nil
  | _, _, .cons x t => .cons (h _ _ x) (len_of h t)
theorem dp_nats {K : PySem.W.Frag} {H : Hp} {D : Addr} {ns : List Nat} (h : H D = some (.lst (ns.map fun n : Nat => V.int n))) : Dp K H (.ref D) (.list ((ns.map fun n : Nat => (n : Int)).map PyData.int)) := by
  refine .lst (SqL.of h) ?_
  have e : (ns.map fun n : Nat => V.int n) = (ns.map fun n : Nat => (n : Int)).map V.int := by rw [List.map_map]; rfl
  rw [e]
  exact dp_ints _
section
variable {P : Program} {w : World} {K : PySem.W.Frag} {mg : Str → Option Value} {base : Heap} {C : Addr}
theorem RowV.len {H : Hp} {v : V} {cs : List Cl} (h : RowV C H v cs) : LenV H v cs.length := by
  obtain ⟨p, vs, rfl, e, pr⟩ := h
  exact ⟨p, vs, rfl, e, paired_len pr⟩
theorem PRowV.len {H : Hp} {v : V} {cs : List Cl} (h : PRowV H v cs) : LenV H v cs.length := by
  obtain ⟨p, vs, rfl, e, pr⟩ := h
  exact ⟨p, vs, rfl, e, paired_len pr⟩
theorem DueV.same {H H1 H2 : Hp} {p : Addr} {css : List (List Cl)} (h : DueV H H1 p css) (s : Same H1 H2) : DueV H H2 p css := by
  obtain ⟨us, np, hp, pr⟩ := h
  exact ⟨us, np, s _ _ hp, paired_imp (fun _ _ ⟨q, e, nq, z⟩ => ⟨q, e, nq, z.same s⟩) pr⟩
theorem ToldV.same {H H1 H2 : Hp} {p : Addr} {css : List (List Cl)} (h : ToldV C H H1 p css) (s : Same H1 H2) : ToldV C H H2 p css := by
  obtain ⟨us, np, hp, pr⟩ := h
  exact ⟨us, np, s _ _ hp, paired_imp (fun _ _ z => z.same s) pr⟩
def spLaw (K : PySem.W.Frag) : Sp := fun vs H Q _ => ∃ (a : Addr) (ns : List Int), vs = [.ref a] ∧ SqL K H a (ns.map V.int) ∧ ns.length ≤ 63 ∧ ∀ H', Q (.bl true) H'
end
end Xb
namespace Xb
open PySem PySem.Spec PyProof.Rows L2
section
variable {P : Program} {w : World} {K : PySem.W.Frag} {mg : Str → Option Value} {base : Heap} {C : Addr}
theorem rows_mem : ∀ (bs : List (List Item)) (n : Nat) (cs : List Cl), (∀ b ∈ bs, b.length ≤ 12) → cs ∈ rows n bs → ∃ b n', b ∈ bs ∧ cs = row n' 0 b ∧ n' ≤ n + 12 * bs.length
  | [], _, _, _, h => absurd h List.not_mem_nil
  | c :: r, n, cs, hb, h => by
    rcases List.mem_cons.mp h with e | h
    · exact ⟨c, n, List.mem_cons_self, e, Nat.le_add_right _ _⟩
    · obtain ⟨b, n', h1, h2, h3⟩ := rows_mem r _ cs (fun b hb' => hb b (List.mem_cons_of_mem _ hb')) h
      have h4 := row_len c n 0
      have h5 := hb c List.mem_cons_self
      refine ⟨b, n', List.mem_cons_of_mem _ h1, h2, ?_⟩
      rw [List.length_cons]
      omega
/-- what a cell of right arrivals is -/
structure OkCl (c : Cl) : Prop where
  ar : OkArr 12 3 c.ar
  ln : c.ln < 12
  no : c.no ≤ 1000000000
theorem ok_cells_of {m k : Int} {bs : List (List Item)} (ok : OkAll m k bs) {cs : List Cl} (h : cs ∈ rows 0 bs) : cs.length ≤ 12 ∧ ∀ c ∈ cs, OkCl c := by
  obtain ⟨b, n, hb, rfl, hn⟩ := rows_mem bs 0 cs (fun b hb => (ok.all b hb).le12 ok.m12) h
  have okb := ok.all b hb
  have h12 := okb.le12 ok.m12
  have h200 := ok.len
  refine ⟨Nat.le_trans (row_len b n 0) h12, fun c hc => ?_⟩
  obtain ⟨h1, h2, h3, h4, h5⟩ := row_mem b n 0 c hc
  have oka := okb.all _ h1
  exact ⟨⟨oka.s0, oka.s1, oka.k0, oka.k1, oka.os.mono ok.m12 ok.k3⟩, by omega, by omega⟩
theorem test_op {r : R2} {ta tb : TE} {σ : L2.St} {H : Hp} {Q : Bool → Hp → Prop} (h : ta σ H fun x H1 => tb σ H1 fun y H2 => r x y H2 fun z H3 => ∃ k, z = .bl k ∧ Q k H3) : tTest (tOp r ta tb) σ H Q := h
theorem if_or_op {r : R2} {ta tb : TE} {tB : TT} {t u : TS} {D : Ends} {σ : L2.St} {H : Hp}
    (h : ta σ H fun x H1 => tb σ H1 fun y H2 => r x y H2 fun z H3 => ∃ k, z = .bl k ∧ (if k = true then (if true = true then t D σ H3 else u D σ H3) else tB σ H3 fun b H4 => if b = true then t D σ H4 else u D σ H4)) :
    tIfS (tOr (tTest (tOp r ta tb)) tB) t u D σ H := h
theorem gname_read {i : Nat} {v : V} {σ : L2.St} {H : Hp} {Q : L2.St → Hp → Prop} (h : Q (σ.set i (some v)) H) : gName i v σ H Q := h
abbrev NL : List Str := ["_law_script", "_law_hand_here", "_law_turn", "_law_lines", "_law_most", "_law_beats", "_law_arrivals_here", "_law_kept", "_law_due", "_law_told", "_law_some", "_law_parts_of", "_law_one", "_law_parts", "_law_again", "_law_output"]
theorem ok_law {T : Txt K mg C} {f fE : Addr} {fd fdE : FuncData} (F : Fun K "law" "law" sLaw f fd) (FE : FnOk P w K mg base CX0 2 fE fdE ["self", "other"] (spEq (REq C))) (bE : Binds K fdE ["self", "other"] [])
    (eE : PySem.W.findIn K (.ref C) "__eq__" = some (some (.ref fE))) (iE : PySem.W.isFn K (.ref fE) = true)
    (mk : C8.Mak P w K mg base 5 "Cell" C (spInit C) []) (cCop : C8.Cal P w K mg base 1 "copies" (spCopies C) []) (cIs : C8.Cal P w K mg base 8 "is_arrivals" spIsArrivals []) (cCells : C8.Cal P w K mg base 9 "cells" (spCells C) [])
    (cHand : C8.Cal P w K mg base 1 "_law_hand" (spHand K) []) (cDraw : C8.Cal P w K mg base 1 "_law_draw" spDraw []) (cArr : C8.Cal P w K mg base 4 "_law_arrivals" spLawArrivals []) (cSizes : C8.Cal P w K mg base 3 "_law_sizes" spSizes [])
    (cDue : C8.Cal P w K mg base 1 "_law_cells" spLawCells []) (hk : Room 10 callerA) : LawOk P w K mg base f fd "_law_script" (spLaw K) := by
  refine lawOk_of (k := 9) (N := NL) F scLaw hk (fun cdv s H vs Q E hr hg h => ?_)
  obtain ⟨a, ns, rfl, hS, hlen, q⟩ := h
  refine ⟨_, pss_cons (ps_set (i := 1) scLaw.nd rfl (.inl rfl) (C8.pe_c cHand hr (by decide) (by rfl) (pa_cons (pv 0) pa_nil)))
      (pss_cons (ps_for PassesOwn.never rfl (pi_range1 (by rfl) T.rng (pa_cons pe_int pa_nil)) (pg_name (i := 2) scLaw.nd rfl (.inl rfl))
      (pss_cons (ps_asg (C8.pe_c cSizes hr (by decide) (by rfl) (pa_cons (pv 1) pa_nil)) (pg_tup rfl (pgs_cons (pg_name (i := 3) scLaw.nd rfl (.inl rfl)) (pgs_cons (pg_name (i := 4) scLaw.nd rfl (.inl rfl)) pgs_nil))))
      (C8.pss_cut (ps_set (i := 5) scLaw.nd rfl (.inl rfl) (pe_ifExp (PW.pt (pw_and (pt_cmpR op_eq (pv 2) pe_int (nomark _)) (pw_and (pt_cmpR op_lt (pv 3) pe_int (nomark _)) (pw_and1 (pt_cmpR op_eq (C8.pe_c cDraw hr (by decide) (by rfl) (pa_cons (pv 1) (pa_cons pe_int pa_nil))) pe_int (nomark _)))))) pe_int (C8.pe_c cDraw hr (by decide) (by rfl) (pa_cons (pv 1) (pa_cons pe_int pa_nil)))))
      (pss_cons (ps_set (i := 6) scLaw.nd rfl (.inl rfl) (C8.pe_c cArr hr (by decide) (by rfl) (pa_cons (pv 1) (pa_cons (pv 3) (pa_cons (pv 4) (pa_cons (pv 5) pa_nil))))))
      (pss_cons (ps_par (i := 7) (j := 8) rfl scLaw.nd rfl rfl (by decide) rfl rfl (pa_cons (pe_callB (cr_reprD hg hr.units) (by rfl) T.rep boot_repr (pa_cons (pv 6) pa_nil)) (pa_cons (C8.pe_c cDue hr (by decide) (by rfl) (pa_cons (pv 6) pa_nil)) pa_nil)) (by rfl))
      (pss_cons (ps_if (pt_cmpR op_notBl (C8.pe_c cIs hr (by decide) (by rfl) (pa_cons (pv 3) (pa_cons (pv 4) (pa_cons (pv 6) pa_nil)))) pe_bl (nomark _)) pss_never pss_nil)
      (pss_cons (ps_set (i := 9) scLaw.nd rfl (.inl rfl) (C8.pe_c cCells hr (by decide) (by rfl) (pa_cons (pv 3) (pa_cons (pv 4) (pa_cons (pv 6) pa_nil)))))
      (pss_cons (ps_if (PW.pt (pw_or (pt_not (pt_val (pe_callB call_isi (by rfl) T.isi boot_isinstance (pa_cons (pv 9) (pa_cons (pe_bltn (v := .ty "list") (by rfl) T.tlist boot_list rfl) pa_nil))))) (pw_or1 (pt_cmpR (op_neD hr.units) (pe_lc (own := [("_law_some", 10)]) (g := gName 10) (te := tLen K 10) rfl scLaw.nd (pi_list (pv 9)) (blkOk_by (own := [("_law_some", 10)]) (N := NL) (sc := defScope sLaw) (by decide +kernel)) (fun _ _ _ _ _ => pg_name (i := 10) scLaw.nd rfl (Or.inl rfl)) (fun _ _ _ _ _ => pts_nil) (fun _ _ _ _ _ => pe_callB call_len_seq (by rfl) T.len PySem.boot_len (pa_cons (pv 10) pa_nil))) (pe_lc (own := [("_law_some", 10)]) (g := gName 10) (te := tLen K 10) rfl scLaw.nd (pi_list (pv 8)) (blkOk_by (own := [("_law_some", 10)]) (N := NL) (sc := defScope sLaw) (by decide +kernel)) (fun _ _ _ _ _ => pg_name (i := 10) scLaw.nd rfl (Or.inl rfl)) (fun _ _ _ _ _ => pts_nil) (fun _ _ _ _ _ => pe_callB call_len_seq (by rfl) T.len PySem.boot_len (pa_cons (pv 10) pa_nil))) (nomark _))))) pss_never pss_nil)
      (C8.pss_cut (ps_for PassesOwn.never rfl (pi_zip (by rfl) T.zip (pa_cons (pv 9) (pa_cons (pv 8) pa_nil))) (pg_tup rfl (pgs_cons (pg_name (i := 10) scLaw.nd rfl (.inl rfl)) (pgs_cons (pg_name (i := 11) scLaw.nd rfl (.inl rfl)) pgs_nil)))
        (pss_cons (ps_if (pt_not (pt_val (pe_callB call_isi (by rfl) T.isi boot_isinstance (pa_cons (pv 10) (pa_cons (pe_bltn (v := .ty "list") (by rfl) T.tlist boot_list rfl) pa_nil))))) pss_never pss_nil)
      (pss_one (ps_for PassesOwn.never rfl (pi_zip (by rfl) T.zip (pa_cons (pv 10) (pa_cons (pv 11) pa_nil))) (pg_tup rfl (pgs_cons (pg_name (i := 12) scLaw.nd rfl (.inl rfl)) (pgs_cons (pg_name (i := 13) scLaw.nd rfl (.inr rfl)) pgs_nil)))
        (pss_cons (ps_if (pt_cmpR (op_neI FE (hr.mono (by decide)) T.ins.hm T.neC eE iE bE pass0) (pv 12) (C8.pe_mk mk hr (by decide) (by rfl) (pa_cons (pe_ix ix_tup (pv 13) pe_int (fun _ _ => rfl)) (pa_cons (pe_ix ix_tup (pv 13) pe_int (fun _ _ => rfl)) (pa_cons (pe_ix ix_tup (pv 13) pe_int (fun _ _ => rfl)) (pa_cons (pe_ix ix_tup (pv 13) pe_int (fun _ _ => rfl)) (pa_cons (pe_ix ix_tup (pv 13) pe_int (fun _ _ => rfl)) pa_nil)))))) (nomark _)) pss_never pss_nil)
      (pss_one (ps_if (pt_cmpR (op_neD hr.units) (C8.pe_c cCop hr (by decide) (by rfl) (pa_cons (pv 12) pa_nil)) (pe_callTy call_tuple_of (by rfl) T.ttuple boot_tuple (pa_cons (pe_lc (own := [("_law_output", 15)]) (g := gName 15) (te := tTup (tCons (tOp (rIxT K) (tVar 13) (tC (.int 0))) (tCons (tVar 15) tNil))) rfl scLaw.nd (pi_tup (pe_ix ix_tup (pv 13) pe_int (fun _ _ => rfl))) (blkOk_by (own := [("_law_output", 15)]) (N := NL) (sc := defScope sLaw) (by decide +kernel))
              (fun _ _ _ _ _ => pg_name (i := 15) scLaw.nd rfl (Or.inl rfl)) (fun _ _ _ _ _ => pts_nil) (fun _ _ _ _ _ => pe_tup (pa_cons (pe_ix ix_tup (pv 13) pe_int (fun _ _ => rfl)) (pa_cons (pv 15) pa_nil)))) pa_nil)) (nomark _)) pss_never pss_nil)))))))
      (pss_cons (ps_for PassesOwn.never rfl (pi_list (pv 9)) (pg_name (i := 10) scLaw.nd rfl (.inl rfl)) (pss_one (ps_expr (pe_bm PySem.F.plainAttrs_list PySem.F.slot_list_append PySem.F.type_list_append mt_append (pv 10) (pa_cons pe_non pa_nil)))))
      (pss_cons (ps_expr (pe_bm PySem.F.plainAttrs_list PySem.F.slot_list_append PySem.F.type_list_append mt_append (pv 9) (pa_cons pe_non pa_nil)))
      (pss_cons (ps_set (i := 14) scLaw.nd rfl (.inl rfl) (C8.pe_c cCells hr (by decide) (by rfl) (pa_cons (pv 3) (pa_cons (pv 4) (pa_cons (pv 6) pa_nil)))))
      (pss_one (ps_if (PW.pt (pw_or (pt_cmpR (op_neD hr.units) (pe_lc (own := [("_law_some", 10)]) (g := gName 10) (te := tLen K 10) rfl scLaw.nd (pi_list (pv 14)) (blkOk_by (own := [("_law_some", 10)]) (N := NL) (sc := defScope sLaw) (by decide +kernel)) (fun _ _ _ _ _ => pg_name (i := 10) scLaw.nd rfl (Or.inl rfl)) (fun _ _ _ _ _ => pts_nil) (fun _ _ _ _ _ => pe_callB call_len_seq (by rfl) T.len PySem.boot_len (pa_cons (pv 10) pa_nil))) (pe_lc (own := [("_law_some", 10)]) (g := gName 10) (te := tLen K 10) rfl scLaw.nd (pi_list (pv 8)) (blkOk_by (own := [("_law_some", 10)]) (N := NL) (sc := defScope sLaw) (by decide +kernel)) (fun _ _ _ _ _ => pg_name (i := 10) scLaw.nd rfl (Or.inl rfl)) (fun _ _ _ _ _ => pts_nil) (fun _ _ _ _ _ => pe_callB call_len_seq (by rfl) T.len PySem.boot_len (pa_cons (pv 10) pa_nil))) (nomark _)) (pw_or1 (pt_cmpR op_ne (pe_callB (cr_reprD hg hr.units) (by rfl) T.rep boot_repr (pa_cons (pv 6) pa_nil)) (pv 7) (nomark _))))) pss_never pss_nil))))))))))))))
      (pss_one (ps_ret pe_bl))), ?_⟩
  refine ⟨_, rfl, a, ns, rfl, hS, hlen, fun h g H1 s1 hand1 => ?_⟩
  refine ⟨4, rfl, by decide, by decide, for_range (lo := 0) (n := 4) (fun i σ H2 => ∃ y2 y3 y4 y5 y6 y7 y8 y9 y10 y11 y12 y13 y14 y15, σ = [some (.ref a), some (.ref h), y2, y3, y4, y5, y6, y7, y8, y9, y10, y11, y12, y13, y14, y15] ∧ Hand H2 h g)
    ⟨none, none, none, none, none, none, none, none, none, none, none, none, none, none, rfl, hand1⟩ ?_ (fun σ H2 _ => q H2)⟩
  rintro i σ H2 hi ⟨y2, y3, y4, y5, y6, y7, y8, y9, y10, y11, y12, y13, y14, y15, rfl, hand2⟩
  refine ⟨_, rfl, h, g, rfl, hand2, fun p m k H3 kp3 hand3 hp m1 m12 k1 k3 => ?_⟩
  refine ⟨p, _, rfl, SqT.of hp, rfl, _, _, rfl, _, _, rfl, rfl, ?_⟩
  -- the beats
  refine ⟨fun σ' H' => ∃ n, σ' = [some (.ref a), some (.ref h), some (.int (0 + i)), some (.int m), some (.int k), some (.int n), y6, y7, y8, y9, y10, y11, y12, y13, y14, y15] ∧ Hand H' h g ∧ 0 ≤ n ∧ n ≤ 200, ?_, ?_⟩
  · refine ⟨_, rfl, rfl, _, rfl, ite2 (fun _ => ?_) (fun _ => ?_)⟩
    · refine ⟨_, rfl, _, _, rfl, rfl, _, rfl, ite2 (fun _ => ?_) (fun _ => ?_)⟩
      · refine ⟨_, rfl, h, g, 6, rfl, hand3, by decide, by decide, fun d H4 d0 d1 kp4 hand4 => ?_⟩
        refine ⟨rfl, _, rfl, ite2 (fun _ => ?_) (fun _ => ?_)⟩
        · exact ⟨200, rfl, hand4, by decide, by decide⟩
        · exact ⟨_, rfl, h, g, 31, rfl, hand4, by decide, by decide, fun d H5 d0 d1 kp5 hand5 => ⟨d, rfl, hand5, d0, by omega⟩⟩
      · exact iteF ⟨_, rfl, h, g, 31, rfl, hand3, by decide, by decide, fun d H5 d0 d1 kp5 hand5 => ⟨d, rfl, hand5, d0, by omega⟩⟩
    · exact iteF ⟨_, rfl, h, g, 31, rfl, hand3, by decide, by decide, fun d H5 d0 d1 kp5 hand5 => ⟨d, rfl, hand5, d0, by omega⟩⟩
  rintro σ' H4 ⟨n, rfl, hand4, n0, n200⟩
  refine ⟨_, rfl, _, rfl, _, rfl, _, rfl, h, g, m, k, n, rfl, hand4, m1, m12, k1, k3, n0, n200, fun v bs H5 kp5 hand5 hv ok => ?_⟩
  have sm := sm_dAll ok
  obtain ⟨pa, ua, rfl, hpa, pra⟩ := id hv
  refine ⟨_, rfl, pa, dAll bs, rfl, hv.dp, sm.ok, sm.nd, Nat.le_trans sm.dp (by decide), shown_dAll ok, _, rfl, m, k, _, bs, rfl, hv, ok, fun pd H6 s6 due => ?_⟩
  refine ⟨_, _, rfl, ?_⟩
  refine ⟨_, rfl, _, rfl, _, rfl, m, k, _, bs, rfl, hv.im (Im.of s6), ok, fun H7 s7 => ?_⟩
  refine ⟨true, true, rfl, rfl, _, rfl, iteNS rfl ?_⟩
  have s57 : Same H5 H7 := s6.trans s7
  have due7 := due.same s7
  refine ⟨_, rfl, _, rfl, _, rfl, m, k, _, bs, rfl, hv.im (Im.of s57), ok, fun pt H8 s8 told => ?_⟩
  -- the lengths agree
  have hb200 : (rows 0 bs).length ≤ 200 := by rw [rows_len]; exact ok.len
  obtain ⟨ut, npt, hpt, prt⟩ := id told
  have hut : ut.length ≤ 200 := by rw [paired_len prt]; exact hb200
  refine ⟨_, rfl, _, .ty "list", _, _, true, rfl, .ty "list", .base (.lst hpt), kit_ty (by decide +kernel), true, rfl, iteF ?_⟩
  refine test_op ?_
  refine lens_read (ns := (rows 0 bs).map List.length) (by rfl) (by rfl) hpt (len_of (fun v cs z => by obtain ⟨q', rfl, _, _, z⟩ := z; exact z.len) prt) (by omega) fun D1 H9 n9 s9 h9 => ?_
  have due9 := due7.same (s8.trans s9)
  obtain ⟨ud, npd, hpd, prd⟩ := id due9
  refine lens_read (ns := (rows 0 bs).map List.length) (by rfl) (by rfl) hpd (len_of (fun v cs z => by obtain ⟨q', rfl, _, z⟩ := z; exact z.len) prd) (by rw [paired_len prd]; omega) fun D2 H10 n10 s10 h10 => ?_
  refine ⟨_, _, dp_nats (s10 _ _ h9), dp_nats h10, shaped_lst _, shaped_lst _, _, rfl, ?_⟩
  rw [eqv_same (shaped_lst _)]
  refine iteF ?_
  -- each cell is the one that is asked
  have told10 : ToldV C H7 H10 pt (rows 0 bs) := told.same (s9.trans s10)
  have due10 := due9.same s10
  have s7_10 : Same H7 H10 := s8.trans (s9.trans s10)
  clear hpt prt hpd prd h9 h10 n9 n10 told due due9
  obtain ⟨ut', npt', hpt, prt⟩ := id told10
  obtain ⟨ud', npd', hpd, prd⟩ := id due10
  refine ⟨fun σ' H' => ∃ z10 z11 z12 z13, σ' = [some (.ref a), some (.ref h), some (.int (0 + i)), some (.int m), some (.int k), some (.int n), some (.ref pa), some (.str (dAll bs).shown), some (.ref pd), some (.ref pt), z10, z11, z12, z13, y14, y15] ∧ Same H10 H', ?_, ?_⟩
  · refine ⟨_, rfl, _, rfl, pt, pd, ut', ud', rfl, SqL.of hpt, SqL.of hpd, RZ.for_zipL (K := K) (by rw [paired_len prt, paired_len prd]) (fun j σ' H' => ∃ z10 z11 z12 z13, σ' = [some (.ref a), some (.ref h), some (.int (0 + i)), some (.int m), some (.int k), some (.int n), some (.ref pa), some (.str (dAll bs).shown), some (.ref pd), some (.ref pt), z10, z11, z12, z13, y14, y15] ∧ Same H10 H')
      ⟨_, _, _, _, rfl, Same.refl _⟩ (fun j σ' H' ⟨_, _, _, _, _, s'⟩ => ⟨SqL.of (s' _ _ hpt), SqL.of (s' _ _ hpd)⟩) ?_ (fun σ' H' z => z)⟩
    rintro j x y t σ' H11 hx hy ⟨z10, z11, z12, z13, rfl, s11⟩ nt
    have sT : Same H11 (upd H11 t (.tup [x, y])) := same_new nt
    refine ⟨t, _, rfl, SqT.of upd_same, rfl, _, _, rfl, _, _, rfl, rfl, ?_⟩
    obtain ⟨cs, hcs, qx, rfl, _, _, hrow⟩ := paired_get prt hx
    obtain ⟨cs', hcs', qy, rfl, _, hprow⟩ := paired_get prd hy
    obtain rfl : cs = cs' := Option.some.inj (hcs.symm.trans hcs')
    obtain ⟨hl12, hokc⟩ := ok_cells_of ok (List.mem_of_getElem? hcs)
    have s12 := s11.trans sT
    generalize upd H11 t (.tup [V.ref qx, V.ref qy]) = H12 at *
    clear nt
    obtain ⟨qx', xs, ex, hqx, px⟩ := hrow.same s12
    cases ex
    obtain ⟨qy', ys, ey, hqy, py⟩ := hprow.same s12
    cases ey
    refine ⟨_, rfl, _, .ty "list", _, _, true, rfl, .ty "list", .base (.lst hqx), kit_ty (by decide +kernel), true, rfl, iteF ?_⟩
    refine ⟨_, rfl, _, rfl, qx, qy, xs, ys, rfl, SqL.of hqx, SqL.of hqy, RZ.for_zipL (K := K) (by rw [paired_len px, paired_len py]) (fun j σ' H' => ∃ z12 z13, σ' = [some (.ref a), some (.ref h), some (.int (0 + i)), some (.int m), some (.int k), some (.int n), some (.ref pa), some (.str (dAll bs).shown), some (.ref pd), some (.ref pt), some (.ref qx), some (.ref qy), z12, z13, y14, y15] ∧ Same H12 H')
      ⟨_, _, rfl, Same.refl _⟩ (fun j σ' H' ⟨_, _, _, s'⟩ => ⟨SqL.of (s' _ _ hqx), SqL.of (s' _ _ hqy)⟩) ?_ (fun σ' H' ⟨_, _, e, s'⟩ => ⟨_, _, _, _, e, s12.trans s'⟩)⟩
    rintro j2 x2 y2 t2 σ' H13 hx2 hy2 ⟨z12', z13', rfl, s13⟩ nt2
    have sT2 : Same H13 (upd H13 t2 (.tup [x2, y2])) := same_new nt2
    refine ⟨t2, _, rfl, SqT.of upd_same, rfl, _, _, rfl, _, _, rfl, rfl, ?_⟩
    obtain ⟨c, hc, hcv⟩ := paired_get px hx2
    obtain ⟨c', hc', hpv⟩ := paired_get py hy2
    obtain rfl : c = c' := Option.some.inj (hc.symm.trans hc')
    have okc := hokc c (List.mem_of_getElem? hc)
    have s14 := s13.trans sT2
    generalize upd H13 t2 (.tup [x2, y2]) = H14 at *
    clear nt2
    have cv := hcv.im (Im.of s14)
    obtain ⟨pr, pq, rfl, hpr, hpo⟩ := hpv.im (Im.of s14)
    obtain ⟨cx, cdx, cq, rfl, hcx, hco⟩ := id cv
    refine ⟨_, rfl, _, rfl, pr, _, 0, _, rfl, rfl, SqT.of hpr, atI_nat (j := 0) rfl, ?_⟩
    refine ⟨_, rfl, pr, _, 1, _, rfl, rfl, SqT.of hpr, atI_nat (j := 1) rfl, ?_⟩
    refine ⟨_, rfl, pr, _, 2, _, rfl, rfl, SqT.of hpr, atI_nat (j := 2) rfl, ?_⟩
    refine ⟨_, rfl, pr, _, 3, _, rfl, rfl, SqT.of hpr, atI_nat (j := 3) rfl, ?_⟩
    refine ⟨_, rfl, pr, _, 4, _, rfl, rfl, SqT.of hpr, atI_nat (j := 4) rfl, ?_⟩
    intro x dx nx ndx nex
    have sA : Same H14 (upd (upd H14 dx (.own x)) x (.ins C dx [])) := same_upd (same_new ndx) nx
    refine ⟨x, dx, c, pq, rfl, upd_same, hpo.im (Im.of sA), okc.ar, okc.ln, okc.no, rfl, ?_⟩
    rw [upd_upd]
    have sB : Same H14 (upd (upd H14 dx (.own x)) x (.ins C dx (flds c pq))) := same_upd (same_new ndx) nx
    refine ⟨⟨cx, x, cdx, dx, _, _, rfl, rfl, sB _ _ hcx, upd_same, c, cv.im (Im.of sB), x, dx, pq, rfl, upd_same, hpo.im (Im.of sB)⟩, fun H16 e16 => ⟨false, rfl, iteF ?_⟩⟩
    have s16 : Same H14 H16 := sB.trans e16
    have hl3 : c.ar.os.length ≤ 3 := by have := okc.ar.os.le; omega
    refine ⟨_, rfl, _, c, rfl, cv.im (Im.of s16), by omega, fun p1 H17 us1 n1 s17 h1 pr1 => ?_⟩
    have s17' := s16.trans s17
    have hpr17 := s17' _ _ hpr
    have hpo17 := hpo.im (Im.of s17')
    refine ⟨_, rfl, pr, _, 4, _, rfl, rfl, SqT.of hpr17, atI_nat (j := 4) rfl, pq, rfl, ⟨_, SqT.of hpo17⟩, fun D nD => ?_⟩
    refine lc_tup (K := K) (a := pq) (xs := c.ar.os.map V.int) (fun i H2 => Same H17 H2 ∧ ∃ us, H2 D = some (.lst us) ∧ Paired (CopV H2 c.no) us (c.ar.os.take i))
      ⟨same_new nD, [], upd_same, .nil⟩ (fun i H2 _ h2 => SqT.of (h2.1 _ _ hpo17)) ?_ ?_
    · rintro o1 y H2 hi ⟨s2, us, hD, pr2⟩
      rw [List.getElem?_map] at hi
      obtain ⟨o, ho', rfl⟩ := Option.map_eq_some_iff.mp hi
      refine ⟨rfl, tyes ?_⟩
      refine ⟨_, rfl, pr, _, 0, _, rfl, rfl, SqT.of (s2 _ _ hpr17), atI_nat (j := 0) rfl, _, rfl, by show 2 ≤ sizeLine; decide, fun p np => ?_⟩
      have nDp : D ≠ p := ne_of_none hD np
      refine ⟨us, by rw [upd_ne nDp]; exact hD, ?_, ?_⟩
      · rw [paired_len pr2, List.length_take]
        exact small1000 (by omega)
      · have hD' : (upd H2 p (.tup [V.int c.no, V.int o])) D = some (.lst us) := by rw [upd_ne nDp]; exact hD
        have i1 : Im H2 (upd (upd H2 p (.tup [V.int c.no, V.int o])) D (.lst (us ++ [V.ref p]))) := (Im.of (same_new np)).trans (im_lst hD')
        refine ⟨same_upd (s2.trans (same_new np)) nD, _, upd_same, ?_⟩
        rw [take_more ho']
        exact (paired_imp (fun _ _ z => z.im i1) pr2).snoc ⟨p, rfl, by rw [upd_ne nDp.symm, upd_same]⟩
    · rintro H2 ⟨s2, us, hD, pr2⟩
      rw [List.length_map, List.take_length] at pr2
      refine ⟨D, us, rfl, .inl ⟨SqL.of hD, fun l nl => ?_⟩⟩
      have sl : Same H2 (upd H2 l (.tup us)) := same_new nl
      have s19 := s2.trans sl
      refine ⟨_, _, dp_cop (s19 _ _ h1) (paired_imp (fun _ _ z => z.im (Im.of s19)) pr1), dp_cop upd_same (paired_imp (fun _ _ z => z.im (Im.of sl)) pr2), shaped_cop _ _, shaped_cop _ _, _, rfl, ?_⟩
      rw [eqv_same (shaped_cop _ _)]
      exact iteF ⟨_, _, rfl, s14.trans (s17'.trans s19)⟩
  -- the lists are made longer
  rintro σ' H11 ⟨z10, z11, z12, z13, rfl, s11⟩
  have s7_11 := s7_10.trans s11
  have told11 := told10.same s11
  clear hpt prt hpd prd told10 due10 npt npt' npd'
  obtain ⟨ut2, npt, hpt, prt⟩ := told11
  have hut2 : ut2.length ≤ 200 := by rw [paired_len prt]; exact hb200
  refine ⟨_, rfl, pt, rfl, ⟨_, SqL.of hpt⟩, for_list (K := K) (a := pt) (xs := ut2) (fun j σ' H' => ∃ z10, σ' = [some (.ref a), some (.ref h), some (.int (0 + i)), some (.int m), some (.int k), some (.int n), some (.ref pa), some (.str (dAll bs).shown), some (.ref pd), some (.ref pt), z10, z11, z12, z13, y14, y15] ∧ Same H7 H' ∧ H' pt = some (.lst ut2) ∧
      ∀ v ∈ ut2, ∃ q xs, v = .ref q ∧ q ≠ pt ∧ H7 q = none ∧ H' q = some (.lst xs) ∧ xs.length ≤ 12 + j)
    ⟨_, rfl, s7_11, hpt, fun v hv' => ?_⟩ (fun j σ' H' _ ⟨_, _, _, e, _⟩ => SqL.of e) ?_ ?_⟩
  · obtain ⟨cs, hcs, q', rfl, nq, fq, r, xs, er, hr', pr⟩ := paired_mem prt hv'
    cases er
    exact ⟨q', xs, rfl, nq, fq, hr', by rw [paired_len pr]; exact (ok_cells_of ok hcs).1⟩
  · rintro j x σ' H' hx ⟨z10', rfl, s', hpt', all⟩
    obtain ⟨q', xs, rfl, nq, fq, hq', hl⟩ := all x (List.mem_of_getElem? hx)
    have hj : j < ut2.length := (List.getElem?_eq_some_iff.mp hx).1
    refine ⟨_, rfl, .inl ⟨rfl, _, SqL.of hq'⟩, q', xs, _, rfl, rfl, hq', Nat.lt_of_le_of_lt (show xs.length ≤ 1000 by omega) (by decide), ?_⟩
    refine ⟨_, rfl, same_upd s' fq, by rw [upd_ne nq.symm]; exact hpt', fun v hv' => ?_⟩
    obtain ⟨r, rs, rfl, nr, fr, hr', hl'⟩ := all v hv'
    by_cases e : r = q'
    · subst e
      refine ⟨r, _, rfl, nr, fr, upd_same, ?_⟩
      rw [List.length_append]
      exact Nat.succ_le_succ hl
    · exact ⟨r, rs, rfl, nr, fr, by rw [upd_ne e]; exact hr', by omega⟩
  rintro σ' H12 ⟨z10', rfl, s7_12, hpt12, _⟩
  refine ⟨_, rfl, .inl ⟨rfl, _, SqL.of hpt12⟩, pt, ut2, _, rfl, rfl, hpt12, Nat.lt_of_le_of_lt (show ut2.length ≤ 1000 by omega) (by decide), ?_⟩
  have s7_13 : Same H7 (upd H12 pt (.lst (ut2 ++ [V.non]))) := same_upd s7_12 npt
  generalize upd H12 pt (.lst (ut2 ++ [V.non])) = H13 at *
  -- once more
  refine ⟨_, rfl, _, rfl, _, rfl, m, k, _, bs, rfl, hv.im (Im.of (s57.trans s7_13)), ok, fun pg H14 s14 told2 => ?_⟩
  obtain ⟨ug, npg, hpg, prg⟩ := told2
  refine gname_read ?_
  dsimp only
  refine if_or_op ?_
  refine lens_read (ns := (rows 0 bs).map List.length) (by rfl) (by rfl) hpg (len_of (fun v cs z => by obtain ⟨q', rfl, _, _, z⟩ := z; exact z.len) prg) (by rw [paired_len prg]; omega) fun D3 H15 n15 s15 h15 => ?_
  obtain ⟨ud, npd, hpd, prd⟩ := due7.same (s7_13.trans (s14.trans s15))
  refine lens_read (ns := (rows 0 bs).map List.length) (by rfl) (by rfl) hpd (len_of (fun v cs z => by obtain ⟨q', rfl, _, z⟩ := z; exact z.len) prd) (by rw [paired_len prd]; omega) fun D4 H16 n16 s16 h16 => ?_
  refine ⟨_, _, dp_nats (s16 _ _ h15), dp_nats h16, shaped_lst _, shaped_lst _, _, rfl, ?_⟩
  rw [eqv_same (shaped_lst _)]
  have s_end : Same H5 H16 := s57.trans (s7_13.trans (s14.trans (s15.trans s16)))
  refine iteF ⟨_, rfl, pa, dAll bs, rfl, (hv.im (Im.of s_end)).dp, sm.ok, sm.nd, Nat.le_trans sm.dp (by decide), shown_dAll ok, _, rfl, rfl, _, rfl, iteNS rfl ?_⟩
  exact ⟨_, _, _, _, _, _, _, _, _, _, _, _, _, _, rfl, hand5.same s_end⟩
end
end Xb
namespace Xb
open PySem PySem.Spec PyProof.Rows L2
/-! ### what the top has written -/
theorem def_mk {K : PySem.W.Frag} {h : Heap} {mg : Str → Option Value} {x : Str} {st : Stmt} {ps : List Str} {f : Addr} {oc : Value} {od an : Option Addr} {osl : Array (Option Value)} {kV doc pm cdv ct : Value} (X : K.In h) (G : h.Ns mainGlobals mg)
    (a : PySem.W.nsIn K mainGlobals x = some (some (.ref f))) (l : K.lookup f = some ⟨oc, od, .func (PySem.W.fnOf x x (defArgs st) (defBody st) (defScope st) .none kV doc pm an cdv ct), osl⟩) (c : PySem.W.codeIn K cdv x = true) (k : PySem.W.keepIn K (.ref f) = true)
    (b : ∀ fd : FuncData, Fun K x x st f fd → Binds K fd ps []) : DefAt K mg x st ps :=
  ⟨⟨f, _, fun_mk l c k, b _ (fun_mk l c k), PySem.W.mg_of X G a⟩⟩
theorem bd_sIsInteger {K : PySem.W.Frag} {f : Addr} (fd : FuncData) (F : Fun K "is_integer" "is_integer" sIsInteger f fd) : Binds K fd ["thing"] [] := F.binds (ps := ["thing"]) fun _ _ _ _ _ _ us hl => match us, hl with | [_], _ => rfl
theorem bd_sIsWithin {K : PySem.W.Frag} {f : Addr} (fd : FuncData) (F : Fun K "is_within" "is_within" sIsWithin f fd) : Binds K fd ["thing", "least", "most"] [] := F.binds (ps := ["thing", "least", "most"]) fun _ _ _ _ _ _ us hl => match us, hl with | [_, _, _], _ => rfl
theorem bd_sIsLot {K : PySem.W.Frag} {f : Addr} (fd : FuncData) (F : Fun K "is_lot" "is_lot" sIsLot f fd) : Binds K fd ["thing", "many"] [] := F.binds (ps := ["thing", "many"]) fun _ _ _ _ _ _ us hl => match us, hl with | [_, _], _ => rfl
theorem bd_sCheckLines {K : PySem.W.Frag} {f : Addr} (fd : FuncData) (F : Fun K "check_lines" "check_lines" sCheckLines f fd) : Binds K fd ["thing"] [] := F.binds (ps := ["thing"]) fun _ _ _ _ _ _ us hl => match us, hl with | [_], _ => rfl
theorem bd_sCheckMost {K : PySem.W.Frag} {f : Addr} (fd : FuncData) (F : Fun K "check_most" "check_most" sCheckMost f fd) : Binds K fd ["thing"] [] := F.binds (ps := ["thing"]) fun _ _ _ _ _ _ us hl => match us, hl with | [_], _ => rfl
theorem bd_sAreOuts {K : PySem.W.Frag} {f : Addr} (fd : FuncData) (F : Fun K "are_outs" "are_outs" sAreOuts f fd) : Binds K fd ["lines", "most", "thing"] [] := F.binds (ps := ["lines", "most", "thing"]) fun _ _ _ _ _ _ us hl => match us, hl with | [_, _, _], _ => rfl
theorem bd_sCopies {K : PySem.W.Frag} {f : Addr} (fd : FuncData) (F : Fun K "copies" "copies" sCopies f fd) : Binds K fd ["cell"] [] := F.binds (ps := ["cell"]) fun _ _ _ _ _ _ us hl => match us, hl with | [_], _ => rfl
theorem bd_sIsArrival {K : PySem.W.Frag} {f : Addr} (fd : FuncData) (F : Fun K "is_arrival" "is_arrival" sIsArrival f fd) : Binds K fd ["lines", "most", "thing"] [] := F.binds (ps := ["lines", "most", "thing"]) fun _ _ _ _ _ _ us hl => match us, hl with | [_, _, _], _ => rfl
theorem bd_sFbb {K : PySem.W.Frag} {f : Addr} (fd : FuncData) (F : Fun K "first_bad_of_beat" "first_bad_of_beat" sFbb f fd) : Binds K fd ["lines", "most", "thing"] [] := F.binds (ps := ["lines", "most", "thing"]) fun _ _ _ _ _ _ us hl => match us, hl with | [_, _, _], _ => rfl
theorem bd_sFb {K : PySem.W.Frag} {f : Addr} (fd : FuncData) (F : Fun K "first_bad" "first_bad" sFb f fd) : Binds K fd ["lines", "most", "thing"] [] := F.binds (ps := ["lines", "most", "thing"]) fun _ _ _ _ _ _ us hl => match us, hl with | [_, _, _], _ => rfl
theorem bd_sIsArrivals {K : PySem.W.Frag} {f : Addr} (fd : FuncData) (F : Fun K "is_arrivals" "is_arrivals" sIsArrivals f fd) : Binds K fd ["lines", "most", "thing"] [] := F.binds (ps := ["lines", "most", "thing"]) fun _ _ _ _ _ _ us hl => match us, hl with | [_, _, _], _ => rfl
theorem bd_sCheckArrivals {K : PySem.W.Frag} {f : Addr} (fd : FuncData) (F : Fun K "check_arrivals" "check_arrivals" sCheckArrivals f fd) : Binds K fd ["lines", "most", "thing"] [] := F.binds (ps := ["lines", "most", "thing"]) fun _ _ _ _ _ _ us hl => match us, hl with | [_, _, _], _ => rfl
theorem bd_sCob {K : PySem.W.Frag} {f : Addr} (fd : FuncData) (F : Fun K "cells_of_beat" "cells_of_beat" sCob f fd) : Binds K fd ["first", "items"] [] := F.binds (ps := ["first", "items"]) fun _ _ _ _ _ _ us hl => match us, hl with | [_, _], _ => rfl
theorem bd_sCellsIn {K : PySem.W.Frag} {f : Addr} (fd : FuncData) (F : Fun K "cells_in" "cells_in" sCellsIn f fd) : Binds K fd ["arrivals"] [] := F.binds (ps := ["arrivals"]) fun _ _ _ _ _ _ us hl => match us, hl with | [_], _ => rfl
theorem bd_sCells {K : PySem.W.Frag} {f : Addr} (fd : FuncData) (F : Fun K "cells" "cells" sCells f fd) : Binds K fd ["lines", "most", "arrivals"] [] := F.binds (ps := ["lines", "most", "arrivals"]) fun _ _ _ _ _ _ us hl => match us, hl with | [_, _, _], _ => rfl
theorem bd_sHand {K : PySem.W.Frag} {f : Addr} (fd : FuncData) (F : Fun K "_law_hand" "_law_hand" sHand f fd) : Binds K fd ["_law_script"] [] := F.binds (ps := ["_law_script"]) fun _ _ _ _ _ _ us hl => match us, hl with | [_], _ => rfl
theorem bd_sDraw {K : PySem.W.Frag} {f : Addr} (fd : FuncData) (F : Fun K "_law_draw" "_law_draw" sDraw f fd) : Binds K fd ["_law_hand_here", "_law_many"] [] := F.binds (ps := ["_law_hand_here", "_law_many"]) fun _ _ _ _ _ _ us hl => match us, hl with | [_, _], _ => rfl
theorem bd_sAny {K : PySem.W.Frag} {f : Addr} (fd : FuncData) (F : Fun K "_law_any" "_law_any" sAny f fd) : Binds K fd ["_law_hand_here", "_law_some"] [] := F.binds (ps := ["_law_hand_here", "_law_some"]) fun _ _ _ _ _ _ us hl => match us, hl with | [_, _], _ => rfl
theorem bd_sOuts {K : PySem.W.Frag} {f : Addr} (fd : FuncData) (F : Fun K "_law_outs" "_law_outs" sOuts f fd) : Binds K fd ["_law_hand_here", "_law_lines", "_law_most"] [] := F.binds (ps := ["_law_hand_here", "_law_lines", "_law_most"]) fun _ _ _ _ _ _ us hl => match us, hl with | [_, _, _], _ => rfl
theorem bd_sArrival {K : PySem.W.Frag} {f : Addr} (fd : FuncData) (F : Fun K "_law_arrival" "_law_arrival" sArrival f fd) : Binds K fd ["_law_hand_here", "_law_lines", "_law_most"] [] := F.binds (ps := ["_law_hand_here", "_law_lines", "_law_most"]) fun _ _ _ _ _ _ us hl => match us, hl with | [_, _, _], _ => rfl
theorem bd_sArrivals {K : PySem.W.Frag} {f : Addr} (fd : FuncData) (F : Fun K "_law_arrivals" "_law_arrivals" sArrivals f fd) : Binds K fd ["_law_hand_here", "_law_lines", "_law_most", "_law_beats"] [] := F.binds (ps := ["_law_hand_here", "_law_lines", "_law_most", "_law_beats"]) fun _ _ _ _ _ _ us hl => match us, hl with | [_, _, _, _], _ => rfl
theorem bd_sSizes {K : PySem.W.Frag} {f : Addr} (fd : FuncData) (F : Fun K "_law_sizes" "_law_sizes" sSizes f fd) : Binds K fd ["_law_hand_here"] [] := F.binds (ps := ["_law_hand_here"]) fun _ _ _ _ _ _ us hl => match us, hl with | [_], _ => rfl
theorem bd_sLawCells {K : PySem.W.Frag} {f : Addr} (fd : FuncData) (F : Fun K "_law_cells" "_law_cells" sLawCells f fd) : Binds K fd ["_law_arrivals_here"] [] := F.binds (ps := ["_law_arrivals_here"]) fun _ _ _ _ _ _ us hl => match us, hl with | [_], _ => rfl
theorem all_mk {l : PySem.W.OpenLaw} {w : World} {K : PySem.W.Frag} {h : Heap} {mg : Str → Option Value} {fa C f1 f2 f3 f4 : Addr} (X : K.In h) (G : h.Ns mainGlobals mg) (hnum : ∃ t, mg "MOST_NUMBER" = some (.int 1000000000 t)) (hfa : mg "law" = some (.ref fa))
    {od1 an1 od2 an2 od3 an3 od4 an4 : Option Addr} {sl1 sl2 sl3 sl4 : Array (Option Value)} {oc1 kV1 dc1 pm1 cd1 ct1 oc2 kV2 dc2 pm2 cd2 ct2 oc3 kV3 dc3 pm3 cd3 ct3 oc4 kV4 dc4 pm4 cd4 ct4 : Value} {t1 t2 t3 t4 t5 : Tok}
    (aC : PySem.W.nsIn K mainGlobals "Cell" = some (some (.ref C)))
    (a1 : PySem.W.findIn K (.ref C) "__init__" = some (some (.ref f1))) (i1 : PySem.W.isFn K (.ref f1) = true) (l1 : K.lookup f1 = some ⟨oc1, od1, .func (PySem.W.fnOf "__init__" "Cell.__init__" (defArgs sInit) (defBody sInit) (defScope sInit) .none kV1 dc1 pm1 an1 cd1 ct1), sl1⟩) (c1 : PySem.W.codeIn K cd1 "Cell.__init__" = true) (k1 : PySem.W.keepIn K (.ref f1) = true)
    (a2 : PySem.W.findIn K (.ref C) "parts" = some (some (.ref f2))) (i2 : PySem.W.isFn K (.ref f2) = true) (l2 : K.lookup f2 = some ⟨oc2, od2, .func (PySem.W.fnOf "parts" "Cell.parts" (defArgs sParts) (defBody sParts) (defScope sParts) .none kV2 dc2 pm2 an2 cd2 ct2), sl2⟩) (c2 : PySem.W.codeIn K cd2 "Cell.parts" = true) (k2 : PySem.W.keepIn K (.ref f2) = true)
    (a3 : PySem.W.findIn K (.ref C) "__eq__" = some (some (.ref f3))) (i3 : PySem.W.isFn K (.ref f3) = true) (l3 : K.lookup f3 = some ⟨oc3, od3, .func (PySem.W.fnOf "__eq__" "Cell.__eq__" (defArgs sEq) (defBody sEq) (defScope sEq) .none kV3 dc3 pm3 an3 cd3 ct3), sl3⟩) (c3 : PySem.W.codeIn K cd3 "Cell.__eq__" = true) (k3 : PySem.W.keepIn K (.ref f3) = true)
    (a4 : PySem.W.nsIn K mainGlobals "law" = some (some (.ref f4))) (l4 : K.lookup f4 = some ⟨oc4, od4, .func (PySem.W.fnOf "law" "law" (defArgs sLaw) (defBody sLaw) (defScope sLaw) .none kV4 dc4 pm4 an4 cd4 ct4), sl4⟩) (c4 : PySem.W.codeIn K cd4 "law" = true) (k4 : PySem.W.keepIn K (.ref f4) = true)
    (pg : PySem.W.plainGet K C Str.empty = true) (hd : PySem.W.hasDictIn K C = true) (po : PySem.W.plainOver K C = true) (sa : PySem.W.findIn K (.ref C) "__setattr__" = some (some (.builtin "object.__setattr__"))) (mk : PySem.W.makesIn K C = true) (kc : PySem.W.keepIn K (.ref C) = true)
    (ha : PySem.W.findIn K (.ref C) "__class__" = some (some (.builtin "object.__class__"))) (hn : PySem.W.specialIn K (.builtin "object.__class__") "__get__" = some (some (.builtin "getset_descriptor.__get__")))
    (htk : PySem.W.takesIn K (.builtin "object.__class__") = some true) (hm : PySem.W.mroIn K C (.type "object") = some true)
    (n1 : PySem.W.findIn K (.ref C) "came_as" = some none) (n2 : PySem.W.findIn K (.ref C) "at_line" = some none) (n3 : PySem.W.findIn K (.ref C) "of_stream" = some none) (n4 : PySem.W.findIn K (.ref C) "of_kind" = some none) (n5 : PySem.W.findIn K (.ref C) "to_outs" = some none)
    (neC : PySem.W.findIn K (.ref C) "__ne__" = some (some (.builtin "object.__ne__")))
    (m1 : PySem.W.nsIn K mainGlobals "MOST_LINES" = some (some (.int 12 t1))) (m2 : PySem.W.nsIn K mainGlobals "MOST_COPIES" = some (some (.int 3 t2))) (m3 : PySem.W.nsIn K mainGlobals "MOST_STREAM" = some (some (.int 99 t3))) (m4 : PySem.W.nsIn K mainGlobals "MOST_KIND" = some (some (.int 7 t4))) (m5 : PySem.W.nsIn K mainGlobals "MOST_BEATS" = some (some (.int 200 t5)))
    (z_isinstance : PySem.W.nsIn K mainGlobals "isinstance" = some none) (z_int : PySem.W.nsIn K mainGlobals "int" = some none) (z_bool : PySem.W.nsIn K mainGlobals "bool" = some none) (z_tuple : PySem.W.nsIn K mainGlobals "tuple" = some none) (z_list : PySem.W.nsIn K mainGlobals "list" = some none) (z_set : PySem.W.nsIn K mainGlobals "set" = some none) (z_len : PySem.W.nsIn K mainGlobals "len" = some none) (z_enumerate : PySem.W.nsIn K mainGlobals "enumerate" = some none) (z_range : PySem.W.nsIn K mainGlobals "range" = some none) (z_abs : PySem.W.nsIn K mainGlobals "abs" = some none) (z_sorted : PySem.W.nsIn K mainGlobals "sorted" = some none) (z_zip : PySem.W.nsIn K mainGlobals "zip" = some none) (z_repr : PySem.W.nsIn K mainGlobals "repr" = some none)
    (d_sIsInteger : DefAt K mg "is_integer" sIsInteger ["thing"])
    (d_sIsWithin : DefAt K mg "is_within" sIsWithin ["thing", "least", "most"])
    (d_sIsLot : DefAt K mg "is_lot" sIsLot ["thing", "many"])
    (d_sCheckLines : DefAt K mg "check_lines" sCheckLines ["thing"])
    (d_sCheckMost : DefAt K mg "check_most" sCheckMost ["thing"])
    (d_sAreOuts : DefAt K mg "are_outs" sAreOuts ["lines", "most", "thing"])
    (d_sCopies : DefAt K mg "copies" sCopies ["cell"])
    (d_sIsArrival : DefAt K mg "is_arrival" sIsArrival ["lines", "most", "thing"])
    (d_sFbb : DefAt K mg "first_bad_of_beat" sFbb ["lines", "most", "thing"])
    (d_sFb : DefAt K mg "first_bad" sFb ["lines", "most", "thing"])
    (d_sIsArrivals : DefAt K mg "is_arrivals" sIsArrivals ["lines", "most", "thing"])
    (d_sCheckArrivals : DefAt K mg "check_arrivals" sCheckArrivals ["lines", "most", "thing"])
    (d_sCob : DefAt K mg "cells_of_beat" sCob ["first", "items"])
    (d_sCellsIn : DefAt K mg "cells_in" sCellsIn ["arrivals"])
    (d_sCells : DefAt K mg "cells" sCells ["lines", "most", "arrivals"])
    (d_sHand : DefAt K mg "_law_hand" sHand ["_law_script"])
    (d_sDraw : DefAt K mg "_law_draw" sDraw ["_law_hand_here", "_law_many"])
    (d_sAny : DefAt K mg "_law_any" sAny ["_law_hand_here", "_law_some"])
    (d_sOuts : DefAt K mg "_law_outs" sOuts ["_law_hand_here", "_law_lines", "_law_most"])
    (d_sArrival : DefAt K mg "_law_arrival" sArrival ["_law_hand_here", "_law_lines", "_law_most"])
    (d_sArrivals : DefAt K mg "_law_arrivals" sArrivals ["_law_hand_here", "_law_lines", "_law_most", "_law_beats"])
    (d_sSizes : DefAt K mg "_law_sizes" sSizes ["_law_hand_here"])
    (d_sLawCells : DefAt K mg "_law_cells" sLawCells ["_law_arrivals_here"]) :
    ∃ fd : FuncData, (∀ (s : Shared) (v : Value), BindsTo s fd ⟨[v], []⟩ [("_law_script", v)]) ∧ ∀ base : Heap, K.In base → base.Ns mainGlobals mg → LawOk l.prog w K mg base fa fd "_law_script" (spLaw K) := by
  have e := hfa.symm.trans (PySem.W.mg_of X G a4)
  cases e
  have T : Txt K mg C := ⟨⟨⟨pg, hd, po, sa⟩, ha, hn, htk, hm, if_pos (beq_self_eq_true _)⟩, n1, n2, n3, n4, n5, PySem.W.mg_of X G aC, kc, neC, ⟨_, PySem.W.mg_of X G m1⟩, ⟨_, PySem.W.mg_of X G m2⟩, ⟨_, PySem.W.mg_of X G m3⟩, ⟨_, PySem.W.mg_of X G m4⟩, hnum, ⟨_, PySem.W.mg_of X G m5⟩,
    PySem.W.mg_none_of X G z_isinstance, PySem.W.mg_none_of X G z_int, PySem.W.mg_none_of X G z_bool, PySem.W.mg_none_of X G z_tuple, PySem.W.mg_none_of X G z_list, PySem.W.mg_none_of X G z_set, PySem.W.mg_none_of X G z_len, PySem.W.mg_none_of X G z_enumerate, PySem.W.mg_none_of X G z_range, PySem.W.mg_none_of X G z_abs, PySem.W.mg_none_of X G z_sorted, PySem.W.mg_none_of X G z_zip, PySem.W.mg_none_of X G z_repr⟩
  have F1 := fun_mk (st := sInit) l1 c1 k1
  have F2 := fun_mk (st := sParts) l2 c2 k2
  have F3 := fun_mk (st := sEq) l3 c3 k3
  have F4 := fun_mk (st := sLaw) l4 c4 k4
  have b1 := F1.binds (ps := ["self", "number", "line", "stream", "kind", "outs"]) fun _ _ _ _ _ _ us hl => match us, hl with | [_, _, _, _, _, _], _ => rfl
  have b2 := F2.binds (ps := ["self"]) fun _ _ _ _ _ _ us hl => match us, hl with | [_], _ => rfl
  have b3 := F3.binds (ps := ["self", "other"]) fun _ _ _ _ _ _ us hl => match us, hl with | [_, _], _ => rfl
  refine ⟨PySem.W.fnOf "law" "law" (defArgs sLaw) (defBody sLaw) (defScope sLaw) .none kV4 dc4 pm4 an4 cd4 ct4, fun s v => .of_eq rfl, fun base _ _ => ?_⟩
  have c1 := ok_integer (P := l.prog) (w := w) (base := base) (T := T) d_sIsInteger
  have c2 := ok_within d_sIsWithin c1
  have c3 := ok_lot (T := T) d_sIsLot c2
  have cl := ok_lines (T := T) d_sCheckLines c2
  have cm := ok_most (T := T) d_sCheckMost c2
  have c4 := ok_outs (T := T) d_sAreOuts c3
  have mkC := ok_init (T := T) ⟨_, ⟨mk, a1, i1, kc⟩, _, F1, b1⟩ c2 c4
  have mp := ok_parts (P := l.prog) (w := w) (base := base) (T := T) ⟨⟨_, _, F2, b2, ⟨a2, i2, k2⟩⟩⟩
  have FE := ok_eq (T := T) F3 mp
  have cp := ok_copies (P := l.prog) (w := w) (base := base) (T := T) d_sCopies
  have c5 := ok_arrival (T := T) d_sIsArrival c2 c4
  have c6 := ok_fbb (T := T) d_sFbb c5
  have c7 := ok_fb (T := T) d_sFb c6
  have ci := ok_isArrivals d_sIsArrivals cl cm c7
  have ca := ok_checkArrivals d_sCheckArrivals cl cm c7
  have cb := ok_cob (T := T) d_sCob mkC
  have cn := ok_cellsIn (T := T) d_sCellsIn cb
  have cc := ok_cells d_sCells ca cn
  have ch := ok_hand (P := l.prog) (w := w) (base := base) (T := T) d_sHand
  have cd := ok_draw (P := l.prog) (w := w) (base := base) (T := T) d_sDraw
  have ay := ok_any (T := T) d_sAny cd
  have ao := ok_lawOuts (T := T) d_sOuts cd
  have aa := ok_lawArrival d_sArrival cd ay ao
  have al := ok_lawArrivals (T := T) d_sArrivals cd aa
  have az := ok_sizes d_sSizes cd ay
  have ad := ok_lawCells (P := l.prog) (w := w) (base := base) (T := T) d_sLawCells
  exact ok_law (T := T) F4 FE b3 a3 i3 mkC cp ci cc ch cd al az ad ⟨rfl, by decide, by decide⟩
end Xb
open PySem PySem.W PyProof.Rows
set_option maxRecDepth 100000 in
set_option maxHeartbeats 0 in
theorem PySem.Challenge.cw_exactbeats_k02_whole_cells_of_arrivals_holds : PySem.Challenge.rw_exactbeats_k02_whole_cells_of_arrivals.Holds := by
  w_on; o_law; k_head; (case hw => w_witness2)
  k_fill
  refine Xb.law_walk (l := PySem.Challenge.rw_exactbeats_k02_whole_cells_of_arrivals) (n := 63) (x := "_law_script") (sp := Xb.spLaw) rfl (by decide) rfl (fun w h Y => PySem.W.kIn_of Y) ?F (fun K H a ns hl hS => ⟨a, ns, rfl, hS, hl, fun _ => rfl⟩)
  case F =>
    intro w mg fa h KX G XP hmg
    refine' Xb.all_mk KX G (Xb.loose_int XP) hmg ?aC ?a1 ?i1 ?l1 ?c1 ?k1 ?a2 ?i2 ?l2 ?c2 ?k2 ?a3 ?i3 ?l3 ?c3 ?k3 ?a4 ?l4 ?c4 ?k4 ?pg ?hd ?po ?sa ?mk ?kc ?ha ?hn ?htk ?hm ?n1 ?n2 ?n3 ?n4 ?n5 ?neC ?m1 ?m2 ?m3 ?m4 ?m5 ?z_isinstance ?z_int ?z_bool ?z_tuple ?z_list ?z_set ?z_len ?z_enumerate ?z_range ?z_abs ?z_sorted ?z_zip ?z_repr ?d_sIsInteger ?d_sIsWithin ?d_sIsLot ?d_sCheckLines ?d_sCheckMost ?d_sAreOuts ?d_sCopies ?d_sIsArrival ?d_sFbb ?d_sFb ?d_sIsArrivals ?d_sCheckArrivals ?d_sCob ?d_sCellsIn ?d_sCells ?d_sHand ?d_sDraw ?d_sAny ?d_sOuts ?d_sArrival ?d_sArrivals ?d_sSizes ?d_sLawCells
    (case aC => k_is)
    (case a1 => k_is)
    (case i1 => k_is)
    (case l1 => k_is)
    (case c1 => k_is)
    (case k1 => k_is)
    (case a2 => k_is)
    (case i2 => k_is)
    (case l2 => k_is)
    (case c2 => k_is)
    (case k2 => k_is)
    (case a3 => k_is)
    (case i3 => k_is)
    (case l3 => k_is)
    (case c3 => k_is)
    (case k3 => k_is)
    (case a4 => k_is)
    (case l4 => k_is)
    (case c4 => k_is)
    (case k4 => k_is)
    (case pg => k_is)
    (case hd => k_is)
    (case po => k_is)
    (case sa => k_is)
    (case mk => k_is)
    (case kc => k_is)
    (case ha => k_is)
    (case hn => k_is)
    (case htk => k_is)
    (case hm => k_is)
    (case n1 => k_is)
    (case n2 => k_is)
    (case n3 => k_is)
    (case n4 => k_is)
    (case n5 => k_is)
    (case neC => k_is)
    (case m1 => k_is)
    (case m2 => k_is)
    (case m3 => k_is)
    (case m4 => k_is)
    (case m5 => k_is)
    (case z_isinstance => k_is)
    (case z_int => k_is)
    (case z_bool => k_is)
    (case z_tuple => k_is)
    (case z_list => k_is)
    (case z_set => k_is)
    (case z_len => k_is)
    (case z_enumerate => k_is)
    (case z_range => k_is)
    (case z_abs => k_is)
    (case z_sorted => k_is)
    (case z_zip => k_is)
    (case z_repr => k_is)
    (case d_sIsInteger => (refine' Xb.def_mk KX G ?a ?l ?c ?k Xb.bd_sIsInteger; (case a => k_is); (case l => k_is); (case c => k_is); (case k => k_is)))
    (case d_sIsWithin => (refine' Xb.def_mk KX G ?a ?l ?c ?k Xb.bd_sIsWithin; (case a => k_is); (case l => k_is); (case c => k_is); (case k => k_is)))
    (case d_sIsLot => (refine' Xb.def_mk KX G ?a ?l ?c ?k Xb.bd_sIsLot; (case a => k_is); (case l => k_is); (case c => k_is); (case k => k_is)))
    (case d_sCheckLines => (refine' Xb.def_mk KX G ?a ?l ?c ?k Xb.bd_sCheckLines; (case a => k_is); (case l => k_is); (case c => k_is); (case k => k_is)))
    (case d_sCheckMost => (refine' Xb.def_mk KX G ?a ?l ?c ?k Xb.bd_sCheckMost; (case a => k_is); (case l => k_is); (case c => k_is); (case k => k_is)))
    (case d_sAreOuts => (refine' Xb.def_mk KX G ?a ?l ?c ?k Xb.bd_sAreOuts; (case a => k_is); (case l => k_is); (case c => k_is); (case k => k_is)))
    (case d_sCopies => (refine' Xb.def_mk KX G ?a ?l ?c ?k Xb.bd_sCopies; (case a => k_is); (case l => k_is); (case c => k_is); (case k => k_is)))
    (case d_sIsArrival => (refine' Xb.def_mk KX G ?a ?l ?c ?k Xb.bd_sIsArrival; (case a => k_is); (case l => k_is); (case c => k_is); (case k => k_is)))
    (case d_sFbb => (refine' Xb.def_mk KX G ?a ?l ?c ?k Xb.bd_sFbb; (case a => k_is); (case l => k_is); (case c => k_is); (case k => k_is)))
    (case d_sFb => (refine' Xb.def_mk KX G ?a ?l ?c ?k Xb.bd_sFb; (case a => k_is); (case l => k_is); (case c => k_is); (case k => k_is)))
    (case d_sIsArrivals => (refine' Xb.def_mk KX G ?a ?l ?c ?k Xb.bd_sIsArrivals; (case a => k_is); (case l => k_is); (case c => k_is); (case k => k_is)))
    (case d_sCheckArrivals => (refine' Xb.def_mk KX G ?a ?l ?c ?k Xb.bd_sCheckArrivals; (case a => k_is); (case l => k_is); (case c => k_is); (case k => k_is)))
    (case d_sCob => (refine' Xb.def_mk KX G ?a ?l ?c ?k Xb.bd_sCob; (case a => k_is); (case l => k_is); (case c => k_is); (case k => k_is)))
    (case d_sCellsIn => (refine' Xb.def_mk KX G ?a ?l ?c ?k Xb.bd_sCellsIn; (case a => k_is); (case l => k_is); (case c => k_is); (case k => k_is)))
    (case d_sCells => (refine' Xb.def_mk KX G ?a ?l ?c ?k Xb.bd_sCells; (case a => k_is); (case l => k_is); (case c => k_is); (case k => k_is)))
    (case d_sHand => (refine' Xb.def_mk KX G ?a ?l ?c ?k Xb.bd_sHand; (case a => k_is); (case l => k_is); (case c => k_is); (case k => k_is)))
    (case d_sDraw => (refine' Xb.def_mk KX G ?a ?l ?c ?k Xb.bd_sDraw; (case a => k_is); (case l => k_is); (case c => k_is); (case k => k_is)))
    (case d_sAny => (refine' Xb.def_mk KX G ?a ?l ?c ?k Xb.bd_sAny; (case a => k_is); (case l => k_is); (case c => k_is); (case k => k_is)))
    (case d_sOuts => (refine' Xb.def_mk KX G ?a ?l ?c ?k Xb.bd_sOuts; (case a => k_is); (case l => k_is); (case c => k_is); (case k => k_is)))
    (case d_sArrival => (refine' Xb.def_mk KX G ?a ?l ?c ?k Xb.bd_sArrival; (case a => k_is); (case l => k_is); (case c => k_is); (case k => k_is)))
    (case d_sArrivals => (refine' Xb.def_mk KX G ?a ?l ?c ?k Xb.bd_sArrivals; (case a => k_is); (case l => k_is); (case c => k_is); (case k => k_is)))
    (case d_sSizes => (refine' Xb.def_mk KX G ?a ?l ?c ?k Xb.bd_sSizes; (case a => k_is); (case l => k_is); (case c => k_is); (case k => k_is)))
    (case d_sLawCells => (refine' Xb.def_mk KX G ?a ?l ?c ?k Xb.bd_sLawCells; (case a => k_is); (case l => k_is); (case c => k_is); (case k => k_is)))
