import PyProof.Rows.All
import Wide.All
import OpenK.AllK
import Wide.FinOn
import KE.KStateDown
import HandS.ForMost
import HandS.IsInst
import HandS.Defaults
import HandS.Wide
import HandS.SortInts
import HandS.SortRule
import HandS.Strs
import HandS.SetFor
import HandS.Style
import HandS.Conv
import HandS.More
import HandS.Walk
import HandS.Flow
import HandS.Head0
import HandS.Head1
import HandS.Head2
import HandS.HeadEnd
import HandS.HeadHook1
import HandS.HeadHook2
import HandS.EndBits
import PySem.Challenge.RW_songturns_k03_whole_tales
set_option Elab.async false
set_option linter.all false
set_option maxRecDepth 100000
set_option maxHeartbeats 4000000
/-! ### SetL: set(xs) of a list of int numbers, as a value -/
namespace Song
open PySem PySem.Spec PyProof.Rows L2
/-- a set just laid -/
abbrev set0 (w : World) : Obj := ⟨.type "set", none, .set #[] 0 (.fresh 0 0 (!w.params.followText "set-order")), #[]⟩
section
variable {P : Program} {w : World} {A : Around} {E : Value → Shared → Prop} {s : Shared}
set_option maxHeartbeats 8000000 in
theorem set_of_list {l : Addr} {its : Array Value} (ks : List Int) {Q : Value → Shared → Prop} (nh : A.handled = none) (isl : s.heap.IsList l its) (hint : IntsAre its.toList ks) (few : ks.length + 1 < scanBound)
    (q : ∀ (h2 : Heap) (tk c : Nat), SetR w h2 s.heap.objs.size (fun j => decide (j ∈ ks)) c → c ≤ ks.length → (∀ b o, s.heap.get? b = some o → h2.get? b = some o) → Q (.ref s.heap.objs.size) { s with heap := h2, toks := tk }) :
    wpAny (model P w) A (call (.type "set") [.ref l]) Q E s := by
  have lenI : its.size = ks.length := by have z := IntsAre.length hint; rw [Array.length_toList] at z; exact z
  obtain ⟨_, _, mroS⟩ := F.called_set.mro
  have madeS := F.called_set.made
  have subS := F.called_set.sub
  refine wpAny_call (codeAny_of_tree ?_)
  show wpAny _ _ (callAny (.type "set") _) _ _ _
  refine wpAny_pure ⟨Code.quiet_builtin _ (by decide +kernel), codeAny_builtin F.entry_type_call ?_⟩
  rw [Around.under_plain (weight_type_call_type "set" [.ref l] []) rfl]
  have n1 := F.called_set.notType
  have n2 := F.called_set.canCreate
  have n3 := F.typeCall_set_1 (.ref l)
  repeat (any_goals (first | assumption | wp_step))
  refine codeAny_mono (code_set_led1 (.ref l) (E := E) (Q₁ := fun ob s1 => ob = .ref s.heap.objs.size ∧ s1 = { s with heap := s.heap.push (set0 w) }) ⟨rfl, rfl⟩) fun res s1 hres => ?_
  cases res with
  | error e => exact hres
  | ok fl =>
    cases fl with
    | ret ob =>
      obtain ⟨rfl, rfl⟩ := hres
      have atS : (s.heap.push (set0 w)).get? s.heap.objs.size = some (set0 w) := Heap.get?_push_size _ rfl
      have tyS : Shared.TypeIs { s with heap := s.heap.push (set0 w) } (.ref s.heap.objs.size) "set" := ⟨_, atS, rfl⟩
      have i1 := F.called_set.init.lookup
      have i2 := F.called_set.init.bind (.ref s.heap.objs.size)
      repeat (any_goals (first | assumption | wp_step))
      refine codeAny_mono (codeAny_call_builtin (R := wants (fun r s2 => r = .none ∧ ∃ h2 tk c, s2 = { s with heap := h2, toks := tk } ∧ SetR w h2 s.heap.objs.size (fun j => decide (j ∈ ks)) c ∧ c ≤ ks.length ∧
        (∀ b o, s.heap.get? b = some o → h2.get? b = some o)) E) F.called_set.init.plain F.entry_set_init (check_set_init_1 tyS ?_)) fun r2 s2 hr2 => ?_
      · obtain ⟨⟨oc, od, odt, osl⟩, ho, c1, nl, c2⟩ := isl
        simp only at c1 c2
        subst c1; subst c2
        have ho1 : (s.heap.push (set0 w)).get? l = some ⟨.type "list", od, .seq its nl, osl⟩ := Heap.get?_push_of_some _ ho
        have u1 := F.sub_list_set
        have u2 := F.sub_list_frozenset
        have u3 : (Value.type "list" == Value.type "dict") = false := by decide
        have isl1 : (s.heap.push (set0 w)).IsList l its := ⟨_, ho1, rfl, nl, rfl⟩
        unfold Builtin.«set.__init__» noKeywords Builtin.Frozenset.updateFrom
        generalize keepI : pyIter = PI
        wp_walk
        subst keepI
        refine wpAny_pyIter_list isl1 ?_
        refine wpAny_bind (wpAny_runValue ?_)
        have lt : l < s.heap.objs.size := Heap.lt_size ho
        have nh3 : A.in1.in1.in1.handled = none := by simp [nh]
        have ne1 : l ≠ (s.heap.push (set0 w)).objs.size := by rw [Heap.size_push]; exact Nat.ne_of_lt (Nat.lt_succ_of_lt lt)
        have ne2 : s.heap.objs.size ∉ [(s.heap.push (set0 w)).objs.size, l] := by
          rw [Heap.size_push]
          simp only [List.mem_cons, List.not_mem_nil, or_false, not_or]
          exact And.intro (Nat.ne_of_lt (Nat.lt_succ_self _)) (Nat.ne_of_gt lt)
        have vals : ∀ (i : Nat) (v : Value), its[i]? = some v → ∃ k t, ks[i]? = some k ∧ v = .int k t := fun i v hv => by
          have lti : i < ks.length := by rw [← lenI]; exact (Array.getElem?_eq_some_iff.mp hv).1
          obtain ⟨t, e⟩ := PyProof.Rows.IntsAre.int_at hint i v (by rw [Array.getElem?_toList]; exact hv)
          refine ⟨ks[i], t, List.getElem?_eq_getElem lti, ?_⟩
          rw [e, List.getD_eq_getElem?_getD, List.getElem?_eq_getElem lti] <;> rfl
        refine set_update_ints ((Walks.list nh3 _ l ne1 its).toS) s.heap.objs.size ne2 ks lenI few vals (its.size - 0) 0 _ (by omega) (Nat.zero_le _)
          ⟨⟨_, Heap.get?_push_size _ rfl, rfl, rfl⟩, (isl1.push _)⟩ ⟨0, Nat.le_refl 0, setR_new_at (Heap.get?_push_of_some _ atS)⟩ ?_
        intro s3 c3 mv hc3 hS3
        obtain ⟨h3, g3, d3, t3, o3⟩ := s3
        have eg : g3 = s.gens := mv.gens
        have ed : d3 = s.drawn := mv.drawn
        have eo : o3 = s.os := mv.os
        subst eg; subst ed; subst eo
        show wpAny _ _ _ _ _ _
        refine wpAny_pure ?_
        show wpAny _ _ (ret Value.none) _ _ _
        rw [lenI] at hc3
        refine wpAny_pure ⟨rfl, h3, t3, c3, rfl, hS3, hc3, fun b o e => ?_⟩
        have b0 : b < s.heap.objs.size := Heap.lt_size e
        refine mv.heap b o ?_ (Heap.get?_push_of_some _ (Heap.get?_push_of_some _ e))
        rw [Heap.size_push]
        simp only [List.mem_cons, List.not_mem_nil, or_false, not_or]
        exact And.intro (Nat.ne_of_lt b0) (Nat.ne_of_lt (Nat.lt_succ_of_lt b0))
      · cases r2 with
        | error e => exact hr2
        | ok f2 =>
          cases f2 with
          | ret r =>
            obtain ⟨rfl, h2, tk, c, rfl, hS, hc, hk⟩ := hr2
            repeat (any_goals (first | assumption | wp_step))
            exact q _ _ _ hS hc hk
          | _ => exact hr2.elim
    | _ => exact hres.elim
end
/-- set(xs), xs a list of int numbers: who is in, and no more than there were -/
def rSetI (K : PySem.W.Frag) (w : World) : List V → Hp → VK → Prop := fun xs H Q => ∃ (l : Addr) (ks : List Int), xs = [V.ref l] ∧ SqL K H l (ks.map V.int) ∧ ks.length ≤ 1000 ∧
  ∀ (a : Addr) (c : Nat), c ≤ ks.length → H a = none → Q (.ref a) (upd H a (SetO w a (fun j => decide (j ∈ ks)) c))
theorem cr_setI {X : Cx} (hc : X.calm = true) : CallR X (.type "set") (rSetI X.K X.w) := by
  intro pins s σ H xs us Q I r h
  obtain ⟨l, ks, rfl, hs, hl, q⟩ := h
  obtain ⟨its, rv, ⟨o, n, ho, c1, c2, c3⟩, hlen⟩ := I.list hs
  have hint : IntsAre its ks := ints_of_vals rv
  have isl : s.heap.IsList l its.toArray := ⟨o, ho, c1, n, c3⟩
  rw [Vals.ref1 r]
  refine set_of_list ks (I.ok.hd hc) isl (by simpa using hint) (by unfold scanBound; omega) fun h2 tk c hS hcl hk => ?_
  have hn : H s.heap.objs.size = none := I.hok.fresh (Nat.le_refl _)
  obtain ⟨o2, es, ep, st, ho2, rest⟩ := id hS
  refine ⟨.ref s.heap.objs.size, _, I.laid (t' := tk) (fun b u e => hk b u e) (Nat.le_refl _) ?_, rfl, q _ c hcl hn⟩
  exact setO_new hS
end Song

/-! ### Lay: what every def's proof leans on (own layer over the hand layer) -/
namespace Song
open PySem L2

/-! #### heaps -/
theorem Same.new {H : Hp} {p : Addr} {o : HO} (n : H p = none) : Same H (upd H p o) := fun b o' e => by
  rw [upd_ne (ne_of_none e n)]
  exact e
/-- a new object: the heap behind it is only known to extend the one ahead -/
theorem new_all {H : Hp} {o : HO} {Q : Addr → Hp → Prop} (h : ∀ p H', H p = none → Same H H' → H' p = some o → Q p H') : ∀ p, H p = none → Q p (upd H p o) :=
  fun p n => h p _ n (Same.new n) upd_same
/-- behind a new object: the heap is only known to extend the one ahead -/
@[elab_as_elim] theorem to_new {H : Hp} {p : Addr} {o : HO} {Q : Hp → Prop} (n : H p = none) (h : ∀ H', Same H H' → H' p = some o → Q H') : Q (upd H p o) := h _ (Same.new n) upd_same
/-- a heap without some addresses -/
def off (S : List Addr) (H : Hp) : Hp := fun a => if a ∈ S then none else H a
theorem off_in {S : List Addr} {H : Hp} {a : Addr} (h : a ∈ S) : off S H a = none := by unfold off; rw [if_pos h]
theorem off_out {S : List Addr} {H : Hp} {a : Addr} (h : a ∉ S) : off S H a = H a := by unfold off; rw [if_neg h]
theorem off_some {S : List Addr} {H : Hp} {a : Addr} {o : HO} (h : off S H a = some o) : a ∉ S ∧ H a = some o := by
  by_cases q : a ∈ S
  · rw [off_in q] at h; cases h
  · rw [off_out q] at h; exact ⟨q, h⟩
theorem off_le (S : List Addr) (H : Hp) : Same (off S H) H := fun _ _ h => (off_some h).2
theorem off_mono {S : List Addr} {H H' : Hp} (s : Same H H') : Same (off S H) (off S H') := fun b o h => by
  obtain ⟨q, h⟩ := off_some h
  rw [off_out q]; exact s _ _ h
/-- all but the addresses S stays -/
def Fra (S : List Addr) (H H' : Hp) : Prop := ∀ a o, a ∉ S → H a = some o → H' a = some o
theorem Fra.refl (S : List Addr) (H : Hp) : Fra S H H := fun _ _ _ h => h
theorem Fra.of {S : List Addr} {H H' : Hp} (s : Same H H') : Fra S H H' := fun a o _ h => s a o h
theorem Fra.trans {S : List Addr} {H H1 H2 : Hp} (a : Fra S H H1) (b : Fra S H1 H2) : Fra S H H2 := fun c o n h => b c o n (a c o n h)
theorem Fra.mono {S S' : List Addr} {H H' : Hp} (f : Fra S H H') (h : ∀ a ∈ S, a ∈ S') : Fra S' H H' := fun a o n e => f a o (fun q => n (h a q)) e
theorem Fra.put {S : List Addr} {H : Hp} {a : Addr} {o : HO} (h : a ∈ S) : Fra S H (upd H a o) := fun b o' n e => by
  have q : b ≠ a := fun q => n (by rw [q]; exact h)
  rw [upd_ne q]; exact e
@[elab_as_elim] theorem to_put {H : Hp} {p : Addr} {o : HO} {Q : Hp → Prop} (h : ∀ H', Fra [p] H H' → H' p = some o → Q H') : Q (upd H p o) := h _ (Fra.put (by simp)) upd_same
theorem Fra.one {H H' : Hp} {p a : Addr} {o : HO} (f : Fra [p] H H') (n : a ≠ p) (h : H a = some o) : H' a = some o := f a o (by simpa using n) h
theorem Fra.off {S : List Addr} {H H' : Hp} (f : Fra S H H') : Same (off S H) (off S H') := fun b o h => by
  obtain ⟨q, h⟩ := off_some h
  rw [off_out q]; exact f _ _ q h
theorem Fra.same {H H' : Hp} (f : Fra [] H H') : Same H H' := fun b o h => f b o (by simp) h
/-- what is new to H stays outside of what H tells -/
theorem Fra.back {H0 H H' : Hp} {S : List Addr} (s : Same H0 H) (f : Fra S H H') (h : ∀ a ∈ S, H0 a = none) : Same H0 H' := fun b o e =>
  f b o (fun q => by rw [h b q] at e; cases e) (s b o e)
theorem Same.sqT {K : PySem.W.Frag} {H H' : Hp} {a : Addr} {xs : List V} (e : Same H H') (h : SqT K H a xs) : SqT K H' a xs := by
  rcases h with (h | ⟨o, h⟩) | h
  · exact .inl (.inl (e _ _ h))
  · exact .inl (.inr ⟨o, e _ _ h⟩)
  · exact .inr h
mutual
theorem dp_mono {K : PySem.W.Frag} {H H' : Hp} (e : Same H H') : ∀ {v : V} {d : PyData}, Dp K H v d → Dp K H' v d
  | _, _, .non => .non
  | _, _, .bl b => .bl b
  | _, _, .int i => .int i
  | _, _, .str x => .str x
  | _, _, .lst s a => .lst (e.seq s) (dpAll_mono e a)
  | _, _, .tup s a => .tup (Same.sqT e s) (dpAll_mono e a)
theorem dpAll_mono {K : PySem.W.Frag} {H H' : Hp} (e : Same H H') : ∀ {vs : List V} {ds : List PyData}, DpAll K H vs ds → DpAll K H' vs ds
  | _, _, .nil => .nil
  | _, _, .cons d a => .cons (dp_mono e d) (dpAll_mono e a)
end
theorem dpAll_app {K : PySem.W.Frag} {H : Hp} : ∀ {vs ws : List V} {ds es : List PyData}, DpAll K H vs ds → DpAll K H ws es → DpAll K H (vs ++ ws) (ds ++ es)
  | _, _, _, _, .nil, h => h
  | _, _, _, _, .cons d a, h => .cons d (dpAll_app a h)
theorem dpAll_len {K : PySem.W.Frag} {H : Hp} : ∀ {vs : List V} {ds : List PyData}, DpAll K H vs ds → vs.length = ds.length
  | _, _, .nil => rfl
  | _, _, .cons _ a => by simp [dpAll_len a]
theorem dpAll_get {K : PySem.W.Frag} {H : Hp} : ∀ {vs : List V} {ds : List PyData} {i : Nat} {v : V}, DpAll K H vs ds → vs[i]? = some v → ∃ d, ds[i]? = some d ∧ Dp K H v d
  | _, _, _, _, .nil, e => by simp at e
  | _, _, 0, _, .cons d a, e => by
    simp at e; subst e; exact ⟨_, rfl, d⟩
  | _, _, i + 1, v, .cons d a, e => by
    obtain ⟨d', h1, h2⟩ := dpAll_get (i := i) (v := v) a (by simpa using e)
    exact ⟨d', by simpa using h1, h2⟩
theorem dpAll_ints {K : PySem.W.Frag} {H : Hp} : ∀ (ns : List Int), DpAll K H (ns.map V.int) (ns.map PyData.int)
  | [] => .nil
  | n :: r => .cons (.int n) (dpAll_ints r)
theorem dp_ints {K : PySem.W.Frag} {H : Hp} {a : Addr} {ns : List Int} (h : SqL K H a (ns.map V.int)) : Dp K H (.ref a) (.list (ns.map PyData.int)) := .lst h (dpAll_ints ns)
theorem ints_inj : ∀ {ns ms : List Int}, ns.map V.int = ms.map V.int → ns = ms
  | [], [], _ => rfl
  | [], _ :: _, h => by cases h
  | _ :: _, [], h => by cases h
  | a :: r, b :: s, h => by
    simp only [List.map_cons, List.cons.injEq, V.int.injEq] at h
    rw [h.1, ints_inj h.2]

/-! #### calls of the program's own defs, by one word each -/
section
variable {P : Program} {w : World} {K : PySem.W.Frag} {mg : Str → Option Value} {base : Heap}
structure Fn (P : Program) (w : World) (K : PySem.W.Frag) (mg : Str → Option Value) (base : Heap) (x : Str) (k : Nat) (sp : Sp) : Prop where
  ex : ∃ (f : Addr) (fd : FuncData) (ps : List Str), FnOk P w K mg base CX0 k f fd ps sp ∧ mg x = some (.ref f) ∧ PySem.W.keepIn K (.ref f) = true ∧ Binds K fd ps []
structure Me (P : Program) (w : World) (K : PySem.W.Frag) (mg : Str → Option Value) (base : Heap) (C : Addr) (m : Str) (k : Nat) (sp : Sp) : Prop where
  ex : ∃ (f : Addr) (fd : FuncData) (ps : List Str), FnOk P w K mg base CX0 k f fd ps sp ∧ Cls K C ∧ Meth K C m f ∧ Binds K fd ps []
structure Mke (P : Program) (w : World) (K : PySem.W.Frag) (mg : Str → Option Value) (base : Heap) (x : Str) (C : Addr) (k : Nat) (sp : Sp) : Prop where
  ex : ∃ (f : Addr) (fd : FuncData) (ps : List Str), FnOk P w K mg base CX0 k f fd ps sp ∧ Mk K C f ∧ mg x = some (.ref C) ∧ Binds K fd ps []
abbrev FnP (K : PySem.W.Frag) (x q : Str) (st : Stmt) (f : Addr) (fd : FuncData) : Prop := FunD K x q (defArgs st) (defBody st) (defScope st) [] [] f fd
end
section
variable {X : Cx} {x m : Str} {k : Nat} {sp : Sp} {e o : Expr} {es : List Expr} {t : TA} {to : TE} {C : Addr} {p apos pos : Pos}
theorem pe_fn (F : Fn X.prog X.w X.K X.mg X.base x k sp) (hr : Room k X.A) (hg : Gl X x) (ha : PA X (e :: es) t)
    (hdb : (x == ("__debug__" : Str)) = false := by decide) (he : starEach (e :: es) X.env = (false, eval e X.env) :: starEach es X.env := by rfl) (hpl : (backTo pos (starEach es X.env)).any (·.1) = false := by rfl) :
    PE X (.Call (.Name x p) (e :: es) [] pos) (tCall sp [] E0 t) := by
  obtain ⟨f, fd, ps, h1, h2, h3, h4⟩ := F.ex
  exact pe_call h1 hr hg h2 h3 h4 .nil pass0 ha hdb he hpl
theorem pe_fn0 (F : Fn X.prog X.w X.K X.mg X.base x k sp) (hr : Room k X.A) (hg : Gl X x) (hdb : (x == ("__debug__" : Str)) = false := by decide) :
    PE X (.Call (.Name x p) [] [] pos) (tCall sp [] E0 tNil) := by
  obtain ⟨f, fd, ps, h1, h2, h3, h4⟩ := F.ex
  exact pe_call0 h1 hr hg h2 h3 h4 .nil pass0 hdb
theorem pe_me {pl : Sem Bool} (F : Me X.prog X.w X.K X.mg X.base C m k sp) (hr : Room k X.A) (ho : PE X o to) (ha : PA X (e :: es) t)
    (hst : starEach (e :: es) X.env = (false, eval e X.env) :: starEach es X.env := by rfl) (hpl : (backTo pos (starEach es X.env)).any (·.1) = false := by rfl)
    (ht : eval (.Call (.Attribute o m apos) (e :: es) [] pos) X.env = (do
      let ov ← eval o X.env
      standAt apos.atName
      let (f, first) ← holding [ov] (getMethod ov m pl)
      callWith pos f first (backTo pos (starEach (e :: es) X.env)) (backToKw pos (keywordEach [] X.env))) := by rfl) :
    PE X (.Call (.Attribute o m apos) (e :: es) [] pos) (tMeth C m sp [] E0 to t) := by
  obtain ⟨f, fd, ps, h1, h2, h3, h4⟩ := F.ex
  exact pe_meth ho h2 h3 h1 hr h4 .nil pass0 ha hst hpl ht
theorem pe_me0 {pl : Sem Bool} (F : Me X.prog X.w X.K X.mg X.base C m k sp) (hr : Room k X.A) (ho : PE X o to)
    (ht : eval (.Call (.Attribute o m apos) [] [] pos) X.env = (do
      let ov ← eval o X.env
      standAt apos.atName
      let (f, first) ← holding [ov] (getMethod ov m pl)
      callWith pos f first (backTo pos (starEach [] X.env)) (backToKw pos (keywordEach [] X.env))) := by rfl) :
    PE X (.Call (.Attribute o m apos) [] [] pos) (tMeth C m sp [] E0 to tNil) := by
  obtain ⟨f, fd, ps, h1, h2, h3, h4⟩ := F.ex
  exact pe_meth0 ho h2 h3 h1 hr h4 .nil pass0 ht
theorem pe_mk (F : Mke X.prog X.w X.K X.mg X.base x C k sp) (hr : Room (k + 1) X.A) (hg : Gl X x) (ha : PA X (e :: es) t)
    (hdb : (x == ("__debug__" : Str)) = false := by decide) (he : starEach (e :: es) X.env = (false, eval e X.env) :: starEach es X.env := by rfl) (hpl : (backTo pos (starEach es X.env)).any (·.1) = false := by rfl) :
    PE X (.Call (.Name x p) (e :: es) [] pos) (tMake C sp [] E0 t) := by
  obtain ⟨f, fd, ps, h1, h2, h3, h4⟩ := F.ex
  exact pe_make h2 h1 hr hg h3 h4 .nil pass0 ha hdb he hpl
theorem pe_gi {i : Int} (h : ∃ t, X.mg x = some (.int i t)) (hg : Gl X x) (hd : (x == ("__debug__" : Str)) = false := by decide) : PE X (.Name x pos) (tC (.int i)) := by
  obtain ⟨t, h⟩ := h
  exact pe_glob hg h ⟨t, rfl⟩ hd
theorem pe_gc (h : X.mg x = some (.ref C)) (hg : Gl X x) (hd : (x == ("__debug__" : Str)) = false := by decide) : PE X (.Name x pos) (tC (.ref C)) := pe_glob hg h rfl hd
theorem pe_gt {n : String} (h : X.mg x = none) (hg : Gl X x) (hv : bootBuiltins x = some (.type n)) (hn : x ≠ "__name__" := by decide) (hd : (x == ("__debug__" : Str)) = false := by decide) : PE X (.Name x pos) (tC (.ty n)) := pe_bltn hg h hv rfl hn hd
/-- * of ints, by what the model itself asks -/
theorem op_mulO : OpR X (binaryOp .Mult) (rI IntMulOk fun i j => .int (i * j)) := opI fun _ _ _ _ _ _ _ hc q => PyProof.Rows.mul_int q hc
end

/-- readings of rules that the kit states without a name -/
def rLenQ (K : PySem.W.Frag) : List V → Hp → VK → Prop := fun xs H Q => ∃ p ys, xs = [.ref p] ∧ (SqL K H p ys ∨ SqT K H p ys) ∧ Q (.int ys.length) H
def rListO (K : PySem.W.Frag) : List V → Hp → VK → Prop := fun xs H Q => ∃ p ys, xs = [.ref p] ∧ (SqL K H p ys ∨ SqT K H p ys) ∧ ∀ l, H l = none → Q (.ref l) (upd H l (.lst ys))
def rTupO (K : PySem.W.Frag) : List V → Hp → VK → Prop := fun xs H Q => ∃ p ys, xs = [.ref p] ∧ ((SqL K H p ys ∧ ∀ l, H l = none → Q (.ref l) (upd H l (.tup ys))) ∨ (SqT K H p ys ∧ Q (.ref p) H))
/-! #### comprehensions -/
section
variable {J : It} {n : Nat} {G : Hp → Prop} {Y : Nat → Hp → V → Hp → Prop} {g : TG} {tt : TT} {te : TE} {vs : List Nat} {σ : St} {H1 : Hp} {D : Addr} {Qd : Hp → Prop}
/-- what a comprehension over a walk asks -/
abbrev LcAsks (J : It) (g : TG) (tt : TT) (te : TE) (vs : List Nat) (σ : St) (H1 : Hp) (D : Addr) (Qd : Hp → Prop) : Prop :=
  ∃ W : Nat → Nat → Hp → Prop, (∃ m, W 0 m (upd H1 D (.lst []))) ∧ ∀ i m H, W i m H →
      (J.stop i H ∧ Qd H) ∨ (J.go i H ∧ ∃ Nx : Hp → Prop, (∀ H', Nx H' → ∃ m', m' < m ∧ W (i + 1) m' H') ∧ ∀ x H', J.yld i H x H' → g x (wipe σ vs) H' fun σ2 H2 => wipe σ2 vs = wipe σ vs ∧ tt σ2 H2 fun b H3 =>
        if b = true then te σ2 H3 fun y H4 => ∃ acc, H4 D = some (.lst acc) ∧ acc.length < sizeLine ∧ Nx (upd H4 D (.lst (acc ++ [y]))) else Nx H3)
theorem off_one {H : Hp} {D : Addr} {o : HO} : off [D] (upd H D o) = off [D] H := by
  funext b
  by_cases q : b ∈ [D]
  · rw [off_in q, off_in q]
  · rw [off_out q, off_out q, upd_ne (fun z => q (by simp [z]))]
theorem same_put {H1 H : Hp} {D : Addr} {o : HO} (n : H1 D = none) (s : Same H1 H) : Same H1 (upd H D o) := fun b o e => by
  rw [upd_ne (ne_of_none e n)]
  exact s _ _ e
theorem yes_of {te : TE} {σ : St} {H : Hp} {k : VK} {kn : Hp → Prop} (h : te σ H k) : tYes σ H (fun b H3 => if b = true then te σ H3 k else kn H3) := by
  unfold tYes
  dsimp only
  rw [if_pos rfl]
  exact h
/-- no test: each element's value is told by R (monotone), whatever else is laid meanwhile -/
theorem lc_all (w : Walk J n G Y) (hGm : ∀ H H', Same H H' → G H → G H') (hG : G H1) (R : Nat → Hp → V → Prop) (hR : ∀ i H H' y, Same H H' → R i H y → R i H' y) (nD : H1 D = none) (hlen : n ≤ 1000)
    (hs : ∀ (i : Nat) x H H' acc, i < n → Same H1 H → H D = some (.lst acc) → Y i H x H' → ∀ k : V → Hp → Prop, (∀ y H2, Same H H2 → R i (off [D] H2) y → k y H2) →
      g x (wipe σ vs) H' fun σ2 H2 => wipe σ2 vs = wipe σ vs ∧ te σ2 H2 k)
    (hd : ∀ ys H, Same H1 H → H D = some (.lst ys) → ys.length = n → (∀ (i : Nat) y, ys[i]? = some y → R i (off [D] H) y) → Qd H)
    (hg : ∀ x σ H Q Q', (∀ σ2 H2, Q σ2 H2 → Q' σ2 H2) → g x σ H Q → g x σ H Q') : LcAsks J g tYes te vs σ H1 D Qd := by
  refine lc_it w (fun i H => Same H1 H ∧ ∃ ys, H D = some (.lst ys) ∧ ys.length = i ∧ ∀ (j : Nat) y, ys[j]? = some y → R j (off [D] H) y) ?_ ?_ ?_ ?_
  · exact ⟨Same.new nD, [], upd_same, rfl, fun j y e => by simp at e⟩
  · intro i H _ h
    exact hGm _ _ h.1 hG
  · rintro i x H H' hi ⟨s, ys, hD, hl, hy⟩ hY
    refine hg _ _ _ _ _ (fun σ2 H2 h => ?_) (hs i x H H' ys hi s hD hY (fun y H4 => ∃ acc, H4 D = some (.lst acc) ∧ acc.length < sizeLine ∧ (Same H1 (upd H4 D (.lst (acc ++ [y]))) ∧ ∃ ys, (upd H4 D (.lst (acc ++ [y]))) D = some (.lst ys) ∧ ys.length = i + 1 ∧ ∀ (j : Nat) y', ys[j]? = some y' → R j (off [D] (upd H4 D (.lst (acc ++ [y])))) y')) ?_)
    · refine ⟨h.1, ?_⟩
      unfold tYes
      dsimp only
      rw [if_pos rfl]
      exact h.2
    · intro y H4 s4 r
      refine ⟨ys, s4 _ _ hD, Nat.lt_of_le_of_lt (show ys.length ≤ 1000 by omega) (by decide), same_put nD (s.trans s4), ys ++ [y], upd_same, by simp [hl], fun j y' e => ?_⟩
      rw [off_one]
      by_cases hj : j < ys.length
      · rw [List.getElem?_append_left hj] at e
        exact hR j _ _ _ (off_mono s4) (hy j y' e)
      · have ej : j = ys.length := by
          have := (List.getElem?_eq_some_iff.mp e).1
          simp at this; omega
        subst ej
        rw [List.getElem?_append_right (Nat.le_refl _)] at e
        simp at e
        subst e
        rw [hl]
        exact r
  · rintro H ⟨s, ys, hD, hl, hy⟩
    exact hd ys H s hD hl hy
/-- element and test are plain functions of the turn -/
theorem lc_pure (w : Walk J n G Y) (hGm : ∀ H H', Same H H' → G H → G H') (hG : G H1) (f : Nat → Option V) (nD : H1 D = none) (hlen : n ≤ 1000)
    (hs : ∀ (i : Nat) x H H', i < n → Same H1 H → Y i H x H' → ∀ (k : V → Hp → Prop) (kn : Hp → Prop), (∀ y H2, f i = some y → Same H H2 → k y H2) → (∀ H2, f i = none → Same H H2 → kn H2) →
      g x (wipe σ vs) H' fun σ2 H2 => wipe σ2 vs = wipe σ vs ∧ tt σ2 H2 fun b H3 => if b = true then te σ2 H3 k else kn H3)
    (hd : ∀ H, Same H1 H → H D = some (.lst ((List.range n).filterMap f)) → Qd H) : LcAsks J g tt te vs σ H1 D Qd := by
  refine lc_it w (fun i H => Same H1 H ∧ H D = some (.lst ((List.range i).filterMap f))) ?_ ?_ ?_ ?_
  · exact ⟨Same.new nD, upd_same⟩
  · intro i H _ h
    exact hGm _ _ h.1 hG
  · rintro i x H H' hi ⟨s, hD⟩ hY
    have hl : ((List.range i).filterMap f).length ≤ i := by
      have := List.length_filterMap_le f (List.range i)
      rwa [List.length_range] at this
    refine hs i x H H' hi s hY _ _ (fun y H4 e s4 => ?_) (fun H4 e s4 => ?_)
    · refine ⟨_, s4 _ _ hD, Nat.lt_of_le_of_lt (show _ ≤ 1000 by omega) (by decide), same_put nD (s.trans s4), ?_⟩
      rw [upd_same, List.range_succ, List.filterMap_append]
      simp [e]
    · refine ⟨s.trans s4, ?_⟩
      rw [s4 _ _ hD, List.range_succ, List.filterMap_append]
      simp [e]
  · rintro H ⟨s, hD⟩
    exact hd H s hD
theorem sqL_mono {K : PySem.W.Frag} {a : Addr} {xs : List V} (H H' : Hp) (s : Same H H') (h : SqL K H a xs) : SqL K H' a xs := s.seq h
theorem sqL2_mono {K : PySem.W.Frag} {a b : Addr} {xs ys : List V} (H H' : Hp) (s : Same H H') (h : SqL K H a xs ∧ SqL K H b ys) : SqL K H' a xs ∧ SqL K H' b ys := ⟨s.seq h.1, s.seq h.2⟩
theorem range_filterMap {α β : Type} (f : α → Option β) : ∀ (xs : List α), (List.range xs.length).filterMap (fun i => xs[i]?.bind f) = xs.filterMap f
  | [] => rfl
  | x :: xs => by
    have ih := range_filterMap f xs
    rw [List.length_cons, List.range_succ_eq_map, List.filterMap_cons, List.filterMap_map, List.filterMap_cons]
    have e : ((fun i => ((x :: xs)[i]?).bind f) ∘ Nat.succ) = fun i => (xs[i]?).bind f := by funext i; simp
    rw [e, ih]
    simp
theorem range_map {α β : Type} (f : α → β) (xs : List α) : (List.range xs.length).filterMap (fun i => xs[i]?.map f) = xs.map f := by
  have e : (fun (i : Nat) => xs[i]?.map f) = fun (i : Nat) => xs[i]?.bind fun x => some (f x) := by funext i; cases xs[i]? <;> rfl
  rw [e, range_filterMap, ← List.filterMap_eq_map]
  rfl
/-- over a list, no test, a plain function of the item -/
theorem lc_map {K : PySem.W.Frag} {a : Addr} {xs : List V} (f : V → V) (hSq : SqL K H1 a xs) (nD : H1 D = none) (hlen : xs.length ≤ 1000)
    (hs : ∀ (i : Nat) x H, xs[i]? = some x → Same H1 H → ∀ k : V → Hp → Prop, (∀ H', Same H H' → k (f x) H') → g x (wipe σ vs) H fun σ2 H2 => wipe σ2 vs = wipe σ vs ∧ te σ2 H2 k)
    (hd : ∀ H, Same H1 H → H D = some (.lst (xs.map f)) → Qd H)
    (hg : ∀ x σ H Q Q', (∀ σ2 H2, Q σ2 H2 → Q' σ2 H2) → g x σ H Q → g x σ H Q') : LcAsks (Itl K a) g tYes te vs σ H1 D Qd := by
  refine lc_pure walk_list sqL_mono hSq (fun i => xs[i]?.map f) nD hlen (fun i x H H' hi s hY k kn hk _ => ?_) (fun H s hD => hd H s (by rw [← range_map]; exact hD))
  obtain ⟨rfl, hx⟩ := hY
  refine hg _ _ _ _ _ (fun σ2 H2 h => ?_) (hs i x H' hx s k fun H2 s2 => hk _ H2 (by rw [hx]; rfl) s2)
  refine ⟨h.1, ?_⟩
  unfold tYes
  dsimp only
  rw [if_pos rfl]
  exact h.2
theorem eq_map_of {α β : Type} {f : α → β} : ∀ {xs : List α} {ys : List β}, ys.length = xs.length → (∀ (i : Nat) y, ys[i]? = some y → ∃ x, xs[i]? = some x ∧ y = f x) → ys = xs.map f
  | [], [], _, _ => rfl
  | [], _ :: _, h, _ => by cases h
  | _ :: _, [], h, _ => by cases h
  | x :: xs, y :: ys, h, r => by
    obtain ⟨x', e, ey⟩ := r 0 y rfl
    cases e
    rw [ey, eq_map_of (xs := xs) (ys := ys) (by simpa using h) fun i y' e => r (i + 1) y' (by simpa using e)]
    rfl
theorem gtup_mono {K : PySem.W.Frag} {i j : Nat} (x : V) (σ : St) (H : Hp) (Q Q' : St → Hp → Prop) (h : ∀ σ2 H2, Q σ2 H2 → Q' σ2 H2) (q : gTup K 2 (gCons (gName i) (gCons (gName j) gNil)) x σ H Q) : gTup K 2 (gCons (gName i) (gCons (gName j) gNil)) x σ H Q' := by
  obtain ⟨a, xs, e, hs, hl, v, r, er, v2, r2, er2, en, q⟩ := q
  exact ⟨a, xs, e, hs, hl, v, r, er, v2, r2, er2, en, h _ _ q⟩
theorem gname_mono {i : Nat} (x : V) (σ : St) (H : Hp) (Q Q' : St → Hp → Prop) (h : ∀ σ2 H2, Q σ2 H2 → Q' σ2 H2) (q : gName i x σ H Q) : gName i x σ H Q' := h _ _ q
end

/-! #### what sort a value is -/
def isInt : V → Bool
  | .int _ => true
  | _ => false
abbrev Kd (K : PySem.W.Frag) (H : Hp) (v : V) (t : String) : Prop := TyX K H v (.type t)
theorem kd_int {K : PySem.W.Frag} {H : Hp} (i : Int) : Kd K H (.int i) "int" := .base (.int i)
theorem kd_list {K : PySem.W.Frag} {H : Hp} {a : Addr} {xs : List V} (h : SqL K H a xs) : Kd K H (.ref a) "list" := by
  rcases h with (h | ⟨o, h⟩) | ⟨o, its, n, hk, hc, _⟩
  · exact .base (.lst h)
  · exact .base (.frz h)
  · exact .kList hk hc
theorem kd_tup {K : PySem.W.Frag} {H : Hp} {a : Addr} {xs : List V} (h : SqT K H a xs) : Kd K H (.ref a) "tuple" := by
  rcases h with (h | ⟨o, h⟩) | ⟨o, its, n, hk, hc, _⟩
  · exact .base (.tup h)
  · exact .fTuple h
  · exact .kTuple hk hc
theorem kd_isInt {K : PySem.W.Frag} {H : Hp} {v : V} {t : String} (h : Kd K H v t) : isInt v = (t == "int") := by
  generalize e : Value.type t = u at h
  cases h with
  | base b =>
    cases b <;> first | (cases e; rfl) | cases e
  | _ => cases e; rfl
theorem isi_of {K : PySem.W.Frag} {H : Hp} {v : V} {t n : String} {b : Bool} {Q : VK} (h : Kd K H v t) (e : PySem.W.kitOne K (.type t) (.type n) = some b) (q : Q (.bl b) H) : rIsi K [v, .ty n] H Q :=
  ⟨v, .ty n, .type t, .type n, b, rfl, .ty n, h, e, q⟩
/-- isinstance(v, int), (v, bool), (v, list), (v, tuple), (v, str) of a value of a known sort -/
theorem kit_kd {K : PySem.W.Frag} {H : Hp} {v : V} {t : String} (h : Kd K H v t) :
    PySem.W.kitOne K (.type t) (.type "int") = some (t == "int" || t == "bool") ∧ PySem.W.kitOne K (.type t) (.type "bool") = some (t == "bool") ∧
    PySem.W.kitOne K (.type t) (.type "list") = some (t == "list") ∧ PySem.W.kitOne K (.type t) (.type "tuple") = some (t == "tuple") ∧ PySem.W.kitOne K (.type t) (.type "str") = some (t == "str") := by
  generalize e : Value.type t = u at h
  cases h with
  | base b =>
    cases b <;> first | (cases e; exact ⟨kit_ty (by decide +kernel), kit_ty (by decide +kernel), kit_ty (by decide +kernel), kit_ty (by decide +kernel), kit_ty (by decide +kernel)⟩) | cases e
  | _ => cases e; exact ⟨kit_ty (by decide +kernel), kit_ty (by decide +kernel), kit_ty (by decide +kernel), kit_ty (by decide +kernel), kit_ty (by decide +kernel)⟩

/-! #### further facts of the top -/
def exOk (ex : List (PySem.W.Frag → Bool)) (K : PySem.W.Frag) : Bool := ex.all fun f => f K
theorem exAll {ex : List (PySem.W.Frag → Bool)} {K : PySem.W.Frag} (i : Nat) {f : PySem.W.Frag → Bool} (c : exOk ex K = true) (h : ex[i]? = some f) : f K = true := List.all_eq_true.mp c f (List.mem_of_getElem? h)
def obsYG (n : Nat) (fa : List He.Fa) (fn : List He.DefD) (ex : List (PySem.W.Frag → Bool)) (g : Addr → Option Obj) : Bool × He.AlD := (exOk ex (He.frG g (He.asD g n)), He.obsD fa fn (He.frG g (He.asD g n)))
def hookY (n : Nat) (fa : List He.Fa) (fn : List He.DefD) (ex : List (PySem.W.Frag → Bool)) : PySem.W.Hook where
  α := Bool × He.AlD
  obs := fun s => obsYG n fa fn ex s.heap.get?
  val := fun _ => (true, He.valD fn)
  says := fun _ h => ∃ K : PySem.W.Frag, K.In h ∧ He.SaysD fa fn K ∧ exOk ex K = true
  of := fun _ _ e => ⟨_, He.frG_in, congrArg Prod.snd e, congrArg Prod.fst e⟩
  keeps := fun _ _ _ ⟨K, hK, c⟩ k => ⟨K, PySem.W.Frag.In.keeps hK k, c⟩
theorem obsYG_eq {n : Nat} {fa : List He.Fa} {fn : List He.DefD} {ex : List (PySem.W.Frag → Bool)} {g : Addr → Option Obj} {s : Shared} (h : ∀ a, g a = s.heap.get? a) : obsYG n fa fn ex g = (hookY n fa fn ex).obs s := by
  have e : g = s.heap.get? := funext h
  rw [e]; rfl
/-- a class without an __init__ of its own -/
structure MkB (K : PySem.W.Frag) (C : Addr) : Prop where
  makes : PySem.W.makesIn K C = true
  init : PySem.W.findIn K (.ref C) "__init__" = some (some (.builtin "object.__init__"))
  kp : PySem.W.keepIn K (.ref C) = true
  top : PySem.W.mroIn K C (.type "object") = some true
def mkB (K : PySem.W.Frag) (C : Addr) : Bool := PySem.W.makesIn K C && (He.eqO (PySem.W.findIn K (.ref C) "__init__") (some (some (.builtin "object.__init__"))) && (PySem.W.keepIn K (.ref C) && decide (PySem.W.mroIn K C (.type "object") = some true)))
theorem mkB_ok {K : PySem.W.Frag} {C : Addr} (h : mkB K C = true) : MkB K C := by
  obtain ⟨h1, h⟩ := He.ba h
  obtain ⟨h2, h⟩ := He.ba h
  obtain ⟨h3, h4⟩ := He.ba h
  exact ⟨h1, He.eqO_ok h2, h3, of_decide_eq_true h4⟩
/-- what isinstance asks of an own class -/
structure IsC (K : PySem.W.Frag) (C : Addr) : Prop where
  cls : PySem.W.findIn K (.ref C) "__class__" = some (some (.builtin "object.__class__"))
  spe : PySem.W.specialIn K (.builtin "object.__class__") "__get__" = some (some (.builtin "getset_descriptor.__get__"))
  tak : PySem.W.takesIn K (.builtin "object.__class__") = some true
  mro : PySem.W.mroIn K C (.type "object") = some true
def isCB (K : PySem.W.Frag) (C : Addr) : Bool := He.eqO (PySem.W.findIn K (.ref C) "__class__") (some (some (.builtin "object.__class__"))) && (He.eqO (PySem.W.specialIn K (.builtin "object.__class__") "__get__") (some (some (.builtin "getset_descriptor.__get__"))) &&
  (decide (PySem.W.takesIn K (.builtin "object.__class__") = some true) && decide (PySem.W.mroIn K C (.type "object") = some true)))
theorem isCB_ok {K : PySem.W.Frag} {C : Addr} (h : isCB K C = true) : IsC K C := by
  obtain ⟨h1, h⟩ := He.ba h
  obtain ⟨h2, h⟩ := He.ba h
  obtain ⟨h3, h4⟩ := He.ba h
  exact ⟨He.eqO_ok h1, He.eqO_ok h2, of_decide_eq_true h3, of_decide_eq_true h4⟩
/-- C(), no __init__: a new instance without attributes -/
def tMkO (C : Addr) : TE := fun _ H Q => ∀ x dx, H x = none → H dx = none → dx ≠ x → Q (.ref x) (upd (upd H dx (.own x)) x (.ins C dx []))
theorem pe_mkO {X : Cx} {x : Str} {C : Addr} {p pos : Pos} (M : MkB X.K C) (hg : Gl X x) (hm : X.mg x = some (.ref C)) (hdb : (x == ("__debug__" : Str)) = false := by decide) : PE X (.Call (.Name x p) [] [] pos) (tMkO C) := by
  refine ⟨fun pins s σ H Q I h => ?_⟩
  refine wpAny_Call_Name_kw (ld_glob I hg hm ?_ hdb)
  refine PySem.W.callWith_K0 I.kIn M.kp ?_
  have hq := h (s.heap.objs.size + 1) s.heap.objs.size (I.hok.fresh (Nat.le_succ _)) (I.hok.fresh (Nat.le_refl _)) (Nat.ne_of_lt (Nat.lt_succ_self _))
  have I2 := Inv.made (C := C) I
  refine wpAny_call (make_map0 I.kIn M.makes M.init (fun self => PySem.W.Looks.of_pure (PySem.W.oi_bind self)) ?_)
  have hL : PySem.W.Looks (model X.prog X.w) ((s.heap.push PySem.W.emptyDict).push (PySem.W.instObj C s.heap.objs.size)) (isInstance (.ref (s.heap.objs.size + 1)) (.type "object")) true := by
    have e2 : ((s.heap.push PySem.W.emptyDict).push (PySem.W.instObj C s.heap.objs.size)).get? (s.heap.objs.size + 1) = some (PySem.W.instObj C s.heap.objs.size) := by
      have := Heap.get?_push_size (s.heap.push PySem.W.emptyDict) (o := PySem.W.instObj C s.heap.objs.size) rfl
      rwa [Heap.size_push] at this
    have t1 : PySem.W.Looks (model X.prog X.w) ((s.heap.push PySem.W.emptyDict).push (PySem.W.instObj C s.heap.objs.size)) (typeOf (.ref (s.heap.objs.size + 1))) (.ref C) := (PySem.W.Looks.ld e2).andThen .now
    exact t1.andThen (PySem.W.looks_mroIn I2.kIn M.top)
  refine codeAny_call_builtin PySem.W.oi_plain PySem.W.entry_oi (@PySem.W.check_slot (model X.prog X.w) _ _ _ "object.__init__" "object" "__init__" _ [] [] _ PySem.W.oi_kind PySem.W.oi_split hL (PySem.W.oi_args _) ?_)
  rw [PySem.W.oi_run]
  exact wpAny_pure (And.intro rfl ⟨V.ref (s.heap.objs.size + 1), _, I2, rfl, hq⟩)
end Song

/-! ### Pl1: plain lists: greatest ones, songs in turn (no program in sight) -/
namespace Song
def maxL : List Int → Int
  | [] => 0
  | n :: r => r.foldl max n
theorem foldl_max_le : ∀ (r : List Int) (n m : Int), n ≤ m → (∀ y ∈ r, y ≤ m) → r.foldl max n ≤ m
  | [], _, _, h, _ => h
  | y :: r, n, m, h, hr => foldl_max_le r (max n y) m (by have := hr y (by simp); omega) fun z hz => hr z (by simp [hz])
theorem le_foldl_max : ∀ (r : List Int) (n : Int), n ≤ r.foldl max n ∧ ∀ y ∈ r, y ≤ r.foldl max n
  | [], n => ⟨Int.le_refl _, fun y h => by cases h⟩
  | y :: r, n => by
    obtain ⟨h1, h2⟩ := le_foldl_max r (max n y)
    have e : (y :: r).foldl max n = r.foldl max (max n y) := rfl
    rw [e]
    refine ⟨by omega, fun z hz => ?_⟩
    rcases List.mem_cons.mp hz with q | q
    · omega
    · exact h2 z q
theorem foldl_max_mem : ∀ (r : List Int) (n : Int), r.foldl max n ∈ n :: r
  | [], n => by simp
  | y :: r, n => by
    have h := foldl_max_mem r (max n y)
    have e : (y :: r).foldl max n = r.foldl max (max n y) := rfl
    rw [e]
    rcases List.mem_cons.mp h with q | q
    · rw [q]
      by_cases c : n ≤ y
      · rw [Int.max_eq_right c]; simp
      · rw [Int.max_eq_left (by omega)]; simp
    · simp [q]
theorem maxL_ge {ns : List Int} {y : Int} (h : y ∈ ns) : y ≤ maxL ns := by
  cases ns with
  | nil => cases h
  | cons n r =>
    obtain ⟨h1, h2⟩ := le_foldl_max r n
    rcases List.mem_cons.mp h with q | q
    · rw [q]; exact h1
    · exact h2 y q
theorem maxL_mem {ns : List Int} (h : ns ≠ []) : maxL ns ∈ ns := by
  cases ns with
  | nil => exact absurd rfl h
  | cons n r => exact foldl_max_mem r n
theorem maxL_eq {ns : List Int} {m : Int} (h : m ∈ ns) (hm : ∀ y ∈ ns, y ≤ m) : m = maxL ns := by
  have h1 := maxL_ge h
  have h2 := hm _ (maxL_mem (fun e => by rw [e] at h; cases h))
  omega
/-- the least round that a singer's next song can have -/
def floorOf (last : List Int) (going s : Int) : Int := max going (last.getD s.toNat 0 + 1)
def roundFor (last : List Int) (going : Int) (ss : List Int) : Int := maxL (ss.map (floorOf last going))
/-- the law's own way to say it -/
theorem roundFor_law {last : List Int} {going : Int} {ss : List Int} (h : ss ≠ []) : maxL (going :: ss.map fun s => last.getD s.toNat 0 + 1) = roundFor last going ss := by
  have h1 : ∀ s ∈ ss, floorOf last going s ≤ roundFor last going ss := fun s hs => maxL_ge (List.mem_map.mpr ⟨s, hs, rfl⟩)
  have h2 : going ≤ maxL (going :: ss.map fun s => last.getD s.toNat 0 + 1) := maxL_ge (by simp)
  have h3 : ∀ s ∈ ss, last.getD s.toNat 0 + 1 ≤ maxL (going :: ss.map fun s => last.getD s.toNat 0 + 1) := fun s hs => maxL_ge (List.mem_cons_of_mem _ (List.mem_map.mpr ⟨s, hs, rfl⟩))
  have h4 := maxL_mem (ns := going :: ss.map fun s => last.getD s.toNat 0 + 1) (by simp)
  have h5 : roundFor last going ss ∈ ss.map (floorOf last going) := maxL_mem (by simpa using h)
  obtain ⟨s, hs, e⟩ := List.mem_map.mp h5
  obtain ⟨s0, hs0⟩ : ∃ s0, s0 ∈ ss := by
    cases ss with
    | nil => exact absurd rfl h
    | cons a r => exact ⟨a, by simp⟩
  have f0 := h1 s0 hs0
  have f1 := h3 s hs
  unfold floorOf at e f0
  rcases List.mem_cons.mp h4 with q | q
  · omega
  · obtain ⟨s1, hs1, e1⟩ := List.mem_map.mp q
    have f2 := h1 s1 hs1
    unfold floorOf at f2
    omega
/-! #### pairs in order -/
def ltPr (a b : Int × Int) : Bool := decide (a.1 < b.1) || (decide (a.1 = b.1) && decide (a.2 < b.2))
theorem ltPr_iff {a b : Int × Int} : ltPr a b = true ↔ a.1 < b.1 ∨ (a.1 = b.1 ∧ a.2 < b.2) := by
  unfold ltPr
  simp
theorem ltPr_false {a b : Int × Int} : ltPr a b = false ↔ ¬ (a.1 < b.1 ∨ (a.1 = b.1 ∧ a.2 < b.2)) := by
  rw [← ltPr_iff]; simp
theorem ltPr_anti {a b : Int × Int} (h1 : ltPr a b = false) (h2 : ltPr b a = false) : a = b := by
  rw [ltPr_false] at h1 h2
  obtain ⟨a1, a2⟩ := a
  obtain ⟨b1, b2⟩ := b
  simp only at h1 h2
  have e1 : a1 = b1 := by omega
  have e2 : a2 = b2 := by omega
  rw [e1, e2]
def SortedP (l : List (Int × Int)) : Prop := l.Pairwise fun x y => ltPr y x = false
theorem sortedP_unique : ∀ {l m : List (Int × Int)}, l.Perm m → SortedP l → SortedP m → l = m
  | [], m, p, _, _ => (List.nil_perm.mp p).symm ▸ rfl
  | x :: l, [], p, _, _ => absurd p.length_eq (by simp)
  | x :: l, y :: m, p, h1, h2 => by
    obtain ⟨a1, a2⟩ := List.pairwise_cons.mp h1
    obtain ⟨b1, b2⟩ := List.pairwise_cons.mp h2
    have e : x = y := by
      have hx : x ∈ y :: m := p.subset (by simp)
      have hy : y ∈ x :: l := p.symm.subset (by simp)
      rcases List.mem_cons.mp hx with q | q
      · exact q
      rcases List.mem_cons.mp hy with q' | q'
      · exact q'.symm
      exact ltPr_anti (b1 x q) (a1 y q')
    subst e
    rw [sortedP_unique (List.perm_cons x |>.mp p) a2 b2]
def insP (x : Int × Int) : List (Int × Int) → List (Int × Int)
  | [] => [x]
  | y :: r => if ltPr y x then y :: insP x r else x :: y :: r
def sortP : List (Int × Int) → List (Int × Int)
  | [] => []
  | x :: r => insP x (sortP r)
theorem insP_perm (x : Int × Int) : ∀ l, (insP x l).Perm (x :: l)
  | [] => List.Perm.refl _
  | y :: r => by
    unfold insP
    split
    · exact ((insP_perm x r).cons y).trans (List.Perm.swap x y r)
    · exact List.Perm.refl _
theorem sortP_perm : ∀ l, (sortP l).Perm l
  | [] => List.Perm.refl _
  | x :: r => (insP_perm x (sortP r)).trans ((sortP_perm r).cons x)
theorem insP_sorted (x : Int × Int) : ∀ l, SortedP l → SortedP (insP x l)
  | [], _ => by
    unfold insP SortedP
    exact List.pairwise_singleton _ _
  | y :: r, h => by
    obtain ⟨a1, a2⟩ := List.pairwise_cons.mp h
    unfold insP
    split
    · rename_i c
      refine List.pairwise_cons.mpr ⟨fun z hz => ?_, insP_sorted x r a2⟩
      rcases List.mem_cons.mp ((insP_perm x r).subset hz) with q | q
      · rw [q, ltPr_false]
        rw [ltPr_iff] at c
        omega
      · exact a1 z q
    · rename_i c
      have c : ltPr y x = false := by simpa using c
      refine List.pairwise_cons.mpr ⟨fun z hz => ?_, h⟩
      rcases List.mem_cons.mp hz with q | q
      · rw [q]; exact c
      · have := a1 z q
        rw [ltPr_false] at this c ⊢
        omega
theorem sortP_sorted : ∀ l, SortedP (sortP l)
  | [] => List.Pairwise.nil
  | x :: r => insP_sorted x _ (sortP_sorted r)
theorem sortP_eq {l m : List (Int × Int)} (p : l.Perm m) (h : SortedP l) : l = sortP m := sortedP_unique (p.trans (sortP_perm m).symm) h (sortP_sorted m)
/-- the songs that wait, in turn -/
def inTurn (rounds waits : List Int) : List Int := (sortP (waits.map fun s => (rounds.getD s.toNat 0, s))).map (·.2)
theorem inTurn_perm (rounds waits : List Int) : (inTurn rounds waits).Perm waits := by
  unfold inTurn
  have h := (sortP_perm (waits.map fun s => (rounds.getD s.toNat 0, s))).map (·.2)
  rw [List.map_map] at h
  have e : waits.map ((fun x : Int × Int => x.2) ∘ fun s => (rounds.getD s.toNat 0, s)) = waits := by
    rw [show ((fun x : Int × Int => x.2) ∘ fun s => (rounds.getD s.toNat 0, s)) = id from rfl, List.map_id]
  rw [e] at h
  exact h
end Song

namespace Song
open PySem L2
def top (i : Nat) : Stmt := PySem.Challenge.pw_songturns_k03_whole_tales.main.body.getD i (.Pass ⟨0, 0, 0, 0⟩)
def inC (st : Stmt) (i : Nat) : Stmt := match st with
  | .ClassDef _ _ _ b _ _ _ _ _ _ _ => b.getD i (.Pass ⟨0, 0, 0, 0⟩)
  | _ => .Pass ⟨0, 0, 0, 0⟩
abbrev s_counts_of : Stmt := top 2
def d_counts_of : He.DefD := ⟨("counts_of", none), "counts_of", "counts_of", defArgs s_counts_of, defBody s_counts_of, defScope s_counts_of, [], []⟩
abbrev s_bars : Stmt := top 3
def d_bars : He.DefD := ⟨("bars", none), "bars", "bars", defArgs s_bars, defBody s_bars, defScope s_bars, [], []⟩
abbrev s_least_between : Stmt := top 4
def d_least_between : He.DefD := ⟨("least_between", none), "least_between", "least_between", defArgs s_least_between, defBody s_least_between, defScope s_least_between, [], []⟩
abbrev s_keeps : Stmt := top 5
def d_keeps : He.DefD := ⟨("keeps", none), "keeps", "keeps", defArgs s_keeps, defBody s_keeps, defScope s_keeps, [], []⟩
abbrev s_is_whole : Stmt := top 17
def d_is_whole : He.DefD := ⟨("is_whole", none), "is_whole", "is_whole", defArgs s_is_whole, defBody s_is_whole, defScope s_is_whole, [], []⟩
abbrev s_are_numbers : Stmt := top 18
def d_are_numbers : He.DefD := ⟨("are_numbers", none), "are_numbers", "are_numbers", defArgs s_are_numbers, defBody s_are_numbers, defScope s_are_numbers, [], []⟩
abbrev s_check_many : Stmt := top 19
def d_check_many : He.DefD := ⟨("check_many", none), "check_many", "check_many", defArgs s_check_many, defBody s_check_many, defScope s_check_many, [], []⟩
abbrev s_are_singers : Stmt := top 20
def d_are_singers : He.DefD := ⟨("are_singers", none), "are_singers", "are_singers", defArgs s_are_singers, defBody s_are_singers, defScope s_are_singers, [], []⟩
abbrev s_floor_of : Stmt := top 22
def d_floor_of : He.DefD := ⟨("floor_of", none), "floor_of", "floor_of", defArgs s_floor_of, defBody s_floor_of, defScope s_floor_of, [], []⟩
abbrev s_round_for : Stmt := top 23
def d_round_for : He.DefD := ⟨("round_for", none), "round_for", "round_for", defArgs s_round_for, defBody s_round_for, defScope s_round_for, [], []⟩
abbrev s_in_turn : Stmt := top 24
def d_in_turn : He.DefD := ⟨("in_turn", none), "in_turn", "in_turn", defArgs s_in_turn, defBody s_in_turn, defScope s_in_turn, [], []⟩
abbrev s_Evening___init__ : Stmt := inC (top 26) 0
def d_Evening___init__ : He.DefD := ⟨("Evening", some "__init__"), "__init__", "Evening.__init__", defArgs s_Evening___init__, defBody s_Evening___init__, defScope s_Evening___init__, [], []⟩
abbrev s_Evening_wish : Stmt := inC (top 26) 1
def d_Evening_wish : He.DefD := ⟨("Evening", some "wish"), "wish", "Evening.wish", defArgs s_Evening_wish, defBody s_Evening_wish, defScope s_Evening_wish, [], []⟩
abbrev s_Evening_sing : Stmt := inC (top 26) 2
def d_Evening_sing : He.DefD := ⟨("Evening", some "sing"), "sing", "Evening.sing", defArgs s_Evening_sing, defBody s_Evening_sing, defScope s_Evening_sing, [], []⟩
abbrev s_Evening_look_at : Stmt := inC (top 26) 3
def d_Evening_look_at : He.DefD := ⟨("Evening", some "look_at"), "look_at", "Evening.look_at", defArgs s_Evening_look_at, defBody s_Evening_look_at, defScope s_Evening_look_at, [], []⟩
abbrev s_Evening_withdraw : Stmt := inC (top 26) 4
def d_Evening_withdraw : He.DefD := ⟨("Evening", some "withdraw"), "withdraw", "Evening.withdraw", defArgs s_Evening_withdraw, defBody s_Evening_withdraw, defScope s_Evening_withdraw, [], []⟩
abbrev s_Evening_waits : Stmt := inC (top 26) 6
def d_Evening_waits : He.DefD := ⟨("Evening", some "waits"), "waits", "Evening.waits", defArgs s_Evening_waits, defBody s_Evening_waits, defScope s_Evening_waits, [], []⟩
abbrev s_Evening_tale : Stmt := inC (top 26) 10
def d_Evening_tale : He.DefD := ⟨("Evening", some "tale"), "tale", "Evening.tale", defArgs s_Evening_tale, defBody s_Evening_tale, defScope s_Evening_tale, [], []⟩
abbrev s_is_part : Stmt := top 28
def d_is_part : He.DefD := ⟨("is_part", none), "is_part", "is_part", defArgs s_is_part, defBody s_is_part, defScope s_is_part, [], []⟩
abbrev s_first_wrong : Stmt := top 29
def d_first_wrong : He.DefD := ⟨("first_wrong", none), "first_wrong", "first_wrong", defArgs s_first_wrong, defBody s_first_wrong, defScope s_first_wrong, [], []⟩
abbrev s_Right_shows : Stmt := inC (top 32) 0
def d_Right_shows : He.DefD := ⟨("Right", some "shows"), "shows", "Right.shows", defArgs s_Right_shows, defBody s_Right_shows, defScope s_Right_shows, [], []⟩
abbrev s_Wrong___init__ : Stmt := inC (top 33) 0
def d_Wrong___init__ : He.DefD := ⟨("Wrong", some "__init__"), "__init__", "Wrong.__init__", defArgs s_Wrong___init__, defBody s_Wrong___init__, defScope s_Wrong___init__, [], []⟩
abbrev s_Wrong_shows : Stmt := inC (top 33) 1
def d_Wrong_shows : He.DefD := ⟨("Wrong", some "shows"), "shows", "Wrong.shows", defArgs s_Wrong_shows, defBody s_Wrong_shows, defScope s_Wrong_shows, [], []⟩
abbrev s_Spaced___init__ : Stmt := inC (top 34) 0
def d_Spaced___init__ : He.DefD := ⟨("Spaced", some "__init__"), "__init__", "Spaced.__init__", defArgs s_Spaced___init__, defBody s_Spaced___init__, defScope s_Spaced___init__, [], []⟩
abbrev s_Spaced_shows : Stmt := inC (top 34) 1
def d_Spaced_shows : He.DefD := ⟨("Spaced", some "shows"), "shows", "Spaced.shows", defArgs s_Spaced_shows, defBody s_Spaced_shows, defScope s_Spaced_shows, [], []⟩
abbrev s_Barred___init__ : Stmt := inC (top 35) 0
def d_Barred___init__ : He.DefD := ⟨("Barred", some "__init__"), "__init__", "Barred.__init__", defArgs s_Barred___init__, defBody s_Barred___init__, defScope s_Barred___init__, [], []⟩
abbrev s_Barred_shows : Stmt := inC (top 35) 1
def d_Barred_shows : He.DefD := ⟨("Barred", some "shows"), "shows", "Barred.shows", defArgs s_Barred_shows, defBody s_Barred_shows, defScope s_Barred_shows, [], []⟩
abbrev s_judged : Stmt := top 38
def d_judged : He.DefD := ⟨("judged", none), "judged", "judged", defArgs s_judged, defBody s_judged, defScope s_judged, [], []⟩
abbrev s__law_cell_at : Stmt := top 40
def d__law_cell_at : He.DefD := ⟨("_law_cell_at", none), "_law_cell_at", "_law_cell_at", defArgs s__law_cell_at, defBody s__law_cell_at, defScope s__law_cell_at, [], []⟩
abbrev s__law_draw : Stmt := top 41
def d__law_draw : He.DefD := ⟨("_law_draw", none), "_law_draw", "_law_draw", defArgs s__law_draw, defBody s__law_draw, defScope s__law_draw, [], []⟩
abbrev s__law_value : Stmt := top 42
def d__law_value : He.DefD := ⟨("_law_value", none), "_law_value", "_law_value", defArgs s__law_value, defBody s__law_value, defScope s__law_value, [], []⟩
abbrev s__law_whole : Stmt := top 43
def d__law_whole : He.DefD := ⟨("_law_whole", none), "_law_whole", "_law_whole", defArgs s__law_whole, defBody s__law_whole, defScope s__law_whole, [], []⟩
abbrev s__law_says : Stmt := top 44
def d__law_says : He.DefD := ⟨("_law_says", none), "_law_says", "_law_says", defArgs s__law_says, defBody s__law_says, defScope s__law_says, [], []⟩
abbrev s__law_many : Stmt := top 45
def d__law_many : He.DefD := ⟨("_law_many", none), "_law_many", "_law_many", defArgs s__law_many, defBody s__law_many, defScope s__law_many, [], []⟩
abbrev s__law_deeds : Stmt := top 46
def d__law_deeds : He.DefD := ⟨("_law_deeds", none), "_law_deeds", "_law_deeds", defArgs s__law_deeds, defBody s__law_deeds, defScope s__law_deeds, [], []⟩
abbrev s__law_open : Stmt := top 47
def d__law_open : He.DefD := ⟨("_law_open", none), "_law_open", "_law_open", defArgs s__law_open, defBody s__law_open, defScope s__law_open, [], []⟩
abbrev s__law_queue : Stmt := top 48
def d__law_queue : He.DefD := ⟨("_law_queue", none), "_law_queue", "_law_queue", defArgs s__law_queue, defBody s__law_queue, defScope s__law_queue, [], []⟩
abbrev s__law_wished : Stmt := top 49
def d__law_wished : He.DefD := ⟨("_law_wished", none), "_law_wished", "_law_wished", defArgs s__law_wished, defBody s__law_wished, defScope s__law_wished, [], []⟩
abbrev s__law_sung : Stmt := top 50
def d__law_sung : He.DefD := ⟨("_law_sung", none), "_law_sung", "_law_sung", defArgs s__law_sung, defBody s__law_sung, defScope s__law_sung, [], []⟩
abbrev s__law_out : Stmt := top 51
def d__law_out : He.DefD := ⟨("_law_out", none), "_law_out", "_law_out", defArgs s__law_out, defBody s__law_out, defScope s__law_out, [], []⟩
abbrev s__law_can : Stmt := top 52
def d__law_can : He.DefD := ⟨("_law_can", none), "_law_can", "_law_can", defArgs s__law_can, defBody s__law_can, defScope s__law_can, [], []⟩
abbrev s__law_first : Stmt := top 53
def d__law_first : He.DefD := ⟨("_law_first", none), "_law_first", "_law_first", defArgs s__law_first, defBody s__law_first, defScope s__law_first, [], []⟩
abbrev s__law_copied : Stmt := top 54
def d__law_copied : He.DefD := ⟨("_law_copied", none), "_law_copied", "_law_copied", defArgs s__law_copied, defBody s__law_copied, defScope s__law_copied, [], []⟩
abbrev s__law_due : Stmt := top 55
def d__law_due : He.DefD := ⟨("_law_due", none), "_law_due", "_law_due", defArgs s__law_due, defBody s__law_due, defScope s__law_due, [], []⟩
abbrev s__law_right : Stmt := top 56
def d__law_right : He.DefD := ⟨("_law_right", none), "_law_right", "_law_right", defArgs s__law_right, defBody s__law_right, defScope s__law_right, [], []⟩
abbrev s__law_bent : Stmt := top 57
def d__law_bent : He.DefD := ⟨("_law_bent", none), "_law_bent", "_law_bent", defArgs s__law_bent, defBody s__law_bent, defScope s__law_bent, [], []⟩
abbrev s__law_told : Stmt := top 58
def d__law_told : He.DefD := ⟨("_law_told", none), "_law_told", "_law_told", defArgs s__law_told, defBody s__law_told, defScope s__law_told, [], []⟩
abbrev s_law : Stmt := top 59
def d_law : He.DefD := ⟨("law", none), "law", "law", defArgs s_law, defBody s_law, defScope s_law, [], []⟩
structure Tx (K : PySem.W.Frag) (mg : Str → Option Value) : Prop where
  g_counts_of : mg "counts_of" = some (.ref (He.ga K "counts_of"))
  g_bars : mg "bars" = some (.ref (He.ga K "bars"))
  g_least_between : mg "least_between" = some (.ref (He.ga K "least_between"))
  g_keeps : mg "keeps" = some (.ref (He.ga K "keeps"))
  g_TurnError : mg "TurnError" = some (.ref (He.ga K "TurnError"))
  g_BadMany : mg "BadMany" = some (.ref (He.ga K "BadMany"))
  g_BadSingers : mg "BadSingers" = some (.ref (He.ga K "BadSingers"))
  g_BadSong : mg "BadSong" = some (.ref (He.ga K "BadSong"))
  g_BadTale : mg "BadTale" = some (.ref (He.ga K "BadTale"))
  g_TooMany : mg "TooMany" = some (.ref (He.ga K "TooMany"))
  c_MOST_SINGERS : ∃ t, mg "MOST_SINGERS" = some (.int 6 t)
  c_MOST_OF_SONG : ∃ t, mg "MOST_OF_SONG" = some (.int 3 t)
  c_MOST_SONGS : ∃ t, mg "MOST_SONGS" = some (.int 24 t)
  g_is_whole : mg "is_whole" = some (.ref (He.ga K "is_whole"))
  g_are_numbers : mg "are_numbers" = some (.ref (He.ga K "are_numbers"))
  g_check_many : mg "check_many" = some (.ref (He.ga K "check_many"))
  g_are_singers : mg "are_singers" = some (.ref (He.ga K "are_singers"))
  g_floor_of : mg "floor_of" = some (.ref (He.ga K "floor_of"))
  g_round_for : mg "round_for" = some (.ref (He.ga K "round_for"))
  g_in_turn : mg "in_turn" = some (.ref (He.ga K "in_turn"))
  g_Evening : mg "Evening" = some (.ref (He.ga K "Evening"))
  cls_Evening : Cls K (He.ga K "Evening")
  mk_Evening : Mk K (He.ga K "Evening") (He.ma K (He.ga K "Evening") "__init__")
  me_Evening_wish : Meth K (He.ga K "Evening") "wish" (He.ma K (He.ga K "Evening") "wish")
  me_Evening_sing : Meth K (He.ga K "Evening") "sing" (He.ma K (He.ga K "Evening") "sing")
  me_Evening_look_at : Meth K (He.ga K "Evening") "look_at" (He.ma K (He.ga K "Evening") "look_at")
  me_Evening_withdraw : Meth K (He.ga K "Evening") "withdraw" (He.ma K (He.ga K "Evening") "withdraw")
  me_Evening_waits : Meth K (He.ga K "Evening") "waits" (He.ma K (He.ga K "Evening") "waits")
  me_Evening_tale : Meth K (He.ga K "Evening") "tale" (He.ma K (He.ga K "Evening") "tale")
  na_Evening_came : NoAttr K (He.ga K "Evening") "came"
  na_Evening_going : NoAttr K (He.ga K "Evening") "going"
  na_Evening_last : NoAttr K (He.ga K "Evening") "last"
  na_Evening_rounds : NoAttr K (He.ga K "Evening") "rounds"
  na_Evening_waiting : NoAttr K (He.ga K "Evening") "waiting"
  g_is_part : mg "is_part" = some (.ref (He.ga K "is_part"))
  g_first_wrong : mg "first_wrong" = some (.ref (He.ga K "first_wrong"))
  g_Answer : mg "Answer" = some (.ref (He.ga K "Answer"))
  cls_Answer : Cls K (He.ga K "Answer")
  g_Right : mg "Right" = some (.ref (He.ga K "Right"))
  cls_Right : Cls K (He.ga K "Right")
  me_Right_shows : Meth K (He.ga K "Right") "shows" (He.ma K (He.ga K "Right") "shows")
  g_Wrong : mg "Wrong" = some (.ref (He.ga K "Wrong"))
  cls_Wrong : Cls K (He.ga K "Wrong")
  mk_Wrong : Mk K (He.ga K "Wrong") (He.ma K (He.ga K "Wrong") "__init__")
  me_Wrong_shows : Meth K (He.ga K "Wrong") "shows" (He.ma K (He.ga K "Wrong") "shows")
  na_Wrong_place : NoAttr K (He.ga K "Wrong") "place"
  g_Spaced : mg "Spaced" = some (.ref (He.ga K "Spaced"))
  cls_Spaced : Cls K (He.ga K "Spaced")
  mk_Spaced : Mk K (He.ga K "Spaced") (He.ma K (He.ga K "Spaced") "__init__")
  me_Spaced_shows : Meth K (He.ga K "Spaced") "shows" (He.ma K (He.ga K "Spaced") "shows")
  na_Spaced_order : NoAttr K (He.ga K "Spaced") "order"
  g_Barred : mg "Barred" = some (.ref (He.ga K "Barred"))
  cls_Barred : Cls K (He.ga K "Barred")
  mk_Barred : Mk K (He.ga K "Barred") (He.ma K (He.ga K "Barred") "__init__")
  me_Barred_shows : Meth K (He.ga K "Barred") "shows" (He.ma K (He.ga K "Barred") "shows")
  na_Barred_singers : NoAttr K (He.ga K "Barred") "singers"
  c_MOST_PARTS : ∃ t, mg "MOST_PARTS" = some (.int 30 t)
  g_judged : mg "judged" = some (.ref (He.ga K "judged"))
  g__law_cell_at : mg "_law_cell_at" = some (.ref (He.ga K "_law_cell_at"))
  g__law_draw : mg "_law_draw" = some (.ref (He.ga K "_law_draw"))
  g__law_value : mg "_law_value" = some (.ref (He.ga K "_law_value"))
  g__law_whole : mg "_law_whole" = some (.ref (He.ga K "_law_whole"))
  g__law_says : mg "_law_says" = some (.ref (He.ga K "_law_says"))
  g__law_many : mg "_law_many" = some (.ref (He.ga K "_law_many"))
  g__law_deeds : mg "_law_deeds" = some (.ref (He.ga K "_law_deeds"))
  g__law_open : mg "_law_open" = some (.ref (He.ga K "_law_open"))
  g__law_queue : mg "_law_queue" = some (.ref (He.ga K "_law_queue"))
  g__law_wished : mg "_law_wished" = some (.ref (He.ga K "_law_wished"))
  g__law_sung : mg "_law_sung" = some (.ref (He.ga K "_law_sung"))
  g__law_out : mg "_law_out" = some (.ref (He.ga K "_law_out"))
  g__law_can : mg "_law_can" = some (.ref (He.ga K "_law_can"))
  g__law_first : mg "_law_first" = some (.ref (He.ga K "_law_first"))
  g__law_copied : mg "_law_copied" = some (.ref (He.ga K "_law_copied"))
  g__law_due : mg "_law_due" = some (.ref (He.ga K "_law_due"))
  g__law_right : mg "_law_right" = some (.ref (He.ga K "_law_right"))
  g__law_bent : mg "_law_bent" = some (.ref (He.ga K "_law_bent"))
  g__law_told : mg "_law_told" = some (.ref (He.ga K "_law_told"))
  g_law : mg "law" = some (.ref (He.ga K "law"))
  len : mg "len" = none
  isinstance : mg "isinstance" = none
  all : mg "all" = none
  any : mg "any" = none
  range : mg "range" = none
  sorted : mg "sorted" = none
  set : mg "set" = none
  max : mg "max" = none
  min : mg "min" = none
  list : mg "list" = none
  enumerate : mg "enumerate" = none
  zip : mg "zip" = none
  int : mg "int" = none
  bool : mg "bool" = none
  tuple : mg "tuple" = none
  str : mg "str" = none
  dict : mg "dict" = none
  abs : mg "abs" = none
  d_counts_of : ∃ fd, FnP K "counts_of" "counts_of" s_counts_of (He.ga K "counts_of") fd
  d_bars : ∃ fd, FnP K "bars" "bars" s_bars (He.ga K "bars") fd
  d_least_between : ∃ fd, FnP K "least_between" "least_between" s_least_between (He.ga K "least_between") fd
  d_keeps : ∃ fd, FnP K "keeps" "keeps" s_keeps (He.ga K "keeps") fd
  d_is_whole : ∃ fd, FnP K "is_whole" "is_whole" s_is_whole (He.ga K "is_whole") fd
  d_are_numbers : ∃ fd, FnP K "are_numbers" "are_numbers" s_are_numbers (He.ga K "are_numbers") fd
  d_check_many : ∃ fd, FnP K "check_many" "check_many" s_check_many (He.ga K "check_many") fd
  d_are_singers : ∃ fd, FnP K "are_singers" "are_singers" s_are_singers (He.ga K "are_singers") fd
  d_floor_of : ∃ fd, FnP K "floor_of" "floor_of" s_floor_of (He.ga K "floor_of") fd
  d_round_for : ∃ fd, FnP K "round_for" "round_for" s_round_for (He.ga K "round_for") fd
  d_in_turn : ∃ fd, FnP K "in_turn" "in_turn" s_in_turn (He.ga K "in_turn") fd
  d_Evening___init__ : ∃ fd, FnP K "__init__" "Evening.__init__" s_Evening___init__ (He.ma K (He.ga K "Evening") "__init__") fd
  d_Evening_wish : ∃ fd, FnP K "wish" "Evening.wish" s_Evening_wish (He.ma K (He.ga K "Evening") "wish") fd
  d_Evening_sing : ∃ fd, FnP K "sing" "Evening.sing" s_Evening_sing (He.ma K (He.ga K "Evening") "sing") fd
  d_Evening_look_at : ∃ fd, FnP K "look_at" "Evening.look_at" s_Evening_look_at (He.ma K (He.ga K "Evening") "look_at") fd
  d_Evening_withdraw : ∃ fd, FnP K "withdraw" "Evening.withdraw" s_Evening_withdraw (He.ma K (He.ga K "Evening") "withdraw") fd
  d_Evening_waits : ∃ fd, FnP K "waits" "Evening.waits" s_Evening_waits (He.ma K (He.ga K "Evening") "waits") fd
  d_Evening_tale : ∃ fd, FnP K "tale" "Evening.tale" s_Evening_tale (He.ma K (He.ga K "Evening") "tale") fd
  d_is_part : ∃ fd, FnP K "is_part" "is_part" s_is_part (He.ga K "is_part") fd
  d_first_wrong : ∃ fd, FnP K "first_wrong" "first_wrong" s_first_wrong (He.ga K "first_wrong") fd
  d_Right_shows : ∃ fd, FnP K "shows" "Right.shows" s_Right_shows (He.ma K (He.ga K "Right") "shows") fd
  d_Wrong___init__ : ∃ fd, FnP K "__init__" "Wrong.__init__" s_Wrong___init__ (He.ma K (He.ga K "Wrong") "__init__") fd
  d_Wrong_shows : ∃ fd, FnP K "shows" "Wrong.shows" s_Wrong_shows (He.ma K (He.ga K "Wrong") "shows") fd
  d_Spaced___init__ : ∃ fd, FnP K "__init__" "Spaced.__init__" s_Spaced___init__ (He.ma K (He.ga K "Spaced") "__init__") fd
  d_Spaced_shows : ∃ fd, FnP K "shows" "Spaced.shows" s_Spaced_shows (He.ma K (He.ga K "Spaced") "shows") fd
  d_Barred___init__ : ∃ fd, FnP K "__init__" "Barred.__init__" s_Barred___init__ (He.ma K (He.ga K "Barred") "__init__") fd
  d_Barred_shows : ∃ fd, FnP K "shows" "Barred.shows" s_Barred_shows (He.ma K (He.ga K "Barred") "shows") fd
  d_judged : ∃ fd, FnP K "judged" "judged" s_judged (He.ga K "judged") fd
  d__law_cell_at : ∃ fd, FnP K "_law_cell_at" "_law_cell_at" s__law_cell_at (He.ga K "_law_cell_at") fd
  d__law_draw : ∃ fd, FnP K "_law_draw" "_law_draw" s__law_draw (He.ga K "_law_draw") fd
  d__law_value : ∃ fd, FnP K "_law_value" "_law_value" s__law_value (He.ga K "_law_value") fd
  d__law_whole : ∃ fd, FnP K "_law_whole" "_law_whole" s__law_whole (He.ga K "_law_whole") fd
  d__law_says : ∃ fd, FnP K "_law_says" "_law_says" s__law_says (He.ga K "_law_says") fd
  d__law_many : ∃ fd, FnP K "_law_many" "_law_many" s__law_many (He.ga K "_law_many") fd
  d__law_deeds : ∃ fd, FnP K "_law_deeds" "_law_deeds" s__law_deeds (He.ga K "_law_deeds") fd
  d__law_open : ∃ fd, FnP K "_law_open" "_law_open" s__law_open (He.ga K "_law_open") fd
  d__law_queue : ∃ fd, FnP K "_law_queue" "_law_queue" s__law_queue (He.ga K "_law_queue") fd
  d__law_wished : ∃ fd, FnP K "_law_wished" "_law_wished" s__law_wished (He.ga K "_law_wished") fd
  d__law_sung : ∃ fd, FnP K "_law_sung" "_law_sung" s__law_sung (He.ga K "_law_sung") fd
  d__law_out : ∃ fd, FnP K "_law_out" "_law_out" s__law_out (He.ga K "_law_out") fd
  d__law_can : ∃ fd, FnP K "_law_can" "_law_can" s__law_can (He.ga K "_law_can") fd
  d__law_first : ∃ fd, FnP K "_law_first" "_law_first" s__law_first (He.ga K "_law_first") fd
  d__law_copied : ∃ fd, FnP K "_law_copied" "_law_copied" s__law_copied (He.ga K "_law_copied") fd
  d__law_due : ∃ fd, FnP K "_law_due" "_law_due" s__law_due (He.ga K "_law_due") fd
  d__law_right : ∃ fd, FnP K "_law_right" "_law_right" s__law_right (He.ga K "_law_right") fd
  d__law_bent : ∃ fd, FnP K "_law_bent" "_law_bent" s__law_bent (He.ga K "_law_bent") fd
  d__law_told : ∃ fd, FnP K "_law_told" "_law_told" s__law_told (He.ga K "_law_told") fd
  d_law : ∃ fd, FnP K "law" "law" s_law (He.ga K "law") fd
  mkb_Answer : MkB K (He.ga K "Answer")
  mkb_Right : MkB K (He.ga K "Right")
  ic_Evening : IsC K (He.ga K "Evening")
  ki_Evening_Answer : PySem.W.kitOne K (.ref (He.ga K "Evening")) (.ref (He.ga K "Answer")) = some false
  ki_Evening_Barred : PySem.W.kitOne K (.ref (He.ga K "Evening")) (.ref (He.ga K "Barred")) = some false
  ki_Evening_Right : PySem.W.kitOne K (.ref (He.ga K "Evening")) (.ref (He.ga K "Right")) = some false
  ki_Evening_Spaced : PySem.W.kitOne K (.ref (He.ga K "Evening")) (.ref (He.ga K "Spaced")) = some false
  ki_Evening_Wrong : PySem.W.kitOne K (.ref (He.ga K "Evening")) (.ref (He.ga K "Wrong")) = some false
  ic_Answer : IsC K (He.ga K "Answer")
  ki_Answer_Answer : PySem.W.kitOne K (.ref (He.ga K "Answer")) (.ref (He.ga K "Answer")) = some true
  ki_Answer_Barred : PySem.W.kitOne K (.ref (He.ga K "Answer")) (.ref (He.ga K "Barred")) = some false
  ki_Answer_Right : PySem.W.kitOne K (.ref (He.ga K "Answer")) (.ref (He.ga K "Right")) = some false
  ki_Answer_Spaced : PySem.W.kitOne K (.ref (He.ga K "Answer")) (.ref (He.ga K "Spaced")) = some false
  ki_Answer_Wrong : PySem.W.kitOne K (.ref (He.ga K "Answer")) (.ref (He.ga K "Wrong")) = some false
  ic_Right : IsC K (He.ga K "Right")
  ki_Right_Answer : PySem.W.kitOne K (.ref (He.ga K "Right")) (.ref (He.ga K "Answer")) = some true
  ki_Right_Barred : PySem.W.kitOne K (.ref (He.ga K "Right")) (.ref (He.ga K "Barred")) = some false
  ki_Right_Right : PySem.W.kitOne K (.ref (He.ga K "Right")) (.ref (He.ga K "Right")) = some true
  ki_Right_Spaced : PySem.W.kitOne K (.ref (He.ga K "Right")) (.ref (He.ga K "Spaced")) = some false
  ki_Right_Wrong : PySem.W.kitOne K (.ref (He.ga K "Right")) (.ref (He.ga K "Wrong")) = some false
  ic_Wrong : IsC K (He.ga K "Wrong")
  ki_Wrong_Answer : PySem.W.kitOne K (.ref (He.ga K "Wrong")) (.ref (He.ga K "Answer")) = some true
  ki_Wrong_Barred : PySem.W.kitOne K (.ref (He.ga K "Wrong")) (.ref (He.ga K "Barred")) = some false
  ki_Wrong_Right : PySem.W.kitOne K (.ref (He.ga K "Wrong")) (.ref (He.ga K "Right")) = some false
  ki_Wrong_Spaced : PySem.W.kitOne K (.ref (He.ga K "Wrong")) (.ref (He.ga K "Spaced")) = some false
  ki_Wrong_Wrong : PySem.W.kitOne K (.ref (He.ga K "Wrong")) (.ref (He.ga K "Wrong")) = some true
  ic_Spaced : IsC K (He.ga K "Spaced")
  ki_Spaced_Answer : PySem.W.kitOne K (.ref (He.ga K "Spaced")) (.ref (He.ga K "Answer")) = some true
  ki_Spaced_Barred : PySem.W.kitOne K (.ref (He.ga K "Spaced")) (.ref (He.ga K "Barred")) = some false
  ki_Spaced_Right : PySem.W.kitOne K (.ref (He.ga K "Spaced")) (.ref (He.ga K "Right")) = some false
  ki_Spaced_Spaced : PySem.W.kitOne K (.ref (He.ga K "Spaced")) (.ref (He.ga K "Spaced")) = some true
  ki_Spaced_Wrong : PySem.W.kitOne K (.ref (He.ga K "Spaced")) (.ref (He.ga K "Wrong")) = some false
  ic_Barred : IsC K (He.ga K "Barred")
  ki_Barred_Answer : PySem.W.kitOne K (.ref (He.ga K "Barred")) (.ref (He.ga K "Answer")) = some true
  ki_Barred_Barred : PySem.W.kitOne K (.ref (He.ga K "Barred")) (.ref (He.ga K "Barred")) = some true
  ki_Barred_Right : PySem.W.kitOne K (.ref (He.ga K "Barred")) (.ref (He.ga K "Right")) = some false
  ki_Barred_Spaced : PySem.W.kitOne K (.ref (He.ga K "Barred")) (.ref (He.ga K "Spaced")) = some false
  ki_Barred_Wrong : PySem.W.kitOne K (.ref (He.ga K "Barred")) (.ref (He.ga K "Wrong")) = some false
end Song

/-! ### Ev1: small defs -/
namespace Song
open PySem L2
section
variable {P : Program} {w : World} {K : PySem.W.Frag} {mg : Str → Option Value} {base : Heap}
theorem sc_is_whole : FnScope ["thing"] ["thing"] (defScope s_is_whole) := ⟨rfl, rfl, rfl, by decide +kernel, rfl, by decide +kernel, by decide +kernel⟩
def sp_is_whole (K : PySem.W.Frag) : Sp := fun vs H Q _ => ∃ (v : V) (t : String), vs = [v] ∧ Kd K H v t ∧ Q (.bl (isInt v)) H
theorem fn_is_whole (T : Tx K mg) : Fn P w K mg base "is_whole" 1 (sp_is_whole K) := by
  obtain ⟨fd, F⟩ := T.d_is_whole
  refine ⟨_, fd, _, F.ok (CX := CX0) sc_is_whole (fun vs H Q E h => ?_) (fun cdv A outer s H vs Q E hr h => ?_), T.g_is_whole, F.kp, F.bindsN fun _ _ _ _ _ _ us hl => match us, hl with | [_], _ => rfl⟩
  · obtain ⟨v, t, rfl, _⟩ := h; rfl
  · obtain ⟨v, t, rfl, ht, q⟩ := h
    refine ⟨_, PSs.nox (pss_one (ps_ret (pe_and (pe_callB (show CallR _ _ (rIsi K) from call_isi) (by rfl) T.isinstance (by decide +kernel) (pa_cons (pv 0) (pa_cons (pe_gt (n := "int") T.int (by rfl) (by decide +kernel)) pa_nil))) (pe_one (pe_not (pe_callB (show CallR _ _ (rIsi K) from call_isi) (by rfl) T.isinstance (by decide +kernel) (pa_cons (pv 0) (pa_cons (pe_gt (n := "bool") T.bool (by rfl) (by decide +kernel)) pa_nil)))))))), ?_⟩
    obtain ⟨k1, k2, _⟩ := kit_kd ht
    refine ⟨_, rfl, _, _, _, _, _, rfl, .ty _, ht, k1, _, rfl, ?_⟩
    rw [kd_isInt ht] at q
    by_cases e : t = "int"
    · subst e
      exact iteT ⟨_, rfl, _, _, _, _, _, rfl, .ty _, ht, k2, _, rfl, q⟩
    · by_cases e2 : t = "bool"
      · subst e2
        exact iteT ⟨_, rfl, _, _, _, _, _, rfl, .ty _, ht, k2, _, rfl, q⟩
      · have f1 : (t == "int") = false := beq_eq_false_iff_ne.mpr e
        have f2 : (t == "bool") = false := beq_eq_false_iff_ne.mpr e2
        rw [f1] at q
        rw [f1, f2]
        exact iteF q
theorem sc_are_numbers : FnScope ["thing", "one"] ["thing"] (defScope s_are_numbers) := ⟨rfl, rfl, rfl, by decide +kernel, rfl, by decide +kernel, by decide +kernel⟩
def sp_are_numbers (K : PySem.W.Frag) : Sp := fun vs H Q _ => ∃ v : V, vs = [v] ∧
  ((∃ (a : Addr) (xs : List V), v = .ref a ∧ SqL K H a xs ∧ xs.length ≤ 1000 ∧ (∀ x ∈ xs, ∃ t, Kd K H x t) ∧ ∀ H', Same H H' → Q (.bl (xs.all isInt)) H') ∨ (∃ t, Kd K H v t ∧ t ≠ "list" ∧ Q (.bl false) H))
theorem kd_mono {K : PySem.W.Frag} {H H' : Hp} {v : V} {t : String} (s : Same H H') (h : Kd K H v t) : Kd K H' v t := by
  generalize e : Value.type t = u at h
  cases h with
  | base b =>
    cases b with
    | non => cases e; exact .base .non
    | bl x => cases e; exact .base (.bl x)
    | int x => cases e; exact .base (.int x)
    | str x => cases e; exact .base (.str x)
    | flt x => cases e; exact .base (.flt x)
    | lst h => cases e; exact .base (.lst (s _ _ h))
    | frz h => cases e; exact .base (.frz (s _ _ h))
    | tup h => cases e; exact .base (.tup (s _ _ h))
    | dK h => cases e; exact .base (.dK (s _ _ h))
    | dT h => cases e; exact .base (.dT (s _ _ h))
  | byt b => cases e; exact .byt b
  | set h => cases e; exact .set (s _ _ h)
  | kList h c => cases e; exact .kList h c
  | kTuple h c => cases e; exact .kTuple h c
  | kDict h c => cases e; exact .kDict h c
  | fTuple h => cases e; exact .fTuple (s _ _ h)
  | fDict h => cases e; exact .fDict (s _ _ h)
theorem bls_all (xs : List V) (f : V → Bool) : xs.map (fun x => V.bl (f x)) = (xs.map f).map V.bl := by rw [List.map_map]; rfl
theorem all_id (xs : List V) (f : V → Bool) : (xs.map f).all id = xs.all f := by rw [List.all_map]; rfl
theorem fn_are_numbers (T : Tx K mg) : Fn P w K mg base "are_numbers" 2 (sp_are_numbers K) := by
  obtain ⟨fd, F⟩ := T.d_are_numbers
  refine ⟨_, fd, _, F.ok (CX := CX0) sc_are_numbers (fun vs H Q E h => ?_) (fun cdv A outer s H vs Q E hr h => ?_), T.g_are_numbers, F.kp, F.bindsN fun _ _ _ _ _ _ us hl => match us, hl with | [_], _ => rfl⟩
  · obtain ⟨v, rfl, _⟩ := h; rfl
  · obtain ⟨v, rfl, h⟩ := h
    refine ⟨_, PSs.nox (pss_one (ps_ret (pe_and (pe_callB (show CallR _ _ (rIsi K) from call_isi) (by rfl) T.isinstance (by decide +kernel) (pa_cons (pv 0) (pa_cons (pe_gt (n := "list") T.list (by rfl) (by decide +kernel)) pa_nil))) (pe_one (pe_callB (show CallR _ _ (rAll K) from cr_all (by rfl)) (by rfl) T.all (by decide +kernel) (pa_cons (pe_lc (own := [("one", 1)]) (g := (gName 1)) (tt := tYes) (by rfl) sc_are_numbers.nd (show PI _ _ _ (iList K _) from pi_list (pv 0)) (blkOk_by (by kernel_rfl)) (fun _ _ _ _ _ => (pg_name (i := 1) sc_are_numbers.nd rfl (by first | exact Or.inl rfl | exact Or.inr rfl))) (fun _ _ _ _ _ => pts_nil) (fun _ _ _ _ _ => (pe_fn (fn_is_whole T) (hr.mono (by decide)) (by rfl) (pa_cons (pv 1) pa_nil)))) pa_nil)))))), ?_⟩
    rcases h with ⟨a, xs, rfl, hs, hl, ht, q⟩ | ⟨t, ht, hn, q⟩
    · refine ⟨_, rfl, _, _, _, _, _, rfl, .ty _, kd_list hs, (kit_kd (kd_list hs)).2.2.1, _, rfl, iteT ?_⟩
      refine ⟨_, rfl, a, rfl, ⟨_, hs⟩, fun D nD => lc_map (fun x => .bl (isInt x)) hs nD hl ?_ ?_ gname_mono⟩
      · intro i x H1 hx s1 k hk
        refine ⟨rfl, _, rfl, ?_⟩
        obtain ⟨t, ht⟩ := ht x (List.mem_of_getElem? hx)
        exact ⟨x, t, rfl, kd_mono s1 ht, hk _ (Same.refl _)⟩
      · intro H1 s1 hD
        refine ⟨_, xs.map isInt, rfl, SqL.of (by rw [← bls_all]; exact hD), ?_⟩
        rw [all_id]
        exact q _ s1
    · refine ⟨_, rfl, _, _, _, _, _, rfl, .ty _, ht, (kit_kd ht).2.2.1, _, rfl, ?_⟩
      rw [show (t == "list") = false from beq_eq_false_iff_ne.mpr hn]
      exact iteF q
end
end Song

/-! ### Ev2: counts, singers, rounds, turns -/
namespace Song
open PySem L2
/-! #### plain functions -/
/-- rising, each below the next -/
def rising : List Int → Bool
  | [] => true
  | [_] => true
  | a :: b :: r => decide (a < b) && rising (b :: r)
def areSingers (ns : List Int) (many : Int) : Bool := decide (1 ≤ ns.length ∧ ns.length ≤ 3) && ns.all (fun n => decide (0 ≤ n ∧ n < many)) && rising ns
def zipLt (ns : List Int) : List Bool := (ns.zip (ns.drop 1)).map fun p => decide (p.1 < p.2)
theorem zipLt_all : ∀ ns : List Int, (zipLt ns).all id = rising ns
  | [] => rfl
  | [_] => rfl
  | a :: b :: r => by
    have ih := zipLt_all (b :: r)
    unfold zipLt at ih ⊢
    unfold rising
    simp only [List.drop_succ_cons, List.drop_zero, List.zip_cons_cons, List.map_cons, List.all_cons, id] at ih ⊢
    rw [ih]
/-- 0 <= x < many -/
def inR (many : Int) : V → Bool
  | .int n => decide (0 ≤ n) && decide (n < many)
  | _ => false
theorem inR_all (many : Int) (ns : List Int) : (ns.map V.int).all (inR many) = ns.all fun n => decide (0 ≤ n ∧ n < many) := by
  rw [List.all_map]
  congr 1
  funext n
  show (decide (0 ≤ n) && decide (n < many)) = _
  rw [Bool.decide_and]
theorem int_at {ns : List Int} {i : Nat} {x : V} (h : (ns.map V.int)[i]? = some x) : ∃ n, x = .int n ∧ ns[i]? = some n := by
  rw [List.getElem?_map] at h
  cases e : ns[i]? with
  | none => rw [e] at h; cases h
  | some n => rw [e] at h; exact ⟨n, (Option.some.inj h).symm, rfl⟩
theorem cut1 (ns : List Int) : cutV (ns.map V.int) (some 1) none = (ns.drop 1).map V.int := by
  unfold cutV
  cases ns with
  | nil => rfl
  | cons a r =>
    have e1 : HT.sIx ((a :: r).map V.int).length 0 (some 1) = 1 := by
      show HT.sIx _ 0 (some 1) = 1
      simp [HT.sIx]
    have e2 : HT.sIx ((a :: r).map V.int).length ((a :: r).map V.int).length none = ((a :: r).map V.int).length := rfl
    rw [e1, e2, List.take_of_length_le (by simp), ← List.map_drop]
theorem zip_vals (ns : List Int) : (List.range (min (ns.map V.int).length ((ns.drop 1).map V.int).length)).filterMap (fun i => ((ns.zip (ns.drop 1))[i]?).map fun p => V.bl (decide (p.1 < p.2))) = (zipLt ns).map V.bl := by
  have e : min (ns.map V.int).length ((ns.drop 1).map V.int).length = (ns.zip (ns.drop 1)).length := by simp
  rw [e, range_map]
  unfold zipLt
  rw [List.map_map]
  rfl
section
variable {P : Program} {w : World} {K : PySem.W.Frag} {mg : Str → Option Value} {base : Heap}
theorem sc_check_many : FnScope ["many"] ["many"] (defScope s_check_many) := ⟨rfl, rfl, rfl, by decide +kernel, rfl, by decide +kernel, by decide +kernel⟩
def sp_check_many : Sp := fun vs H Q _ => ∃ n : Int, vs = [.int n] ∧ 1 ≤ n ∧ n ≤ 6 ∧ Q .non H
theorem fn_check_many (T : Tx K mg) : Fn P w K mg base "check_many" 2 sp_check_many := by
  obtain ⟨fd, F⟩ := T.d_check_many
  refine ⟨_, fd, _, F.ok (CX := CX0) sc_check_many (fun vs H Q E h => ?_) (fun cdv A outer s H vs Q E hr h => ?_), T.g_check_many, F.kp, F.bindsN fun _ _ _ _ _ _ us hl => match us, hl with | [_], _ => rfl⟩
  · obtain ⟨n, rfl, _⟩ := h; rfl
  · obtain ⟨n, rfl, h1, h6, q⟩ := h
    refine ⟨_, PSs.nox (pss_one (ps_if (PW.pt (pw_or (pt_not (pt_val (pe_fn (fn_is_whole T) (hr.mono (by decide)) (by rfl) (pa_cons (pv 0) pa_nil)))) (pw_or1 (pt_not (pt_chain op_le op_le pe_int (pv 0) (pe_gi T.c_MOST_SINGERS (by rfl))))))) (pss_one ps_never) pss_nil)), ?_⟩
    refine ⟨_, rfl, _, _, rfl, kd_int n, _, rfl, iteF ?_⟩
    refine ⟨_, rfl, _, _, rfl, rfl, _, rfl, ?_⟩
    rw [decide_eq_true h1]
    refine iteT ⟨_, _, rfl, rfl, _, rfl, ?_⟩
    rw [decide_eq_true h6]
    exact iteF q
theorem sc_are_singers : FnScope ["thing", "many", "one", "other"] ["thing", "many"] (defScope s_are_singers) := ⟨rfl, rfl, rfl, by decide +kernel, rfl, by decide +kernel, by decide +kernel⟩
def sp_are_singers (K : PySem.W.Frag) : Sp := fun vs H Q _ => ∃ (a : Addr) (ns : List Int) (many : Int), vs = [.ref a, .int many] ∧ SqL K H a (ns.map V.int) ∧ ns.length ≤ 1000 ∧ ∀ H', Same H H' → Q (.bl (areSingers ns many)) H'
theorem fn_are_singers (T : Tx K mg) : Fn P w K mg base "are_singers" 3 (sp_are_singers K) := by
  obtain ⟨fd, F⟩ := T.d_are_singers
  refine ⟨_, fd, _, F.ok (CX := CX0) sc_are_singers (fun vs H Q E h => ?_) (fun cdv A outer s H vs Q E hr h => ?_), T.g_are_singers, F.kp, F.bindsN fun _ _ _ _ _ _ us hl => match us, hl with | [_, _], _ => rfl⟩
  · obtain ⟨a, ns, many, rfl, _⟩ := h; rfl
  · obtain ⟨a, ns, many, rfl, hs, hl, q⟩ := h
    refine ⟨_, PSs.nox (pss_cons (ps_if (PW.pt (pw_or (pt_not (pt_val (pe_fn (fn_are_numbers T) (hr.mono (by decide)) (by rfl) (pa_cons (pv 0) pa_nil)))) (pw_or1 (pt_not (pt_chain op_le op_le pe_int (pe_callB (show CallR _ _ (rLenQ K) from call_len_seq) (by rfl) T.len (by decide +kernel) (pa_cons (pv 0) pa_nil)) (pe_gi T.c_MOST_OF_SONG (by rfl))))))) (pss_one (ps_ret pe_bl)) pss_nil)
      (pss_cons (ps_if (pt_not (pt_val (pe_callB (show CallR _ _ (rAll K) from cr_all (by rfl)) (by rfl) T.all (by decide +kernel) (pa_cons (pe_lc (own := [("one", 2)]) (g := (gName 2)) (tt := tYes) (by rfl) sc_are_singers.nd (show PI _ _ _ (iList K _) from pi_list (pv 0)) (blkOk_by (by kernel_rfl)) (fun _ _ _ _ _ => (pg_name (i := 2) sc_are_singers.nd rfl (by first | exact Or.inl rfl | exact Or.inr rfl))) (fun _ _ _ _ _ => pts_nil) (fun _ _ _ _ _ => (pe_chain op_le op_lt pe_int (pv 2) (pv 1)))) pa_nil)))) (pss_one (ps_ret pe_bl)) pss_nil)
      (pss_one (ps_ret (pe_callB (show CallR _ _ (rAll K) from cr_all (by rfl)) (by rfl) T.all (by decide +kernel) (pa_cons (pe_lc (own := [("one", 2), ("other", 3)]) (g := (gTup K 2 (gCons (gName 2) (gCons (gName 3) gNil)))) (tt := tYes) (by rfl) sc_are_singers.nd (show PI _ _ _ (iZip K _) from pi_zip (by rfl) T.zip (pa_cons (pv 0) (pa_cons (pe_slice (show SlR _ (rSlL K) from sl_list) (pv 0) (po_some pe_int) po_none) pa_nil))) (blkOk_by (by kernel_rfl)) (fun _ _ _ _ _ => (show PG _ _ (gTup K _ _) from pg_tup rfl (pgs_cons (pg_name (i := 2) sc_are_singers.nd rfl (by first | exact Or.inl rfl | exact Or.inr rfl)) (pgs_cons (pg_name (i := 3) sc_are_singers.nd rfl (by first | exact Or.inl rfl | exact Or.inr rfl)) pgs_nil)))) (fun _ _ _ _ _ => pts_nil) (fun _ _ _ _ _ => (pe_cmpR op_lt (pv 2) (pv 3) (nomark _)))) pa_nil)))))), ?_⟩
    have hlV : (ns.map V.int).length ≤ 1000 := by rw [List.length_map]; exact hl
    have allI : (ns.map V.int).all isInt = true := by
      rw [List.all_map, List.all_eq_true]; intro x _; rfl
    refine ⟨_, rfl, _, rfl, .inl ⟨a, _, rfl, hs, hlV, fun x hx => ?_, fun H1 s1 => ?_⟩⟩
    · obtain ⟨i, _, rfl⟩ := List.mem_map.mp hx
      exact ⟨_, kd_int i⟩
    rw [allI]
    refine ⟨_, rfl, iteF ?_⟩
    refine ⟨_, rfl, a, _, rfl, .inl (s1.seq hs), _, _, rfl, rfl, _, rfl, ?_⟩
    rw [List.length_map]
    by_cases h1 : (1 : Int) ≤ (ns.length : Int)
    case neg =>
      have e0 : areSingers ns many = false := by
        unfold areSingers
        rw [decide_eq_false (by omega)]; rfl
      rw [decide_eq_false h1]
      refine iteF ⟨_, rfl, iteT ?_⟩
      rw [e0] at q
      exact q _ s1
    rw [decide_eq_true h1]
    refine iteT ⟨_, _, rfl, rfl, _, rfl, ?_⟩
    by_cases h3 : (ns.length : Int) ≤ 3
    case neg =>
      have e0 : areSingers ns many = false := by
        unfold areSingers
        rw [decide_eq_false (by omega)]; rfl
      rw [decide_eq_false h3]
      rw [e0] at q
      exact iteT (q _ s1)
    rw [decide_eq_true h3]
    refine iteF ?_
    refine ⟨_, rfl, a, rfl, ⟨_, s1.seq hs⟩, fun D nD => lc_map (fun x => .bl (inR many x)) (s1.seq hs) nD hlV ?_ ?_ gname_mono⟩
    · intro i x H2 hx s2 k hk
      obtain ⟨n, rfl, _⟩ := int_at hx
      refine ⟨rfl, _, rfl, _, _, rfl, rfl, _, rfl, ?_⟩
      have hk2 : k (.bl (decide (0 ≤ n) && decide (n < many))) H2 := hk H2 (Same.refl _)
      by_cases h0 : (0 : Int) ≤ n
      · rw [decide_eq_true h0] at hk2 ⊢
        exact iteT ⟨_, rfl, _, _, rfl, rfl, hk2⟩
      · rw [decide_eq_false h0] at hk2 ⊢
        exact iteF hk2
    intro H2 s2 hD
    refine ⟨_, (ns.map V.int).map (inR many), rfl, SqL.of (by rw [← bls_all]; exact hD), _, rfl, ?_⟩
    rw [all_id, inR_all]
    by_cases hA : (ns.all fun n => decide (0 ≤ n ∧ n < many)) = true
    case neg =>
      have e0 : areSingers ns many = false := by
        unfold areSingers
        rw [Bool.eq_false_iff.mpr hA, Bool.and_false]; rfl
      rw [Bool.eq_false_iff.mpr hA]
      rw [e0] at q
      exact iteT (q _ (s1.trans s2))
    rw [hA]
    refine iteF ?_
    have hs2 := (s1.trans s2).seq hs
    refine ⟨_, rfl, _, rfl, _, rfl, a, _, rfl, hs2, fun p np => ?_⟩
    refine to_new np fun H3 s3 hp => ?_
    rw [cut1] at hp
    refine ⟨a, p, _, _, rfl, s3.seq hs2, SqL.of hp, fun D nD => lc_pure (walk_zip rfl) sqL2_mono ⟨s3.seq hs2, SqL.of hp⟩ (fun i => ((ns.zip (ns.drop 1))[i]?).map fun p => V.bl (decide (p.1 < p.2))) nD (by simp; omega) ?_ ?_⟩
    · rintro i v H4 H5 hi s4 ⟨t, x, y, rfl, nt, rfl, hx, hy⟩ k kn hk _
      obtain ⟨n, rfl, hn⟩ := int_at hx
      obtain ⟨m, rfl, hm⟩ := int_at hy
      refine ⟨t, _, rfl, SqT.of upd_same, rfl, _, _, rfl, _, _, rfl, rfl, rfl, yes_of ?_⟩
      refine ⟨_, rfl, _, rfl, _, _, rfl, rfl, ?_⟩
      refine hk _ _ ?_ (Same.new nt)
      have e : (ns.zip (ns.drop 1))[i]? = some (n, m) := by rw [List.getElem?_zip_eq_some]; exact ⟨hn, hm⟩
      rw [e]
      rfl
    · intro H4 s4 hD4
      rw [zip_vals] at hD4
      refine ⟨_, zipLt ns, rfl, SqL.of hD4, ?_⟩
      rw [zipLt_all]
      have e : areSingers ns many = rising ns := by
        unfold areSingers
        rw [hA, decide_eq_true (by omega)]; rfl
      rw [← e]
      exact q _ (((s1.trans s2).trans s3).trans s4)
end
end Song

/-! ### Ev3: rounds and turns -/
namespace Song
open PySem L2
theorem at_int {ls : List Int} {s : Int} (h0 : 0 ≤ s) (h1 : s < ls.length) : atI (ls.map V.int) s = some (.int (ls.getD s.toNat 0)) := by
  obtain ⟨j, rfl⟩ := Int.eq_ofNat_of_zero_le h0
  have hj : j < ls.length := by omega
  refine atI_nat ?_
  rw [List.getElem?_map, List.getElem?_eq_getElem hj]
  simp [List.getD_eq_getElem?_getD, List.getElem?_eq_getElem hj]
theorem max_ite (i j : Int) : (if j > i then j else i) = max i j := by
  split <;> omega
/-- all of ss are places of a list so long -/
def InB (n : Nat) (ss : List Int) : Prop := ∀ s ∈ ss, 0 ≤ s ∧ s < (n : Int)
section
variable {P : Program} {w : World} {K : PySem.W.Frag} {mg : Str → Option Value} {base : Heap}
theorem sc_floor_of : FnScope ["last", "going", "singer"] ["last", "going", "singer"] (defScope s_floor_of) := ⟨rfl, rfl, rfl, by decide +kernel, rfl, by decide +kernel, by decide +kernel⟩
def sp_floor_of (K : PySem.W.Frag) : Sp := fun vs H Q _ => ∃ (a : Addr) (ls : List Int) (g s : Int), vs = [.ref a, .int g, .int s] ∧ SqL K H a (ls.map V.int) ∧ 0 ≤ s ∧ s < (ls.length : Int) ∧ Q (.int (floorOf ls g s)) H
theorem fn_floor_of (T : Tx K mg) : Fn P w K mg base "floor_of" 1 (sp_floor_of K) := by
  obtain ⟨fd, F⟩ := T.d_floor_of
  refine ⟨_, fd, _, F.ok (CX := CX0) sc_floor_of (fun vs H Q E h => ?_) (fun cdv A outer s H vs Q E hr h => ?_), T.g_floor_of, F.kp, F.bindsN fun _ _ _ _ _ _ us hl => match us, hl with | [_, _, _], _ => rfl⟩
  · obtain ⟨a, ls, g, s, rfl, _⟩ := h; rfl
  · obtain ⟨a, ls, g, s, rfl, hs, h0, h1, q⟩ := h
    refine ⟨_, PSs.nox (pss_one (ps_ret (pe_callB (call_max2 (by rfl)) (by rfl) T.max (by decide +kernel) (pa_cons (pv 1) (pa_cons (pe_op op_add (pe_ix (show IxR _ (rIxL K) from ix_list) (pv 0) (pv 2) (fun _ _ => rfl)) pe_int) pa_nil))))), ?_⟩
    refine ⟨_, rfl, _, rfl, _, rfl, a, _, _, _, rfl, rfl, hs, at_int h0 h1, _, _, rfl, rfl, _, _, rfl, ?_⟩
    rw [max_ite]
    exact q
theorem sc_round_for : FnScope ["last", "going", "singers", "singer"] ["last", "going", "singers"] (defScope s_round_for) := ⟨rfl, rfl, rfl, by decide +kernel, rfl, by decide +kernel, by decide +kernel⟩
def sp_round_for (K : PySem.W.Frag) : Sp := fun vs H Q _ => ∃ (a b : Addr) (ls ss : List Int) (g : Int), vs = [.ref a, .int g, .ref b] ∧ SqL K H a (ls.map V.int) ∧ SqL K H b (ss.map V.int) ∧ InB ls.length ss ∧ ss ≠ [] ∧ ss.length ≤ 1000 ∧
  ∀ H', Same H H' → Q (.int (roundFor ls g ss)) H'
theorem fn_round_for (T : Tx K mg) : Fn P w K mg base "round_for" 2 (sp_round_for K) := by
  obtain ⟨fd, F⟩ := T.d_round_for
  refine ⟨_, fd, _, F.ok (CX := CX0) sc_round_for (fun vs H Q E h => ?_) (fun cdv A outer s H vs Q E hr h => ?_), T.g_round_for, F.kp, F.bindsN fun _ _ _ _ _ _ us hl => match us, hl with | [_, _, _], _ => rfl⟩
  · obtain ⟨a, b, ls, ss, g, rfl, _⟩ := h; rfl
  · obtain ⟨a, b, ls, ss, g, rfl, ha, hb, hi, hn, hl, q⟩ := h
    refine ⟨_, PSs.nox (pss_one (ps_ret (pe_callB (show CallR _ _ (rMax K) from cr_max (by rfl)) (by rfl) T.max (by decide +kernel) (pa_cons (pe_lc (own := [("singer", 3)]) (g := (gName 3)) (tt := tYes) (by rfl) sc_round_for.nd (show PI _ _ _ (iList K _) from pi_list (pv 2)) (blkOk_by (by kernel_rfl)) (fun _ _ _ _ _ => (pg_name (i := 3) sc_round_for.nd rfl (by first | exact Or.inl rfl | exact Or.inr rfl))) (fun _ _ _ _ _ => pts_nil) (fun _ _ _ _ _ => (pe_fn (fn_floor_of T) (hr.mono (by decide)) (by rfl) (pa_cons (pv 0) (pa_cons (pv 1) (pa_cons (pv 3) pa_nil)))))) pa_nil)))), ?_⟩
    refine ⟨_, rfl, b, rfl, ⟨_, hb⟩, fun D nD => lc_map (fun x => match x with | .int s => .int (floorOf ls g s) | _ => .non) hb nD (by rw [List.length_map]; exact hl) ?_ ?_ gname_mono⟩
    · intro i x H1 hx s1 k hk
      obtain ⟨s, rfl, hs⟩ := int_at hx
      obtain ⟨h0, h1⟩ := hi s (List.mem_of_getElem? hs)
      exact ⟨rfl, _, rfl, _, rfl, _, rfl, a, ls, g, s, rfl, s1.seq ha, h0, h1, hk _ (Same.refl _)⟩
    · intro H1 s1 hD
      rw [List.map_map] at hD
      refine ⟨_, ss.map (floorOf ls g), rfl, SqL.of (by rw [List.map_map]; exact hD), ?_, fun m hm hle => ?_⟩
      · rw [List.length_map]; exact List.length_pos_iff.mpr hn
      · rw [maxL_eq hm hle]
        exact q _ s1
theorem sc_in_turn : FnScope ["rounds", "waits", "number", "song"] ["rounds", "waits"] (defScope s_in_turn) := ⟨rfl, rfl, rfl, by decide +kernel, rfl, by decide +kernel, by decide +kernel⟩
def sp_in_turn (K : PySem.W.Frag) : Sp := fun vs H Q _ => ∃ (a b : Addr) (rs ws : List Int), vs = [.ref a, .ref b] ∧ SqL K H a (rs.map V.int) ∧ SqL K H b (ws.map V.int) ∧ InB rs.length ws ∧ ws.length ≤ 1000 ∧
  ∀ p H', H p = none → Same H H' → H' p = some (.lst ((inTurn rs ws).map V.int)) → Q (.ref p) H'
/-- what a pair of ints stands for -/
def prOf (H : Hp) : V → Int × Int
  | .ref t => match H t with
    | some (.tup [.int i, .int j]) => (i, j)
    | _ => (0, 0)
  | _ => (0, 0)
theorem prOf_at {H : Hp} {t : Addr} {i j : Int} (h : H t = some (.tup [.int i, .int j])) : prOf H (.ref t) = (i, j) := by
  show (match H t with
    | some (.tup [.int i, .int j]) => (i, j)
    | _ => (0, 0)) = (i, j)
  rw [h]
theorem lexB_ltPr {a b : Int × Int} : SrtO.lexB a b = ltPr a b := by
  cases h : ltPr a b with
  | true =>
    rw [SrtO.lexB_iff]
    rw [ltPr_iff] at h
    omega
  | false =>
    rw [SrtO.lexB_no]
    rw [ltPr_false] at h
    omega
theorem srt_pairs {rs ws : List Int} {H : Hp} {ys zs : List V} (hl : ys.length = ws.length)
    (hy : ∀ (i : Nat) y, ys[i]? = some y → ∃ (t : Addr) (s : Int), ws[i]? = some s ∧ y = .ref t ∧ H t = some (.tup [.int (rs.getD s.toNat 0), .int s]))
    (srt : SrtO.Srtd (ltP (prOf H)) zs) (stb : SrtO.Stb (ltP (prOf H)) zs ys) :
    zs.map (fun z => V.int (prOf H z).2) = (inTurn rs ws).map V.int ∧ ∀ z ∈ zs, ∃ (t : Addr) (i j : Int), z = .ref t ∧ H t = some (.tup [.int i, .int j]) ∧ prOf H z = (i, j) := by
  have e1 : ys.map (prOf H) = ws.map fun s => (rs.getD s.toNat 0, s) := by
    have h2 : (ys.map (prOf H)).length = ws.length := by rw [List.length_map]; exact hl
    refine eq_map_of h2 fun i y e => ?_
    rw [List.getElem?_map] at e
    cases q : ys[i]? with
    | none => rw [q] at e; cases e
    | some v =>
      rw [q] at e
      obtain ⟨t, s, h1, rfl, h3⟩ := hy i v q
      refine ⟨s, h1, ?_⟩
      rw [← Option.some.inj e]
      exact prOf_at h3
  have e2 : zs.map (prOf H) = sortP (ws.map fun s => (rs.getD s.toNat 0, s)) := by
    refine sortP_eq (by rw [← e1]; exact stb.perm.map _) ?_
    refine List.pairwise_map.mpr (srt.imp fun {a b} h => ?_)
    rw [← lexB_ltPr]
    exact h
  refine ⟨?_, fun z hz => ?_⟩
  · unfold inTurn
    rw [← e2, List.map_map, List.map_map]
    rfl
  · obtain ⟨i, hi, rfl⟩ := List.mem_iff_getElem.mp (stb.perm.subset hz)
    obtain ⟨t, s, h1, h2, h3⟩ := hy i _ (List.getElem?_eq_getElem hi)
    exact ⟨t, _, _, h2, h3, by rw [h2]; exact prOf_at h3⟩
theorem inTurn_len (rs ws : List Int) : (inTurn rs ws).length = ws.length := (inTurn_perm rs ws).length_eq
theorem fn_in_turn (T : Tx K mg) : Fn P w K mg base "in_turn" 1 (sp_in_turn K) := by
  obtain ⟨fd, F⟩ := T.d_in_turn
  refine ⟨_, fd, _, F.ok (CX := CX0) sc_in_turn (fun vs H Q E h => ?_) (fun cdv A outer s H vs Q E hr h => ?_), T.g_in_turn, F.kp, F.bindsN fun _ _ _ _ _ _ us hl => match us, hl with | [_, _], _ => rfl⟩
  · obtain ⟨a, b, rs, ws, rfl, _⟩ := h; rfl
  · obtain ⟨a, b, rs, ws, rfl, ha, hb, hi, hl, q⟩ := h
    refine ⟨_, PSs.nox (pss_one (ps_ret (pe_lc (own := [("number", 2), ("song", 3)]) (g := (gTup K 2 (gCons (gName 2) (gCons (gName 3) gNil)))) (tt := tYes) (by rfl) sc_in_turn.nd (show PI _ _ _ (iList K _) from pi_list (pe_callB (show CallR _ _ (rSortedPO K) from cr_sortedPO) (by rfl) T.sorted (by decide +kernel) (pa_cons (pe_lc (own := [("song", 3)]) (g := (gName 3)) (tt := tYes) (by rfl) sc_in_turn.nd (show PI _ _ _ (iList K _) from pi_list (pv 1)) (blkOk_by (by kernel_rfl)) (fun _ _ _ _ _ => (pg_name (i := 3) sc_in_turn.nd rfl (by first | exact Or.inl rfl | exact Or.inr rfl))) (fun _ _ _ _ _ => pts_nil) (fun _ _ _ _ _ => (pe_tup (pa_cons (pe_ix (show IxR _ (rIxL K) from ix_list) (pv 0) (pv 3) (fun _ _ => rfl)) (pa_cons (pv 3) pa_nil))))) pa_nil))) (blkOk_by (by kernel_rfl)) (fun _ _ _ _ _ => (show PG _ _ (gTup K _ _) from pg_tup rfl (pgs_cons (pg_name (i := 2) sc_in_turn.nd rfl (by first | exact Or.inl rfl | exact Or.inr rfl)) (pgs_cons (pg_name (i := 3) sc_in_turn.nd rfl (by first | exact Or.inl rfl | exact Or.inr rfl)) pgs_nil)))) (fun _ _ _ _ _ => pts_nil) (fun _ _ _ _ _ => (pv 3))))), ?_⟩
    refine ⟨_, rfl, b, rfl, ⟨_, hb⟩, fun D nD => lc_all walk_list sqL_mono hb (fun i H y => ∃ (t : Addr) (s : Int), ws[i]? = some s ∧ y = .ref t ∧ H t = some (.tup [.int (rs.getD s.toNat 0), .int s])) ?_ nD (by rw [List.length_map]; exact hl) ?_ ?_ gname_mono⟩
    · rintro i H1 H2 y s1 ⟨t, s, h1, h2, h3⟩
      exact ⟨t, s, h1, h2, s1 _ _ h3⟩
    · rintro i x H1 H2 acc hi1 s1 hD ⟨rfl, hx⟩ k hk
      obtain ⟨s, rfl, hs⟩ := int_at hx
      obtain ⟨h0, h1⟩ := hi s (List.mem_of_getElem? hs)
      refine ⟨rfl, _, rfl, _, rfl, a, _, _, _, rfl, rfl, s1.seq ha, at_int h0 h1, _, rfl, by show 2 ≤ sizeLine; decide, fun t nt => ?_⟩
      refine hk _ _ (Same.new nt) ⟨t, s, hs, rfl, ?_⟩
      rw [off_out (by simp; exact (ne_of_none hD nt).symm)]
      exact upd_same
    · intro ys H1 s1 hD hly hy
      have hy' : ∀ x ∈ ys, ∃ t, x = V.ref t ∧ H1 t = some (.tup [.int (prOf H1 x).1, .int (prOf H1 x).2]) := fun x hx => by
        obtain ⟨i, hi, rfl⟩ := List.mem_iff_getElem.mp hx
        obtain ⟨t, s, h1, h2, h3⟩ := hy i _ (List.getElem?_eq_getElem hi)
        have h4 := (off_some h3).2
        refine ⟨t, h2, ?_⟩
        rw [h2, prOf_at h4]
        exact h4
      refine ⟨D, ys, prOf H1, rfl, SqL.of hD, hy', fun zs p srt stb np => ?_⟩
      have hly : ys.length = ws.length := by rw [hly, List.length_map]
      obtain ⟨hz1, hz2⟩ := srt_pairs (rs := rs) (ws := ws) hly (fun i y e => by
        obtain ⟨t, s, h1, h2, h3⟩ := hy i y e
        exact ⟨t, s, h1, h2, (off_some h3).2⟩) srt stb
      refine to_new np fun H2 s2 hp => ?_
      refine ⟨p, rfl, ⟨_, SqL.of hp⟩, fun D2 nD2 => lc_map (fun z => V.int (prOf H1 z).2) (SqL.of hp) nD2 ?_ ?_ ?_ gtup_mono⟩
      · rw [stb.perm.length_eq]; omega
      · intro i z H3 hz s3 k hk
        obtain ⟨t, u, v, rfl, ht, ep⟩ := hz2 z (List.mem_of_getElem? hz)
        have hk2 := hk H3 (Same.refl _)
        rw [ep] at hk2
        exact ⟨t, _, rfl, SqT.of (s3 _ _ (s2 _ _ ht)), rfl, _, _, rfl, _, _, rfl, rfl, rfl, _, rfl, hk2⟩
      · intro H3 s3 hD3
        rw [hz1] at hD3
        exact q D2 H3 (s1.free (s2.free nD2)) ((s1.trans s2).trans s3) hD3
end
end Song

/-! ### Pl2: an evening's state and its parts, plainly -/
namespace Song
open PySem L2
inductive Part where
  | wish (ss : List Int) (n r : Int)
  | sing (o : Option Int)
  | out (n : Int)
  deriving DecidableEq
structure EvS where
  last : List Int
  going : Int
  rounds : List Int
  waiting : List Int
  tale : List Part
def evNew (many : Int) : EvS := ⟨List.replicate many.toNat 0, 1, [], [], []⟩
def setAll (last : List Int) (ss : List Int) (n : Int) : List Int := ss.foldl (fun l s => l.set s.toNat n) last
theorem setAll_len : ∀ (ss last : List Int) (n : Int), (setAll last ss n).length = last.length
  | [], _, _ => rfl
  | s :: r, last, n => by
    show (setAll (last.set s.toNat n) r n).length = last.length
    rw [setAll_len r, List.length_set]
theorem setAll_snoc (last ss : List Int) (s n : Int) : setAll last (ss ++ [s]) n = (setAll last ss n).set s.toNat n := by
  unfold setAll
  rw [List.foldl_append]
  rfl
def EvS.num (st : EvS) (ss : List Int) : Int := roundFor st.last st.going ss
def EvS.wish (st : EvS) (ss : List Int) : EvS :=
  ⟨setAll st.last ss (st.num ss), st.going, st.rounds ++ [st.num ss], st.waiting ++ [(st.rounds.length : Int)], st.tale ++ [.wish ss st.rounds.length (st.num ss)]⟩
def EvS.queue (st : EvS) : List Int := inTurn st.rounds st.waiting
def EvS.next (st : EvS) : Option Int := st.queue.head?
def EvS.sing (st : EvS) : EvS := match st.next with
  | none => { st with tale := st.tale ++ [.sing none] }
  | some s => { st with waiting := st.waiting.erase s, going := st.rounds.getD s.toNat 0, tale := st.tale ++ [.sing (some s)] }
def EvS.out (st : EvS) (n : Int) : EvS := { st with waiting := st.waiting.erase n, tale := st.tale ++ [.out n] }
/-- what holds of every evening's state -/
structure EvOk (st : EvS) : Prop where
  one : 1 ≤ st.last.length
  six : st.last.length ≤ 6
  inb : InB st.rounds.length st.waiting
  nd : st.waiting.Nodup
  r24 : st.rounds.length ≤ 24
  tw : ∀ ss n r, Part.wish ss n r ∈ st.tale → ss.length ≤ 3
theorem nodup_len : ∀ {n : Nat} {ws : List Int}, InB n ws → ws.Nodup → ws.length ≤ n
  | 0, [], _, _ => Nat.le_refl _
  | 0, w :: r, h, _ => by have := h w (by simp); omega
  | n + 1, ws, h, nd => by
    have h1 : InB n (ws.erase (n : Int)) := fun s hs => by
      have h2 := h s (List.mem_of_mem_erase hs)
      have h3 : s ≠ (n : Int) := fun e => by
        rw [e] at hs
        exact (nd.not_mem_erase) hs
      omega
    have h2 := nodup_len h1 (nd.erase _)
    have h3 := List.length_erase (a := (n : Int)) (l := ws)
    split at h3 <;> omega
theorem EvOk.w24 {st : EvS} (h : EvOk st) : st.waiting.length ≤ 24 := Nat.le_trans (nodup_len h.inb h.nd) h.r24
theorem evNew_ok {many : Int} (h1 : 1 ≤ many) (h6 : many ≤ 6) : EvOk (evNew many) :=
  ⟨by show 1 ≤ (List.replicate _ _).length; rw [List.length_replicate]; omega, by show (List.replicate _ _).length ≤ 6; rw [List.length_replicate]; omega,
   (fun s h => by cases h), List.nodup_nil, by show 0 ≤ 24; omega, (fun _ _ _ h => by cases h)⟩
theorem EvOk.wish {st : EvS} {ss : List Int} (h : EvOk st) (hr : st.rounds.length < 24) (h3 : ss.length ≤ 3) : EvOk (st.wish ss) where
  one := by show 1 ≤ (setAll _ _ _).length; rw [setAll_len]; exact h.one
  six := by show (setAll _ _ _).length ≤ 6; rw [setAll_len]; exact h.six
  inb := fun s hs => by
    show 0 ≤ s ∧ s < (((st.rounds ++ [_]).length : Nat) : Int)
    rw [List.length_append, List.length_singleton]
    rcases List.mem_append.mp hs with q | q
    · have := h.inb s q; omega
    · have := List.mem_singleton.mp q; omega
  nd := by
    show (st.waiting ++ [_]).Nodup
    refine List.nodup_append.mpr ⟨h.nd, by simp, fun a ha b hb e => ?_⟩
    have := List.mem_singleton.mp hb
    have := h.inb a ha
    omega
  r24 := by show (st.rounds ++ [_]).length ≤ 24; rw [List.length_append, List.length_singleton]; omega
  tw := fun ss' n r hm => by
    rcases List.mem_append.mp hm with q | q
    · exact h.tw ss' n r q
    · have := List.mem_singleton.mp q
      injection this with e _ _
      rw [e]; exact h3
theorem EvS.next_mem {st : EvS} {s : Int} (h : st.next = some s) : s ∈ st.waiting := (inTurn_perm _ _).subset (List.mem_of_mem_head? (by unfold next queue at h; rw [h]; rfl))
theorem EvS.next_none {st : EvS} (h : st.next = none) : st.waiting = [] := by
  unfold next queue at h
  have e := List.head?_eq_none_iff.mp h
  have l := inTurn_len st.rounds st.waiting
  rw [e] at l
  exact List.eq_nil_of_length_eq_zero l.symm
theorem EvOk.sing {st : EvS} (h : EvOk st) : EvOk st.sing := by
  unfold EvS.sing
  cases e : st.next with
  | none => exact ⟨h.one, h.six, h.inb, h.nd, h.r24, fun ss n r hm => h.tw ss n r (by simpa using hm)⟩
  | some s => exact ⟨h.one, h.six, fun x hx => h.inb x (List.mem_of_mem_erase hx), h.nd.erase _, h.r24, fun ss n r hm => h.tw ss n r (by simpa using hm)⟩
theorem EvOk.out {st : EvS} (h : EvOk st) (n : Int) : EvOk (st.out n) := ⟨h.one, h.six, fun x hx => h.inb x (List.mem_of_mem_erase hx), h.nd.erase _, h.r24, fun ss n r hm => h.tw ss n r (by simpa [EvS.out] using hm)⟩
theorem erase_at : ∀ {ns : List Int} {k : Int}, k ∈ ns → ∃ j : Nat, ns[j]? = some k ∧ (∀ m : Nat, m < j → ns[m]? ≠ some k) ∧ ns.eraseIdx j = ns.erase k
  | n :: r, k, h => by
    by_cases e : n = k
    · subst e
      exact ⟨0, rfl, fun m hm => by omega, by simp⟩
    · obtain ⟨j, h1, h2, h3⟩ := erase_at (ns := r) (k := k) ((List.mem_cons.mp h).resolve_left (fun z => e z.symm))
      refine ⟨j + 1, by simpa using h1, fun m hm => ?_, ?_⟩
      · cases m with
        | zero => simpa using e
        | succ m => simpa using h2 m (by omega)
      · rw [List.eraseIdx_cons_succ, h3, List.erase_cons_tail (by simpa using e)]
/-! #### the parts as data -/
def optV : Option Int → V
  | none => .non
  | some n => .int n
def optD : Option Int → PyData
  | none => .none
  | some n => .int n
def Part.data : Part → PyData
  | .wish ss n r => .tuple [.str "wish", .list (ss.map PyData.int), .int n, .int r]
  | .sing o => .tuple [.str "sing", optD o]
  | .out n => .tuple [.str "out", .int n]
/-- a part laid in the heap -/
def PartAt (H : Hp) : V → Part → Prop
  | .ref t, .wish ss n r => ∃ b, H t = some (.tup [.str "wish", .ref b, .int n, .int r]) ∧ H b = some (.lst (ss.map V.int))
  | .ref t, .sing o => H t = some (.tup [.str "sing", optV o])
  | .ref t, .out n => H t = some (.tup [.str "out", .int n])
  | _, _ => False
def Parts (H : Hp) : List V → List Part → Prop
  | [], [] => True
  | v :: vs, p :: ps => PartAt H v p ∧ Parts H vs ps
  | _, _ => False
theorem PartAt.mono {H H' : Hp} (s : Same H H') {v : V} {p : Part} (h : PartAt H v p) : PartAt H' v p := by
  cases v with
  | ref t =>
    cases p with
    | wish ss n r =>
      obtain ⟨b, h1, h2⟩ := h
      exact ⟨b, s _ _ h1, s _ _ h2⟩
    | sing o => exact s _ _ h
    | out n => exact s _ _ h
  | _ => exact h.elim
theorem Parts.mono {H H' : Hp} (s : Same H H') : ∀ {vs : List V} {ps : List Part}, Parts H vs ps → Parts H' vs ps
  | [], [], _ => trivial
  | _ :: _, _ :: _, h => ⟨h.1.mono s, Parts.mono s h.2⟩
  | [], _ :: _, h => h.elim
  | _ :: _, [], h => h.elim
theorem Parts.snoc {H : Hp} {v : V} {p : Part} (q : PartAt H v p) : ∀ {vs : List V} {ps : List Part}, Parts H vs ps → Parts H (vs ++ [v]) (ps ++ [p])
  | [], [], _ => ⟨q, trivial⟩
  | _ :: _, _ :: _, h => ⟨h.1, Parts.snoc q h.2⟩
  | [], _ :: _, h => h.elim
  | _ :: _, [], h => h.elim
theorem Parts.len {H : Hp} : ∀ {vs : List V} {ps : List Part}, Parts H vs ps → vs.length = ps.length
  | [], [], _ => rfl
  | _ :: _, _ :: _, h => by simp [Parts.len h.2]
  | [], _ :: _, h => h.elim
  | _ :: _, [], h => h.elim
theorem Parts.get {H : Hp} : ∀ {vs : List V} {ps : List Part} {i : Nat} {v : V}, Parts H vs ps → vs[i]? = some v → ∃ p, ps[i]? = some p ∧ PartAt H v p
  | [], [], _, _, _, e => by simp at e
  | _ :: _, _ :: _, 0, _, h, e => by
    simp at e; subst e; exact ⟨_, rfl, h.1⟩
  | _ :: _, _ :: _, i + 1, v, h, e => by
    obtain ⟨p, h1, h2⟩ := Parts.get (i := i) (v := v) h.2 (by simpa using e)
    exact ⟨p, by simpa using h1, h2⟩
  | [], _ :: _, _, _, h, _ => h.elim
  | _ :: _, [], _, _, h, _ => h.elim
theorem Parts.of {H : Hp} : ∀ {vs : List V} {ps : List Part}, vs.length = ps.length → (∀ (i : Nat) v, vs[i]? = some v → ∃ p, ps[i]? = some p ∧ PartAt H v p) → Parts H vs ps
  | [], [], _, _ => trivial
  | v :: vs, p :: ps, hl, h => by
    obtain ⟨p', e, q⟩ := h 0 v rfl
    cases e
    exact ⟨q, Parts.of (by simpa using hl) fun i v' e => h (i + 1) v' (by simpa using e)⟩
  | [], _ :: _, h, _ => by simp at h
  | _ :: _, [], h, _ => by simp at h
theorem PartAt.dp {K : PySem.W.Frag} {H : Hp} {v : V} {p : Part} (h : PartAt H v p) : Dp K H v p.data := by
  cases v with
  | ref t =>
    cases p with
    | wish ss n r =>
      obtain ⟨b, h1, h2⟩ := h
      exact .tup (SqT.of h1) (.cons (.str _) (.cons (dp_ints (SqL.of h2)) (.cons (.int _) (.cons (.int _) .nil))))
    | sing o =>
      refine .tup (SqT.of h) (.cons (.str _) (.cons ?_ .nil))
      cases o with
      | none => exact .non
      | some n => exact .int n
    | out n => exact .tup (SqT.of h) (.cons (.str _) (.cons (.int _) .nil))
  | _ => exact h.elim
theorem Parts.dp {K : PySem.W.Frag} {H : Hp} : ∀ {vs : List V} {ps : List Part}, Parts H vs ps → DpAll K H vs (ps.map Part.data)
  | [], [], _ => .nil
  | _ :: _, _ :: _, h => .cons h.1.dp (Parts.dp h.2)
  | [], _ :: _, h => h.elim
  | _ :: _, [], h => h.elim
/-! #### shapes -/
def Shp (k : Nat) (d : PyData) : Prop := d.canLay0 = true ∧ d.depth ≤ k
theorem shp_all {k : Nat} : ∀ {xs : List PyData}, (∀ x ∈ xs, Shp k x) → PyData.canLayAll0 xs = true ∧ PyData.depthAll xs ≤ k
  | [], _ => ⟨rfl, Nat.zero_le _⟩
  | x :: xs, h => by
    obtain ⟨h1, h2⟩ := h x (by simp)
    obtain ⟨h3, h4⟩ := shp_all (xs := xs) fun y hy => h y (by simp [hy])
    refine ⟨by rw [PyData.canLayAll0, h1, h3]; rfl, ?_⟩
    rw [PyData.depthAll]
    exact Nat.max_le.mpr ⟨h2, h4⟩
theorem shp_list {k : Nat} {xs : List PyData} (h : ∀ x ∈ xs, Shp k x) : Shp (k + 1) (.list xs) := by
  obtain ⟨h1, h2⟩ := shp_all h
  refine ⟨by rw [PyData.canLay0]; exact h1, ?_⟩
  rw [PyData.depth]
  omega
theorem shp_tuple {k : Nat} {xs : List PyData} (h : ∀ x ∈ xs, Shp k x) : Shp (k + 1) (.tuple xs) := by
  obtain ⟨h1, h2⟩ := shp_all h
  refine ⟨by rw [PyData.canLay0]; exact h1, ?_⟩
  rw [PyData.depth]
  omega
theorem shp_int {k : Nat} (i : Int) : Shp (k + 1) (.int i) := ⟨by rw [PyData.canLay0], by rw [PyData.depth] <;> omega⟩
theorem Shp.mono {k m : Nat} {d : PyData} (h : Shp k d) (hk : k ≤ m) : Shp m d := ⟨h.1, Nat.le_trans h.2 hk⟩
theorem Shp.ok {k : Nat} {d : PyData} (h : Shp k d) (hk : k ≤ 64 := by decide) : SeqAt.shaped d = true := by
  unfold SeqAt.shaped
  rw [h.1, decide_eq_true (Nat.le_trans h.2 hk)]; rfl
theorem shp_ints (ns : List Int) : Shp 2 (.list (ns.map PyData.int)) := shp_list fun x hx => by
  obtain ⟨i, _, rfl⟩ := List.mem_map.mp hx
  exact shp_int i
theorem shp_optD (o : Option Int) : Shp 1 (optD o) := by
  cases o with
  | none => exact ⟨by unfold optD; rw [PyData.canLay0], by unfold optD; rw [PyData.depth] <;> omega⟩
  | some n => exact shp_int n
theorem shp_word {x : Str} (h : PyData.canLay0 (.str x) = true) {k : Nat} : Shp (k + 1) (.str x) := ⟨h, by rw [PyData.depth] <;> omega⟩
theorem shp_part (p : Part) : Shp 3 p.data := by
  cases p with
  | wish ss n r =>
    refine shp_tuple fun x hx => ?_
    simp only [List.mem_cons, List.not_mem_nil, or_false] at hx
    rcases hx with rfl | rfl | rfl | rfl
    · exact shp_word (by decide +kernel)
    · exact shp_ints ss
    · exact shp_int _
    · exact shp_int _
  | sing o =>
    refine shp_tuple fun x hx => ?_
    simp only [List.mem_cons, List.not_mem_nil, or_false] at hx
    rcases hx with rfl | rfl
    · exact shp_word (by decide +kernel)
    · exact (shp_optD o).mono (by decide)
  | out n =>
    refine shp_tuple fun x hx => ?_
    simp only [List.mem_cons, List.not_mem_nil, or_false] at hx
    rcases hx with rfl | rfl
    · exact shp_word (by decide +kernel)
    · exact shp_int _
theorem shp_tale (ps : List Part) : Shp 4 (.list (ps.map Part.data)) := shp_list fun x hx => by
  obtain ⟨p, _, rfl⟩ := List.mem_map.mp hx
  exact shp_part p
theorem eqv_self {k : Nat} {d : PyData} (h : Shp k d) : PyData.eqv d d = true := PySem.SeqAt.eqv_refl d h.1
end Song

/-! ### Ev4: an evening in the heap, and its methods -/
namespace Song
open PySem L2
/-- where an evening's lists stand -/
structure Ad where
  la : Addr
  ro : Addr
  wa : Addr
  ca : Addr
def own (p : Addr) (A : Ad) : List Addr := [p, A.la, A.ro, A.wa, A.ca]
def evF (A : Ad) (g : Int) : List (Str × V) := [("last", .ref A.la), ("going", .int g), ("rounds", .ref A.ro), ("waiting", .ref A.wa), ("came", .ref A.ca)]
theorem evF_last (A : Ad) (g : Int) : (evF A g).lookup ("last" : Str) = some (.ref A.la) := by kernel_rfl
theorem evF_going (A : Ad) (g : Int) : (evF A g).lookup ("going" : Str) = some (.int g) := by kernel_rfl
theorem evF_rounds (A : Ad) (g : Int) : (evF A g).lookup ("rounds" : Str) = some (.ref A.ro) := by kernel_rfl
theorem evF_waiting (A : Ad) (g : Int) : (evF A g).lookup ("waiting" : Str) = some (.ref A.wa) := by kernel_rfl
theorem evF_came (A : Ad) (g : Int) : (evF A g).lookup ("came" : Str) = some (.ref A.ca) := by kernel_rfl
theorem evF_put (A : Ad) (g g' : Int) : putF "going" (.int g') (evF A g) = evF A g' := by kernel_rfl
theorem evF_no (A : Ad) (g : Int) {m : Str} (h : m ∉ (["last", "going", "rounds", "waiting", "came"] : List Str)) : (evF A g).lookup m = none := by
  simp only [List.mem_cons, List.not_mem_nil, or_false, not_or] at h
  obtain ⟨h1, h2, h3, h4, h5⟩ := h
  unfold evF
  have f : ∀ {x : Str}, ¬ m = x → (m == x) = false := fun h => beq_eq_false_iff_ne.mpr h
  simp only [List.lookup, f h1, f h2, f h3, f h4, f h5]
structure Cells (C : Addr) (H : Hp) (p : Addr) (A : Ad) (last : List Int) (going : Int) (rounds waiting : List Int) (cs : List V) : Prop where
  pp : ∃ dx, H p = some (.ins C dx (evF A going))
  la : H A.la = some (.lst (last.map V.int))
  ro : H A.ro = some (.lst (rounds.map V.int))
  wa : H A.wa = some (.lst (waiting.map V.int))
  ca : H A.ca = some (.lst cs)
  nd : (own p A).Nodup
section
variable {C : Addr} {H H' : Hp} {p : Addr} {A : Ad} {last : List Int} {going : Int} {rounds waiting : List Int} {cs : List V}
theorem Cells.mono (s : Same H H') (c : Cells C H p A last going rounds waiting cs) : Cells C H' p A last going rounds waiting cs := by
  obtain ⟨⟨dx, h1⟩, h2, h3, h4, h5, nd⟩ := c
  exact ⟨⟨dx, s _ _ h1⟩, s _ _ h2, s _ _ h3, s _ _ h4, s _ _ h5, nd⟩
theorem Cells.ne (c : Cells C H p A last going rounds waiting cs) : p ≠ A.la ∧ p ≠ A.ro ∧ p ≠ A.wa ∧ p ≠ A.ca ∧ A.la ≠ A.ro ∧ A.la ≠ A.wa ∧ A.la ≠ A.ca ∧ A.ro ≠ A.wa ∧ A.ro ≠ A.ca ∧ A.wa ≠ A.ca := by
  have h := c.nd
  unfold own at h
  simp only [List.nodup_cons, List.mem_cons, List.not_mem_nil, or_false, not_or] at h
  obtain ⟨⟨a1, a2, a3, a4⟩, ⟨b1, b2, b3⟩, ⟨c1, c2⟩, d1, _⟩ := h
  exact ⟨a1, a2, a3, a4, b1, b2, b3, c1, c2, d1⟩
theorem Cells.putLa (c : Cells C H p A last going rounds waiting cs) (l : List Int) : Cells C (upd H A.la (.lst (l.map V.int))) p A l going rounds waiting cs := by
  obtain ⟨a1, a2, a3, a4, b1, b2, b3, c1, c2, d1⟩ := c.ne
  obtain ⟨⟨dx, h1⟩, h2, h3, h4, h5, nd⟩ := c
  exact ⟨⟨dx, by rw [upd_ne a1]; exact h1⟩, upd_same, by rw [upd_ne b1.symm]; exact h3, by rw [upd_ne b2.symm]; exact h4, by rw [upd_ne b3.symm]; exact h5, nd⟩
theorem Cells.putRo (c : Cells C H p A last going rounds waiting cs) (l : List Int) : Cells C (upd H A.ro (.lst (l.map V.int))) p A last going l waiting cs := by
  obtain ⟨a1, a2, a3, a4, b1, b2, b3, c1, c2, d1⟩ := c.ne
  obtain ⟨⟨dx, h1⟩, h2, h3, h4, h5, nd⟩ := c
  exact ⟨⟨dx, by rw [upd_ne a2]; exact h1⟩, by rw [upd_ne b1]; exact h2, upd_same, by rw [upd_ne c1.symm]; exact h4, by rw [upd_ne c2.symm]; exact h5, nd⟩
theorem Cells.putWa (c : Cells C H p A last going rounds waiting cs) (l : List Int) : Cells C (upd H A.wa (.lst (l.map V.int))) p A last going rounds l cs := by
  obtain ⟨a1, a2, a3, a4, b1, b2, b3, c1, c2, d1⟩ := c.ne
  obtain ⟨⟨dx, h1⟩, h2, h3, h4, h5, nd⟩ := c
  exact ⟨⟨dx, by rw [upd_ne a3]; exact h1⟩, by rw [upd_ne b2]; exact h2, by rw [upd_ne c1]; exact h3, upd_same, by rw [upd_ne d1.symm]; exact h5, nd⟩
theorem Cells.putCa (c : Cells C H p A last going rounds waiting cs) (l : List V) : Cells C (upd H A.ca (.lst l)) p A last going rounds waiting l := by
  obtain ⟨a1, a2, a3, a4, b1, b2, b3, c1, c2, d1⟩ := c.ne
  obtain ⟨⟨dx, h1⟩, h2, h3, h4, h5, nd⟩ := c
  exact ⟨⟨dx, by rw [upd_ne a4]; exact h1⟩, by rw [upd_ne b3]; exact h2, by rw [upd_ne c2]; exact h3, by rw [upd_ne d1]; exact h4, upd_same, nd⟩
theorem Cells.putGo (c : Cells C H p A last going rounds waiting cs) {dx : Addr} (g : Int) : Cells C (upd H p (.ins C dx (evF A g))) p A last g rounds waiting cs := by
  obtain ⟨a1, a2, a3, a4, b1, b2, b3, c1, c2, d1⟩ := c.ne
  obtain ⟨_, h2, h3, h4, h5, nd⟩ := c
  exact ⟨⟨dx, upd_same⟩, by rw [upd_ne a1.symm]; exact h2, by rw [upd_ne a2.symm]; exact h3, by rw [upd_ne a3.symm]; exact h4, by rw [upd_ne a4.symm]; exact h5, nd⟩
end
theorem off_put {S : List Addr} {H : Hp} {a : Addr} {o : HO} (h : a ∈ S) : off S (upd H a o) = off S H := by
  funext b
  by_cases q : b ∈ S
  · rw [off_in q, off_in q]
  · rw [off_out q, off_out q, upd_ne (fun z => q (by rw [z]; exact h))]
/-- the evening at p tells st; its parts lie outside of S, all that may change -/
structure Ev (K : PySem.W.Frag) (S : List Addr) (H : Hp) (p : Addr) (A : Ad) (st : EvS) : Prop where
  cell : ∃ cs, Cells (He.ga K "Evening") H p A st.last st.going st.rounds st.waiting cs ∧ Parts (off S H) cs st.tale
  sub : ∀ a ∈ own p A, a ∈ S
  dom : ∀ a ∈ S, ∃ o, H a = some o
  few : st.tale.length ≤ 900
theorem Ev.mono {K : PySem.W.Frag} {S : List Addr} {H H' : Hp} {p : Addr} {A : Ad} {st : EvS} (s : Same H H') (e : Ev K S H p A st) : Ev K S H' p A st := by
  obtain ⟨⟨cs, c, q⟩, sub, dom, few⟩ := e
  refine ⟨⟨cs, c.mono s, q.mono (off_mono s)⟩, sub, fun a ha => ?_, few⟩
  obtain ⟨o, h⟩ := dom a ha
  exact ⟨o, s _ _ h⟩
theorem new_out {S : List Addr} {H : Hp} {t : Addr} (dom : ∀ a ∈ S, ∃ o, H a = some o) (nt : H t = none) : t ∉ S := fun q => by
  obtain ⟨o, h⟩ := dom t q
  rw [nt] at h; cases h
theorem dom_put {S : List Addr} {H : Hp} {b : Addr} {o : HO} (dom : ∀ a ∈ S, ∃ o, H a = some o) : ∀ a ∈ S, ∃ o', upd H b o a = some o' := fun a ha => by
  by_cases e : a = b
  · rw [e]; exact ⟨o, upd_same⟩
  · rw [upd_ne e]; exact dom a ha
theorem dom_same {S : List Addr} {H H' : Hp} (s : Same H H') (dom : ∀ a ∈ S, ∃ o, H a = some o) : ∀ a ∈ S, ∃ o', H' a = some o' := fun a ha => by
  obtain ⟨o, h⟩ := dom a ha
  exact ⟨o, s _ _ h⟩
theorem memA (p : Addr) (A : Ad) : p ∈ own p A ∧ A.la ∈ own p A ∧ A.ro ∈ own p A ∧ A.wa ∈ own p A ∧ A.ca ∈ own p A := by
  unfold own; simp
section
variable {P : Program} {w : World} {K : PySem.W.Frag} {mg : Str → Option Value} {base : Heap}
/-! #### Evening(many) -/
theorem sc_Evening___init__ : FnScope ["self", "many"] ["self", "many"] (defScope s_Evening___init__) := ⟨rfl, rfl, rfl, by decide +kernel, rfl, by decide +kernel, by decide +kernel⟩
def sp_ev_init (K : PySem.W.Frag) : Sp := fun vs H Q _ => ∃ (p dx : Addr) (n : Int), vs = [.ref p, .int n] ∧ 1 ≤ n ∧ n ≤ 6 ∧ H p = some (.ins (He.ga K "Evening") dx []) ∧
  ∀ H' A, Fra [p] H H' → Cells (He.ga K "Evening") H' p A (List.replicate n.toNat 0) 1 [] [] [] → H A.la = none → H A.ro = none → H A.wa = none → H A.ca = none → Q .non H'
theorem rep_flat (n : Nat) : (List.replicate n [V.int 0]).flatten = List.replicate n (V.int 0) := by
  induction n with
  | zero => rfl
  | succ n ih => rw [List.replicate_succ, List.flatten_cons, ih]; rfl
theorem fra_free {H H' : Hp} {p b : Addr} {o : HO} (f : Fra [p] H H') (hp : H p = some o) (nb : H' b = none) : (H b = none ∨ b = p) := by
  by_cases e : b = p
  · exact .inr e
  · refine .inl ?_
    cases q : H b with
    | none => rfl
    | some o => rw [f.one e q] at nb; cases nb
theorem rep_ints (n : Nat) : (List.replicate n (V.int 0)) = (List.replicate n (0 : Int)).map V.int := by rw [List.map_replicate]
theorem mk_Evening (T : Tx K mg) : Mke P w K mg base "Evening" (He.ga K "Evening") 3 (sp_ev_init K) := by
  obtain ⟨fd, F⟩ := T.d_Evening___init__
  refine ⟨_, fd, _, F.ok (CX := CX0) sc_Evening___init__ (fun vs H Q E h => ?_) (fun cdv A outer s H vs Q E hr h => ?_), T.mk_Evening, T.g_Evening, F.bindsN fun _ _ _ _ _ _ us hl => match us, hl with | [_, _], _ => rfl⟩
  · obtain ⟨p, dx, n, rfl, _⟩ := h; rfl
  · obtain ⟨p, dx, n, rfl, h1, h6, hp, q⟩ := h
    refine ⟨_, PSs.nox (pss_cons (ps_expr (pe_fn (fn_check_many T) (hr.mono (by decide)) (by rfl) (pa_cons (pv 1) pa_nil)))
      (pss_cons (show PS _ _ (sFld K _ _ _) from ps_fld (pv 0) (pe_op op_rep (pe_lst (pa_cons pe_int pa_nil)) (pv 1)) rfl)
      (pss_cons (show PS _ _ (sFld K _ _ _) from ps_fld (pv 0) pe_int rfl)
      (pss_cons (show PS _ _ (sFld K _ _ _) from ps_fld (pv 0) (pe_lst pa_nil) rfl)
      (pss_cons (show PS _ _ (sFld K _ _ _) from ps_fld (pv 0) (pe_lst pa_nil) rfl)
      (pss_one (show PS _ _ (sFld K _ _ _) from ps_fld (pv 0) (pe_lst pa_nil) rfl))))))), ?_⟩
    refine ⟨_, rfl, n, rfl, h1, h6, ?_⟩
    refine ⟨by show 1 ≤ sizeLine; decide, fun z nz => ?_⟩
    refine to_new nz fun H1 s1 hz => ?_
    refine ⟨_, rfl, z, n, _, rfl, rfl, hz, by omega, by omega, ?_, fun a na => ?_⟩
    · show 1 * n.toNat ≤ sizeLine
      have : sizeLine = 16777216 := by decide
      omega
    rw [rep_flat]
    refine to_new na fun H2 s2 ha => ?_
    have hp2 := s2 _ _ (s1 _ _ hp)
    have npa : p ≠ a := ne_of_none (s1 _ _ hp) na
    refine ⟨_, rfl, p, _, dx, _, rfl, hp2, T.cls_Evening, T.na_Evening_last, by show 0 < 1000; decide, ?_⟩
    refine to_put fun H3 f3 hp3 => ?_
    have ha3 := f3.one npa.symm ha
    refine ⟨_, rfl, p, _, dx, _, rfl, hp3, T.cls_Evening, T.na_Evening_going, by show 1 < 1000; decide, ?_⟩
    refine to_put fun H4 f4 hp4 => ?_
    have ha4 := f4.one npa.symm ha3
    refine ⟨Nat.zero_le _, fun b nb => ?_⟩
    refine to_new nb fun H5 s5 hb => ?_
    have npb : p ≠ b := ne_of_none hp4 nb
    have nab : a ≠ b := ne_of_none ha4 nb
    refine ⟨_, rfl, p, _, dx, _, rfl, s5 _ _ hp4, T.cls_Evening, T.na_Evening_rounds, by show 2 < 1000; decide, ?_⟩
    refine to_put fun H6 f6 hp6 => ?_
    have ha6 := f6.one npa.symm (s5 _ _ ha4)
    have hb6 := f6.one npb.symm hb
    refine ⟨Nat.zero_le _, fun c nc => ?_⟩
    refine to_new nc fun H7 s7 hc => ?_
    have npc : p ≠ c := ne_of_none hp6 nc
    have nac : a ≠ c := ne_of_none ha6 nc
    have nbc : b ≠ c := ne_of_none hb6 nc
    refine ⟨_, rfl, p, _, dx, _, rfl, s7 _ _ hp6, T.cls_Evening, T.na_Evening_waiting, by show 3 < 1000; decide, ?_⟩
    refine to_put fun H8 f8 hp8 => ?_
    have ha8 := f8.one npa.symm (s7 _ _ ha6)
    have hb8 := f8.one npb.symm (s7 _ _ hb6)
    have hc8 := f8.one npc.symm hc
    refine ⟨Nat.zero_le _, fun d nd => ?_⟩
    refine to_new nd fun H9 s9 hd => ?_
    have npd : p ≠ d := ne_of_none hp8 nd
    have nad : a ≠ d := ne_of_none ha8 nd
    have nbd : b ≠ d := ne_of_none hb8 nd
    have ncd : c ≠ d := ne_of_none hc8 nd
    refine ⟨_, rfl, p, _, dx, _, rfl, s9 _ _ hp8, T.cls_Evening, T.na_Evening_came, by show 4 < 1000; decide, ?_⟩
    refine to_put fun H10 f10 hp10 => ?_
    have fr2 : Fra [p] H H2 := Fra.of (s1.trans s2)
    have fr4 : Fra [p] H H4 := (fr2.trans f3).trans f4
    have fr6 : Fra [p] H H6 := (fr4.trans (Fra.of s5)).trans f6
    have fr8 : Fra [p] H H8 := (fr6.trans (Fra.of s7)).trans f8
    have fr10 : Fra [p] H H10 := (fr8.trans (Fra.of s9)).trans f10
    refine q H10 ⟨a, b, c, d⟩ fr10 ⟨⟨dx, ?_⟩, ?_, ?_, ?_, ?_, ?_⟩ (s1.free na) ((fra_free fr4 hp nb).resolve_right npb.symm) ((fra_free fr6 hp nc).resolve_right npc.symm) ((fra_free fr8 hp nd).resolve_right npd.symm)
    · rw [hp10]; exact congrArg some (congrArg (HO.ins _ dx) (by kernel_rfl))
    · exact f10.one npa.symm (s9 _ _ (by rw [← rep_ints]; exact ha8))
    · exact f10.one npb.symm (s9 _ _ hb8)
    · exact f10.one npc.symm (s9 _ _ hc8)
    · exact f10.one npd.symm hd
    · show [p, a, b, c, d].Nodup
      simp only [List.nodup_cons, List.mem_cons, List.not_mem_nil, or_false, not_or]
      exact ⟨⟨npa, npb, npc, npd⟩, ⟨nab, nac, nad⟩, ⟨nbc, nbd⟩, ncd, not_false, List.nodup_nil⟩
end
end Song

/-! ### Ev5: wish, sing, withdraw and the rest -/
namespace Song
open PySem L2
section
variable {C : Addr} {H : Hp} {p : Addr} {A : Ad} {last : List Int} {going : Int} {rounds waiting : List Int} {cs : List V} {Q : Hp → Prop}
@[elab_as_elim] theorem to_la (c : Cells C H p A last going rounds waiting cs) (l : List Int) (h : ∀ H', Fra (own p A) H H' → Cells C H' p A l going rounds waiting cs → Q H') : Q (upd H A.la (.lst (l.map V.int))) :=
  h _ (Fra.put (memA p A).2.1) (c.putLa l)
@[elab_as_elim] theorem to_ro (c : Cells C H p A last going rounds waiting cs) (l : List Int) (h : ∀ H', Fra (own p A) H H' → Cells C H' p A last going l waiting cs → Q H') : Q (upd H A.ro (.lst (l.map V.int))) :=
  h _ (Fra.put (memA p A).2.2.1) (c.putRo l)
@[elab_as_elim] theorem to_wa (c : Cells C H p A last going rounds waiting cs) (l : List Int) (h : ∀ H', Fra (own p A) H H' → Cells C H' p A last going rounds l cs → Q H') : Q (upd H A.wa (.lst (l.map V.int))) :=
  h _ (Fra.put (memA p A).2.2.2.1) (c.putWa l)
@[elab_as_elim] theorem to_ca (c : Cells C H p A last going rounds waiting cs) (l : List V) (h : ∀ H', Fra (own p A) H H' → Cells C H' p A last going rounds waiting l → (∀ b o, b ≠ A.ca → H b = some o → H' b = some o) → Q H') : Q (upd H A.ca (.lst l)) :=
  h _ (Fra.put (memA p A).2.2.2.2) (c.putCa l) fun b o n e => by rw [upd_ne n]; exact e
@[elab_as_elim] theorem to_go (c : Cells C H p A last going rounds waiting cs) (dx : Addr) (g : Int) (h : ∀ H', Fra (own p A) H H' → Cells C H' p A last g rounds waiting cs → Q H') : Q (upd H p (.ins C dx (evF A g))) :=
  h _ (Fra.put (memA p A).1) (c.putGo g)
end
theorem Fra.le {S S' : List Addr} {H H' : Hp} (f : Fra S' H H') (sub : ∀ a ∈ S', a ∈ S) : Same (Song.off S H) H' := fun b o h => by
  obtain ⟨q, h⟩ := off_some h
  exact f b o (fun z => q (sub b z)) h
theorem Cells.dom {C : Addr} {H H' : Hp} {p : Addr} {A : Ad} {last : List Int} {going : Int} {rounds waiting : List Int} {cs : List V} {S : List Addr} (c : Cells C H' p A last going rounds waiting cs) (f : Fra (own p A) H H')
    (d : ∀ a ∈ S, ∃ o, H a = some o) : ∀ a ∈ S, ∃ o, H' a = some o := fun a ha => by
  by_cases q : a ∈ own p A
  · unfold own at q
    simp only [List.mem_cons, List.not_mem_nil, or_false] at q
    obtain ⟨dx, hp⟩ := c.pp
    rcases q with e | e | e | e | e
    · rw [e]; exact ⟨_, hp⟩
    · rw [e]; exact ⟨_, c.la⟩
    · rw [e]; exact ⟨_, c.ro⟩
    · rw [e]; exact ⟨_, c.wa⟩
    · rw [e]; exact ⟨_, c.ca⟩
  · obtain ⟨o, h⟩ := d a ha
    exact ⟨o, f a o q h⟩
theorem ixN_of {n : Nat} {s : Int} (h0 : 0 ≤ s) (h1 : s < (n : Int)) : ixN n s = some s.toNat := by
  unfold ixN
  rw [if_pos h0, if_pos h1]
theorem areS_len {ss : List Int} {m : Int} (h : areSingers ss m = true) : 1 ≤ ss.length ∧ ss.length ≤ 3 ∧ (∀ s ∈ ss, 0 ≤ s ∧ s < m) ∧ rising ss = true := by
  unfold areSingers at h
  simp only [Bool.and_eq_true, decide_eq_true_eq, List.all_eq_true] at h
  exact ⟨h.1.1.1, h.1.1.2, h.1.2, h.2⟩
theorem snoc_ints (ns : List Int) (n : Int) : (ns ++ [n]).map V.int = ns.map V.int ++ [V.int n] := by rw [List.map_append]; rfl
theorem lt_line {n : Nat} (h : n ≤ 1000) : n < sizeLine := Nat.lt_of_le_of_lt h (by decide)
section
variable {P : Program} {w : World} {K : PySem.W.Frag} {mg : Str → Option Value} {base : Heap}
theorem sc_Evening_wish : FnScope ["self", "singers", "song", "number", "singer"] ["self", "singers"] (defScope s_Evening_wish) := ⟨rfl, rfl, rfl, by decide +kernel, rfl, by decide +kernel, by decide +kernel⟩
def sp_wish (K : PySem.W.Frag) : Sp := fun vs H Q _ => ∃ (S : List Addr) (p a : Addr) (A : Ad) (st : EvS) (ss : List Int), vs = [.ref p, .ref a] ∧ Ev K S H p A st ∧ EvOk st ∧ st.tale.length < 900 ∧ SqL K (off (own p A) H) a (ss.map V.int) ∧
  areSingers ss st.last.length = true ∧ st.rounds.length < 24 ∧
  ∀ H' t, Fra (own p A) H H' → Ev K S H' p A (st.wish ss) → H t = none → H' t = some (.tup [.int st.rounds.length, .int (st.num ss)]) → Q (.ref t) H'
theorem me_Evening_wish (T : Tx K mg) : Me P w K mg base (He.ga K "Evening") "wish" 4 (sp_wish K) := by
  obtain ⟨fd, F⟩ := T.d_Evening_wish
  refine ⟨_, fd, _, F.ok (CX := CX0) sc_Evening_wish (fun vs H Q E h => ?_) (fun cdv A outer s H vs Q E hr h => ?_), T.cls_Evening, T.me_Evening_wish, F.bindsN fun _ _ _ _ _ _ us hl => match us, hl with | [_, _], _ => rfl⟩
  · obtain ⟨S, p, a, A, st, ss, rfl, _⟩ := h; rfl
  · obtain ⟨S, p, a, A', st, ss, rfl, ev, ok, hlt, hs, hA, h24, q⟩ := h
    obtain ⟨⟨cs, c, hq⟩, sub, dom, few⟩ := ev
    obtain ⟨s1, s3, sin, _⟩ := areS_len hA
    have hsH : SqL K H a (ss.map V.int) := (off_le _ H).seq hs
    have idS : ∀ x ∈ own p A', x ∈ own p A' := fun _ h => h
    refine ⟨_, PSs.nox (pss_cons (ps_if (pt_not (pt_val (pe_fn (fn_are_singers T) (hr.mono (by decide)) (by rfl) (pa_cons (pv 1) (pa_cons (pe_callB (show CallR _ _ (rLenQ K) from call_len_seq) (by rfl) T.len (by decide +kernel) (pa_cons (show PE _ _ (tFld K _ _) from pe_fld (pv 0) rfl) pa_nil)) pa_nil))))) (pss_one ps_never) pss_nil)
      (pss_cons (ps_if (pt_cmpR op_eq (pe_callB (show CallR _ _ (rLenQ K) from call_len_seq) (by rfl) T.len (by decide +kernel) (pa_cons (show PE _ _ (tFld K _ _) from pe_fld (pv 0) rfl) pa_nil)) (pe_gi T.c_MOST_SONGS (by rfl)) (nomark _)) (pss_one ps_never) pss_nil)
      (pss_cons (ps_par (i := 2) (j := 3) (by rfl) sc_Evening_wish.nd rfl rfl (by decide) rfl rfl (pa_cons (pe_callB (show CallR _ _ (rLenQ K) from call_len_seq) (by rfl) T.len (by decide +kernel) (pa_cons (show PE _ _ (tFld K _ _) from pe_fld (pv 0) rfl) pa_nil)) (pa_cons (pe_fn (fn_round_for T) (hr.mono (by decide)) (by rfl) (pa_cons (show PE _ _ (tFld K _ _) from pe_fld (pv 0) rfl) (pa_cons (show PE _ _ (tFld K _ _) from pe_fld (pv 0) rfl) (pa_cons (pv 1) pa_nil)))) pa_nil)) (by rfl))
      (pss_cons (ps_expr (show PE _ _ (tBM K _ _ _ _) from pe_bm PySem.F.plainAttrs_list PySem.F.slot_list_append PySem.F.type_list_append mt_append (show PE _ _ (tFld K _ _) from pe_fld (pv 0) rfl) (pa_cons (pv 3) pa_nil)))
      (pss_cons (ps_expr (show PE _ _ (tBM K _ _ _ _) from pe_bm PySem.F.plainAttrs_list PySem.F.slot_list_append PySem.F.type_list_append mt_append (show PE _ _ (tFld K _ _) from pe_fld (pv 0) rfl) (pa_cons (pv 2) pa_nil)))
      (pss_cons (ps_for PassesOwn.never rfl (show PI _ _ _ (iList K _) from pi_list (pv 1)) (pg_name (i := 4) sc_Evening_wish.nd rfl (by first | exact Or.inl rfl | exact Or.inr rfl))
      (pss_one (ps_asg (pv 3) (pg_sub (show PE _ _ (tFld K _ _) from pe_fld (pv 0) rfl) (pv 4) set_list))))
      (pss_cons (ps_expr (show PE _ _ (tBM K _ _ _ _) from pe_bm PySem.F.plainAttrs_list PySem.F.slot_list_append PySem.F.type_list_append mt_append (show PE _ _ (tFld K _ _) from pe_fld (pv 0) rfl) (pa_cons (pe_tup (pa_cons pe_str (pa_cons (pe_callTy (show CallR _ _ (rListO K) from call_list_of) (by rfl) T.list (by decide +kernel) (pa_cons (pv 1) pa_nil)) (pa_cons (pv 2) (pa_cons (pv 3) pa_nil))))) pa_nil)))
      (pss_one (ps_ret (pe_tup (pa_cons (pv 2) (pa_cons (pv 3) pa_nil)))))))))))), ?_⟩
    obtain ⟨dx, hp⟩ := c.pp
    refine ⟨_, rfl, _, rfl, p, _, dx, _, _, rfl, hp, T.cls_Evening, T.na_Evening_last, evF_last _ _, A'.la, _, rfl, .inl (SqL.of c.la), a, ss, _, rfl, hsH, by omega, fun H1 t1 => ?_⟩
    rw [List.length_map, hA]
    refine ⟨_, rfl, iteF ?_⟩
    have c1 := c.mono t1
    have hp1 := t1 _ _ hp
    refine ⟨_, rfl, p, _, dx, _, _, rfl, hp1, T.cls_Evening, T.na_Evening_rounds, evF_rounds _ _, A'.ro, _, rfl, .inl (SqL.of c1.ro), rfl, _, rfl, ?_⟩
    rw [List.length_map, decide_eq_false (by intro z; injection z; omega)]
    refine iteF ?_
    refine ⟨_, rfl, p, _, dx, _, _, rfl, hp1, T.cls_Evening, T.na_Evening_rounds, evF_rounds _ _, A'.ro, _, rfl, .inl (SqL.of c1.ro), ?_⟩
    rw [List.length_map]
    refine ⟨_, rfl, p, _, dx, _, _, rfl, hp1, T.cls_Evening, T.na_Evening_last, evF_last _ _, _, rfl, p, _, dx, _, _, rfl, hp1, T.cls_Evening, T.na_Evening_going, evF_going _ _, _, rfl,
      A'.la, a, st.last, ss, st.going, rfl, SqL.of c1.la, t1.seq hsH, sin, (fun e => by rw [e] at s1; simp at s1), by omega, fun H2 t2 => ?_⟩
    have c2 := c1.mono t2
    have t12 := t1.trans t2
    refine ⟨_, _, rfl, ?_⟩
    have hp2 := t2 _ _ hp1
    refine ⟨_, rfl, p, _, dx, _, _, rfl, hp2, T.cls_Evening, T.na_Evening_rounds, evF_rounds _ _, .inl ⟨rfl, _, SqL.of c2.ro⟩, _, rfl, A'.ro, _, _, rfl, rfl, c2.ro, lt_line (by rw [List.length_map]; omega), ?_⟩
    rw [← snoc_ints]
    refine to_ro c2 _ fun H3 f3 c3 => ?_
    obtain ⟨dx3, hp3⟩ := c3.pp
    refine ⟨_, rfl, p, _, dx3, _, _, rfl, hp3, T.cls_Evening, T.na_Evening_waiting, evF_waiting _ _, .inl ⟨rfl, _, SqL.of c3.wa⟩, _, rfl, A'.wa, _, _, rfl, rfl, c3.wa, lt_line (by rw [List.length_map]; have := ok.w24; omega), ?_⟩
    rw [← snoc_ints]
    refine to_wa c3 _ fun H4 f4 c4 => ?_
    have fr4 : Fra (own p A') H H4 := ((Fra.of t12).trans f3).trans f4
    refine ⟨_, rfl, a, rfl, ⟨_, (fr4.le idS).seq hs⟩, for_list (K := K) (a := a) (xs := ss.map V.int)
      (fun i σ H' => (∃ x, σ = [some (.ref p), some (.ref a), some (.int st.rounds.length), some (.int (st.num ss)), x]) ∧ Fra (own p A') H H' ∧
        Cells (He.ga K "Evening") H' p A' (setAll st.last (ss.take i) (st.num ss)) st.going (st.rounds ++ [st.num ss]) (st.waiting ++ [(st.rounds.length : Int)]) cs) ⟨⟨_, rfl⟩, fr4, c4⟩ ?_ ?_ ?_⟩
    · intro i σ H' _ h
      exact (h.2.1.le idS).seq hs
    · rintro i x σ H' hx ⟨⟨y, rfl⟩, fr, ci⟩
      obtain ⟨s, rfl, hsi⟩ := int_at hx
      obtain ⟨h0, h1⟩ := sin s (List.mem_of_getElem? hsi)
      obtain ⟨dxi, hpi⟩ := ci.pp
      refine ⟨_, rfl, _, rfl, p, _, dxi, _, _, rfl, hpi, T.cls_Evening, T.na_Evening_last, evF_last _ _, _, rfl, A'.la, _, _, _, rfl, rfl, ci.la, ixN_of h0 (by rw [List.length_map, setAll_len]; exact h1), ?_⟩
      rw [← List.map_set]
      refine to_la ci _ fun H5 f5 c5 => ?_
      refine ⟨⟨_, rfl⟩, fr.trans f5, ?_⟩
      rw [List.take_add_one, hsi]
      show Cells _ _ _ _ (setAll st.last (ss.take i ++ [s]) _) _ _ _ _
      rw [setAll_snoc]
      exact c5
    · rintro σ H5 ⟨⟨y, rfl⟩, fr5, c5⟩
      rw [List.length_map, List.take_length] at c5
      obtain ⟨dx5, hp5⟩ := c5.pp
      refine ⟨_, rfl, p, _, dx5, _, _, rfl, hp5, T.cls_Evening, T.na_Evening_came, evF_came _ _, .inl ⟨rfl, _, SqL.of c5.ca⟩, _, rfl, a, _, rfl, .inl ((fr5.le idS).seq hs), fun b nb => ?_⟩
      refine to_new nb fun H6 s6 hb => ?_
      refine ⟨_, rfl, _, rfl, by show 4 ≤ sizeLine; decide, fun t nt => ?_⟩
      refine to_new nt fun H7 s7 ht => ?_
      have c7 := c5.mono (s6.trans s7)
      have fr7 : Fra (own p A') H H7 := fr5.trans (Fra.of (s6.trans s7))
      refine ⟨A'.ca, _, _, rfl, rfl, c7.ca, lt_line (by rw [hq.len]; omega), ?_⟩
      refine to_ca c7 _ fun H8 f8 c8 kp => ?_
      have fr8 : Fra (own p A') H H8 := fr7.trans f8
      refine ⟨_, rfl, _, rfl, by show 2 ≤ sizeLine; decide, fun u nu => ?_⟩
      refine to_new nu fun H9 s9 hu => ?_
      have dom5 := c5.dom fr5 dom
      have dom6 := dom_same s6 dom5
      have bS : b ∉ S := new_out dom5 nb
      have tS : t ∉ S := new_out dom6 nt
      have fr9 : Fra (own p A') H H9 := fr8.trans (Fra.of s9)
      refine q H9 u fr9 ⟨⟨_, c8.mono s9, ?_⟩, sub, dom_same s9 (c8.dom fr8 dom), ?_⟩ ?_ hu
      · refine Parts.snoc ?_ (hq.mono (Fra.off (fr9.mono sub)))
        have nca : ∀ x : Addr, x ∉ S → x ≠ A'.ca := fun x hx e => hx (by rw [e]; exact sub _ (memA p A').2.2.2.2)
        exact ⟨b, by rw [off_out tS]; exact s9 _ _ (kp _ _ (nca t tS) ht), by rw [off_out bS]; exact s9 _ _ (kp _ _ (nca b bS) (s7 _ _ hb))⟩
      · show (st.tale ++ [_]).length ≤ 900
        rw [List.length_append, List.length_singleton]; omega
      · have uS : u ∉ S := new_out (c8.dom fr8 dom) nu
        cases e : H u with
        | none => rfl
        | some o => rw [fr8 u o (fun z => uS (sub u z)) e] at nu; cases nu
end
end Song

/-! ### Ev6: sing, withdraw, waits, tale -/
namespace Song
open PySem L2
theorem eqv_nil (ns : List Int) : PyData.eqv (.list (ns.map PyData.int)) (.list []) = ns.isEmpty := by
  cases ns with
  | nil => rfl
  | cons a r => rfl
theorem shp_nil : Shp 1 (.list []) := shp_list (k := 0) fun x hx => by cases hx
theorem Ev.free {K : PySem.W.Frag} {S : List Addr} {H H' : Hp} {p : Addr} {A : Ad} {st : EvS} {u : Addr} (ev : Ev K S H p A st) (f : Fra (own p A) H H') (d : ∀ a ∈ S, ∃ o, H' a = some o) (nu : H' u = none) : H u = none := by
  have uS : u ∉ S := new_out d nu
  cases e : H u with
  | none => rfl
  | some o => rw [f u o (fun z => uS (ev.sub u z)) e] at nu; cases nu
section
variable {P : Program} {w : World} {K : PySem.W.Frag} {mg : Str → Option Value} {base : Heap}
theorem sc_Evening_sing : FnScope ["self", "turns", "song"] ["self"] (defScope s_Evening_sing) := ⟨rfl, rfl, rfl, by decide +kernel, rfl, by decide +kernel, by decide +kernel⟩
def sp_sing (K : PySem.W.Frag) : Sp := fun vs H Q _ => ∃ (S : List Addr) (p : Addr) (A : Ad) (st : EvS), vs = [.ref p] ∧ Ev K S H p A st ∧ EvOk st ∧ st.tale.length < 900 ∧
  ∀ H', Fra (own p A) H H' → Ev K S H' p A st.sing → Q (optV st.next) H'
theorem me_Evening_sing (T : Tx K mg) : Me P w K mg base (He.ga K "Evening") "sing" 2 (sp_sing K) := by
  obtain ⟨fd, F⟩ := T.d_Evening_sing
  refine ⟨_, fd, _, F.ok (CX := CX0) sc_Evening_sing (fun vs H Q E h => ?_) (fun cdv A outer s H vs Q E hr h => ?_), T.cls_Evening, T.me_Evening_sing, F.bindsN fun _ _ _ _ _ _ us hl => match us, hl with | [_], _ => rfl⟩
  · obtain ⟨S, p, A, st, rfl, _⟩ := h; rfl
  · obtain ⟨S, p, A', st, rfl, ev, ok, hlt, q⟩ := h
    obtain ⟨⟨cs, c, hq⟩, sub, dom, few⟩ := id ev
    refine ⟨_, PSs.nox (pss_cons (ps_set (i := 1) sc_Evening_sing.nd rfl (by first | exact Or.inl rfl | exact Or.inr rfl) (pe_fn (fn_in_turn T) (hr.mono (by decide)) (by rfl) (pa_cons (show PE _ _ (tFld K _ _) from pe_fld (pv 0) rfl) (pa_cons (show PE _ _ (tFld K _ _) from pe_fld (pv 0) rfl) pa_nil))))
      (pss_cons (ps_set (i := 2) sc_Evening_sing.nd rfl (by first | exact Or.inl rfl | exact Or.inr rfl) (pe_ifExp (pt_cmpR (show OpR _ _ (rNeD K) from op_neD hr.units) (pv 1) (pe_lst pa_nil) (nomark _)) (pe_ix (show IxR _ (rIxL K) from ix_list) (pv 1) pe_int (fun _ _ => rfl)) pe_non))
      (pss_cons (ps_if (pt_cmpR op_notN (pv 2) pe_non (nomark _)) (pss_cons (ps_expr (show PE _ _ (tBM K _ _ _ _) from pe_bm PySem.F.plainAttrs_list PySem.F.slot_list_remove PySem.F.type_list_remove mt_remove (show PE _ _ (tFld K _ _) from pe_fld (pv 0) rfl) (pa_cons (pv 2) pa_nil)))
      (pss_one (show PS _ _ (sFld K _ _ _) from ps_fld (pv 0) (pe_ix (show IxR _ (rIxL K) from ix_list) (show PE _ _ (tFld K _ _) from pe_fld (pv 0) rfl) (pv 2) (fun _ _ => rfl)) rfl))) pss_nil)
      (pss_cons (ps_expr (show PE _ _ (tBM K _ _ _ _) from pe_bm PySem.F.plainAttrs_list PySem.F.slot_list_append PySem.F.type_list_append mt_append (show PE _ _ (tFld K _ _) from pe_fld (pv 0) rfl) (pa_cons (pe_tup (pa_cons pe_str (pa_cons (pv 2) pa_nil))) pa_nil)))
      (pss_one (ps_ret (pv 2))))))), ?_⟩
    obtain ⟨dx, hp⟩ := c.pp
    refine ⟨_, rfl, p, _, dx, _, _, rfl, hp, T.cls_Evening, T.na_Evening_rounds, evF_rounds _ _, _, rfl, p, _, dx, _, _, rfl, hp, T.cls_Evening, T.na_Evening_waiting, evF_waiting _ _,
      A'.ro, A'.wa, st.rounds, st.waiting, rfl, SqL.of c.ro, SqL.of c.wa, ok.inb, by have := ok.w24; omega, fun l H1 nl s1 hl => ?_⟩
    have e0 : inTurn st.rounds st.waiting = st.queue := rfl
    rw [e0] at hl
    refine ⟨_, rfl, Nat.zero_le _, fun l2 nl2 => ?_⟩
    refine to_new nl2 fun H2 s2 hl2 => ?_
    refine ⟨_, _, dp_ints (SqL.of (s2 _ _ hl)), .lst (SqL.of hl2) .nil, (shp_ints _).ok, shp_nil.ok, _, rfl, ?_⟩
    rw [eqv_nil]
    have c2 := c.mono (s1.trans s2)
    have fr2 : Fra (own p A') H H2 := Fra.of (s1.trans s2)
    obtain ⟨dx2, hp2⟩ := c2.pp
    cases e : st.queue with
    | nil =>
      have en : st.next = none := by unfold EvS.next; rw [e]; rfl
      have es : st.sing = { st with tale := st.tale ++ [.sing none] } := by unfold EvS.sing; rw [en]
      refine iteF ⟨_, rfl, rfl, _, rfl, iteF ?_⟩
      refine ⟨_, rfl, p, _, dx2, _, _, rfl, hp2, T.cls_Evening, T.na_Evening_came, evF_came _ _, .inl ⟨rfl, _, SqL.of c2.ca⟩, _, rfl, by show 2 ≤ sizeLine; decide, fun t nt => ?_⟩
      refine to_new nt fun H3 s3 ht => ?_
      have c3 := c2.mono s3
      refine ⟨A'.ca, _, _, rfl, rfl, c3.ca, lt_line (by rw [hq.len]; omega), ?_⟩
      refine to_ca c3 _ fun H4 f4 c4 kp => ?_
      have fr4 : Fra (own p A') H H4 := (fr2.trans (Fra.of s3)).trans f4
      refine ⟨_, rfl, ?_⟩
      have tS : t ∉ S := new_out (c2.dom fr2 dom) nt
      rw [en, es] at q
      refine q H4 fr4 ⟨⟨_, c4, Parts.snoc ?_ (hq.mono (Fra.off (fr4.mono sub)))⟩, sub, c4.dom fr4 dom, ?_⟩
      · show off S H4 t = _
        rw [off_out tS]
        exact kp _ _ (fun z => tS (by rw [z]; exact sub _ (memA p A').2.2.2.2)) ht
      · show (st.tale ++ [_]).length ≤ 900
        rw [List.length_append, List.length_singleton]; omega
    | cons x r =>
      have en : st.next = some x := by unfold EvS.next; rw [e]; rfl
      have hx := EvS.next_mem en
      obtain ⟨h0, h1⟩ := ok.inb x hx
      obtain ⟨j, j1, j2, j3⟩ := erase_at hx
      rw [e] at hl
      refine iteT ⟨_, rfl, l, _, _, _, rfl, rfl, SqL.of (s2 _ _ hl), atI_nat (j := 0) rfl, ?_⟩
      refine ⟨_, rfl, rfl, _, rfl, iteT ?_⟩
      refine ⟨_, rfl, p, _, dx2, _, _, rfl, hp2, T.cls_Evening, T.na_Evening_waiting, evF_waiting _ _, .inl ⟨rfl, _, SqL.of c2.wa⟩, _, rfl, A'.wa, _, _, j, rfl, rfl, c2.wa, j1, j2, ?_⟩
      rw [j3]
      refine to_wa c2 _ fun H3 f3 c3 => ?_
      obtain ⟨dx3, hp3⟩ := c3.pp
      refine ⟨_, rfl, p, _, dx3, _, _, rfl, hp3, T.cls_Evening, T.na_Evening_rounds, evF_rounds _ _, _, rfl, A'.ro, _, _, _, rfl, rfl, SqL.of c3.ro, at_int h0 h1,
        _, rfl, p, _, dx3, _, rfl, hp3, T.cls_Evening, T.na_Evening_going, by show 5 < 1000; decide, ?_⟩
      rw [evF_put]
      refine to_go c3 dx3 _ fun H4 f4 c4 => ?_
      obtain ⟨dx4, hp4⟩ := c4.pp
      have fr4 : Fra (own p A') H H4 := (fr2.trans f3).trans f4
      refine ⟨_, rfl, p, _, dx4, _, _, rfl, hp4, T.cls_Evening, T.na_Evening_came, evF_came _ _, .inl ⟨rfl, _, SqL.of c4.ca⟩, _, rfl, by show 2 ≤ sizeLine; decide, fun t nt => ?_⟩
      refine to_new nt fun H5 s5 ht => ?_
      have c5 := c4.mono s5
      refine ⟨A'.ca, _, _, rfl, rfl, c5.ca, lt_line (by rw [hq.len]; omega), ?_⟩
      refine to_ca c5 _ fun H6 f6 c6 kp => ?_
      have fr6 : Fra (own p A') H H6 := (fr4.trans (Fra.of s5)).trans f6
      refine ⟨_, rfl, ?_⟩
      have tS : t ∉ S := new_out (c4.dom fr4 dom) nt
      have es : st.sing = { st with waiting := st.waiting.erase x, going := st.rounds.getD x.toNat 0, tale := st.tale ++ [.sing (some x)] } := by unfold EvS.sing; rw [en]
      rw [en, es] at q
      refine q H6 fr6 ⟨⟨_, c6, Parts.snoc ?_ (hq.mono (Fra.off (fr6.mono sub)))⟩, sub, c6.dom fr6 dom, ?_⟩
      · show off S H6 t = _
        rw [off_out tS]
        exact kp _ _ (fun z => tS (by rw [z]; exact sub _ (memA p A').2.2.2.2)) ht
      · show (st.tale ++ [_]).length ≤ 900
        rw [List.length_append, List.length_singleton]; omega
theorem sc_Evening_look_at : FnScope ["self", "song"] ["self", "song"] (defScope s_Evening_look_at) := ⟨rfl, rfl, rfl, by decide +kernel, rfl, by decide +kernel, by decide +kernel⟩
def sp_look_at (K : PySem.W.Frag) : Sp := fun vs H Q _ => ∃ (S : List Addr) (p : Addr) (A : Ad) (st : EvS) (n : Int), vs = [.ref p, .int n] ∧ Ev K S H p A st ∧ n ∈ st.waiting ∧ Q .non H
theorem inV_ints (n : Int) (ns : List Int) : inV (.int n) (ns.map V.int) = decide (n ∈ ns) := by
  unfold inV
  rw [List.any_map]
  induction ns with
  | nil => rfl
  | cons a r ih =>
    rw [List.any_cons, ih]
    show ((a == n) || _) = _
    by_cases e : a = n
    · subst e; simp
    · have : n ≠ a := fun z => e z.symm
      simp [e, this]
theorem flat_ints (ns : List Int) : (ns.map V.int).all flatV = true := by
  rw [List.all_map, List.all_eq_true]; intro x _; rfl
theorem me_Evening_look_at (T : Tx K mg) : Me P w K mg base (He.ga K "Evening") "look_at" 2 (sp_look_at K) := by
  obtain ⟨fd, F⟩ := T.d_Evening_look_at
  refine ⟨_, fd, _, F.ok (CX := CX0) sc_Evening_look_at (fun vs H Q E h => ?_) (fun cdv A outer s H vs Q E hr h => ?_), T.cls_Evening, T.me_Evening_look_at, F.bindsN fun _ _ _ _ _ _ us hl => match us, hl with | [_, _], _ => rfl⟩
  · obtain ⟨S, p, A, st, n, rfl, _⟩ := h; rfl
  · obtain ⟨S, p, A', st, n, rfl, ev, hn, q⟩ := h
    obtain ⟨⟨cs, c, hq⟩, sub, dom, few⟩ := ev
    refine ⟨_, PSs.nox (pss_one (ps_if (PW.pt (pw_or (pt_not (pt_val (pe_fn (fn_is_whole T) (hr.mono (by decide)) (by rfl) (pa_cons (pv 1) pa_nil)))) (pw_or1 (pt_cmpR (show OpR _ _ (rIn K true) from op_notIn_seq) (pv 1) (show PE _ _ (tFld K _ _) from pe_fld (pv 0) rfl) (by rfl))))) (pss_one ps_never) pss_nil)), ?_⟩
    obtain ⟨dx, hp⟩ := c.pp
    refine ⟨_, rfl, _, _, rfl, kd_int n, _, rfl, iteF ?_⟩
    refine ⟨_, rfl, _, rfl, p, _, dx, _, _, rfl, hp, T.cls_Evening, T.na_Evening_waiting, evF_waiting _ _, A'.wa, _, rfl, .inl (SqL.of c.wa), rfl, flat_ints _, _, rfl, ?_⟩
    rw [inV_ints, decide_eq_true hn]
    exact iteF q
theorem sc_Evening_withdraw : FnScope ["self", "song"] ["self", "song"] (defScope s_Evening_withdraw) := ⟨rfl, rfl, rfl, by decide +kernel, rfl, by decide +kernel, by decide +kernel⟩
def sp_withdraw (K : PySem.W.Frag) : Sp := fun vs H Q _ => ∃ (S : List Addr) (p : Addr) (A : Ad) (st : EvS) (n : Int), vs = [.ref p, .int n] ∧ Ev K S H p A st ∧ EvOk st ∧ st.tale.length < 900 ∧ n ∈ st.waiting ∧
  ∀ H', Fra (own p A) H H' → Ev K S H' p A (st.out n) → Q (.int (st.out n).waiting.length) H'
theorem me_Evening_withdraw (T : Tx K mg) : Me P w K mg base (He.ga K "Evening") "withdraw" 3 (sp_withdraw K) := by
  obtain ⟨fd, F⟩ := T.d_Evening_withdraw
  refine ⟨_, fd, _, F.ok (CX := CX0) sc_Evening_withdraw (fun vs H Q E h => ?_) (fun cdv A outer s H vs Q E hr h => ?_), T.cls_Evening, T.me_Evening_withdraw, F.bindsN fun _ _ _ _ _ _ us hl => match us, hl with | [_, _], _ => rfl⟩
  · obtain ⟨S, p, A, st, n, rfl, _⟩ := h; rfl
  · obtain ⟨S, p, A', st, n, rfl, ev, ok, hlt, hn, q⟩ := h
    obtain ⟨⟨cs, c, hq⟩, sub, dom, few⟩ := id ev
    refine ⟨_, PSs.nox (pss_cons (ps_expr (pe_me (me_Evening_look_at T) (hr.mono (by decide)) (pv 0) (pa_cons (pv 1) pa_nil)))
      (pss_cons (ps_expr (show PE _ _ (tBM K _ _ _ _) from pe_bm PySem.F.plainAttrs_list PySem.F.slot_list_remove PySem.F.type_list_remove mt_remove (show PE _ _ (tFld K _ _) from pe_fld (pv 0) rfl) (pa_cons (pv 1) pa_nil)))
      (pss_cons (ps_expr (show PE _ _ (tBM K _ _ _ _) from pe_bm PySem.F.plainAttrs_list PySem.F.slot_list_append PySem.F.type_list_append mt_append (show PE _ _ (tFld K _ _) from pe_fld (pv 0) rfl) (pa_cons (pe_tup (pa_cons pe_str (pa_cons (pv 1) pa_nil))) pa_nil)))
      (pss_one (ps_ret (pe_callB (show CallR _ _ (rLenQ K) from call_len_seq) (by rfl) T.len (by decide +kernel) (pa_cons (show PE _ _ (tFld K _ _) from pe_fld (pv 0) rfl) pa_nil))))))), ?_⟩
    obtain ⟨dx, hp⟩ := c.pp
    obtain ⟨j, j1, j2, j3⟩ := erase_at hn
    refine ⟨_, rfl, p, dx, _, rfl, hp, evF_no _ _ (by decide +kernel), _, rfl, S, p, A', st, n, rfl, ev, hn, ?_⟩
    refine ⟨_, rfl, p, _, dx, _, _, rfl, hp, T.cls_Evening, T.na_Evening_waiting, evF_waiting _ _, .inl ⟨rfl, _, SqL.of c.wa⟩, _, rfl, A'.wa, _, _, j, rfl, rfl, c.wa, j1, j2, ?_⟩
    rw [j3]
    refine to_wa c _ fun H3 f3 c3 => ?_
    obtain ⟨dx3, hp3⟩ := c3.pp
    refine ⟨_, rfl, p, _, dx3, _, _, rfl, hp3, T.cls_Evening, T.na_Evening_came, evF_came _ _, .inl ⟨rfl, _, SqL.of c3.ca⟩, _, rfl, by show 2 ≤ sizeLine; decide, fun t nt => ?_⟩
    refine to_new nt fun H5 s5 ht => ?_
    have c5 := c3.mono s5
    refine ⟨A'.ca, _, _, rfl, rfl, c5.ca, lt_line (by rw [hq.len]; omega), ?_⟩
    refine to_ca c5 _ fun H6 f6 c6 kp => ?_
    have fr6 : Fra (own p A') H H6 := (f3.trans (Fra.of s5)).trans f6
    obtain ⟨dx6, hp6⟩ := c6.pp
    refine ⟨_, rfl, p, _, dx6, _, _, rfl, hp6, T.cls_Evening, T.na_Evening_waiting, evF_waiting _ _, A'.wa, _, rfl, .inl (SqL.of c6.wa), ?_⟩
    rw [List.length_map]
    have tS : t ∉ S := new_out (c3.dom f3 dom) nt
    refine q H6 fr6 ⟨⟨_, c6, Parts.snoc ?_ (hq.mono (Fra.off (fr6.mono sub)))⟩, sub, c6.dom fr6 dom, ?_⟩
    · show off S H6 t = _
      rw [off_out tS]
      exact kp _ _ (fun z => tS (by rw [z]; exact sub _ (memA p A').2.2.2.2)) ht
    · show (st.tale ++ [_]).length ≤ 900
      rw [List.length_append, List.length_singleton]; omega
theorem sc_Evening_waits : FnScope ["self"] ["self"] (defScope s_Evening_waits) := ⟨rfl, rfl, rfl, by decide +kernel, rfl, by decide +kernel, by decide +kernel⟩
def sp_waits (K : PySem.W.Frag) : Sp := fun vs H Q _ => ∃ (S : List Addr) (p : Addr) (A : Ad) (st : EvS), vs = [.ref p] ∧ Ev K S H p A st ∧ EvOk st ∧
  ∀ l H', H l = none → Same H H' → H' l = some (.lst (st.queue.map V.int)) → Q (.ref l) H'
theorem me_Evening_waits (T : Tx K mg) : Me P w K mg base (He.ga K "Evening") "waits" 2 (sp_waits K) := by
  obtain ⟨fd, F⟩ := T.d_Evening_waits
  refine ⟨_, fd, _, F.ok (CX := CX0) sc_Evening_waits (fun vs H Q E h => ?_) (fun cdv A outer s H vs Q E hr h => ?_), T.cls_Evening, T.me_Evening_waits, F.bindsN fun _ _ _ _ _ _ us hl => match us, hl with | [_], _ => rfl⟩
  · obtain ⟨S, p, A, st, rfl, _⟩ := h; rfl
  · obtain ⟨S, p, A', st, rfl, ev, ok, q⟩ := h
    obtain ⟨⟨cs, c, hq⟩, sub, dom, few⟩ := ev
    obtain ⟨dx, hp⟩ := c.pp
    refine ⟨_, PSs.nox (pss_one (ps_ret (pe_fn (fn_in_turn T) (hr.mono (by decide)) (by rfl) (pa_cons (show PE _ _ (tFld K _ _) from pe_fld (pv 0) rfl) (pa_cons (show PE _ _ (tFld K _ _) from pe_fld (pv 0) rfl) pa_nil))))), ?_⟩
    exact ⟨_, rfl, p, _, dx, _, _, rfl, hp, T.cls_Evening, T.na_Evening_rounds, evF_rounds _ _, _, rfl, p, _, dx, _, _, rfl, hp, T.cls_Evening, T.na_Evening_waiting, evF_waiting _ _,
      A'.ro, A'.wa, st.rounds, st.waiting, rfl, SqL.of c.ro, SqL.of c.wa, ok.inb, (by have := ok.w24; omega), q⟩
/-! #### tale() -/
/-- a part told anew: the list within a wish is new to H0 -/
def PartN (H0 H : Hp) (v : V) (p : Part) : Prop := PartAt H v p ∧ ∀ ss n r, p = .wish ss n r → ∃ t b, v = .ref t ∧ H t = some (.tup [.str "wish", .ref b, .int n, .int r]) ∧ H b = some (.lst (ss.map V.int)) ∧ H0 b = none
theorem PartN.mono {H0 H H' : Hp} (s : Same H H') {v : V} {p : Part} (h : PartN H0 H v p) : PartN H0 H' v p :=
  ⟨h.1.mono s, fun ss n r e => by
    obtain ⟨t, b, h1, h2, h3, h4⟩ := h.2 ss n r e
    exact ⟨t, b, h1, s _ _ h2, s _ _ h3, h4⟩⟩
theorem nW1 : decide (V.str "sing" = V.str "wish") = false := by decide +kernel
theorem nW2 : decide (V.str "out" = V.str "wish") = false := by decide +kernel
theorem sc_Evening_tale : FnScope ["self", "one"] ["self"] (defScope s_Evening_tale) := ⟨rfl, rfl, rfl, by decide +kernel, rfl, by decide +kernel, by decide +kernel⟩
def sp_tale (K : PySem.W.Frag) : Sp := fun vs H Q _ => ∃ (S : List Addr) (p : Addr) (A : Ad) (st : EvS), vs = [.ref p] ∧ Ev K S H p A st ∧
  ∀ l H' cs, H l = none → Same H H' → H' l = some (.lst cs) → cs.length = st.tale.length → (∀ (i : Nat) v, cs[i]? = some v → ∃ q, st.tale[i]? = some q ∧ PartN H (off [l] H') v q) → Q (.ref l) H'
theorem me_Evening_tale (T : Tx K mg) : Me P w K mg base (He.ga K "Evening") "tale" 1 (sp_tale K) := by
  obtain ⟨fd, F⟩ := T.d_Evening_tale
  refine ⟨_, fd, _, F.ok (CX := CX0) sc_Evening_tale (fun vs H Q E h => ?_) (fun cdv A outer s H vs Q E hr h => ?_), T.cls_Evening, T.me_Evening_tale, F.bindsN fun _ _ _ _ _ _ us hl => match us, hl with | [_], _ => rfl⟩
  · obtain ⟨S, p, A, st, rfl, _⟩ := h; rfl
  · obtain ⟨S, p, A', st, rfl, ev, q⟩ := h
    obtain ⟨⟨cs, c, hq⟩, sub, dom, few⟩ := ev
    obtain ⟨dx, hp⟩ := c.pp
    refine ⟨_, PSs.nox (pss_one (ps_ret (pe_lc (own := [("one", 1)]) (g := (gName 1)) (tt := tYes) (by rfl) sc_Evening_tale.nd (show PI _ _ _ (iList K _) from pi_list (show PE _ _ (tFld K _ _) from pe_fld (pv 0) rfl)) (blkOk_by (by kernel_rfl)) (fun _ _ _ _ _ => (pg_name (i := 1) sc_Evening_tale.nd rfl (by first | exact Or.inl rfl | exact Or.inr rfl))) (fun _ _ _ _ _ => pts_nil) (fun _ _ _ _ _ => (pe_ifExp (pt_cmpR op_eq (pe_ix (show IxR _ (rIxT K) from ix_tup) (pv 1) pe_int (fun _ _ => rfl)) pe_str (nomark _)) (pe_tup (pa_cons (pe_ix (show IxR _ (rIxT K) from ix_tup) (pv 1) pe_int (fun _ _ => rfl)) (pa_cons (pe_callTy (show CallR _ _ (rListO K) from call_list_of) (by rfl) T.list (by decide +kernel) (pa_cons (pe_ix (show IxR _ (rIxT K) from ix_tup) (pv 1) pe_int (fun _ _ => rfl)) pa_nil)) (pa_cons (pe_ix (show IxR _ (rIxT K) from ix_tup) (pv 1) pe_int (fun _ _ => rfl)) (pa_cons (pe_ix (show IxR _ (rIxT K) from ix_tup) (pv 1) pe_int (fun _ _ => rfl)) pa_nil))))) (pv 1)))))), ?_⟩
    have hqH : Parts H cs st.tale := hq.mono (off_le S H)
    refine ⟨_, rfl, p, _, dx, _, _, rfl, hp, T.cls_Evening, T.na_Evening_came, evF_came _ _, A'.ca, rfl, ⟨_, SqL.of c.ca⟩, fun D nD => lc_all walk_list sqL_mono (SqL.of c.ca) (fun i H1 y => ∃ q, st.tale[i]? = some q ∧ PartN H H1 y q) ?_ nD (by rw [hqH.len]; omega) ?_ ?_ gname_mono⟩
    · rintro i H1 H2 y s1 ⟨q, h1, h2⟩
      exact ⟨q, h1, h2.mono s1⟩
    · rintro i x H1 H2 acc hi1 s1 hD ⟨rfl, hx⟩ k hk
      obtain ⟨part, hpt, pa⟩ := hqH.get hx
      cases x with
      | ref t =>
        cases part with
        | wish ss n r =>
          obtain ⟨b, ht, hb⟩ := pa
          have ht2 := s1 _ _ ht
          have hb2 := s1 _ _ hb
          refine ⟨rfl, _, rfl, t, _, _, _, rfl, rfl, SqT.of ht2, atI_nat (j := 0) rfl, rfl, _, rfl, ?_⟩
          rw [decide_eq_true rfl]
          refine iteT ⟨_, rfl, t, _, _, _, rfl, rfl, SqT.of ht2, atI_nat (j := 0) rfl, _, rfl, t, _, _, _, rfl, rfl, SqT.of ht2, atI_nat (j := 1) rfl, b, _, rfl, .inl (SqL.of hb2), fun b' nb => ?_⟩
          refine to_new nb fun H3 s3 hb3 => ?_
          have ht3 := s3 _ _ ht2
          refine ⟨_, rfl, t, _, _, _, rfl, rfl, SqT.of ht3, atI_nat (j := 2) rfl, _, rfl, t, _, _, _, rfl, rfl, SqT.of ht3, atI_nat (j := 3) rfl, by show 4 ≤ sizeLine; decide, fun t' nt => ?_⟩
          have hb4 : upd H3 t' (.tup [.str "wish", .ref b', .int n, .int r]) b' = some (.lst (ss.map V.int)) := (Same.new nt) _ _ hb3
          have nbD : b' ≠ D := (ne_of_none hD nb).symm
          have ntD : t' ≠ D := (ne_of_none (s3 _ _ hD) nt).symm
          have o1 : off [D] (upd H3 t' (.tup [.str "wish", .ref b', .int n, .int r])) t' = some (.tup [.str "wish", .ref b', .int n, .int r]) := by rw [off_out (by simpa using ntD)]; exact upd_same
          have o2 : off [D] (upd H3 t' (.tup [.str "wish", .ref b', .int n, .int r])) b' = some (.lst (ss.map V.int)) := by rw [off_out (by simpa using nbD)]; exact hb4
          refine hk _ _ (s3.trans (Same.new nt)) ⟨_, hpt, ⟨b', o1, o2⟩, fun ss' n' r' e => ?_⟩
          injection e with e1 e2 e3
          subst e1; subst e2; subst e3
          exact ⟨t', b', rfl, o1, o2, s1.free nb⟩
        | sing o =>
          have ht2 := s1 _ _ pa
          refine ⟨rfl, _, rfl, t, _, _, _, rfl, rfl, SqT.of ht2, atI_nat (j := 0) rfl, rfl, _, rfl, ?_⟩
          rw [nW1]
          refine iteF ⟨_, rfl, hk _ _ (Same.refl _) ⟨_, hpt, ?_, fun ss' n' r' e => by cases e⟩⟩
          show off [D] H2 t = _
          rw [off_out (by simpa using ne_of ht2 hD (by intro z; cases z))]
          exact ht2
        | out n =>
          have ht2 := s1 _ _ pa
          refine ⟨rfl, _, rfl, t, _, _, _, rfl, rfl, SqT.of ht2, atI_nat (j := 0) rfl, rfl, _, rfl, ?_⟩
          rw [nW2]
          refine iteF ⟨_, rfl, hk _ _ (Same.refl _) ⟨_, hpt, ?_, fun ss' n' r' e => by cases e⟩⟩
          show off [D] H2 t = _
          rw [off_out (by simpa using ne_of ht2 hD (by intro z; cases z))]
          exact ht2
      | _ => exact pa.elim
    · intro ys H1 s1 hD hly hy
      exact q D H1 ys nD s1 hD (by rw [hly, hqH.len]) hy
end
end Song

/-! ### Lw1: a law's draws -/
namespace Song
open PySem L2
/-! #### sizes of numbers -/
def Bits (n : Nat) (c : Int) : Prop := c.natAbs < 2 ^ n
theorem Bits.of_int {n : Nat} {c : Int} (h : Builtin.Int.intBits c ≤ n) : Bits n c := by
  unfold Builtin.Int.intBits at h
  unfold Bits
  by_cases e : c = 0
  · subst e
    exact Nat.two_pow_pos n
  · rw [if_neg (by simpa using e)] at h
    exact (Nat.log2_lt (by omega)).mp (by omega)
theorem Bits.mono {n m : Nat} {c : Int} (h : Bits n c) (hm : n ≤ m) : Bits m c := Nat.lt_of_lt_of_le h (Nat.pow_le_pow_right (by decide) hm)
theorem Bits.small {c : Int} {n : Nat} (h : c.natAbs < 2 ^ 64) (hn : 64 ≤ n) : Bits n c := Bits.mono (n := 64) h hn
theorem Bits.add {n : Nat} {a b : Int} (ha : Bits n a) (hb : Bits n b) : Bits (n + 1) (a + b) := by
  unfold Bits at *
  rw [Nat.pow_succ]
  generalize 2 ^ n = m at *
  omega
theorem Bits.mulOk {n m : Nat} {a b : Int} (ha : Bits n a) (hb : Bits m b) (h : n + m ≤ 100000000) : IntMulOk a b := by
  have f : ∀ {x : Int} {k : Nat}, Bits k x → Builtin.Int.intBits x ≤ k := fun {x k} hx => by
    unfold Builtin.Int.intBits
    split
    · omega
    · rename_i e
      have : x.natAbs ≠ 0 := by
        have : x ≠ 0 := by simpa using e
        omega
      have := (Nat.log2_lt this).mpr hx
      omega
  have h1 := f ha
  have h2 := f hb
  unfold IntMulOk
  intro z
  rw [Bool.and_eq_true] at z
  have z3 := of_decide_eq_true (show decide ((((Builtin.Int.intBits a + Builtin.Int.intBits b : Nat) : Int)) > (bitsLine : Int)) = true from z.2)
  have e : bitsLine = 134217728 := by decide
  rw [e] at z3
  omega
theorem mulS {a b : Int} (h : a.natAbs < 2 ^ 64 ∨ b.natAbs < 2 ^ 64) : IntMulOk a b := by
  rcases h with h | h
  · exact IntMulOk.of_left (intBits_le_64 (by omega) (by omega))
  · exact IntMulOk.of_right (intBits_le_64 (by omega) (by omega))
/-! #### the draws, plainly -/
def cellAt (ns : List Int) (k : Int) : Int := ns.getD k.toNat 0
def primes : List Int := [1000003, 1000033, 1000037, 1000039, 1000081, 1000099, 1000117, 1000121, 1000133, 1000151, 1000159, 1000171, 1000183, 1000187, 1000193, 1000199]
theorem primes_pos : ∀ i : Nat, i < 16 → 0 < primes.getD i 0 := by decide
def lawDraw (c k m : Int) : Int := (c * 48271 + k * 69621) % primes.getD (k % 16).toNat 0 % m
theorem lawDraw_in {c k m : Int} (h : 0 < m) : 0 ≤ lawDraw c k m ∧ lawDraw c k m < m := ⟨Int.emod_nonneg _ (by omega), Int.emod_lt_of_pos _ h⟩
def p18 : Int := 10 ^ (18 : Int).toNat
theorem p18_eq : p18 = 1000000000000000000 := by decide
def lawValue (c t : Int) : Int :=
  if p18 ≤ c then (c - p18) / 2 ^ (3 * t).toNat
  else lawDraw ((c + 977 * t) * (c + 31 * t + 5)) (t % 9 + 1) 999983 * 1000003 + lawDraw ((c + 31 * t) * (c + 7) + 977 * t) (t % 7 + 2) 1000003
theorem lawValue_nn (c t : Int) : 0 ≤ lawValue c t := by
  unfold lawValue
  split
  · exact Int.ediv_nonneg (by omega) (two_pow_nn _)
  · have h1 := (lawDraw_in (c := (c + 977 * t) * (c + 31 * t + 5)) (k := t % 9 + 1) (m := 999983) (by decide)).1
    have h2 := (lawDraw_in (c := (c + 31 * t) * (c + 7) + 977 * t) (k := t % 7 + 2) (m := 1000003) (by decide)).1
    omega
section
variable {P : Program} {w : World} {K : PySem.W.Frag} {mg : Str → Option Value} {base : Heap}
theorem sc__law_cell_at : FnScope ["_law_script", "_law_k"] ["_law_script", "_law_k"] (defScope s__law_cell_at) := ⟨rfl, rfl, rfl, by decide +kernel, rfl, by decide +kernel, by decide +kernel⟩
def sp_cell_at (K : PySem.W.Frag) : Sp := fun vs H Q _ => ∃ (a : Addr) (ns : List Int) (k : Int), vs = [.ref a, .int k] ∧ SqL K H a (ns.map V.int) ∧ 0 ≤ k ∧ Q (.int (cellAt ns k)) H
theorem fn__law_cell_at (T : Tx K mg) : Fn P w K mg base "_law_cell_at" 1 (sp_cell_at K) := by
  obtain ⟨fd, F⟩ := T.d__law_cell_at
  refine ⟨_, fd, _, F.ok (CX := CX0) sc__law_cell_at (fun vs H Q E h => ?_) (fun cdv A outer s H vs Q E hr h => ?_), T.g__law_cell_at, F.kp, F.bindsN fun _ _ _ _ _ _ us hl => match us, hl with | [_, _], _ => rfl⟩
  · obtain ⟨a, ns, k, rfl, _⟩ := h; rfl
  · obtain ⟨a, ns, k, rfl, hs, h0, q⟩ := h
    refine ⟨_, PSs.nox (pss_cons (ps_if (pt_cmpR op_lt (pv 1) (pe_callB (show CallR _ _ (rLenQ K) from call_len_seq) (by rfl) T.len (by decide +kernel) (pa_cons (pv 0) pa_nil)) (nomark _)) (pss_one (ps_ret (pe_ix (show IxR _ (rIxL K) from ix_list) (pv 0) (pv 1) (fun _ _ => rfl)))) pss_nil)
      (pss_one (ps_ret pe_int))), ?_⟩
    refine ⟨_, rfl, _, rfl, a, _, rfl, .inl hs, _, _, rfl, rfl, _, rfl, ?_⟩
    rw [List.length_map]
    by_cases h1 : k < (ns.length : Int)
    · rw [decide_eq_true h1]
      exact iteT ⟨_, rfl, _, rfl, a, _, _, _, rfl, rfl, hs, at_int h0 h1, q⟩
    · rw [decide_eq_false h1]
      refine iteF ?_
      have e : cellAt ns k = 0 := by
        unfold cellAt
        rw [List.getD_eq_getElem?_getD, List.getElem?_eq_none (by omega)]; rfl
      rw [e] at q
      exact q
theorem sc__law_draw : FnScope ["_law_cell", "_law_k", "_law_many_here", "_law_primes"] ["_law_cell", "_law_k", "_law_many_here"] (defScope s__law_draw) := ⟨rfl, rfl, rfl, by decide +kernel, rfl, by decide +kernel, by decide +kernel⟩
def sp_draw : Sp := fun vs H Q _ => ∃ c k m : Int, vs = [.int c, .int k, .int m] ∧ 0 < m ∧ ∀ H', Same H H' → Q (.int (lawDraw c k m)) H'
theorem fn__law_draw (T : Tx K mg) : Fn P w K mg base "_law_draw" 1 sp_draw := by
  obtain ⟨fd, F⟩ := T.d__law_draw
  refine ⟨_, fd, _, F.ok (CX := CX0) sc__law_draw (fun vs H Q E h => ?_) (fun cdv A outer s H vs Q E hr h => ?_), T.g__law_draw, F.kp, F.bindsN fun _ _ _ _ _ _ us hl => match us, hl with | [_, _, _], _ => rfl⟩
  · obtain ⟨c, k, m, rfl, _⟩ := h; rfl
  · obtain ⟨c, k, m, rfl, hm, q⟩ := h
    refine ⟨_, PSs.nox (pss_cons (ps_set (i := 3) sc__law_draw.nd rfl (by first | exact Or.inl rfl | exact Or.inr rfl) (pe_tup (pa_cons pe_int (pa_cons pe_int (pa_cons pe_int (pa_cons pe_int (pa_cons pe_int (pa_cons pe_int (pa_cons pe_int (pa_cons pe_int (pa_cons pe_int (pa_cons pe_int (pa_cons pe_int (pa_cons pe_int (pa_cons pe_int (pa_cons pe_int (pa_cons pe_int (pa_cons pe_int pa_nil))))))))))))))))))
      (pss_one (ps_ret (pe_op op_mod (pe_op op_mod (pe_op op_add (pe_op op_mulO (pv 0) pe_int) (pe_op op_mulO (pv 1) pe_int)) (pe_ix (show IxR _ (rIxT K) from ix_tup) (pv 3) (pe_op op_mod (pv 1) pe_int) (fun _ _ => rfl))) (pv 2))))), ?_⟩
    have hk0 := Int.emod_nonneg k (b := 16) (by decide)
    have hk1 := Int.emod_lt_of_pos k (b := 16) (by decide)
    refine ⟨by show 16 ≤ sizeLine; decide, fun t nt => ?_⟩
    refine to_new nt fun H1 s1 ht => ?_
    refine ⟨_, rfl, _, _, rfl, rfl, mulS (.inr (by decide)), _, rfl, _, _, rfl, rfl, mulS (.inr (by decide)), _, _, rfl, rfl,
      _, rfl, _, rfl, _, _, rfl, rfl, (show (0 : Int) < 16 by decide), t, primes.map V.int, _, _, rfl, rfl, SqT.of ht, at_int (ls := primes) hk0 hk1, _, _, rfl, rfl, primes_pos _ (by omega), _, rfl, _, _, rfl, rfl, hm, q _ s1⟩
theorem sc__law_value : FnScope ["_law_cell", "_law_turn", "_law_blend"] ["_law_cell", "_law_turn"] (defScope s__law_value) := ⟨rfl, rfl, rfl, by decide +kernel, rfl, by decide +kernel, by decide +kernel⟩
def sp_value : Sp := fun vs H Q _ => ∃ c t : Int, vs = [.int c, .int t] ∧ Bits 1048600 c ∧ 0 ≤ t ∧ t ≤ 100 ∧ ∀ H', Same H H' → Q (.int (lawValue c t)) H'
theorem fn__law_value (T : Tx K mg) : Fn P w K mg base "_law_value" 2 sp_value := by
  obtain ⟨fd, F⟩ := T.d__law_value
  refine ⟨_, fd, _, F.ok (CX := CX0) sc__law_value (fun vs H Q E h => ?_) (fun cdv A outer s H vs Q E hr h => ?_), T.g__law_value, F.kp, F.bindsN fun _ _ _ _ _ _ us hl => match us, hl with | [_, _], _ => rfl⟩
  · obtain ⟨c, k, rfl, _⟩ := h; rfl
  · obtain ⟨c, t, rfl, hb, h0, h1, q⟩ := h
    refine ⟨_, PSs.nox (pss_cons (ps_if (pt_cmpR op_ge (pv 0) (pe_op op_pow pe_int pe_int) (nomark _)) (pss_one (ps_ret (pe_op op_shr (pe_op op_sub (pv 0) (pe_op op_pow pe_int pe_int)) (pe_op op_mulO pe_int (pv 1))))) pss_nil)
      (pss_cons (ps_set (i := 2) sc__law_value.nd rfl (by first | exact Or.inl rfl | exact Or.inr rfl) (pe_fn (fn__law_draw T) (hr.mono (by decide)) (by rfl) (pa_cons (pe_op op_mulO (pe_op op_add (pv 0) (pe_op op_mulO pe_int (pv 1))) (pe_op op_add (pe_op op_add (pv 0) (pe_op op_mulO pe_int (pv 1))) pe_int)) (pa_cons (pe_op op_add (pe_op op_mod (pv 1) pe_int) pe_int) (pa_cons pe_int pa_nil)))))
      (pss_one (ps_ret (pe_op op_add (pe_op op_mulO (pv 2) pe_int) (pe_fn (fn__law_draw T) (hr.mono (by decide)) (by rfl) (pa_cons (pe_op op_add (pe_op op_mulO (pe_op op_add (pv 0) (pe_op op_mulO pe_int (pv 1))) (pe_op op_add (pv 0) pe_int)) (pe_op op_mulO pe_int (pv 1))) (pa_cons (pe_op op_add (pe_op op_mod (pv 1) pe_int) pe_int) (pa_cons pe_int pa_nil))))))))), ?_⟩
    have e18 := p18_eq
    refine ⟨_, rfl, _, _, rfl, rfl, ⟨by decide, by decide, by decide⟩, _, _, rfl, rfl, _, rfl, ?_⟩
    by_cases hc : p18 ≤ c
    · have eq : lawValue c t = (c - p18) / 2 ^ (3 * t).toNat := by unfold lawValue; rw [if_pos hc]
      rw [show decide ((10 : Int) ^ (18 : Int).toNat ≤ c) = true from decide_eq_true hc]
      refine iteT ⟨_, rfl, _, _, rfl, rfl, ⟨by decide, by decide, by decide⟩, _, _, rfl, rfl, _, rfl, _, _, rfl, rfl, mulS (.inl (by decide)), _, _, rfl, rfl, (by show 0 ≤ 3 * t; omega), ?_⟩
      rw [eq] at q
      exact q _ (Same.refl _)
    · have eq : lawValue c t = lawDraw ((c + 977 * t) * (c + 31 * t + 5)) (t % 9 + 1) 999983 * 1000003 + lawDraw ((c + 31 * t) * (c + 7) + 977 * t) (t % 7 + 2) 1000003 := by unfold lawValue; rw [if_neg hc]
      rw [show decide ((10 : Int) ^ (18 : Int).toNat ≤ c) = false from decide_eq_false hc]
      have b1 : Bits 1048601 (c + 977 * t) := hb.add (Bits.small (by omega) (by decide))
      have b2 : Bits 1048601 (c + 31 * t) := hb.add (Bits.small (by omega) (by decide))
      have b3 : Bits 1048602 (c + 31 * t + 5) := b2.add (Bits.small (by omega) (by decide))
      have b4 : Bits 1048601 (c + 7) := hb.add (Bits.small (by omega) (by decide))
      refine iteF ?_
      refine ⟨_, rfl, _, rfl, _, _, rfl, rfl, mulS (.inl (by decide)), _, _, rfl, rfl, _, rfl, _, rfl, _, _, rfl, rfl, mulS (.inl (by decide)), _, _, rfl, rfl, _, _, rfl, rfl, _, _, rfl, rfl, b1.mulOk b3 (by decide),
        _, rfl, _, _, rfl, rfl, (show (0 : Int) < 9 by decide), _, _, rfl, rfl, _, _, _, rfl, by decide, fun H1 s1 => ?_⟩
      refine ⟨_, rfl, _, _, rfl, rfl, mulS (.inr (by decide)), _, rfl, _, rfl, _, _, rfl, rfl, mulS (.inl (by decide)), _, _, rfl, rfl, _, rfl, _, _, rfl, rfl, _, _, rfl, rfl, b2.mulOk b4 (by decide),
        _, rfl, _, _, rfl, rfl, mulS (.inl (by decide)), _, _, rfl, rfl, _, rfl, _, _, rfl, rfl, (show (0 : Int) < 7 by decide), _, _, rfl, rfl, _, _, _, rfl, by decide, fun H2 s2 => ?_⟩
      refine ⟨_, _, rfl, rfl, ?_⟩
      rw [eq] at q
      exact q _ (s1.trans s2)
theorem sc__law_whole : FnScope ["_law_number"] ["_law_number"] (defScope s__law_whole) := ⟨rfl, rfl, rfl, by decide +kernel, rfl, by decide +kernel, by decide +kernel⟩
def sp_law_whole (K : PySem.W.Frag) : Sp := sp_is_whole K
theorem fn__law_whole (T : Tx K mg) : Fn P w K mg base "_law_whole" 1 (sp_is_whole K) := by
  obtain ⟨fd, F⟩ := T.d__law_whole
  refine ⟨_, fd, _, F.ok (CX := CX0) sc__law_whole (fun vs H Q E h => ?_) (fun cdv A outer s H vs Q E hr h => ?_), T.g__law_whole, F.kp, F.bindsN fun _ _ _ _ _ _ us hl => match us, hl with | [_], _ => rfl⟩
  · obtain ⟨v, t, rfl, _⟩ := h; rfl
  · obtain ⟨v, t, rfl, ht, q⟩ := h
    refine ⟨_, PSs.nox (pss_one (ps_ret (pe_and (pe_callB (show CallR _ _ (rIsi K) from call_isi) (by rfl) T.isinstance (by decide +kernel) (pa_cons (pv 0) (pa_cons (pe_gt (n := "int") T.int (by rfl) (by decide +kernel)) pa_nil))) (pe_one (pe_not (pe_callB (show CallR _ _ (rIsi K) from call_isi) (by rfl) T.isinstance (by decide +kernel) (pa_cons (pv 0) (pa_cons (pe_gt (n := "bool") T.bool (by rfl) (by decide +kernel)) pa_nil)))))))), ?_⟩
    obtain ⟨k1, k2, _⟩ := kit_kd ht
    refine ⟨_, rfl, _, _, _, _, _, rfl, .ty _, ht, k1, _, rfl, ?_⟩
    rw [kd_isInt ht] at q
    by_cases e : t = "int"
    · subst e
      exact iteT ⟨_, rfl, _, _, _, _, _, rfl, .ty _, ht, k2, _, rfl, q⟩
    · by_cases e2 : t = "bool"
      · subst e2
        exact iteT ⟨_, rfl, _, _, _, _, _, rfl, .ty _, ht, k2, _, rfl, q⟩
      · have f1 : (t == "int") = false := beq_eq_false_iff_ne.mpr e
        have f2 : (t == "bool") = false := beq_eq_false_iff_ne.mpr e2
        rw [f1] at q
        rw [f1, f2]
        exact iteF q
def lawMany (ns : List Int) : Int := 1 + lawValue (cellAt ns 0) 1 % 6
theorem lawMany_in (ns : List Int) : 1 ≤ lawMany ns ∧ lawMany ns ≤ 6 := by
  have h1 := Int.emod_nonneg (lawValue (cellAt ns 0) 1) (b := 6) (by decide)
  have h2 := Int.emod_lt_of_pos (lawValue (cellAt ns 0) 1) (b := 6) (by decide)
  unfold lawMany
  omega
/-- all the cells of a script -/
def Scr (ns : List Int) : Prop := ns.length ≤ 63 ∧ ∀ z ∈ ns, Bits 1048576 z
theorem Scr.cell {ns : List Int} (h : Scr ns) (k : Int) : Bits 1048576 (cellAt ns k) := by
  unfold cellAt
  rw [List.getD_eq_getElem?_getD]
  cases e : ns[k.toNat]? with
  | none => exact Nat.two_pow_pos _
  | some z => exact h.2 z (List.mem_of_getElem? e)
theorem sc__law_many : FnScope ["_law_script"] ["_law_script"] (defScope s__law_many) := ⟨rfl, rfl, rfl, by decide +kernel, rfl, by decide +kernel, by decide +kernel⟩
def sp_many (K : PySem.W.Frag) : Sp := fun vs H Q _ => ∃ (a : Addr) (ns : List Int), vs = [.ref a] ∧ SqL K H a (ns.map V.int) ∧ Scr ns ∧ ∀ H', Same H H' → Q (.int (lawMany ns)) H'
theorem fn__law_many (T : Tx K mg) : Fn P w K mg base "_law_many" 3 (sp_many K) := by
  obtain ⟨fd, F⟩ := T.d__law_many
  refine ⟨_, fd, _, F.ok (CX := CX0) sc__law_many (fun vs H Q E h => ?_) (fun cdv A outer s H vs Q E hr h => ?_), T.g__law_many, F.kp, F.bindsN fun _ _ _ _ _ _ us hl => match us, hl with | [_], _ => rfl⟩
  · obtain ⟨a, ns, rfl, _⟩ := h; rfl
  · obtain ⟨a, ns, rfl, hs, hb, q⟩ := h
    refine ⟨_, PSs.nox (pss_one (ps_ret (pe_op op_add pe_int (pe_op op_mod (pe_fn (fn__law_value T) (hr.mono (by decide)) (by rfl) (pa_cons (pe_fn (fn__law_cell_at T) (hr.mono (by decide)) (by rfl) (pa_cons (pv 0) (pa_cons pe_int pa_nil))) (pa_cons pe_int pa_nil))) pe_int)))), ?_⟩
    refine ⟨_, rfl, a, ns, 0, rfl, hs, by decide, _, _, rfl, (hb.cell 0).mono (by decide), by decide, by decide, fun H1 s1 => ?_⟩
    exact ⟨_, _, rfl, rfl, (show (0 : Int) < 6 by decide), _, _, rfl, rfl, q _ s1⟩
end
end Song

/-! ### Lw2: a law's deeds -/
namespace Song
open PySem L2
inductive Deed where
  | wish (ss : List Int)
  | sing
  | out (n : Int)
def DeedAt (H : Hp) : V → Deed → Prop
  | .ref t, .wish ss => ∃ b, H t = some (.tup [.str "wish", .ref b]) ∧ H b = some (.lst (ss.map V.int))
  | .ref t, .sing => H t = some (.tup [.str "sing", .int 0])
  | .ref t, .out n => H t = some (.tup [.str "out", .int n])
  | _, _ => False
theorem DeedAt.mono {H H' : Hp} (s : Same H H') {v : V} {d : Deed} (h : DeedAt H v d) : DeedAt H' v d := by
  cases v with
  | ref t =>
    cases d with
    | wish ss =>
      obtain ⟨b, h1, h2⟩ := h
      exact ⟨b, s _ _ h1, s _ _ h2⟩
    | sing => exact s _ _ h
    | out n => exact s _ _ h
  | _ => exact h.elim
def DeedOk (many : Int) : Deed → Prop
  | .wish ss => areSingers ss many = true
  | .sing => True
  | .out n => 0 ≤ n
/-- a list of good deeds in the heap -/
def Deeds (H : Hp) (many : Int) (vs : List V) : Prop := ∀ v ∈ vs, ∃ d, DeedAt H v d ∧ DeedOk many d
theorem Deeds.mono {H H' : Hp} {many : Int} {vs : List V} (s : Same H H') (h : Deeds H many vs) : Deeds H' many vs := fun v hv => by
  obtain ⟨d, h1, h2⟩ := h v hv
  exact ⟨d, h1.mono s, h2⟩
theorem Deeds.snoc {H : Hp} {many : Int} {vs : List V} {v : V} {d : Deed} (h : Deeds H many vs) (h1 : DeedAt H v d) (h2 : DeedOk many d) : Deeds H many (vs ++ [v]) := fun u hu => by
  rcases List.mem_append.mp hu with q | q
  · exact h u q
  · rw [List.mem_singleton.mp q]; exact ⟨d, h1, h2⟩
theorem rising_of : ∀ {ns : List Int}, ns.Pairwise (· < ·) → rising ns = true
  | [], _ => rfl
  | [_], _ => rfl
  | a :: b :: r, h => by
    obtain ⟨h1, h2⟩ := List.pairwise_cons.mp h
    unfold rising
    rw [decide_eq_true (h1 b (by simp)), rising_of h2]; rfl
theorem areS_of {ns : List Int} {m : Int} (h1 : 1 ≤ ns.length) (h3 : ns.length ≤ 3) (hi : ∀ s ∈ ns, 0 ≤ s ∧ s < m) (hr : rising ns = true) : areSingers ns m = true := by
  unfold areSingers
  rw [decide_eq_true (And.intro h1 h3), hr, List.all_eq_true.mpr fun s hs => decide_eq_true (hi s hs)]; rfl
theorem areS_take {ns : List Int} {m : Int} (h : areSingers ns m = true) : areSingers (ns.take 1) m = true := by
  obtain ⟨h1, h3, hi, hr⟩ := areS_len h
  cases ns with
  | nil => simp at h1
  | cons a r => exact areS_of (by simp) (by simp) (fun s hs => hi s (by simp at hs; simp [hs])) rfl
theorem cut_to1 (ns : List Int) : cutV (ns.map V.int) none (some 1) = (ns.take 1).map V.int := by
  unfold cutV
  cases ns with
  | nil => rfl
  | cons a r =>
    have e1 : HT.sIx ((a :: r).map V.int).length 0 none = 0 := rfl
    have e2 : HT.sIx ((a :: r).map V.int).length ((a :: r).map V.int).length (some 1) = 1 := by simp [HT.sIx]
    rw [e1, e2]; rfl
section
variable {P : Program} {w : World} {K : PySem.W.Frag} {mg : Str → Option Value} {base : Heap}
theorem sc__law_deeds : FnScope ["_law_script", "_law_begin", "_law_end", "_law_many_here", "_law_found", "_law_at", "_law_cell", "_law_number", "_law_kind", "_law_singers", "_law_turn"] ["_law_script", "_law_begin", "_law_end", "_law_many_here"] (defScope s__law_deeds) := ⟨rfl, rfl, rfl, by decide +kernel, rfl, by decide +kernel, by decide +kernel⟩
def sp_deeds (K : PySem.W.Frag) : Sp := fun vs H Q _ => ∃ (S : List Addr) (a : Addr) (ns : List Int) (b e many : Int), vs = [.ref a, .int b, .int e, .int many] ∧ SqL K H a (ns.map V.int) ∧ Scr ns ∧ 0 ≤ b ∧ 0 ≤ e ∧ 1 ≤ many ∧ many ≤ 6 ∧ (∀ a ∈ S, ∃ o, H a = some o) ∧
  ∀ l H' ds, H l = none → Same H H' → H' l = some (.lst ds) → Deeds (off (l :: S) H') many ds → ds.length ≤ 63 → ds.length ≤ (e - b).toNat → Q (.ref l) H'
theorem cut_ints (ns : List Int) {b e : Int} (hb : 0 ≤ b) (he : 0 ≤ e) : ∃ ms : List Int, cutV (ns.map V.int) (some b) (some e) = ms.map V.int ∧ ms.length ≤ (e - b).toNat ∧ ∀ z ∈ ms, z ∈ ns := by
  unfold cutV
  refine ⟨(ns.drop (HT.sIx (ns.map V.int).length 0 (some b))).take (HT.sIx (ns.map V.int).length (ns.map V.int).length (some e) - HT.sIx (ns.map V.int).length 0 (some b)), ?_, ?_, ?_⟩
  · rw [← List.map_drop, ← List.map_take]
  · rw [List.length_take, List.length_drop]
    have e1 : ∀ (n d : Nat) (x : Int), 0 ≤ x → HT.sIx n d (some x) = min x.toNat n := fun n d x hx => by
      simp only [HT.sIx]
      rw [if_neg (by omega)]
    rw [e1 _ _ _ hb, e1 _ _ _ he, List.length_map]
    omega
  · intro z hz
    exact List.mem_of_mem_drop (List.mem_of_mem_take hz)
theorem fn__law_deeds (T : Tx K mg) : Fn P w K mg base "_law_deeds" 3 (sp_deeds K) := by
  obtain ⟨fd, F⟩ := T.d__law_deeds
  refine ⟨_, fd, _, F.ok (CX := CX0) sc__law_deeds (fun vs H Q E h => ?_) (fun cdv A outer s H vs Q E hr h => ?_), T.g__law_deeds, F.kp, F.bindsN fun _ _ _ _ _ _ us hl => match us, hl with | [_, _, _, _], _ => rfl⟩
  · obtain ⟨S, a, ns, b, e, m, rfl, _⟩ := h; rfl
  · obtain ⟨S, a, ns, b, e, many, rfl, hs, hb, hb0, he0, hm1, hm6, dom, q⟩ := h
    refine ⟨_, PSs.nox (pss_cons (ps_set (i := 4) sc__law_deeds.nd rfl (by first | exact Or.inl rfl | exact Or.inr rfl) (pe_lst pa_nil))
      (pss_cons (ps_for PassesOwn.never rfl (show PI _ _ _ (iEnum K _) from pi_enum (by rfl) T.enumerate (pa_cons (pe_slice (show SlR _ (rSlL K) from sl_list) (pv 0) (po_some (pv 1)) (po_some (pv 2))) pa_nil)) (show PG _ _ (gTup K _ _) from pg_tup rfl (pgs_cons (pg_name (i := 5) sc__law_deeds.nd rfl (by first | exact Or.inl rfl | exact Or.inr rfl)) (pgs_cons (pg_name (i := 6) sc__law_deeds.nd rfl (by first | exact Or.inl rfl | exact Or.inr rfl)) pgs_nil)))
      (pss_cons (ps_set (i := 7) sc__law_deeds.nd rfl (by first | exact Or.inl rfl | exact Or.inr rfl) (pe_op op_fdivW (pe_fn (fn__law_value T) (hr.mono (by decide)) (by rfl) (pa_cons (pv 6) (pa_cons (pe_op op_add pe_int (pe_op op_mod (pv 5) pe_int)) pa_nil))) pe_int))
      (pss_cons (ps_set (i := 8) sc__law_deeds.nd rfl (by first | exact Or.inl rfl | exact Or.inr rfl) (pe_op op_mod (pv 7) pe_int))
      (pss_cons (ps_set (i := 9) sc__law_deeds.nd rfl (by first | exact Or.inl rfl | exact Or.inr rfl) (pe_lst pa_nil))
      (pss_cons (ps_for PassesOwn.never rfl (pi_range1 (by rfl) T.range (pa_cons (pe_op op_add pe_int (pe_op op_mod (pe_op op_fdivW (pv 7) pe_int) pe_int)) pa_nil)) (pg_name (i := 10) sc__law_deeds.nd rfl (by first | exact Or.inl rfl | exact Or.inr rfl))
      (pss_one (ps_expr (show PE _ _ (tBM K _ _ _ _) from pe_bm PySem.F.plainAttrs_list PySem.F.slot_list_append PySem.F.type_list_append mt_append (pv 9) (pa_cons (pe_op op_mod (pe_op op_fdivW (pe_op op_fdivW (pv 7) pe_int) (pe_op op_add (pe_op op_mulO pe_int (pv 10)) pe_int)) (pv 3)) pa_nil)))))
      (pss_cons (ps_set (i := 9) sc__law_deeds.nd rfl (by first | exact Or.inl rfl | exact Or.inr rfl) (pe_callB (show CallR _ _ (rSortedSet w) from cr_sortedSet (by rfl)) (by rfl) T.sorted (by decide +kernel) (pa_cons (pe_callTy (show CallR _ _ (rSetI K w) from cr_setI (by rfl)) (by rfl) T.set (by decide +kernel) (pa_cons (pv 9) pa_nil)) pa_nil)))
      (pss_one (ps_if (pt_cmpR op_lt (pv 8) pe_int (nomark _)) (pss_one (ps_expr (show PE _ _ (tBM K _ _ _ _) from pe_bm PySem.F.plainAttrs_list PySem.F.slot_list_append PySem.F.type_list_append mt_append (pv 4) (pa_cons (pe_tup (pa_cons pe_str (pa_cons (pe_ifExp (pt_cmpR op_eq (pv 8) pe_int (nomark _)) (pv 9) (pe_slice (show SlR _ (rSlL K) from sl_list) (pv 9) po_none (po_some pe_int))) pa_nil))) pa_nil)))) (pss_one (ps_expr (show PE _ _ (tBM K _ _ _ _) from pe_bm PySem.F.plainAttrs_list PySem.F.slot_list_append PySem.F.type_list_append mt_append (pv 4) (pa_cons (pe_ifExp (pt_cmpR op_lt (pv 8) pe_int (nomark _)) (pe_tup (pa_cons pe_str (pa_cons pe_int pa_nil))) (pe_tup (pa_cons pe_str (pa_cons (pe_op op_fdivW (pv 7) pe_int) pa_nil)))) pa_nil))))))))))))
      (pss_one (ps_ret (pv 4))))), ?_⟩
    refine ⟨Nat.zero_le _, fun l nl => ?_⟩
    refine to_new nl fun H1 s1 hl => ?_
    refine ⟨_, rfl, _, rfl, _, rfl, _, rfl, _, rfl, a, _, rfl, s1.seq hs, fun c nc => ?_⟩
    obtain ⟨ms, em, lm, hm⟩ := cut_ints ns hb0 he0
    rw [em]
    refine to_new nc fun H2 s2 hc => ?_
    have lm63 : ms.length ≤ 63 := by
      have := congrArg List.length em
      unfold cutV at this
      rw [List.length_take, List.length_drop, List.length_map, List.length_map] at this
      have := hb.1
      omega
    refine ⟨c, _, rfl, SqL.of hc, for_it (walk_enum (xs := ms.map V.int)) (fun i σ H' => ∃ ds x5 x6 x7 x8 x9 x10, σ = [some (.ref a), some (.int b), some (.int e), some (.int many), some (.ref l), x5, x6, x7, x8, x9, x10] ∧ Same H H' ∧ H' c = some (.lst (ms.map V.int)) ∧
      H' l = some (.lst ds) ∧ Deeds (off (l :: S) H') many ds ∧ ds.length = i) ?_ ?_ ?_ ?_⟩
    · exact ⟨[], _, _, _, _, _, _, rfl, s1.trans s2, hc, s2 _ _ hl, (fun v hv => by cases hv), rfl⟩
    · rintro i σ H' _ ⟨ds, _, _, _, _, _, _, _, _, h, _⟩
      exact SqL.of h
    · rintro i v σ H3 H4 hi ⟨ds, x5, x6, x7, x8, x9, x10, rfl, s3, hc3, hl3, hds, hdl⟩ ⟨t, x, y, rfl, nt, rfl, hx, hy⟩
      cases hx
      obtain ⟨z, rfl, hz⟩ := int_at hy
      rw [List.length_map] at hi
      have hzb : Bits 1048600 z := (hb.2 z (hm z (List.mem_of_getElem? hz))).mono (by decide)
      refine ⟨t, _, rfl, SqT.of upd_same, rfl, _, _, rfl, _, _, rfl, rfl, ?_⟩
      refine to_new nt fun H5 s5 ht => ?_
      refine ⟨_, rfl, _, rfl, _, _, rfl, rfl, (show (0 : Int) < 5 by decide), _, _, rfl, rfl, z, _, rfl, hzb, ?_, ?_, fun H6 s6 => ?_⟩
      · have := Int.emod_nonneg (i : Int) (b := 5) (by decide); omega
      · have := Int.emod_lt_of_pos (i : Int) (b := 5) (by decide); omega
      generalize hv : lawValue z (2 + (i : Int) % 5) = val
      have hv0 : 0 ≤ val := by rw [← hv]; exact lawValue_nn _ _
      refine ⟨_, _, rfl, rfl, ⟨by decide, by decide +kernel⟩, ?_⟩
      have hn0 : 0 ≤ val / 3 := Int.ediv_nonneg hv0 (by decide)
      refine ⟨_, rfl, _, _, rfl, rfl, (show (0 : Int) < 7 by decide), ?_⟩
      refine ⟨Nat.zero_le _, fun g ng => ?_⟩
      refine to_new ng fun H7 s7 hg => ?_
      have r0 := Int.emod_nonneg (val / 3 / 49) (b := 3) (by decide)
      have r3 := Int.emod_lt_of_pos (val / 3 / 49) (b := 3) (by decide)
      refine ⟨_, rfl, _, _, rfl, rfl, ⟨by decide, by decide +kernel⟩, _, _, rfl, rfl, (show (0 : Int) < 3 by decide), _, _, rfl, rfl, _, rfl, by omega, by omega, ?_⟩
      refine for_range (lo := 0) (fun j σ H8 => ∃ (xs : List Int) (y : Option V), σ = [some (.ref a), some (.int b), some (.int e), some (.int many), some (.ref l), some (.int (i : Nat)), some (.int z), some (.int (val / 3)), some (.int (val / 3 % 7)), some (.ref g), y] ∧
        Fra [g] H7 H8 ∧ H8 g = some (.lst (xs.map V.int)) ∧ xs.length = j ∧ ∀ x ∈ xs, 0 ≤ x ∧ x < many) ?_ ?_ ?_
      · exact ⟨[], _, rfl, Fra.refl _ _, hg, rfl, fun x hx => by cases hx⟩
      · rintro j σ H8 hj ⟨xs, y, rfl, f8, hg8, hxl, hxs⟩
        have r1 : (0 : Int) < 5 * (0 + (j : Int)) + 1 := by omega
        refine ⟨_, rfl, .inl ⟨rfl, _, SqL.of hg8⟩, _, rfl, _, _, rfl, rfl, ⟨by decide, by decide +kernel⟩, _, rfl, _, _, rfl, rfl, mulS (.inl (by decide)), _, _, rfl, rfl, _, _, rfl, rfl, ⟨r1, ?_⟩, _, rfl, _, _, rfl, rfl, (show 0 < many by omega),
          g, _, _, rfl, rfl, hg8, lt_line (by rw [List.length_map]; omega), ?_⟩
        · exact Nat.lt_of_le_of_lt (Nat.log2_le_self _) (by omega)
        rw [← snoc_ints]
        refine to_put fun H9 f9 hg9 => ?_
        refine ⟨_, _, rfl, f8.trans f9, hg9, by simp [hxl], fun x hx => ?_⟩
        rcases List.mem_append.mp hx with h | h
        · exact hxs x h
        · rw [List.mem_singleton.mp h]
          exact ⟨Int.emod_nonneg _ (by omega), Int.emod_lt_of_pos _ (by omega)⟩
      · rintro σ H8 ⟨xs, y, rfl, f8, hg8, hxl, hxs⟩
        have s37 : Same H3 H7 := (s5.trans s6).trans s7
        have n3g : H3 g = none := (s5.trans s6).free ng
        have s38 : Same H3 H8 := f8.back s37 (by simpa using n3g)
        have hl8 := s38 _ _ hl3
        have x1 : 1 ≤ xs.length ∧ xs.length ≤ 3 := by omega
        refine ⟨_, rfl, g, xs, rfl, SqL.of hg8, by omega, fun u cN hcN nu => ?_⟩
        refine to_new nu fun H9 s9 hu => ?_
        refine ⟨u, _, _, rfl, hu, by omega, fun ks r pw mem len nr => ?_⟩
        refine to_new nr fun H10 s10 hr => ?_
        have hk : areSingers ks many = true := by
          refine areS_of ?_ (by omega) (fun s hs => hxs s (of_decide_eq_true ((mem s).mp hs))) (rising_of pw)
          cases hxs0 : xs with
          | nil => rw [hxs0] at x1; simp at x1
          | cons x0 rx =>
            have : x0 ∈ ks := (mem x0).mpr (decide_eq_true (by rw [hxs0]; simp))
            exact List.length_pos_iff.mpr (List.ne_nil_of_mem this)
        have s310 : Same H3 H10 := (s38.trans s9).trans s10
        refine ⟨_, rfl, _, _, rfl, rfl, _, rfl, ?_⟩
        have out : ∀ {H11 : Hp} {t : Addr}, Same H10 H11 → H11 t = none → t ∉ l :: S := fun {H11 t} s11 nt h => by
          rcases List.mem_cons.mp h with z | z
          · rw [z, s11 _ _ (s310 _ _ hl3)] at nt; cases nt
          · exact new_out (dom_same (s3.trans (s310.trans s11)) dom) nt z
        have outr : ∀ {H11 : Hp} {t : Addr}, Same H3 H11 → H11 t = none → t ∉ l :: S := fun {H11 t} s11 nt h => by
          rcases List.mem_cons.mp h with z | z
          · rw [z, s11 _ _ hl3] at nt; cases nt
          · exact new_out (dom_same (s3.trans s11) dom) nt z
        have fin : ∀ (H11 : Hp) (t : Addr) (d : Deed) (o : HO), Same H10 H11 → H11 t = none → DeedAt (off (l :: S) (upd H11 t o)) (.ref t) d → DeedOk many d → H10 l = some (.lst ds) →
            ∃ ds' y5 y6 y7 y8 y9 y10, [some (V.ref a), some (.int b), some (.int e), some (.int many), some (.ref l), some (.int (i : Nat)), some (.int z), some (.int (val / 3)), some (.int (val / 3 % 7)), some (.ref r), y] = [some (.ref a), some (.int b), some (.int e), some (.int many), some (.ref l), y5, y6, y7, y8, y9, y10] ∧
              Same H (upd (upd H11 t o) l (.lst (ds ++ [.ref t]))) ∧ (upd (upd H11 t o) l (.lst (ds ++ [.ref t]))) c = some (.lst (ms.map V.int)) ∧ (upd (upd H11 t o) l (.lst (ds ++ [.ref t]))) l = some (.lst ds') ∧ Deeds (off (l :: S) (upd (upd H11 t o) l (.lst (ds ++ [.ref t])))) many ds' ∧ ds'.length = i + 1 := by
          intro H11 t d o s11 nt11 hd hok hl10
          have sT : Same H3 (upd H11 t o) := (s310.trans s11).trans (Same.new nt11)
          have ncl : c ≠ l := (ne_of_none hl nc).symm
          refine ⟨_, _, _, _, _, _, _, rfl, same_put nl (s3.trans sT), ?_, upd_same, ?_, by simp [hdl]⟩
          · rw [upd_ne ncl]; exact sT _ _ hc3
          · rw [off_put (by simp)]
            exact (hds.mono (off_mono sT)).snoc hd hok
        have hl10 := s310 _ _ hl3
        by_cases h4 : val / 3 % 7 < 4
        · rw [decide_eq_true h4]
          refine iteT ⟨_, rfl, .inl ⟨rfl, _, SqL.of hl10⟩, _, rfl, rfl, _, rfl, ?_⟩
          by_cases h0 : V.int (val / 3 % 7) = V.int 0
          · rw [decide_eq_true h0]
            refine iteT ⟨_, rfl, by show 2 ≤ sizeLine; decide, fun t nt => ?_⟩
            refine ⟨l, _, _, rfl, rfl, (Same.new nt) _ _ hl10, lt_line (by omega), ?_⟩
            refine fin H10 t (.wish ks) _ (Same.refl _) nt ⟨r, ?_, ?_⟩ hk hl10
            · rw [off_out (out (Same.refl _) nt)]; exact upd_same
            · have nrl : r ≠ l := (ne_of_none (s9 _ _ hl8) nr).symm
              rw [off_out (outr (s38.trans s9) nr)]; exact (Same.new nt) _ _ hr
          · rw [decide_eq_false h0]
            refine iteF ⟨_, rfl, _, rfl, r, _, rfl, SqL.of hr, fun r2 nr2 => ?_⟩
            rw [cut_to1]
            refine to_new nr2 fun H11 s11 hr2 => ?_
            refine ⟨by show 2 ≤ sizeLine; decide, fun t nt => ?_⟩
            refine ⟨l, _, _, rfl, rfl, (Same.new nt) _ _ (s11 _ _ hl10), lt_line (by omega), ?_⟩
            refine fin H11 t (.wish (ks.take 1)) _ s11 nt ⟨r2, ?_, ?_⟩ (areS_take hk) hl10
            · rw [off_out (out s11 nt)]; exact upd_same
            · have nrl : r2 ≠ l := (ne_of_none hl10 nr2).symm
              rw [off_out (out (Same.refl _) nr2)]; exact (Same.new nt) _ _ hr2
        · rw [decide_eq_false h4]
          refine iteF ⟨_, rfl, .inl ⟨rfl, _, SqL.of hl10⟩, _, rfl, _, _, rfl, rfl, _, rfl, ?_⟩
          by_cases h6 : val / 3 % 7 < 6
          · rw [decide_eq_true h6]
            refine iteT ⟨by show 2 ≤ sizeLine; decide, fun t nt => ?_⟩
            refine ⟨l, _, _, rfl, rfl, (Same.new nt) _ _ hl10, lt_line (by omega), ?_⟩
            refine fin H10 t .sing _ (Same.refl _) nt ?_ trivial hl10
            show off (l :: S) _ t = _
            rw [off_out (out (Same.refl _) nt)]; exact upd_same
          · rw [decide_eq_false h6]
            refine iteF ⟨_, rfl, _, _, rfl, rfl, ⟨by decide, by decide +kernel⟩, by show 2 ≤ sizeLine; decide, fun t nt => ?_⟩
            refine ⟨l, _, _, rfl, rfl, (Same.new nt) _ _ hl10, lt_line (by omega), ?_⟩
            refine fin H10 t (.out (val / 3 / 343)) _ (Same.refl _) nt ?_ (Int.ediv_nonneg hn0 (by decide)) hl10
            show off (l :: S) _ t = _
            rw [off_out (out (Same.refl _) nt)]; exact upd_same
    · rintro σ H3 ⟨ds, _, _, _, _, _, _, rfl, s3, hc3, hl3, hds, hdl⟩
      rw [List.length_map] at hdl
      exact ⟨_, rfl, q l H3 ds nl s3 hl3 hds (by omega) (by omega)⟩
end
end Song

/-! ### Lw3: the law's own state of an evening, a dict -/
namespace Song
open PySem L2
def stD (A : Ad) (g : Int) : List (Key × V) := [(.inr "rounds", .ref A.ro), (.inr "last", .ref A.la), (.inr "going", .int g), (.inr "waits", .ref A.wa), (.inr "tale", .ref A.ca)]
theorem stD_last (A : Ad) (g : Int) : valV (stD A g) (.inr "last") = some (.ref A.la) := by kernel_rfl
theorem stD_going (A : Ad) (g : Int) : valV (stD A g) (.inr "going") = some (.int g) := by kernel_rfl
theorem stD_rounds (A : Ad) (g : Int) : valV (stD A g) (.inr "rounds") = some (.ref A.ro) := by kernel_rfl
theorem stD_waits (A : Ad) (g : Int) : valV (stD A g) (.inr "waits") = some (.ref A.wa) := by kernel_rfl
theorem stD_tale (A : Ad) (g : Int) : valV (stD A g) (.inr "tale") = some (.ref A.ca) := by kernel_rfl
theorem stD_put (A : Ad) (g g' : Int) : putK (stD A g) (.inr "going") (.int g') = stD A g' := by kernel_rfl
structure LC (H : Hp) (p : Addr) (A : Ad) (last : List Int) (going : Int) (rounds waiting : List Int) (cs : List V) : Prop where
  pp : H p = some (.dK (stD A going))
  la : H A.la = some (.lst (last.map V.int))
  ro : H A.ro = some (.lst (rounds.map V.int))
  wa : H A.wa = some (.lst (waiting.map V.int))
  ca : H A.ca = some (.lst cs)
  nd : (own p A).Nodup
section
variable {H H' : Hp} {p : Addr} {A : Ad} {last : List Int} {going : Int} {rounds waiting : List Int} {cs : List V}
theorem LC.gLast (c : LC H p A last going rounds waiting cs) : DGet H p (.str "last") (some (.ref A.la)) := by rw [← stD_last A going]; exact DGet.k (k := Sum.inr "last") c.pp
theorem LC.gGoing (c : LC H p A last going rounds waiting cs) : DGet H p (.str "going") (some (.int going)) := by rw [← stD_going A going]; exact DGet.k (k := Sum.inr "going") c.pp
theorem LC.gRounds (c : LC H p A last going rounds waiting cs) : DGet H p (.str "rounds") (some (.ref A.ro)) := by rw [← stD_rounds A going]; exact DGet.k (k := Sum.inr "rounds") c.pp
theorem LC.gWaits (c : LC H p A last going rounds waiting cs) : DGet H p (.str "waits") (some (.ref A.wa)) := by rw [← stD_waits A going]; exact DGet.k (k := Sum.inr "waits") c.pp
theorem LC.gTale (c : LC H p A last going rounds waiting cs) : DGet H p (.str "tale") (some (.ref A.ca)) := by rw [← stD_tale A going]; exact DGet.k (k := Sum.inr "tale") c.pp
theorem LC.mono (s : Same H H') (c : LC H p A last going rounds waiting cs) : LC H' p A last going rounds waiting cs := by
  obtain ⟨h1, h2, h3, h4, h5, nd⟩ := c
  exact ⟨s _ _ h1, s _ _ h2, s _ _ h3, s _ _ h4, s _ _ h5, nd⟩
theorem LC.ne (c : LC H p A last going rounds waiting cs) : p ≠ A.la ∧ p ≠ A.ro ∧ p ≠ A.wa ∧ p ≠ A.ca ∧ A.la ≠ A.ro ∧ A.la ≠ A.wa ∧ A.la ≠ A.ca ∧ A.ro ≠ A.wa ∧ A.ro ≠ A.ca ∧ A.wa ≠ A.ca := by
  have h := c.nd
  unfold own at h
  simp only [List.nodup_cons, List.mem_cons, List.not_mem_nil, or_false, not_or] at h
  obtain ⟨⟨a1, a2, a3, a4⟩, ⟨b1, b2, b3⟩, ⟨c1, c2⟩, d1, _⟩ := h
  exact ⟨a1, a2, a3, a4, b1, b2, b3, c1, c2, d1⟩
theorem LC.putLa (c : LC H p A last going rounds waiting cs) (l : List Int) : LC (upd H A.la (.lst (l.map V.int))) p A l going rounds waiting cs := by
  obtain ⟨a1, a2, a3, a4, b1, b2, b3, c1, c2, d1⟩ := c.ne
  obtain ⟨h1, h2, h3, h4, h5, nd⟩ := c
  exact ⟨by rw [upd_ne a1]; exact h1, upd_same, by rw [upd_ne b1.symm]; exact h3, by rw [upd_ne b2.symm]; exact h4, by rw [upd_ne b3.symm]; exact h5, nd⟩
theorem LC.putRo (c : LC H p A last going rounds waiting cs) (l : List Int) : LC (upd H A.ro (.lst (l.map V.int))) p A last going l waiting cs := by
  obtain ⟨a1, a2, a3, a4, b1, b2, b3, c1, c2, d1⟩ := c.ne
  obtain ⟨h1, h2, h3, h4, h5, nd⟩ := c
  exact ⟨by rw [upd_ne a2]; exact h1, by rw [upd_ne b1]; exact h2, upd_same, by rw [upd_ne c1.symm]; exact h4, by rw [upd_ne c2.symm]; exact h5, nd⟩
theorem LC.putWa (c : LC H p A last going rounds waiting cs) (l : List Int) : LC (upd H A.wa (.lst (l.map V.int))) p A last going rounds l cs := by
  obtain ⟨a1, a2, a3, a4, b1, b2, b3, c1, c2, d1⟩ := c.ne
  obtain ⟨h1, h2, h3, h4, h5, nd⟩ := c
  exact ⟨by rw [upd_ne a3]; exact h1, by rw [upd_ne b2]; exact h2, by rw [upd_ne c1]; exact h3, upd_same, by rw [upd_ne d1.symm]; exact h5, nd⟩
theorem LC.putCa (c : LC H p A last going rounds waiting cs) (l : List V) : LC (upd H A.ca (.lst l)) p A last going rounds waiting l := by
  obtain ⟨a1, a2, a3, a4, b1, b2, b3, c1, c2, d1⟩ := c.ne
  obtain ⟨h1, h2, h3, h4, h5, nd⟩ := c
  exact ⟨by rw [upd_ne a4]; exact h1, by rw [upd_ne b3]; exact h2, by rw [upd_ne c2]; exact h3, by rw [upd_ne d1]; exact h4, upd_same, nd⟩
theorem LC.putGo (c : LC H p A last going rounds waiting cs) (g : Int) : LC (upd H p (.dK (stD A g))) p A last g rounds waiting cs := by
  obtain ⟨a1, a2, a3, a4, b1, b2, b3, c1, c2, d1⟩ := c.ne
  obtain ⟨_, h2, h3, h4, h5, nd⟩ := c
  exact ⟨upd_same, by rw [upd_ne a1.symm]; exact h2, by rw [upd_ne a2.symm]; exact h3, by rw [upd_ne a3.symm]; exact h4, by rw [upd_ne a4.symm]; exact h5, nd⟩
end
section
variable {H : Hp} {p : Addr} {A : Ad} {last : List Int} {going : Int} {rounds waiting : List Int} {cs : List V} {Q : Hp → Prop}
@[elab_as_elim] theorem to_laL (c : LC H p A last going rounds waiting cs) (l : List Int) (h : ∀ H', Fra (own p A) H H' → LC H' p A l going rounds waiting cs → Q H') : Q (upd H A.la (.lst (l.map V.int))) :=
  h _ (Fra.put (memA p A).2.1) (c.putLa l)
@[elab_as_elim] theorem to_roL (c : LC H p A last going rounds waiting cs) (l : List Int) (h : ∀ H', Fra (own p A) H H' → LC H' p A last going l waiting cs → Q H') : Q (upd H A.ro (.lst (l.map V.int))) :=
  h _ (Fra.put (memA p A).2.2.1) (c.putRo l)
@[elab_as_elim] theorem to_waL (c : LC H p A last going rounds waiting cs) (l : List Int) (h : ∀ H', Fra (own p A) H H' → LC H' p A last going rounds l cs → Q H') : Q (upd H A.wa (.lst (l.map V.int))) :=
  h _ (Fra.put (memA p A).2.2.2.1) (c.putWa l)
@[elab_as_elim] theorem to_caL (c : LC H p A last going rounds waiting cs) (l : List V) (h : ∀ H', Fra (own p A) H H' → LC H' p A last going rounds waiting l → (∀ b o, b ≠ A.ca → H b = some o → H' b = some o) → Q H') : Q (upd H A.ca (.lst l)) :=
  h _ (Fra.put (memA p A).2.2.2.2) (c.putCa l) fun b o n e => by rw [upd_ne n]; exact e
@[elab_as_elim] theorem to_goL (c : LC H p A last going rounds waiting cs) (g : Int) (h : ∀ H', Fra (own p A) H H' → LC H' p A last g rounds waiting cs → Q H') : Q (upd H p (.dK (stD A g))) :=
  h _ (Fra.put (memA p A).1) (c.putGo g)
end
theorem LC.dom {H H' : Hp} {p : Addr} {A : Ad} {last : List Int} {going : Int} {rounds waiting : List Int} {cs : List V} {S : List Addr} (c : LC H' p A last going rounds waiting cs) (f : Fra (own p A) H H')
    (d : ∀ a ∈ S, ∃ o, H a = some o) : ∀ a ∈ S, ∃ o, H' a = some o := fun a ha => by
  by_cases q : a ∈ own p A
  · unfold own at q
    simp only [List.mem_cons, List.not_mem_nil, or_false] at q
    rcases q with e | e | e | e | e
    · rw [e]; exact ⟨_, c.pp⟩
    · rw [e]; exact ⟨_, c.la⟩
    · rw [e]; exact ⟨_, c.ro⟩
    · rw [e]; exact ⟨_, c.wa⟩
    · rw [e]; exact ⟨_, c.ca⟩
  · obtain ⟨o, h⟩ := d a ha
    exact ⟨o, f a o q h⟩
/-- the dict at p tells st -/
structure Ls (S : List Addr) (H : Hp) (p : Addr) (A : Ad) (st : EvS) : Prop where
  cell : ∃ cs, LC H p A st.last st.going st.rounds st.waiting cs ∧ Parts (off S H) cs st.tale
  sub : ∀ a ∈ own p A, a ∈ S
  dom : ∀ a ∈ S, ∃ o, H a = some o
  few : st.tale.length ≤ 900
theorem Ls.mono {S : List Addr} {H H' : Hp} {p : Addr} {A : Ad} {st : EvS} (s : Same H H') (e : Ls S H p A st) : Ls S H' p A st := by
  obtain ⟨⟨cs, c, q⟩, sub, dom, few⟩ := e
  refine ⟨⟨cs, c.mono s, q.mono (off_mono s)⟩, sub, fun a ha => ?_, few⟩
  obtain ⟨o, h⟩ := dom a ha
  exact ⟨o, s _ _ h⟩
section
variable {P : Program} {w : World} {K : PySem.W.Frag} {mg : Str → Option Value} {base : Heap}
theorem sc__law_open : FnScope ["_law_many_here"] ["_law_many_here"] (defScope s__law_open) := ⟨rfl, rfl, rfl, by decide +kernel, rfl, by decide +kernel, by decide +kernel⟩
def sp_open : Sp := fun vs H Q _ => ∃ n : Int, vs = [.int n] ∧ 1 ≤ n ∧ n ≤ 6 ∧
  ∀ H' p A, Same H H' → LC H' p A (List.replicate n.toNat 0) 1 [] [] [] → H p = none → H A.la = none → H A.ro = none → H A.wa = none → H A.ca = none → Q (.ref p) H'
theorem fn__law_open (T : Tx K mg) : Fn P w K mg base "_law_open" 1 sp_open := by
  obtain ⟨fd, F⟩ := T.d__law_open
  refine ⟨_, fd, _, F.ok (CX := CX0) sc__law_open (fun vs H Q E h => ?_) (fun cdv A outer s H vs Q E hr h => ?_), T.g__law_open, F.kp, F.bindsN fun _ _ _ _ _ _ us hl => match us, hl with | [_], _ => rfl⟩
  · obtain ⟨n, rfl, _⟩ := h; rfl
  · obtain ⟨n, rfl, h1, h6, q⟩ := h
    refine ⟨_, PSs.nox (pss_one (ps_ret (pe_disp (pps_cons pe_str (pe_lst pa_nil) (pps_cons pe_str (pe_op op_rep (pe_lst (pa_cons pe_int pa_nil)) (pv 0)) (pps_cons pe_str pe_int (pps_cons pe_str (pe_lst pa_nil) (pps_cons pe_str (pe_lst pa_nil) pps_nil))))) (by rfl) (by rfl) (fun z => by cases z) (by decide)))), ?_⟩
    intro p np
    refine to_new np fun H1 s1 hp => ?_
    refine ⟨Nat.zero_le _, fun b nb => ?_⟩
    refine to_new nb fun H2 s2 hb => ?_
    refine ⟨by show 1 ≤ sizeLine; decide, fun z nz => ?_⟩
    refine to_new nz fun H3 s3 hz => ?_
    refine ⟨_, rfl, z, n, _, rfl, rfl, hz, by omega, by omega, ?_, fun a na => ?_⟩
    · show 1 * n.toNat ≤ sizeLine
      have : sizeLine = 16777216 := by decide
      omega
    rw [rep_flat]
    refine to_new na fun H4 s4 ha => ?_
    refine ⟨Nat.zero_le _, fun c nc => ?_⟩
    refine to_new nc fun H5 s5 hc => ?_
    refine ⟨Nat.zero_le _, fun d nd => ?_⟩
    refine to_new nd fun H6 s6 hd => ?_
    have s16 : Same H1 H6 := (((s2.trans s3).trans s4).trans s5).trans s6
    refine ⟨s16 _ _ hp, [(.inr "rounds", .ref b), (.inr "last", .ref a), (.inr "going", .int 1), (.inr "waits", .ref c), (.inr "tale", .ref d)], rfl, (by show 5 ≤ 15; decide), ?_⟩
    rw [show mergeK [] ([(.inr "rounds", .ref b), (.inr "last", .ref a), (.inr "going", .int 1), (.inr "waits", .ref c), (.inr "tale", .ref d)] : List (Key × V)) = stD ⟨a, b, c, d⟩ 1 by kernel_rfl]
    have n2 : H b = none := s1.free nb
    have n3 : H a = none := s1.free (s2.free (s3.free na))
    have n4 : H c = none := s1.free (s2.free (s3.free (s4.free nc)))
    have n5 : H d = none := s1.free (s2.free (s3.free (s4.free (s5.free nd))))
    have npb : p ≠ b := ne_of_none hp nb
    have npa : p ≠ a := ne_of_none ((s2.trans s3) _ _ hp) na
    have npc : p ≠ c := ne_of_none (((s2.trans s3).trans s4) _ _ hp) nc
    have npd : p ≠ d := ne_of_none ((((s2.trans s3).trans s4).trans s5) _ _ hp) nd
    have nba : b ≠ a := ne_of_none (s3 _ _ hb) na
    have nbc : b ≠ c := ne_of_none (s4 _ _ (s3 _ _ hb)) nc
    have nbd : b ≠ d := ne_of_none (s5 _ _ (s4 _ _ (s3 _ _ hb))) nd
    have nac : a ≠ c := ne_of_none ha nc
    have nad : a ≠ d := ne_of_none (s5 _ _ ha) nd
    have ncd : c ≠ d := ne_of_none hc nd
    refine q _ p ⟨a, b, c, d⟩ (same_put np (s1.trans s16)) ⟨upd_same, ?_, ?_, ?_, ?_, ?_⟩ np n3 n2 n4 n5
    · show upd H6 p _ a = _
      rw [upd_ne npa.symm, ← rep_ints]; exact s6 _ _ (s5 _ _ ha)
    · show upd H6 p _ b = _
      rw [upd_ne npb.symm]; exact s6 _ _ (s5 _ _ (s4 _ _ (s3 _ _ hb)))
    · show upd H6 p _ c = _
      rw [upd_ne npc.symm]; exact s6 _ _ hc
    · show upd H6 p _ d = _
      rw [upd_ne npd.symm]; exact hd
    · show [p, a, b, c, d].Nodup
      simp only [List.nodup_cons, List.mem_cons, List.not_mem_nil, or_false, not_or]
      exact ⟨⟨npa, npb, npc, npd⟩, ⟨nba.symm, nac, nad⟩, ⟨nbc, nbd⟩, ncd, not_false, List.nodup_nil⟩
theorem sc__law_queue : FnScope ["_law_state", "_law_number", "_law_song"] ["_law_state"] (defScope s__law_queue) := ⟨rfl, rfl, rfl, by decide +kernel, rfl, by decide +kernel, by decide +kernel⟩
def sp_queue : Sp := fun vs H Q _ => ∃ (S : List Addr) (p : Addr) (A : Ad) (st : EvS), vs = [.ref p] ∧ Ls S H p A st ∧ EvOk st ∧
  ∀ l H', H l = none → Same H H' → H' l = some (.lst (st.queue.map V.int)) → Q (.ref l) H'
theorem fn__law_queue (T : Tx K mg) : Fn P w K mg base "_law_queue" 1 sp_queue := by
  obtain ⟨fd, F⟩ := T.d__law_queue
  refine ⟨_, fd, _, F.ok (CX := CX0) sc__law_queue (fun vs H Q E h => ?_) (fun cdv A outer s H vs Q E hr h => ?_), T.g__law_queue, F.kp, F.bindsN fun _ _ _ _ _ _ us hl => match us, hl with | [_], _ => rfl⟩
  · obtain ⟨S, p, A, st, rfl, _⟩ := h; rfl
  · obtain ⟨S, p, A', st, rfl, ev, ok, q⟩ := h
    obtain ⟨⟨cs, c, hq⟩, sub, dom, few⟩ := ev
    refine ⟨_, PSs.nox (pss_one (ps_ret (pe_lc (own := [("_law_number", 1), ("_law_song", 2)]) (g := (gTup K 2 (gCons (gName 1) (gCons (gName 2) gNil)))) (tt := tYes) (by rfl) sc__law_queue.nd (show PI _ _ _ (iList K _) from pi_list (pe_callB (show CallR _ _ (rSortedPO K) from cr_sortedPO) (by rfl) T.sorted (by decide +kernel) (pa_cons (pe_lc (own := [("_law_song", 2)]) (g := (gName 2)) (tt := tYes) (by rfl) sc__law_queue.nd (show PI _ _ _ (iList K _) from pi_list (pe_dget (hu_of hr) (pv 0) pe_str (fun _ _ => rfl))) (blkOk_by (by kernel_rfl)) (fun _ _ _ _ _ => (pg_name (i := 2) sc__law_queue.nd rfl (by first | exact Or.inl rfl | exact Or.inr rfl))) (fun _ _ _ _ _ => pts_nil) (fun _ _ _ _ _ => (pe_tup (pa_cons (pe_ix (show IxR _ (rIxL K) from ix_list) (pe_dget (hu_of hr) (pv 0) pe_str (fun _ _ => rfl)) (pv 2) (fun _ _ => rfl)) (pa_cons (pv 2) pa_nil))))) pa_nil))) (blkOk_by (by kernel_rfl)) (fun _ _ _ _ _ => (show PG _ _ (gTup K _ _) from pg_tup rfl (pgs_cons (pg_name (i := 1) sc__law_queue.nd rfl (by first | exact Or.inl rfl | exact Or.inr rfl)) (pgs_cons (pg_name (i := 2) sc__law_queue.nd rfl (by first | exact Or.inl rfl | exact Or.inr rfl)) pgs_nil)))) (fun _ _ _ _ _ => pts_nil) (fun _ _ _ _ _ => (pv 2))))), ?_⟩
    refine ⟨_, rfl, p, _, rfl, c.gWaits, A'.wa, rfl, ⟨_, SqL.of c.wa⟩, fun D nD => lc_all walk_list sqL_mono (SqL.of c.wa) (fun i H y => ∃ (t : Addr) (s : Int), st.waiting[i]? = some s ∧ y = .ref t ∧ H t = some (.tup [.int (st.rounds.getD s.toNat 0), .int s])) ?_ nD (by rw [List.length_map]; have := ok.w24; omega) ?_ ?_ gname_mono⟩
    · rintro i H1 H2 y s1 ⟨t, s, h1, h2, h3⟩
      exact ⟨t, s, h1, h2, s1 _ _ h3⟩
    · rintro i x H1 H2 acc hi1 s1 hD ⟨rfl, hx⟩ k hk
      obtain ⟨s, rfl, hs⟩ := int_at hx
      obtain ⟨h0, h1⟩ := ok.inb s (List.mem_of_getElem? hs)
      have c1 := c.mono s1
      refine ⟨rfl, _, rfl, p, _, rfl, c1.gRounds, _, rfl, A'.ro, _, _, _, rfl, rfl, SqL.of c1.ro, at_int h0 h1, _, rfl, by show 2 ≤ sizeLine; decide, fun t nt => ?_⟩
      refine hk _ _ (Same.new nt) ⟨t, s, hs, rfl, ?_⟩
      rw [off_out (by simp; exact (ne_of_none hD nt).symm)]
      exact upd_same
    · intro ys H1 s1 hD hly hy
      have hy' : ∀ x ∈ ys, ∃ t, x = V.ref t ∧ H1 t = some (.tup [.int (prOf H1 x).1, .int (prOf H1 x).2]) := fun x hx => by
        obtain ⟨i, hi, rfl⟩ := List.mem_iff_getElem.mp hx
        obtain ⟨t, s, h1, h2, h3⟩ := hy i _ (List.getElem?_eq_getElem hi)
        have h4 := (off_some h3).2
        refine ⟨t, h2, ?_⟩
        rw [h2, prOf_at h4]
        exact h4
      refine ⟨D, ys, prOf H1, rfl, SqL.of hD, hy', fun zs l srt stb nl => ?_⟩
      have hly : ys.length = st.waiting.length := by rw [hly, List.length_map]
      obtain ⟨hz1, hz2⟩ := srt_pairs (rs := st.rounds) (ws := st.waiting) hly (fun i y e => by
        obtain ⟨t, s, h1, h2, h3⟩ := hy i y e
        exact ⟨t, s, h1, h2, (off_some h3).2⟩) srt stb
      refine to_new nl fun H2 s2 hl => ?_
      refine ⟨l, rfl, ⟨_, SqL.of hl⟩, fun D2 nD2 => lc_map (fun z => V.int (prOf H1 z).2) (SqL.of hl) nD2 ?_ ?_ ?_ gtup_mono⟩
      · rw [stb.perm.length_eq]; have := ok.w24; omega
      · intro i z H3 hz s3 k hk
        obtain ⟨t, u, v, rfl, ht, ep⟩ := hz2 z (List.mem_of_getElem? hz)
        have hk2 := hk H3 (Same.refl _)
        rw [ep] at hk2
        exact ⟨t, _, rfl, SqT.of (s3 _ _ (s2 _ _ ht)), rfl, _, _, rfl, _, _, rfl, rfl, rfl, _, rfl, hk2⟩
      · intro H3 s3 hD3
        rw [hz1] at hD3
        exact q D2 H3 (s1.free (s2.free nD2)) ((s1.trans s2).trans s3) hD3
end
end Song

/-! ### Lw4: deeds done to the law's own state -/
namespace Song
open PySem L2
section
variable {P : Program} {w : World} {K : PySem.W.Frag} {mg : Str → Option Value} {base : Heap}
theorem sc__law_wished : FnScope ["_law_state", "_law_singers", "_law_number", "_law_singer", "_law_song"] ["_law_state", "_law_singers"] (defScope s__law_wished) := ⟨rfl, rfl, rfl, by decide +kernel, rfl, by decide +kernel, by decide +kernel⟩
def sp_wished (K : PySem.W.Frag) : Sp := fun vs H Q _ => ∃ (S : List Addr) (p a : Addr) (A : Ad) (st : EvS) (ss : List Int), vs = [.ref p, .ref a] ∧ Ls S H p A st ∧ EvOk st ∧ st.tale.length < 900 ∧ SqL K (off (own p A) H) a (ss.map V.int) ∧
  areSingers ss st.last.length = true ∧ st.rounds.length < 24 ∧
  ∀ H' t, Fra (own p A) H H' → Ls S H' p A (st.wish ss) → H t = none → H' t = some (.tup [.int st.rounds.length, .int (st.num ss)]) → Q (.ref t) H'
theorem fn__law_wished (T : Tx K mg) : Fn P w K mg base "_law_wished" 1 (sp_wished K) := by
  obtain ⟨fd, F⟩ := T.d__law_wished
  refine ⟨_, fd, _, F.ok (CX := CX0) sc__law_wished (fun vs H Q E h => ?_) (fun cdv A outer s H vs Q E hr h => ?_), T.g__law_wished, F.kp, F.bindsN fun _ _ _ _ _ _ us hl => match us, hl with | [_, _], _ => rfl⟩
  · obtain ⟨S, p, a, A, st, ss, rfl, _⟩ := h; rfl
  · obtain ⟨S, p, a, A', st, ss, rfl, ev, ok, hlt, hs, hA, h24, q⟩ := h
    obtain ⟨⟨cs, c, hq⟩, sub, dom, few⟩ := ev
    obtain ⟨s1, s3, sin, _⟩ := areS_len hA
    have hsH : SqL K H a (ss.map V.int) := (off_le _ H).seq hs
    have idS : ∀ x ∈ own p A', x ∈ own p A' := fun _ h => h
    refine ⟨_, PSs.nox (pss_cons (ps_set (i := 2) sc__law_wished.nd rfl (by first | exact Or.inl rfl | exact Or.inr rfl) (pe_callB (show CallR _ _ (rMax K) from cr_max (by rfl)) (by rfl) T.max (by decide +kernel) (pa_cons (pe_op op_cat (pe_lst (pa_cons (pe_dget (hu_of hr) (pv 0) pe_str (fun _ _ => rfl)) pa_nil)) (pe_lc (own := [("_law_singer", 3)]) (g := (gName 3)) (tt := tYes) (by rfl) sc__law_wished.nd (show PI _ _ _ (iList K _) from pi_list (pv 1)) (blkOk_by (by kernel_rfl)) (fun _ _ _ _ _ => (pg_name (i := 3) sc__law_wished.nd rfl (by first | exact Or.inl rfl | exact Or.inr rfl))) (fun _ _ _ _ _ => pts_nil) (fun _ _ _ _ _ => (pe_op op_add (pe_ix (show IxR _ (rIxL K) from ix_list) (pe_dget (hu_of hr) (pv 0) pe_str (fun _ _ => rfl)) (pv 3) (fun _ _ => rfl)) pe_int)))) pa_nil)))
      (pss_cons (ps_set (i := 4) sc__law_wished.nd rfl (by first | exact Or.inl rfl | exact Or.inr rfl) (pe_callB (show CallR _ _ (rLenQ K) from call_len_seq) (by rfl) T.len (by decide +kernel) (pa_cons (pe_dget (hu_of hr) (pv 0) pe_str (fun _ _ => rfl)) pa_nil)))
      (pss_cons (ps_expr (show PE _ _ (tBM K _ _ _ _) from pe_bm PySem.F.plainAttrs_list PySem.F.slot_list_append PySem.F.type_list_append mt_append (pe_dget (hu_of hr) (pv 0) pe_str (fun _ _ => rfl)) (pa_cons (pv 2) pa_nil)))
      (pss_cons (ps_expr (show PE _ _ (tBM K _ _ _ _) from pe_bm PySem.F.plainAttrs_list PySem.F.slot_list_append PySem.F.type_list_append mt_append (pe_dget (hu_of hr) (pv 0) pe_str (fun _ _ => rfl)) (pa_cons (pv 4) pa_nil)))
      (pss_cons (ps_for PassesOwn.never rfl (show PI _ _ _ (iList K _) from pi_list (pv 1)) (pg_name (i := 3) sc__law_wished.nd rfl (by first | exact Or.inl rfl | exact Or.inr rfl))
      (pss_one (ps_asg (pv 2) (pg_sub (pe_dget (hu_of hr) (pv 0) pe_str (fun _ _ => rfl)) (pv 3) set_list))))
      (pss_cons (ps_expr (show PE _ _ (tBM K _ _ _ _) from pe_bm PySem.F.plainAttrs_list PySem.F.slot_list_append PySem.F.type_list_append mt_append (pe_dget (hu_of hr) (pv 0) pe_str (fun _ _ => rfl)) (pa_cons (pe_tup (pa_cons pe_str (pa_cons (pe_callTy (show CallR _ _ (rListO K) from call_list_of) (by rfl) T.list (by decide +kernel) (pa_cons (pv 1) pa_nil)) (pa_cons (pv 4) (pa_cons (pv 2) pa_nil))))) pa_nil)))
      (pss_one (ps_ret (pe_tup (pa_cons (pv 4) (pa_cons (pv 2) pa_nil))))))))))), ?_⟩
    refine ⟨_, rfl, p, _, rfl, c.gGoing, by show 1 ≤ sizeLine; decide, fun g ng => ?_⟩
    refine to_new ng fun H1 t1 hg => ?_
    have c1 := c.mono t1
    refine ⟨_, rfl, a, rfl, ⟨_, t1.seq hsH⟩, fun D nD => lc_map (fun x => match x with | .int s => .int (st.last.getD s.toNat 0 + 1) | _ => .non) (t1.seq hsH) nD (by rw [List.length_map]; omega) ?_ ?_ gname_mono⟩
    · intro i x H2 hx t2 k hk
      obtain ⟨s, rfl, hsi⟩ := int_at hx
      obtain ⟨h0, h1⟩ := sin s (List.mem_of_getElem? hsi)
      have c2 := c1.mono t2
      exact ⟨rfl, _, rfl, p, _, rfl, c2.gLast, _, rfl, A'.la, _, _, _, rfl, rfl, SqL.of c2.la, at_int h0 h1, _, _, rfl, rfl, hk _ (Same.refl _)⟩
    intro H2 t2 hD
    rw [List.map_map] at hD
    have hD' : H2 D = some (.lst ((ss.map fun s => st.last.getD s.toNat 0 + 1).map V.int)) := by rw [List.map_map]; exact hD
    refine ⟨g, D, _, _, rfl, rfl, t2 _ _ hg, hD', ?_, fun m nm => ?_⟩
    · rw [List.length_map, List.length_map]
      exact Nat.le_of_lt (lt_line (show 1 + ss.length ≤ 1000 by omega))
    refine to_new nm fun H3 t3 hm => ?_
    refine ⟨m, st.going :: ss.map fun (s : Int) => st.last.getD s.toNat 0 + 1, rfl, SqL.of hm, by simp, fun mx hmx hle => ?_⟩
    rw [maxL_eq hmx hle, roundFor_law (fun e => by rw [e] at s1; simp at s1)]
    have eN : roundFor st.last st.going ss = st.num ss := rfl
    rw [eN]
    have t13 : Same H H3 := (t1.trans t2).trans t3
    have c3 := c.mono t13
    refine ⟨_, rfl, p, _, rfl, c3.gRounds, A'.ro, _, rfl, .inl (SqL.of c3.ro), ?_⟩
    rw [List.length_map]
    refine ⟨_, rfl, p, _, rfl, c3.gRounds, .inl ⟨rfl, _, SqL.of c3.ro⟩, _, rfl, A'.ro, _, _, rfl, rfl, c3.ro, lt_line (by rw [List.length_map]; omega), ?_⟩
    rw [← snoc_ints]
    refine to_roL c3 _ fun H4 f4 c4 => ?_
    refine ⟨_, rfl, p, _, rfl, c4.gWaits, .inl ⟨rfl, _, SqL.of c4.wa⟩, _, rfl, A'.wa, _, _, rfl, rfl, c4.wa, lt_line (by rw [List.length_map]; have := ok.w24; omega), ?_⟩
    rw [← snoc_ints]
    refine to_waL c4 _ fun H5 f5 c5 => ?_
    have fr5 : Fra (own p A') H H5 := ((Fra.of t13).trans f4).trans f5
    refine ⟨_, rfl, a, rfl, ⟨_, (fr5.le idS).seq hs⟩, for_list (K := K) (a := a) (xs := ss.map V.int)
      (fun i σ H' => (∃ x, σ = [some (.ref p), some (.ref a), some (.int (st.num ss)), x, some (.int st.rounds.length)]) ∧ Fra (own p A') H H' ∧
        LC H' p A' (setAll st.last (ss.take i) (st.num ss)) st.going (st.rounds ++ [st.num ss]) (st.waiting ++ [(st.rounds.length : Int)]) cs) ⟨⟨_, rfl⟩, fr5, c5⟩ ?_ ?_ ?_⟩
    · intro i σ H' _ h
      exact (h.2.1.le idS).seq hs
    · rintro i x σ H' hx ⟨⟨y, rfl⟩, fr, ci⟩
      obtain ⟨s, rfl, hsi⟩ := int_at hx
      obtain ⟨h0, h1⟩ := sin s (List.mem_of_getElem? hsi)
      refine ⟨_, rfl, _, rfl, p, _, rfl, ci.gLast, _, rfl, A'.la, _, _, _, rfl, rfl, ci.la, ixN_of h0 (by rw [List.length_map, setAll_len]; exact h1), ?_⟩
      rw [← List.map_set]
      refine to_laL ci _ fun H6 f6 c6 => ?_
      refine ⟨⟨_, rfl⟩, fr.trans f6, ?_⟩
      rw [List.take_add_one, hsi]
      show LC _ _ _ (setAll st.last (ss.take i ++ [s]) _) _ _ _ _
      rw [setAll_snoc]
      exact c6
    · rintro σ H5 ⟨⟨y, rfl⟩, fr5, c5⟩
      rw [List.length_map, List.take_length] at c5
      refine ⟨_, rfl, p, _, rfl, c5.gTale, .inl ⟨rfl, _, SqL.of c5.ca⟩, _, rfl, a, _, rfl, .inl ((fr5.le idS).seq hs), fun b nb => ?_⟩
      refine to_new nb fun H6 s6 hb => ?_
      refine ⟨_, rfl, _, rfl, by show 4 ≤ sizeLine; decide, fun t nt => ?_⟩
      refine to_new nt fun H7 s7 ht => ?_
      have c7 := c5.mono (s6.trans s7)
      have fr7 : Fra (own p A') H H7 := fr5.trans (Fra.of (s6.trans s7))
      refine ⟨A'.ca, _, _, rfl, rfl, c7.ca, lt_line (by rw [hq.len]; omega), ?_⟩
      refine to_caL c7 _ fun H8 f8 c8 kp => ?_
      have fr8 : Fra (own p A') H H8 := fr7.trans f8
      refine ⟨_, rfl, _, rfl, by show 2 ≤ sizeLine; decide, fun u nu => ?_⟩
      refine to_new nu fun H9 s9 hu => ?_
      have dom5 := c5.dom fr5 dom
      have dom6 := dom_same s6 dom5
      have bS : b ∉ S := new_out dom5 nb
      have tS : t ∉ S := new_out dom6 nt
      have fr9 : Fra (own p A') H H9 := fr8.trans (Fra.of s9)
      refine q H9 u fr9 ⟨⟨_, c8.mono s9, ?_⟩, sub, dom_same s9 (c8.dom fr8 dom), ?_⟩ ?_ hu
      · refine Parts.snoc ?_ (hq.mono (Fra.off (fr9.mono sub)))
        have nca : ∀ x : Addr, x ∉ S → x ≠ A'.ca := fun x hx e => hx (by rw [e]; exact sub _ (memA p A').2.2.2.2)
        exact ⟨b, by rw [off_out tS]; exact s9 _ _ (kp _ _ (nca t tS) ht), by rw [off_out bS]; exact s9 _ _ (kp _ _ (nca b bS) (s7 _ _ hb))⟩
      · show (st.tale ++ [_]).length ≤ 900
        rw [List.length_append, List.length_singleton]; omega
      · have uS : u ∉ S := new_out (c8.dom fr8 dom) nu
        cases e : H u with
        | none => rfl
        | some o => rw [fr8 u o (fun z => uS (sub u z)) e] at nu; cases nu
theorem sc__law_sung : FnScope ["_law_state", "_law_song"] ["_law_state"] (defScope s__law_sung) := ⟨rfl, rfl, rfl, by decide +kernel, rfl, by decide +kernel, by decide +kernel⟩
def sp_sung : Sp := fun vs H Q _ => ∃ (S : List Addr) (p : Addr) (A : Ad) (st : EvS), vs = [.ref p] ∧ Ls S H p A st ∧ EvOk st ∧ st.tale.length < 900 ∧
  ∀ H', Fra (own p A) H H' → Ls S H' p A st.sing → Q (optV st.next) H'
theorem fn__law_sung (T : Tx K mg) : Fn P w K mg base "_law_sung" 2 sp_sung := by
  obtain ⟨fd, F⟩ := T.d__law_sung
  refine ⟨_, fd, _, F.ok (CX := CX0) sc__law_sung (fun vs H Q E h => ?_) (fun cdv A outer s H vs Q E hr h => ?_), T.g__law_sung, F.kp, F.bindsN fun _ _ _ _ _ _ us hl => match us, hl with | [_], _ => rfl⟩
  · obtain ⟨S, p, A, st, rfl, _⟩ := h; rfl
  · obtain ⟨S, p, A', st, rfl, ev, ok, hlt, q⟩ := h
    obtain ⟨⟨cs, c, hq⟩, sub, dom, few⟩ := id ev
    refine ⟨_, PSs.nox (pss_cons (ps_set (i := 1) sc__law_sung.nd rfl (by first | exact Or.inl rfl | exact Or.inr rfl) (pe_ix (show IxR _ (rIxL K) from ix_list) (pe_op op_cat (pe_fn (fn__law_queue T) (hr.mono (by decide)) (by rfl) (pa_cons (pv 0) pa_nil)) (pe_lst (pa_cons pe_non pa_nil))) pe_int (fun _ _ => rfl)))
      (pss_cons (ps_if (pt_cmpR op_notN (pv 1) pe_non (nomark _)) (pss_cons (ps_expr (show PE _ _ (tBM K _ _ _ _) from pe_bm PySem.F.plainAttrs_list PySem.F.slot_list_remove PySem.F.type_list_remove mt_remove (pe_dget (hu_of hr) (pv 0) pe_str (fun _ _ => rfl)) (pa_cons (pv 1) pa_nil)))
      (pss_one (ps_dput (hu_of hr) (pv 0) pe_str (pe_ix (show IxR _ (rIxL K) from ix_list) (pe_dget (hu_of hr) (pv 0) pe_str (fun _ _ => rfl)) (pv 1) (fun _ _ => rfl)) rfl))) pss_nil)
      (pss_cons (ps_expr (show PE _ _ (tBM K _ _ _ _) from pe_bm PySem.F.plainAttrs_list PySem.F.slot_list_append PySem.F.type_list_append mt_append (pe_dget (hu_of hr) (pv 0) pe_str (fun _ _ => rfl)) (pa_cons (pe_tup (pa_cons pe_str (pa_cons (pv 1) pa_nil))) pa_nil)))
      (pss_one (ps_ret (pv 1)))))), ?_⟩
    have ql : st.queue.length ≤ 24 := by
      have := inTurn_len st.rounds st.waiting
      have := ok.w24
      unfold EvS.queue; omega
    refine ⟨_, rfl, S, p, A', st, rfl, ev, ok, fun l H1 nl s1 hl => ?_⟩
    refine ⟨by show 1 ≤ sizeLine; decide, fun n nn => ?_⟩
    refine to_new nn fun H2 s2 hn => ?_
    refine ⟨l, n, _, _, rfl, rfl, s2 _ _ hl, hn, ?_, fun m nm => ?_⟩
    · rw [List.length_map]
      exact Nat.le_of_lt (lt_line (show st.queue.length + 1 ≤ 1000 by omega))
    refine to_new nm fun H3 s3 hm => ?_
    have s13 : Same H H3 := (s1.trans s2).trans s3
    have c3 := c.mono s13
    have e1 : atI (st.queue.map V.int ++ [V.non]) 0 = some (optV st.next) := by
      refine atI_nat (j := 0) ?_
      unfold EvS.next
      cases st.queue with
      | nil => rfl
      | cons x r => rfl
    refine ⟨m, _, _, _, rfl, rfl, SqL.of hm, e1, ?_⟩
    refine ⟨_, rfl, rfl, _, rfl, ?_⟩
    cases en : st.next with
    | none =>
      have es : st.sing = { st with tale := st.tale ++ [.sing none] } := by unfold EvS.sing; rw [en]
      refine iteF ?_
      refine ⟨_, rfl, p, _, rfl, c3.gTale, .inl ⟨rfl, _, SqL.of c3.ca⟩, _, rfl, by show 2 ≤ sizeLine; decide, fun t nt => ?_⟩
      refine to_new nt fun H4 s4 ht => ?_
      have c4 := c3.mono s4
      refine ⟨A'.ca, _, _, rfl, rfl, c4.ca, lt_line (by rw [hq.len]; omega), ?_⟩
      refine to_caL c4 _ fun H5 f5 c5 kp => ?_
      have fr5 : Fra (own p A') H H5 := (Fra.of (s13.trans s4)).trans f5
      refine ⟨_, rfl, ?_⟩
      have tS : t ∉ S := new_out (dom_same s13 dom) nt
      rw [en, es] at q
      refine q H5 fr5 ⟨⟨_, c5, Parts.snoc ?_ (hq.mono (Fra.off (fr5.mono sub)))⟩, sub, c5.dom fr5 dom, ?_⟩
      · show off S H5 t = _
        rw [off_out tS]
        exact kp _ _ (fun z => tS (by rw [z]; exact sub _ (memA p A').2.2.2.2)) ht
      · show (st.tale ++ [_]).length ≤ 900
        rw [List.length_append, List.length_singleton]; omega
    | some x =>
      have hx := EvS.next_mem en
      obtain ⟨h0, h1⟩ := ok.inb x hx
      obtain ⟨j, j1, j2, j3⟩ := erase_at hx
      refine iteT ?_
      refine ⟨_, rfl, p, _, rfl, c3.gWaits, .inl ⟨rfl, _, SqL.of c3.wa⟩, _, rfl, A'.wa, _, _, j, rfl, rfl, c3.wa, j1, j2, ?_⟩
      rw [j3]
      refine to_waL c3 _ fun H4 f4 c4 => ?_
      refine ⟨_, rfl, p, _, rfl, c4.gRounds, _, rfl, A'.ro, _, _, _, rfl, rfl, SqL.of c4.ro, at_int h0 h1, _, rfl, p, _, rfl, DPut.k (k := Sum.inr "going") c4.pp (by show 5 < sizeLine; decide), ?_⟩
      rw [stD_put]
      refine to_goL c4 _ fun H5 f5 c5 => ?_
      have fr5 : Fra (own p A') H H5 := ((Fra.of s13).trans f4).trans f5
      refine ⟨_, rfl, p, _, rfl, c5.gTale, .inl ⟨rfl, _, SqL.of c5.ca⟩, _, rfl, by show 2 ≤ sizeLine; decide, fun t nt => ?_⟩
      refine to_new nt fun H6 s6 ht => ?_
      have c6 := c5.mono s6
      refine ⟨A'.ca, _, _, rfl, rfl, c6.ca, lt_line (by rw [hq.len]; omega), ?_⟩
      refine to_caL c6 _ fun H7 f7 c7 kp => ?_
      have fr7 : Fra (own p A') H H7 := (fr5.trans (Fra.of s6)).trans f7
      refine ⟨_, rfl, ?_⟩
      have tS : t ∉ S := new_out (c5.dom fr5 dom) nt
      have es : st.sing = { st with waiting := st.waiting.erase x, going := st.rounds.getD x.toNat 0, tale := st.tale ++ [.sing (some x)] } := by unfold EvS.sing; rw [en]
      rw [en, es] at q
      refine q H7 fr7 ⟨⟨_, c7, Parts.snoc ?_ (hq.mono (Fra.off (fr7.mono sub)))⟩, sub, c7.dom fr7 dom, ?_⟩
      · show off S H7 t = _
        rw [off_out tS]
        exact kp _ _ (fun z => tS (by rw [z]; exact sub _ (memA p A').2.2.2.2)) ht
      · show (st.tale ++ [_]).length ≤ 900
        rw [List.length_append, List.length_singleton]; omega
theorem sc__law_out : FnScope ["_law_state", "_law_song"] ["_law_state", "_law_song"] (defScope s__law_out) := ⟨rfl, rfl, rfl, by decide +kernel, rfl, by decide +kernel, by decide +kernel⟩
def sp_out : Sp := fun vs H Q _ => ∃ (S : List Addr) (p : Addr) (A : Ad) (st : EvS) (n : Int), vs = [.ref p, .int n] ∧ Ls S H p A st ∧ EvOk st ∧ st.tale.length < 900 ∧ n ∈ st.waiting ∧
  ∀ H', Fra (own p A) H H' → Ls S H' p A (st.out n) → Q (.int (st.out n).waiting.length) H'
theorem fn__law_out (T : Tx K mg) : Fn P w K mg base "_law_out" 1 sp_out := by
  obtain ⟨fd, F⟩ := T.d__law_out
  refine ⟨_, fd, _, F.ok (CX := CX0) sc__law_out (fun vs H Q E h => ?_) (fun cdv A outer s H vs Q E hr h => ?_), T.g__law_out, F.kp, F.bindsN fun _ _ _ _ _ _ us hl => match us, hl with | [_, _], _ => rfl⟩
  · obtain ⟨S, p, A, st, n, rfl, _⟩ := h; rfl
  · obtain ⟨S, p, A', st, n, rfl, ev, ok, hlt, hn, q⟩ := h
    obtain ⟨⟨cs, c, hq⟩, sub, dom, few⟩ := id ev
    refine ⟨_, PSs.nox (pss_cons (ps_expr (show PE _ _ (tBM K _ _ _ _) from pe_bm PySem.F.plainAttrs_list PySem.F.slot_list_remove PySem.F.type_list_remove mt_remove (pe_dget (hu_of hr) (pv 0) pe_str (fun _ _ => rfl)) (pa_cons (pv 1) pa_nil)))
      (pss_cons (ps_expr (show PE _ _ (tBM K _ _ _ _) from pe_bm PySem.F.plainAttrs_list PySem.F.slot_list_append PySem.F.type_list_append mt_append (pe_dget (hu_of hr) (pv 0) pe_str (fun _ _ => rfl)) (pa_cons (pe_tup (pa_cons pe_str (pa_cons (pv 1) pa_nil))) pa_nil)))
      (pss_one (ps_ret (pe_callB (show CallR _ _ (rLenQ K) from call_len_seq) (by rfl) T.len (by decide +kernel) (pa_cons (pe_dget (hu_of hr) (pv 0) pe_str (fun _ _ => rfl)) pa_nil)))))), ?_⟩
    obtain ⟨j, j1, j2, j3⟩ := erase_at hn
    refine ⟨_, rfl, p, _, rfl, c.gWaits, .inl ⟨rfl, _, SqL.of c.wa⟩, _, rfl, A'.wa, _, _, j, rfl, rfl, c.wa, j1, j2, ?_⟩
    rw [j3]
    refine to_waL c _ fun H3 f3 c3 => ?_
    refine ⟨_, rfl, p, _, rfl, c3.gTale, .inl ⟨rfl, _, SqL.of c3.ca⟩, _, rfl, by show 2 ≤ sizeLine; decide, fun t nt => ?_⟩
    refine to_new nt fun H5 s5 ht => ?_
    have c5 := c3.mono s5
    refine ⟨A'.ca, _, _, rfl, rfl, c5.ca, lt_line (by rw [hq.len]; omega), ?_⟩
    refine to_caL c5 _ fun H6 f6 c6 kp => ?_
    have fr6 : Fra (own p A') H H6 := (f3.trans (Fra.of s5)).trans f6
    refine ⟨_, rfl, p, _, rfl, c6.gWaits, A'.wa, _, rfl, .inl (SqL.of c6.wa), ?_⟩
    rw [List.length_map]
    have tS : t ∉ S := new_out (c3.dom f3 dom) nt
    refine q H6 fr6 ⟨⟨_, c6, Parts.snoc ?_ (hq.mono (Fra.off (fr6.mono sub)))⟩, sub, c6.dom fr6 dom, ?_⟩
    · show off S H6 t = _
      rw [off_out tS]
      exact kp _ _ (fun z => tS (by rw [z]; exact sub _ (memA p A').2.2.2.2)) ht
    · show (st.tale ++ [_]).length ≤ 900
      rw [List.length_append, List.length_singleton]; omega
end
end Song

/-! ### Fr1: deeds, frames, the making of an evening -/
namespace Song
open PySem L2
def doDeed (st : EvS) : Deed → EvS
  | .wish ss => if st.rounds.length = 24 then st else st.wish ss
  | .sing => st.sing
  | .out n => if st.waiting = [] then st else st.out (st.waiting.getD (n % (st.waiting.length : Int)).toNat 0)
theorem EvS.sing_last (st : EvS) : st.sing.last = st.last := by
  unfold EvS.sing
  cases st.next <;> rfl
theorem doDeed_last (st : EvS) (d : Deed) : (doDeed st d).last.length = st.last.length := by
  cases d with
  | wish ss =>
    simp only [doDeed]
    split
    · rfl
    · exact setAll_len _ _ _
  | sing => rw [show doDeed st .sing = st.sing from rfl, EvS.sing_last]
  | out n =>
    simp only [doDeed]
    split <;> rfl
theorem doDeed_ok {st : EvS} {d : Deed} {m : Int} (h : EvOk st) (hd : DeedOk m d) : EvOk (doDeed st d) := by
  cases d with
  | wish ss =>
    simp only [doDeed]
    split
    · exact h
    · exact h.wish (by have := h.r24; omega) (areS_len hd).2.1
  | sing => exact h.sing
  | out n =>
    simp only [doDeed]
    split
    · exact h
    · exact h.out _
theorem sing_tale (st : EvS) : st.sing.tale.length = st.tale.length + 1 := by
  unfold EvS.sing
  cases st.next <;> simp
theorem doDeed_tale (st : EvS) (d : Deed) : (doDeed st d).tale.length ≤ st.tale.length + 1 := by
  cases d with
  | wish ss =>
    simp only [doDeed]
    split
    · omega
    · show (st.tale ++ [_]).length ≤ _
      simp
  | sing =>
    have := sing_tale st
    show st.sing.tale.length ≤ _
    omega
  | out n =>
    simp only [doDeed]
    split
    · omega
    · show (st.tale ++ [_]).length ≤ _
      simp
/-- two owners' cells stand apart -/
def Dj (p : Addr) (A : Ad) (d : Addr) (B : Ad) : Prop := ∀ a ∈ own d B, a ∉ own p A
theorem Dj.symm {p d : Addr} {A B : Ad} (h : Dj p A d B) : Dj d B p A := fun a h1 h2 => h a h2 h1
section
variable {K : PySem.W.Frag} {S S' X : List Addr} {H H' : Hp} {d : Addr} {B : Ad} {st : EvS}
theorem Ls.fra (ls : Ls S H d B st) (f : Fra X H H') (sub : ∀ a ∈ X, a ∈ S) (dom : ∀ a ∈ S, ∃ o, H' a = some o) (dj : ∀ a ∈ own d B, a ∉ X) : Ls S H' d B st := by
  obtain ⟨⟨cs, c, q⟩, sub2, _, few⟩ := ls
  obtain ⟨m1, m2, m3, m4, m5⟩ := memA d B
  exact ⟨⟨cs, ⟨f _ _ (dj _ m1) c.pp, f _ _ (dj _ m2) c.la, f _ _ (dj _ m3) c.ro, f _ _ (dj _ m4) c.wa, f _ _ (dj _ m5) c.ca, c.nd⟩, q.mono (Fra.off (f.mono sub))⟩, sub2, dom, few⟩
theorem Ev.fra (ev : Ev K S H d B st) (f : Fra X H H') (sub : ∀ a ∈ X, a ∈ S) (dom : ∀ a ∈ S, ∃ o, H' a = some o) (dj : ∀ a ∈ own d B, a ∉ X) : Ev K S H' d B st := by
  obtain ⟨⟨cs, c, q⟩, sub2, _, few⟩ := ev
  obtain ⟨m1, m2, m3, m4, m5⟩ := memA d B
  obtain ⟨dx, hp⟩ := c.pp
  exact ⟨⟨cs, ⟨⟨dx, f _ _ (dj _ m1) hp⟩, f _ _ (dj _ m2) c.la, f _ _ (dj _ m3) c.ro, f _ _ (dj _ m4) c.wa, f _ _ (dj _ m5) c.ca, c.nd⟩, q.mono (Fra.off (f.mono sub))⟩, sub2, dom, few⟩
theorem off_less (h : ∀ a ∈ S, a ∈ S') : Same (off S' H) (off S H) := fun b o e => by
  obtain ⟨n, e⟩ := off_some e
  rw [off_out (fun z => n (h _ z))]; exact e
theorem off_more (s : Same H H') (c : ∀ a ∈ S', a ∈ S ∨ H a = none) : Same (off S H) (off S' H') := fun b o e => by
  obtain ⟨n, e⟩ := off_some e
  rw [off_out (fun z => by
    rcases c b z with q | q
    · exact n q
    · rw [q] at e; cases e)]
  exact s _ _ e
theorem Ev.shrink (ev : Ev K S' H d B st) (h : ∀ a ∈ S, a ∈ S') (sub : ∀ a ∈ own d B, a ∈ S) : Ev K S H d B st := by
  obtain ⟨⟨cs, c, q⟩, _, dom, few⟩ := ev
  exact ⟨⟨cs, c, q.mono (off_less h)⟩, sub, fun a ha => dom a (h a ha), few⟩
theorem Ls.shrink (ev : Ls S' H d B st) (h : ∀ a ∈ S, a ∈ S') (sub : ∀ a ∈ own d B, a ∈ S) : Ls S H d B st := by
  obtain ⟨⟨cs, c, q⟩, _, dom, few⟩ := ev
  exact ⟨⟨cs, c, q.mono (off_less h)⟩, sub, fun a ha => dom a (h a ha), few⟩
theorem Ev.grow (ev : Ev K S H d B st) (s : Same H H') (h : ∀ a ∈ S, a ∈ S') (c : ∀ a ∈ S', a ∈ S ∨ H a = none) (dom : ∀ a ∈ S', ∃ o, H' a = some o) : Ev K S' H' d B st := by
  obtain ⟨⟨cs, c1, q⟩, sub, _, few⟩ := ev
  exact ⟨⟨cs, c1.mono s, q.mono (off_more s c)⟩, fun a ha => h a (sub a ha), dom, few⟩
theorem Ls.grow (ev : Ls S H d B st) (s : Same H H') (h : ∀ a ∈ S, a ∈ S') (c : ∀ a ∈ S', a ∈ S ∨ H a = none) (dom : ∀ a ∈ S', ∃ o, H' a = some o) : Ls S' H' d B st := by
  obtain ⟨⟨cs, c1, q⟩, sub, _, few⟩ := ev
  exact ⟨⟨cs, c1.mono s, q.mono (off_more s c)⟩, fun a ha => h a (sub a ha), dom, few⟩
end
theorem sqT_mono {K : PySem.W.Frag} {a : Addr} {xs : List V} (H H' : Hp) (s : Same H H') (h : SqT K H a xs) : SqT K H' a xs := Same.sqT s h
/-- over a tuple -/
theorem lc_mapT {g : TG} {te : TE} {vs : List Nat} {σ : L2.St} {H1 : Hp} {D : Addr} {Qd : Hp → Prop} {K : PySem.W.Frag} {a : Addr} {xs : List V} (f : V → V) (hSq : SqT K H1 a xs) (nD : H1 D = none) (hlen : xs.length ≤ 1000)
    (hs : ∀ (i : Nat) x H, xs[i]? = some x → Same H1 H → ∀ k : V → Hp → Prop, (∀ H', Same H H' → k (f x) H') → g x (wipe σ vs) H fun σ2 H2 => wipe σ2 vs = wipe σ vs ∧ te σ2 H2 k)
    (hd : ∀ H, Same H1 H → H D = some (.lst (xs.map f)) → Qd H)
    (hg : ∀ x σ H Q Q', (∀ σ2 H2, Q σ2 H2 → Q' σ2 H2) → g x σ H Q → g x σ H Q') : LcAsks (Itt K a) g tYes te vs σ H1 D Qd := by
  refine lc_pure walk_tup sqT_mono hSq (fun i => xs[i]?.map f) nD hlen (fun i x H H' hi s hY k kn hk _ => ?_) (fun H s hD => hd H s (by rw [← range_map]; exact hD))
  obtain ⟨rfl, hx⟩ := hY
  refine hg _ _ _ _ _ (fun σ2 H2 h => ?_) (hs i x H' hx s k fun H2 s2 => hk _ H2 (by rw [hx]; rfl) s2)
  exact ⟨h.1, yes_of h.2⟩
theorem dp_opt {K : PySem.W.Frag} {H : Hp} (o : Option Int) : Dp K H (optV o) (optD o) := by
  cases o with
  | none => exact .non
  | some n => exact .int n
theorem nS1 : decide (V.str "wish" = V.str "sing") = false := by decide +kernel
theorem nO1 : decide (V.str "wish" = V.str "out") = false := by decide +kernel
theorem nO2 : decide (V.str "sing" = V.str "out") = false := by decide +kernel
theorem nS2 : decide (V.str "out" = V.str "sing") = false := by decide +kernel
theorem cut63 {ns : List Int} (h : ns.length ≤ 63) : cutV (ns.map V.int) none (some 63) = ns.map V.int := by
  unfold cutV
  have e1 : HT.sIx (ns.map V.int).length 0 none = 0 := rfl
  have e2 : HT.sIx (ns.map V.int).length (ns.map V.int).length (some 63) = (ns.map V.int).length := by
    simp only [HT.sIx]
    rw [if_neg (by decide), List.length_map]
    have : (63 : Int).toNat = 63 := rfl
    omega
  rw [e1, e2]
  exact List.take_of_length_le (by simp)
/-- the making of an evening, seen from ahead of it -/
theorem made_same {H H' : Hp} {x dx : Addr} {o o' : HO} (nx : H x = none) (ndx : H dx = none) (f : Fra [x] (upd (upd H dx o) x o') H') : Same H H' := fun b o2 e => by
  have n1 : b ≠ x := ne_of_none e nx
  have n2 : b ≠ dx := ne_of_none e ndx
  refine f.one n1 ?_
  rw [upd_ne n1, upd_ne n2]
  exact e
theorem made_free {H : Hp} {x dx a : Addr} {o o' : HO} (h : upd (upd H dx o) x o' a = none) : H a = none := by
  have n1 : a ≠ x := fun e => by rw [e, upd_same] at h; cases h
  rw [upd_ne n1] at h
  have n2 : a ≠ dx := fun e => by rw [e, upd_same] at h; cases h
  rw [upd_ne n2] at h
  exact h
theorem Cells.domOwn {C : Addr} {H : Hp} {p : Addr} {A : Ad} {last : List Int} {going : Int} {rounds waiting : List Int} {cs : List V} (c : Cells C H p A last going rounds waiting cs) : ∀ a ∈ own p A, ∃ o, H a = some o := fun a q => by
  unfold own at q
  simp only [List.mem_cons, List.not_mem_nil, or_false] at q
  obtain ⟨dx, hp⟩ := c.pp
  rcases q with e | e | e | e | e
  · rw [e]; exact ⟨_, hp⟩
  · rw [e]; exact ⟨_, c.la⟩
  · rw [e]; exact ⟨_, c.ro⟩
  · rw [e]; exact ⟨_, c.wa⟩
  · rw [e]; exact ⟨_, c.ca⟩
theorem LC.domOwn {H : Hp} {p : Addr} {A : Ad} {last : List Int} {going : Int} {rounds waiting : List Int} {cs : List V} (c : LC H p A last going rounds waiting cs) : ∀ a ∈ own p A, ∃ o, H a = some o := fun a q => by
  unfold own at q
  simp only [List.mem_cons, List.not_mem_nil, or_false] at q
  rcases q with e | e | e | e | e
  · rw [e]; exact ⟨_, c.pp⟩
  · rw [e]; exact ⟨_, c.la⟩
  · rw [e]; exact ⟨_, c.ro⟩
  · rw [e]; exact ⟨_, c.wa⟩
  · rw [e]; exact ⟨_, c.ca⟩
/-- an evening just made -/
theorem Ev.made {K : PySem.W.Frag} {H : Hp} {p : Addr} {A : Ad} {n : Int} (c : Cells (He.ga K "Evening") H p A (List.replicate n.toNat 0) 1 [] [] []) : Ev K (own p A) H p A (evNew n) :=
  ⟨⟨[], c, trivial⟩, fun _ h => h, c.domOwn, by show 0 ≤ 900; decide⟩
def spLaw (K : PySem.W.Frag) : Sp := fun vs H Q _ => ∃ (a : Addr) (ns : List Int), vs = [.ref a] ∧ SqL K H a (ns.map V.int) ∧ Scr ns ∧ ∀ H', Q (.bl true) H'
/-- a part whose inner list is one's own: it may have grown -/
def MutP (H0 : Hp) (l2 : Addr) (n : Nat) (H : Hp) (v : V) : Prop :=
  (∃ (t b : Addr) (x y : V) (xs : List V), v = .ref t ∧ H t = some (.tup [.str "wish", .ref b, x, y]) ∧ H0 b = none ∧ b ≠ l2 ∧ H b = some (.lst xs) ∧ xs.length ≤ 3 + n) ∨
  (∃ (t : Addr) (s : Str) (x : V), v = .ref t ∧ H t = some (.tup [.str s, x]) ∧ decide (V.str s = V.str "wish") = false)
theorem MutP.mono {H0 : Hp} {l2 : Addr} {n : Nat} {H H' : Hp} {v : V} (s : Same H H') (h : MutP H0 l2 n H v) : MutP H0 l2 n H' v := by
  rcases h with ⟨t, b, x, y, xs, h1, h2, h3, h4, h5, h6⟩ | ⟨t, z, x, h1, h2, h3⟩
  · exact .inl ⟨t, b, x, y, xs, h1, s _ _ h2, h3, h4, s _ _ h5, h6⟩
  · exact .inr ⟨t, z, x, h1, s _ _ h2, h3⟩
theorem MutP.up {H0 : Hp} {l2 : Addr} {n : Nat} {H : Hp} {v : V} (h : MutP H0 l2 n H v) : MutP H0 l2 (n + 1) H v := by
  rcases h with ⟨t, b, x, y, xs, h1, h2, h3, h4, h5, h6⟩ | h
  · exact .inl ⟨t, b, x, y, xs, h1, h2, h3, h4, h5, by omega⟩
  · exact .inr h
theorem MutP.put {H0 : Hp} {l2 : Addr} {n : Nat} {H : Hp} {v : V} {c : Addr} {xs : List V} (hc : H c = some (.lst xs)) (hl : xs.length ≤ 3 + n) (y0 : V) (h : MutP H0 l2 n H v) : MutP H0 l2 (n + 1) (upd H c (.lst (xs ++ [y0]))) v := by
  rcases h with ⟨t, b, x, y, ys, h1, h2, h3, h4, h5, h6⟩ | ⟨t, z, x, h1, h2, h3⟩
  · have ntc : t ≠ c := ne_of h2 hc (by intro q; cases q)
    by_cases e : b = c
    · subst e
      exact .inl ⟨t, b, x, y, _, h1, by rw [upd_ne ntc]; exact h2, h3, h4, upd_same, by rw [List.length_append, List.length_singleton]; omega⟩
    · exact .inl ⟨t, b, x, y, ys, h1, by rw [upd_ne ntc]; exact h2, h3, h4, by rw [upd_ne e]; exact h5, by omega⟩
  · have ntc : t ≠ c := ne_of h2 hc (by intro q; cases q)
    exact .inr ⟨t, z, x, h1, by rw [upd_ne ntc]; exact h2, h3⟩
theorem PartN.mut {H0 H : Hp} {l2 : Addr} {v : V} {p : Part} (h : PartN H0 (off [l2] H) v p) (h3 : ∀ ss n r, p = .wish ss n r → ss.length ≤ 3) : MutP H0 l2 0 H v := by
  obtain ⟨pa, pn⟩ := h
  cases v with
  | ref t =>
    cases p with
    | wish ss n r =>
      obtain ⟨t', b, e, h1, h2, h4⟩ := pn ss n r rfl
      cases e
      obtain ⟨nb, hb⟩ := off_some h2
      exact .inl ⟨t, b, _, _, _, rfl, (off_some h1).2, h4, by simpa using nb, hb, by rw [List.length_map]; exact h3 ss n r rfl⟩
    | sing o => exact .inr ⟨t, _, _, rfl, (off_some pa).2, nW1⟩
    | out n => exact .inr ⟨t, _, _, rfl, (off_some pa).2, nW2⟩
  | _ => exact pa.elim
theorem eqv_ints (ns : List Int) : PyData.eqv (.list (ns.map PyData.int)) (.list (ns.map PyData.int)) = true := eqv_self (shp_ints ns)
theorem eqv_tale (ps : List Part) : PyData.eqv (.list (ps.map Part.data)) (.list (ps.map Part.data)) = true := eqv_self (shp_tale ps)
section
variable {K : PySem.W.Frag}
theorem Ev.pp {S : List Addr} {H : Hp} {p : Addr} {A : Ad} {st : EvS} (e : Ev K S H p A st) : ∃ dx, H p = some (.ins (He.ga K "Evening") dx (evF A st.going)) := by
  obtain ⟨cs, c, _⟩ := e.cell
  exact c.pp
theorem Ls.tale {S : List Addr} {H : Hp} {p : Addr} {A : Ad} {st : EvS} (e : Ls S H p A st) : Dp K H (.ref A.ca) (.list (st.tale.map Part.data)) := by
  obtain ⟨cs, c, q⟩ := e.cell
  exact .lst (SqL.of c.ca) (q.mono (off_le S H)).dp
theorem told_dp {H0 H : Hp} {l : Addr} {cs : List V} {ps : List Part} (hl : H l = some (.lst cs)) (he : cs.length = ps.length) (h : ∀ (i : Nat) v, cs[i]? = some v → ∃ q, ps[i]? = some q ∧ PartN H0 (off [l] H) v q) :
    Dp K H (.ref l) (.list (ps.map Part.data)) :=
  .lst (SqL.of hl) (Parts.mono (off_le [l] H) (Parts.of he fun i v e => by
    obtain ⟨q, h1, h2⟩ := h i v e
    exact ⟨q, h1, h2.1⟩)).dp
end
end Song

/-! ### Pl3: a tale gone over, plainly -/
namespace Song
open PySem L2
/-- a part that can come now, done -/
def stepPart (st : EvS) : Part → Option EvS
  | .wish ss n r => if areSingers ss st.last.length = true ∧ st.rounds.length < 24 ∧ n = (st.rounds.length : Int) ∧ r = st.num ss then some (st.wish ss) else none
  | .sing o => if st.next = o then some st.sing else none
  | .out n => if n ∈ st.waiting then some (st.out n) else none
def firstFrom (st : EvS) (i : Int) : List Part → Int
  | [] => -1
  | p :: r => match stepPart st p with
    | none => i
    | some st' => firstFrom st' (i + 1) r
def firstWrong (many : Int) (tale : List Part) : Int := firstFrom (evNew many) 0 tale
theorem firstFrom_none {st : EvS} {i : Int} {p : Part} {r : List Part} (h : stepPart st p = none) : firstFrom st i (p :: r) = i := by
  show (match stepPart st p with | none => i | some st' => firstFrom st' (i + 1) r) = i
  rw [h]
theorem firstFrom_some {st st' : EvS} {i : Int} {p : Part} {r : List Part} (h : stepPart st p = some st') : firstFrom st i (p :: r) = firstFrom st' (i + 1) r := by
  show (match stepPart st p with | none => i | some st' => firstFrom st' (i + 1) r) = _
  rw [h]
theorem stepPart_ok {st st' : EvS} {p : Part} (h : stepPart st p = some st') (ok : EvOk st) : EvOk st' ∧ st'.last.length = st.last.length ∧ st'.tale.length = st.tale.length + 1 := by
  cases p with
  | wish ss n r =>
    simp only [stepPart] at h
    split at h
    · rename_i c
      cases h
      exact ⟨ok.wish c.2.1 (areS_len c.1).2.1, setAll_len _ _ _, by show (st.tale ++ [_]).length = _; simp⟩
    · cases h
  | sing o =>
    simp only [stepPart] at h
    split at h
    · cases h
      exact ⟨ok.sing, by rw [EvS.sing_last], sing_tale st⟩
    · cases h
  | out n =>
    simp only [stepPart] at h
    split at h
    · cases h
      exact ⟨ok.out n, rfl, by show (st.tale ++ [_]).length = _; simp⟩
    · cases h
theorem firstFrom_lo (st : EvS) : ∀ (r : List Part) (st : EvS) (i : Int), 0 ≤ i → firstFrom st i r = -1 ∨ (i ≤ firstFrom st i r ∧ firstFrom st i r < i + r.length)
  | [], _, _, _ => .inl rfl
  | p :: r, st, i, hi => by
    cases e : stepPart st p with
    | none => rw [firstFrom_none e]; exact .inr ⟨Int.le_refl _, by rw [List.length_cons]; omega⟩
    | some st' =>
      rw [firstFrom_some e]
      rcases firstFrom_lo st r st' (i + 1) (by omega) with h | h
      · exact .inl h
      · exact .inr ⟨by omega, by rw [List.length_cons]; omega⟩
theorem firstWrong_ge (many : Int) (tale : List Part) : firstWrong many tale = -1 ∨ (0 ≤ firstWrong many tale ∧ firstWrong many tale < tale.length) := by
  rcases firstFrom_lo (evNew many) tale (evNew many) 0 (by decide) with h | h
  · exact .inl h
  · refine .inr ⟨h.1, ?_⟩
    have := h.2
    unfold firstWrong
    omega
theorem eqv_pair (a b c d : Int) : PyData.eqv (.tuple [.int a, .int b]) (.tuple [.int c, .int d]) = decide (a = c ∧ b = d) := by
  show ((a == c) && ((b == d) && true)) = _
  by_cases h1 : a = c <;> by_cases h2 : b = d <;> simp [h1, h2]
theorem eqv_opt (o o' : Option Int) : PyData.eqv (optD o) (optD o') = decide (o = o') := by
  cases o with
  | none =>
    cases o' with
    | none => rfl
    | some n => rfl
  | some m =>
    cases o' with
    | none => rfl
    | some n =>
      show (m == n) = _
      by_cases h : m = n <;> simp [h]
theorem shp_pair (a b : Int) : Shp 2 (.tuple [.int a, .int b]) := shp_tuple fun x hx => by
  simp only [List.mem_cons, List.not_mem_nil, or_false] at hx
  rcases hx with rfl | rfl <;> exact shp_int _
end Song

/-! ### An1: first_wrong, and the answers Right, Wrong -/
namespace Song
open PySem L2
section
variable {P : Program} {w : World} {K : PySem.W.Frag} {mg : Str → Option Value} {base : Heap}
theorem sc_first_wrong : FnScope ["many", "tale", "evening", "place", "part"] ["many", "tale"] (defScope s_first_wrong) := ⟨rfl, rfl, rfl, by decide +kernel, rfl, by decide +kernel, by decide +kernel⟩
/-- tales of wishes with no more than 300 singers each -/
def TaleOk (tale : List Part) : Prop := tale.length ≤ 300 ∧ ∀ ss n r, Part.wish ss n r ∈ tale → ss.length ≤ 1000
def sp_first_wrong (K : PySem.W.Frag) : Sp := fun vs H Q _ => ∃ (many : Int) (a : Addr) (cs : List V) (tale : List Part), vs = [.int many, .ref a] ∧ 1 ≤ many ∧ many ≤ 6 ∧ SqL K H a cs ∧ Parts H cs tale ∧ TaleOk tale ∧
  ∀ H', Same H H' → Q (.int (firstWrong many tale)) H'
theorem off_free {S : List Addr} {H H' : Hp} (s : Same H H') (n : ∀ a ∈ S, H a = none) : Same H (off S H') := fun b o e => by
  rw [off_out (fun z => by rw [n b z] at e; cases e)]
  exact s _ _ e
theorem fn_first_wrong (T : Tx K mg) : Fn P w K mg base "first_wrong" 5 (sp_first_wrong K) := by
  obtain ⟨fd, F⟩ := T.d_first_wrong
  refine ⟨_, fd, _, F.ok (CX := CX0) sc_first_wrong (fun vs H Q E h => ?_) (fun cdv A outer s H vs Q E hr h => ?_), T.g_first_wrong, F.kp, F.bindsN fun _ _ _ _ _ _ us hl => match us, hl with | [_, _], _ => rfl⟩
  · obtain ⟨many, a, cs, tale, rfl, _⟩ := h; rfl
  · obtain ⟨many, a, cs, tale, rfl, m1, m6, hs, hP, tok, q⟩ := h
    refine ⟨_, PSs.nox (pss_cons (ps_set (i := 2) sc_first_wrong.nd rfl (by first | exact Or.inl rfl | exact Or.inr rfl) (pe_mk (mk_Evening T) (hr.mono (by decide)) (by rfl) (pa_cons (pv 0) pa_nil)))
      (pss_cons (ps_for PassesOwn.never rfl (show PI _ _ _ (iEnum K _) from pi_enum (by rfl) T.enumerate (pa_cons (pv 1) pa_nil)) (show PG _ _ (gTup K _ _) from pg_tup rfl (pgs_cons (pg_name (i := 3) sc_first_wrong.nd rfl (by first | exact Or.inl rfl | exact Or.inr rfl)) (pgs_cons (pg_name (i := 4) sc_first_wrong.nd rfl (by first | exact Or.inl rfl | exact Or.inr rfl)) pgs_nil)))
      (pss_one (ps_if (pt_cmpR op_eq (pe_ix (show IxR _ (rIxT K) from ix_tup) (pv 4) pe_int (fun _ _ => rfl)) pe_str (nomark _)) (pss_cons (ps_if (PW.pt (pw_or (pt_not (pt_val (pe_fn (fn_are_singers T) (hr.mono (by decide)) (by rfl) (pa_cons (pe_ix (show IxR _ (rIxT K) from ix_tup) (pv 4) pe_int (fun _ _ => rfl)) (pa_cons (pv 0) pa_nil))))) (pw_or1 (pt_cmpR op_eq (pe_callB (show CallR _ _ (rLenQ K) from call_len_seq) (by rfl) T.len (by decide +kernel) (pa_cons (show PE _ _ (tFld K _ _) from pe_fld (pv 2) rfl) pa_nil)) (pe_gi T.c_MOST_SONGS (by rfl)) (nomark _))))) (pss_one (ps_ret (pv 3))) pss_nil)
      (pss_one (ps_if (pt_cmpR (show OpR _ _ (rNeD K) from op_neD hr.units) (pe_me (me_Evening_wish T) (hr.mono (by decide)) (pv 2) (pa_cons (pe_ix (show IxR _ (rIxT K) from ix_tup) (pv 4) pe_int (fun _ _ => rfl)) pa_nil)) (pe_tup (pa_cons (pe_ix (show IxR _ (rIxT K) from ix_tup) (pv 4) pe_int (fun _ _ => rfl)) (pa_cons (pe_ix (show IxR _ (rIxT K) from ix_tup) (pv 4) pe_int (fun _ _ => rfl)) pa_nil))) (nomark _)) (pss_one (ps_ret (pv 3))) pss_nil))) (pss_one (ps_if (pt_cmpR op_eq (pe_ix (show IxR _ (rIxT K) from ix_tup) (pv 4) pe_int (fun _ _ => rfl)) pe_str (nomark _)) (pss_one (ps_if (pt_cmpR (show OpR _ _ (rNeD K) from op_neD hr.units) (pe_me0 (me_Evening_sing T) (hr.mono (by decide)) (pv 2)) (pe_ix (show IxR _ (rIxT K) from ix_tup) (pv 4) pe_int (fun _ _ => rfl)) (nomark _)) (pss_one (ps_ret (pv 3))) pss_nil)) (pss_cons (ps_if (pt_cmpR (show OpR _ _ (rIn K true) from op_notIn_seq) (pe_ix (show IxR _ (rIxT K) from ix_tup) (pv 4) pe_int (fun _ _ => rfl)) (show PE _ _ (tFld K _ _) from pe_fld (pv 2) rfl) (by rfl)) (pss_one (ps_ret (pv 3))) pss_nil)
      (pss_one (ps_expr (pe_me (me_Evening_withdraw T) (hr.mono (by decide)) (pv 2) (pa_cons (pe_ix (show IxR _ (rIxT K) from ix_tup) (pv 4) pe_int (fun _ _ => rfl)) pa_nil))))))))))
      (pss_one (ps_ret (pe_un un_neg pe_int))))), ?_⟩
    refine ⟨_, rfl, fun p dx np ndx ned => ?_⟩
    refine ⟨p, dx, _, rfl, m1, m6, upd_same, fun H1 A' f1 c1 a1 a2 a3 a4 => ⟨rfl, ?_⟩⟩
    have s1 : Same H H1 := made_same np ndx f1
    have ev1 : Ev K (own p A') H1 p A' (evNew many) := Ev.made c1
    have nS : ∀ x ∈ own p A', H x = none := fun x hx => by
      unfold own at hx
      simp only [List.mem_cons, List.not_mem_nil, or_false] at hx
      rcases hx with e | e | e | e | e <;> rw [e]
      · exact np
      · exact made_free a1
      · exact made_free a2
      · exact made_free a3
      · exact made_free a4
    have so1 : Same H (off (own p A') H1) := off_free s1 nS
    have okN := evNew_ok m1 m6
    refine ⟨_, rfl, a, cs, rfl, s1.seq hs, for_it (walk_enum (xs := cs)) (fun i σ H' => ∃ (st : EvS) (x3 x4 : Option V), σ = [some (.int many), some (.ref a), some (.ref p), x3, x4] ∧
      EvOk st ∧ (st.last.length : Int) = many ∧ st.tale.length ≤ i ∧ Ev K (own p A') H' p A' st ∧ Same H (off (own p A') H') ∧ firstWrong many tale = firstFrom st i (tale.drop i)) ?_ ?_ ?_ ?_⟩
    · refine ⟨evNew many, _, _, rfl, okN, ?_, Nat.le_refl _, ev1, so1, rfl⟩
      show ((List.replicate many.toNat (0 : Int)).length : Int) = many
      rw [List.length_replicate]; omega
    · rintro i σ H' _ ⟨st, x3, x4, _, _, _, _, _, so, _⟩
      exact (so.trans (off_le _ _)).seq hs
    · rintro i v σ H2 H3 hi ⟨st, x3, x4, rfl, ok, hla, htl, ev, so, hfw⟩ ⟨t, x, y, rfl, nt, rfl, hx, hy⟩
      cases hx
      obtain ⟨part, hpt, hpa⟩ := hP.get hy
      have hcl := hP.len
      have hti : tale.length ≤ 300 := tok.1
      have hdr : tale.drop i = part :: tale.drop (i + 1) := by
        obtain ⟨hlt, e⟩ := List.getElem?_eq_some_iff.mp hpt
        rw [List.drop_eq_getElem_cons hlt, e]
      rw [hdr] at hfw
      refine ⟨t, _, rfl, SqT.of upd_same, rfl, _, _, rfl, _, _, rfl, rfl, ?_⟩
      refine to_new nt fun H3 s3 ht => ?_
      have ev3 := ev.mono s3
      have so3 : Same H (off (own p A') H3) := so.trans (off_mono s3)
      have hpa3 : PartAt (off (own p A') H3) y part := hpa.mono so3
      have fail : stepPart st part = none → ∀ H4, Same H H4 → Q (.int ((i : Nat) : Int)) H4 := fun e H4 s4 => by
        have z := q H4 s4
        rw [hfw, firstFrom_none e] at z
        exact z
      have next : ∀ (st' : EvS) (H4 : Hp), stepPart st part = some st' → Ev K (own p A') H4 p A' st' → Same H (off (own p A') H4) → ∀ z3 z4 : Option V,
          ∃ (st : EvS) (x3 x4 : Option V), [some (.int many), some (.ref a), some (.ref p), z3, z4] = [some (.int many), some (.ref a), some (.ref p), x3, x4] ∧
          EvOk st ∧ (st.last.length : Int) = many ∧ st.tale.length ≤ i + 1 ∧ Ev K (own p A') H4 p A' st ∧ Same H (off (own p A') H4) ∧ firstWrong many tale = firstFrom st ((i + 1 : Nat) : Int) (tale.drop (i + 1)) := fun st' H4 e ev4 so4 z3 z4 => by
        obtain ⟨k1, k2, k3⟩ := stepPart_ok e ok
        refine ⟨st', _, _, rfl, k1, by omega, by omega, ev4, so4, ?_⟩
        rw [hfw, firstFrom_some e]
        rfl
      obtain ⟨dx3, hp3⟩ := ev3.pp
      have back : ∀ {H4 : Hp}, Same H (off (own p A') H4) → Same H H4 := fun s4 => s4.trans (off_le _ _)
      cases y with
      | ref u =>
        cases part with
        | wish ss n r =>
          obtain ⟨b, hu, hb⟩ := hpa3
          have hu' := (off_some hu).2
          have hb' := (off_some hb).2
          have hsl : ss.length ≤ 1000 := tok.2 ss n r (List.mem_of_getElem? hpt)
          refine ⟨_, rfl, u, _, _, _, rfl, rfl, SqT.of hu', atI_nat (j := 0) rfl, rfl, _, rfl, ?_⟩
          rw [decide_eq_true rfl]
          refine iteT ⟨_, rfl, u, _, _, _, rfl, rfl, SqT.of hu', atI_nat (j := 1) rfl, _, rfl, b, ss, many, rfl, SqL.of hb', hsl, fun H4 s4 => ⟨_, rfl, ?_⟩⟩
          have so4 : Same H (off (own p A') H4) := so3.trans (off_mono s4)
          have ev4 := ev3.mono s4
          cases hA : areSingers ss many with
          | false =>
            refine iteT (iteT ⟨_, rfl, fail ?_ H4 (back so4)⟩)
            simp only [stepPart]
            rw [if_neg (fun z => by rw [hla, hA] at z; exact absurd z.1 (by decide))]
          | true =>
            obtain ⟨dx4, hp4⟩ := ev4.pp
            obtain ⟨cs4, c4, hq4⟩ := ev4.cell
            refine iteF ⟨_, rfl, p, _, dx4, _, _, rfl, hp4, T.cls_Evening, T.na_Evening_rounds, evF_rounds _ _, A'.ro, _, rfl, .inl (SqL.of c4.ro), rfl, _, rfl, ?_⟩
            rw [List.length_map]
            by_cases h24 : st.rounds.length = 24
            · rw [decide_eq_true (by rw [h24]; rfl)]
              refine iteT ⟨_, rfl, fail ?_ H4 (back so4)⟩
              simp only [stepPart]
              rw [if_neg (fun z => by omega)]
            · rw [decide_eq_false (by intro z; injection z; omega)]
              have hb4 : off (own p A') H4 b = some (.lst (ss.map V.int)) := (off_mono s4) _ _ hb
              have hu4 := s4 _ _ hu'
              refine iteF ⟨_, rfl, p, dx4, _, rfl, hp4, evF_no _ _ (by decide +kernel), _, rfl, u, _, _, _, rfl, rfl, SqT.of hu4, atI_nat (j := 1) rfl,
                own p A', p, b, A', st, ss, rfl, ev4, ok, by omega, SqL.of hb4, by rw [hla]; exact hA, (by have := ok.r24; omega), fun H5 v f5 ev5 nv hv => ?_⟩
              have so5 : Same H (off (own p A') H5) := so4.trans (Fra.off f5)
              have hu5 : H5 u = some (.tup [.str "wish", .ref b, .int n, .int r]) := f5 _ _ (off_some hu).1 hu4
              refine ⟨_, rfl, u, _, _, _, rfl, rfl, SqT.of hu5, atI_nat (j := 2) rfl, _, rfl, u, _, _, _, rfl, rfl, SqT.of hu5, atI_nat (j := 3) rfl, by show 2 ≤ sizeLine; decide, fun e ne => ?_⟩
              refine to_new ne fun H6 s6 he => ?_
              refine ⟨_, _, .tup (SqT.of (s6 _ _ hv)) (.cons (.int _) (.cons (.int _) .nil)), .tup (SqT.of he) (.cons (.int _) (.cons (.int _) .nil)), (shp_pair _ _).ok, (shp_pair _ _).ok, _, rfl, ?_⟩
              rw [eqv_pair]
              have so6 : Same H (off (own p A') H6) := so5.trans (off_mono s6)
              by_cases hE : (st.rounds.length : Int) = n ∧ st.num ss = r
              · rw [decide_eq_true hE]
                refine iteF (next (st.wish ss) H6 ?_ (ev5.mono s6) so6 _ _)
                simp only [stepPart]
                rw [if_pos ⟨by rw [hla]; exact hA, by have := ok.r24; omega, hE.1.symm, hE.2.symm⟩]
              · rw [decide_eq_false hE]
                refine iteT ⟨_, rfl, fail ?_ H6 (back so6)⟩
                simp only [stepPart]
                rw [if_neg (fun z => hE ⟨z.2.2.1.symm, z.2.2.2.symm⟩)]
        | sing o =>
          have hu' := (off_some hpa3).2
          refine ⟨_, rfl, u, _, _, _, rfl, rfl, SqT.of hu', atI_nat (j := 0) rfl, rfl, _, rfl, ?_⟩
          rw [nW1]
          refine iteF ⟨_, rfl, u, _, _, _, rfl, rfl, SqT.of hu', atI_nat (j := 0) rfl, rfl, _, rfl, ?_⟩
          rw [decide_eq_true rfl]
          refine iteT ⟨_, rfl, p, dx3, _, rfl, hp3, evF_no _ _ (by decide +kernel), own p A', p, A', st, rfl, ev3, ok, by omega, fun H5 f5 ev5 => ?_⟩
          have so5 : Same H (off (own p A') H5) := so3.trans (Fra.off f5)
          have hu5 : H5 u = some (.tup [.str "sing", optV o]) := f5 _ _ (off_some hpa3).1 hu'
          refine ⟨_, rfl, u, _, _, _, rfl, rfl, SqT.of hu5, atI_nat (j := 1) rfl, _, _, dp_opt _, dp_opt _, (shp_optD _).ok, (shp_optD _).ok, _, rfl, ?_⟩
          rw [eqv_opt]
          by_cases hE : st.next = o
          · rw [decide_eq_true hE]
            refine iteF (next st.sing H5 ?_ ev5 so5 _ _)
            simp only [stepPart]
            rw [if_pos hE]
          · rw [decide_eq_false hE]
            refine iteT ⟨_, rfl, fail ?_ H5 (back so5)⟩
            simp only [stepPart]
            rw [if_neg hE]
        | out n =>
          have hu' := (off_some hpa3).2
          refine ⟨_, rfl, u, _, _, _, rfl, rfl, SqT.of hu', atI_nat (j := 0) rfl, rfl, _, rfl, ?_⟩
          rw [nW2]
          refine iteF ⟨_, rfl, u, _, _, _, rfl, rfl, SqT.of hu', atI_nat (j := 0) rfl, rfl, _, rfl, ?_⟩
          rw [nS2]
          obtain ⟨cs3, c3, hq3⟩ := ev3.cell
          refine iteF ⟨_, rfl, u, _, _, _, rfl, rfl, SqT.of hu', atI_nat (j := 1) rfl, _, rfl, p, _, dx3, _, _, rfl, hp3, T.cls_Evening, T.na_Evening_waiting, evF_waiting _ _, A'.wa, _, rfl, .inl (SqL.of c3.wa), rfl, flat_ints _, _, rfl, ?_⟩
          rw [inV_ints]
          by_cases hE : n ∈ st.waiting
          · rw [decide_eq_true hE]
            refine iteF ⟨_, rfl, p, dx3, _, rfl, hp3, evF_no _ _ (by decide +kernel), _, rfl, u, _, _, _, rfl, rfl, SqT.of hu', atI_nat (j := 1) rfl, own p A', p, A', st, n, rfl, ev3, ok, by omega, hE, fun H5 f5 ev5 => ?_⟩
            refine next (st.out n) H5 ?_ ev5 (so3.trans (Fra.off f5)) _ _
            simp only [stepPart]
            rw [if_pos hE]
          · rw [decide_eq_false hE]
            refine iteT ⟨_, rfl, fail ?_ H3 (back so3)⟩
            simp only [stepPart]
            rw [if_neg hE]
      | _ => exact hpa.elim
    · rintro σ H2 ⟨st, x3, x4, rfl, ok, hla, htl, ev, so, hfw⟩
      have hcl := hP.len
      rw [hcl, List.drop_length] at hfw
      have z := q H2 (so.trans (off_le _ _))
      rw [hfw] at z
      exact ⟨_, rfl, z⟩
end
end Song

/-! ### An2: the answers Right and Wrong; what a law says of them -/
namespace Song
open PySem L2
section
variable {P : Program} {w : World} {K : PySem.W.Frag} {mg : Str → Option Value} {base : Heap}
/-- a tale handed in: its list, its parts -/
def TaleIn (K : PySem.W.Frag) (H : Hp) (a : Addr) (tale : List Part) : Prop := ∃ cs, SqL K H a cs ∧ Parts H cs tale ∧ TaleOk tale
theorem TaleIn.mono {H H' : Hp} {a : Addr} {tale : List Part} (s : Same H H') (h : TaleIn K H a tale) : TaleIn K H' a tale := by
  obtain ⟨cs, h1, h2, h3⟩ := h
  exact ⟨cs, s.seq h1, h2.mono s, h3⟩
theorem sc_Right_shows : FnScope ["self", "many", "tale"] ["self", "many", "tale"] (defScope s_Right_shows) := ⟨rfl, rfl, rfl, by decide +kernel, rfl, by decide +kernel, by decide +kernel⟩
def sp_right_shows (K : PySem.W.Frag) : Sp := fun vs H Q _ => ∃ (r a : Addr) (many : Int) (tale : List Part), vs = [.ref r, .int many, .ref a] ∧ 1 ≤ many ∧ many ≤ 6 ∧ TaleIn K H a tale ∧
  ∀ H', Same H H' → Q (.bl (decide (firstWrong many tale < 0))) H'
theorem me_Right_shows (T : Tx K mg) : Me P w K mg base (He.ga K "Right") "shows" 6 (sp_right_shows K) := by
  obtain ⟨fd, F⟩ := T.d_Right_shows
  refine ⟨_, fd, _, F.ok (CX := CX0) sc_Right_shows (fun vs H Q E h => ?_) (fun cdv A outer s H vs Q E hr h => ?_), T.cls_Right, T.me_Right_shows, F.bindsN fun _ _ _ _ _ _ us hl => match us, hl with | [_, _, _], _ => rfl⟩
  · obtain ⟨r, a, many, tale, rfl, _⟩ := h; rfl
  · obtain ⟨r, a, many, tale, rfl, m1, m6, ⟨cs, h1, h2, h3⟩, q⟩ := h
    refine ⟨_, PSs.nox (pss_one (ps_ret (pe_cmpR op_lt (pe_fn (fn_first_wrong T) (hr.mono (by decide)) (by rfl) (pa_cons (pv 1) (pa_cons (pv 2) pa_nil))) pe_int (nomark _)))), ?_⟩
    exact ⟨_, rfl, _, rfl, many, a, cs, tale, rfl, m1, m6, h1, h2, h3, fun H1 s1 => ⟨_, _, rfl, rfl, q _ s1⟩⟩
def wrF (v : V) : List (Str × V) := [("place", v)]
theorem wrF_place (v : V) : (wrF v).lookup ("place" : Str) = some v := by kernel_rfl
theorem wrF_shows (v : V) : (wrF v).lookup ("shows" : Str) = none := by kernel_rfl
theorem wrF_put (v : V) : putF "place" v [] = wrF v := by kernel_rfl
theorem sc_Wrong___init__ : FnScope ["self", "place"] ["self", "place"] (defScope s_Wrong___init__) := ⟨rfl, rfl, rfl, by decide +kernel, rfl, by decide +kernel, by decide +kernel⟩
def sp_wrong_init (K : PySem.W.Frag) : Sp := fun vs H Q _ => ∃ (p dx : Addr) (v : V), vs = [.ref p, v] ∧ H p = some (.ins (He.ga K "Wrong") dx []) ∧ ∀ H', Fra [p] H H' → H' p = some (.ins (He.ga K "Wrong") dx (wrF v)) → Q .non H'
theorem mk_Wrong (T : Tx K mg) : Mke P w K mg base "Wrong" (He.ga K "Wrong") 1 (sp_wrong_init K) := by
  obtain ⟨fd, F⟩ := T.d_Wrong___init__
  refine ⟨_, fd, _, F.ok (CX := CX0) sc_Wrong___init__ (fun vs H Q E h => ?_) (fun cdv A outer s H vs Q E hr h => ?_), T.mk_Wrong, T.g_Wrong, F.bindsN fun _ _ _ _ _ _ us hl => match us, hl with | [_, _], _ => rfl⟩
  · obtain ⟨p, dx, v, rfl, _⟩ := h; rfl
  · obtain ⟨p, dx, v, rfl, hp, q⟩ := h
    refine ⟨_, PSs.nox (pss_one (show PS _ _ (sFld K _ _ _) from ps_fld (pv 0) (pv 1) rfl)), ?_⟩
    refine ⟨_, rfl, _, rfl, p, _, dx, _, rfl, hp, T.cls_Wrong, T.na_Wrong_place, by show 0 < 1000; decide, ?_⟩
    rw [wrF_put]
    exact to_put fun H1 f1 hp1 => q H1 f1 hp1
theorem sc_Wrong_shows : FnScope ["self", "many", "tale"] ["self", "many", "tale"] (defScope s_Wrong_shows) := ⟨rfl, rfl, rfl, by decide +kernel, rfl, by decide +kernel, by decide +kernel⟩
def sp_wrong_shows (K : PySem.W.Frag) : Sp := fun vs H Q _ => ∃ (p dx a : Addr) (many n : Int) (tale : List Part), vs = [.ref p, .int many, .ref a] ∧ H p = some (.ins (He.ga K "Wrong") dx (wrF (.int n))) ∧ 1 ≤ many ∧ many ≤ 6 ∧ TaleIn K H a tale ∧
  ∀ H', Same H H' → Q (.bl (decide (0 ≤ n ∧ firstWrong many tale = n))) H'
theorem me_Wrong_shows (T : Tx K mg) : Me P w K mg base (He.ga K "Wrong") "shows" 6 (sp_wrong_shows K) := by
  obtain ⟨fd, F⟩ := T.d_Wrong_shows
  refine ⟨_, fd, _, F.ok (CX := CX0) sc_Wrong_shows (fun vs H Q E h => ?_) (fun cdv A outer s H vs Q E hr h => ?_), T.cls_Wrong, T.me_Wrong_shows, F.bindsN fun _ _ _ _ _ _ us hl => match us, hl with | [_, _, _], _ => rfl⟩
  · obtain ⟨p, dx, a, many, n, tale, rfl, _⟩ := h; rfl
  · obtain ⟨p, dx, a, many, n, tale, rfl, hp, m1, m6, ⟨cs, h1, h2, h3⟩, q⟩ := h
    refine ⟨_, PSs.nox (pss_one (ps_ret (pe_and (pe_cmpR op_ge (show PE _ _ (tFld K _ _) from pe_fld (pv 0) rfl) pe_int (nomark _)) (pe_one (pe_cmpR op_eq (pe_fn (fn_first_wrong T) (hr.mono (by decide)) (by rfl) (pa_cons (pv 1) (pa_cons (pv 2) pa_nil))) (show PE _ _ (tFld K _ _) from pe_fld (pv 0) rfl) (nomark _)))))), ?_⟩
    refine ⟨_, rfl, p, _, dx, _, _, rfl, hp, T.cls_Wrong, T.na_Wrong_place, wrF_place _, _, _, rfl, rfl, _, rfl, ?_⟩
    by_cases h0 : 0 ≤ n
    · rw [decide_eq_true h0]
      refine iteT ⟨_, rfl, _, rfl, many, a, cs, tale, rfl, m1, m6, h1, h2, h3, fun H1 s1 => ?_⟩
      refine ⟨_, rfl, p, _, dx, _, _, rfl, s1 _ _ hp, T.cls_Wrong, T.na_Wrong_place, wrF_place _, rfl, ?_⟩
      have e : decide (V.int (firstWrong many tale) = V.int n) = decide (0 ≤ n ∧ firstWrong many tale = n) := by
        by_cases z : firstWrong many tale = n
        · rw [decide_eq_true (congrArg V.int z), decide_eq_true ⟨h0, z⟩]
        · rw [decide_eq_false (fun y => z (by injection y)), decide_eq_false (fun y => z y.2)]
      rw [e]
      exact q _ s1
    · rw [decide_eq_false h0]
      have z := q H (Same.refl _)
      rw [decide_eq_false (fun y => h0 y.1)] at z
      exact iteF z
theorem sc__law_says : FnScope ["_law_said", "_law_due_here"] ["_law_said", "_law_due_here"] (defScope s__law_says) := ⟨rfl, rfl, rfl, by decide +kernel, rfl, by decide +kernel, by decide +kernel⟩
def sp_says (K : PySem.W.Frag) : Sp := fun vs H Q _ => ∃ a b : Bool, vs = [.bl a, .bl b] ∧ Q (.bl (decide (a = b))) H
theorem fn__law_says (T : Tx K mg) : Fn P w K mg base "_law_says" 1 (sp_says K) := by
  obtain ⟨fd, F⟩ := T.d__law_says
  refine ⟨_, fd, _, F.ok (CX := CX0) sc__law_says (fun vs H Q E h => ?_) (fun cdv A outer s H vs Q E hr h => ?_), T.g__law_says, F.kp, F.bindsN fun _ _ _ _ _ _ us hl => match us, hl with | [_, _], _ => rfl⟩
  · obtain ⟨a, b, rfl, _⟩ := h; rfl
  · obtain ⟨a, b, rfl, q⟩ := h
    refine ⟨_, PSs.nox (pss_one (ps_ret (pe_and (pe_callB (show CallR _ _ (rIsi K) from call_isi) (by rfl) T.isinstance (by decide +kernel) (pa_cons (pv 0) (pa_cons (pe_gt (n := "bool") T.bool (by rfl) (by decide +kernel)) pa_nil))) (pe_one (pe_cmpR op_eq (pv 0) (pv 1) (nomark _)))))), ?_⟩
    have kb : Kd K H (.bl a) "bool" := .base (.bl a)
    refine ⟨_, rfl, _, _, _, _, _, rfl, .ty _, kb, (kit_kd kb).2.1, _, rfl, iteT ?_⟩
    refine ⟨_, rfl, _, rfl, rfl, ?_⟩
    have e : decide (V.bl a = V.bl b) = decide (a = b) := by cases a <;> cases b <;> rfl
    rw [e]
    exact q
end
end Song

/-! ### Pl4: tales of deeds, plainly -/
namespace Song
open PySem L2
def TaleV (many : Int) (tale : List Part) : Prop := ∀ ss n r, Part.wish ss n r ∈ tale → areSingers ss many = true
theorem TaleV.wish {st : EvS} {ss : List Int} {m : Int} (h : TaleV m st.tale) (hs : areSingers ss m = true) : TaleV m (st.wish ss).tale := fun ss' n r hm => by
  rcases List.mem_append.mp hm with q | q
  · exact h ss' n r q
  · have := List.mem_singleton.mp q
    injection this with e _ _
    rw [e]; exact hs
theorem TaleV.sing {st : EvS} {m : Int} (h : TaleV m st.tale) : TaleV m st.sing.tale := fun ss n r hm => h ss n r (by
  unfold EvS.sing at hm
  cases e : st.next with
  | none => rw [e] at hm; simpa using hm
  | some s => rw [e] at hm; simpa using hm)
theorem TaleV.out {st : EvS} {m k : Int} (h : TaleV m st.tale) : TaleV m (st.out k).tale := fun ss n r hm => h ss n r (by simpa [EvS.out] using hm)
theorem TaleV.ok {m : Int} {tale : List Part} (h : TaleV m tale) (hl : tale.length ≤ 300) : TaleOk tale := ⟨hl, fun ss n r hm => by have := (areS_len (h ss n r hm)).2.1; omega⟩
theorem sing_rounds (st : EvS) : st.sing.rounds = st.rounds := by
  unfold EvS.sing
  cases st.next <;> rfl
theorem Parts.app {H : Hp} : ∀ {vs ws : List V} {ps qs : List Part}, Parts H vs ps → Parts H ws qs → Parts H (vs ++ ws) (ps ++ qs)
  | [], _, [], _, _, h => h
  | _ :: _, _, _ :: _, _, h, h2 => ⟨h.1, Parts.app h.2 h2⟩
  | [], _, _ :: _, _, h, _ => h.elim
  | _ :: _, _, [], _, h, _ => h.elim
theorem Parts.take {H : Hp} : ∀ {vs : List V} {ps : List Part} (n : Nat), Parts H vs ps → Parts H (vs.take n) (ps.take n)
  | _, _, 0, _ => trivial
  | [], [], _ + 1, _ => trivial
  | _ :: _, _ :: _, n + 1, h => ⟨h.1, Parts.take n h.2⟩
  | [], _ :: _, _, h => h.elim
  | _ :: _, [], _, h => h.elim
theorem Parts.drop {H : Hp} : ∀ {vs : List V} {ps : List Part} (n : Nat), Parts H vs ps → Parts H (vs.drop n) (ps.drop n)
  | _, _, 0, h => h
  | [], [], _ + 1, _ => trivial
  | _ :: _, _ :: _, n + 1, h => Parts.drop n h.2
  | [], _ :: _, _, h => h.elim
  | _ :: _, [], _, h => h.elim
theorem cut_head (vs : List V) (n : Nat) : cutV vs none (some (n : Int)) = vs.take n := by
  unfold cutV
  have e1 : HT.sIx vs.length 0 none = 0 := rfl
  have e2 : HT.sIx vs.length vs.length (some (n : Int)) = min n vs.length := by
    simp only [HT.sIx]
    rw [if_neg (by omega)]
    rfl
  rw [e1, e2, List.drop_zero]
  by_cases h : n ≤ vs.length
  · rw [Nat.min_eq_left h]; rfl
  · rw [Nat.min_eq_right (by omega), List.take_of_length_le (by omega), List.take_of_length_le (by omega)]
theorem cut_tail (vs : List V) (n : Nat) : cutV vs (some (n : Int)) none = vs.drop n := by
  unfold cutV
  have e1 : HT.sIx vs.length 0 (some (n : Int)) = min n vs.length := by
    simp only [HT.sIx]
    rw [if_neg (by omega)]
    rfl
  have e2 : HT.sIx vs.length vs.length none = vs.length := rfl
  rw [e1, e2]
  by_cases h : n ≤ vs.length
  · rw [Nat.min_eq_left h]
    exact List.take_of_length_le (by rw [List.length_drop]; omega)
  · rw [Nat.min_eq_right (by omega), List.drop_of_length_le (show vs.length ≤ n by omega), List.drop_length]
    exact List.take_nil
@[elab_as_elim] theorem to_made {H : Hp} {x dx : Addr} {o o' : HO} {Q : Hp → Prop} (nx : H x = none) (ndx : H dx = none) (h : ∀ H', Same H H' → H' x = some o' → Q H') : Q (upd (upd H dx o) x o') :=
  h _ (made_same (o := o) (o' := o') nx ndx (Fra.refl _ _)) upd_same
theorem pw_of : ∀ {ns : List Int}, rising ns = true → ns.Pairwise (· < ·)
  | [], _ => .nil
  | [_], _ => List.pairwise_singleton _ _
  | a :: b :: r, h => by
    unfold rising at h
    rw [Bool.and_eq_true] at h
    have h1 := of_decide_eq_true h.1
    have ih := pw_of h.2
    refine List.pairwise_cons.mpr ⟨fun x hx => ?_, ih⟩
    rcases List.mem_cons.mp hx with e | e
    · rw [e]; exact h1
    · exact Int.lt_trans h1 ((List.pairwise_cons.mp ih).1 x e)
/-- two rising lists of the same members are one -/
theorem pw_ext : ∀ {xs ys : List Int}, xs.Pairwise (· < ·) → ys.Pairwise (· < ·) → (∀ z, z ∈ xs ↔ z ∈ ys) → xs = ys
  | [], [], _, _, _ => rfl
  | [], b :: _, _, _, h => by have := (h b).mpr (by simp); cases this
  | a :: _, [], _, _, h => by have := (h a).mp (by simp); cases this
  | a :: r, b :: t, h1, h2, h => by
    obtain ⟨p1, q1⟩ := List.pairwise_cons.mp h1
    obtain ⟨p2, q2⟩ := List.pairwise_cons.mp h2
    have e : a = b := by
      have m1 := (h a).mp (by simp)
      have m2 := (h b).mpr (by simp)
      rcases List.mem_cons.mp m1 with e | e
      · exact e
      · rcases List.mem_cons.mp m2 with e2 | e2
        · exact e2.symm
        · have := p1 b e2; have := p2 a e; omega
    subst e
    rw [pw_ext q1 q2 fun z => ⟨fun m => ?_, fun m => ?_⟩]
    · rcases List.mem_cons.mp ((h z).mp (by simp [m])) with e | e
      · have := p1 z m; omega
      · exact e
    · rcases List.mem_cons.mp ((h z).mpr (by simp [m])) with e | e
      · have := p2 z m; omega
      · exact e
end Song

/-! ### An3: is_part, judged -/
namespace Song
open PySem L2
/-- one of two readings of an expression -/
def tAlt (t1 t2 : TE) : TE := fun σ H Q => t1 σ H Q ∨ t2 σ H Q
theorem pe_alt {X : Cx} {e : Expr} {t1 t2 : TE} (a : PE X e t1) (b : PE X e t2) : PE X e (tAlt t1 t2) :=
  ⟨fun pins s σ H Q I h => h.elim (fun h => a.run pins s σ H Q I h) (fun h => b.run pins s σ H Q I h)⟩
section
variable {P : Program} {w : World} {K : PySem.W.Frag} {mg : Str → Option Value} {base : Heap}
/-- an own instance's class, for isinstance -/
theorem ty_ins {H : Hp} {a C dx : Addr} {fs : List (Str × V)} (h : H a = some (.ins C dx fs)) (cl : Cls K C) (c : IsC K C) : TyX K H (.ref a) (.ref C) := .base (.ins h cl c.cls c.spe c.tak c.mro)
/-- a Right or a Wrong -/
def AnsAt (K : PySem.W.Frag) (H : Hp) (r : Addr) (fw : Int) : Prop := (fw < 0 ∧ ∃ dx, H r = some (.ins (He.ga K "Right") dx [])) ∨ (0 ≤ fw ∧ ∃ dx, H r = some (.ins (He.ga K "Wrong") dx (wrF (.int fw))))
theorem AnsAt.mono {H H' : Hp} {r : Addr} {fw : Int} (s : Same H H') (h : AnsAt K H r fw) : AnsAt K H' r fw := by
  rcases h with ⟨h0, dx, h⟩ | ⟨h0, dx, h⟩
  · exact .inl ⟨h0, dx, s _ _ h⟩
  · exact .inr ⟨h0, dx, s _ _ h⟩
theorem sc_is_part : FnScope ["thing"] ["thing"] (defScope s_is_part) := ⟨rfl, rfl, rfl, by decide +kernel, rfl, by decide +kernel, by decide +kernel⟩
def sp_is_part (K : PySem.W.Frag) : Sp := fun vs H Q _ => ∃ (v : V) (p : Part), vs = [v] ∧ PartAt H v p ∧ (∀ ss n r, p = .wish ss n r → ss.length ≤ 1000) ∧ ∀ H', Same H H' → Q (.bl true) H'
theorem all_isInt (ns : List Int) : (ns.map V.int).all isInt = true := by rw [List.all_map]; exact List.all_eq_true.mpr fun _ _ => rfl
theorem fn_is_part (T : Tx K mg) : Fn P w K mg base "is_part" 3 (sp_is_part K) := by
  obtain ⟨fd, F⟩ := T.d_is_part
  refine ⟨_, fd, _, F.ok (CX := CX0) sc_is_part (fun vs H Q E h => ?_) (fun cdv A outer s H vs Q E hr h => ?_), T.g_is_part, F.kp, F.bindsN fun _ _ _ _ _ _ us hl => match us, hl with | [_], _ => rfl⟩
  · obtain ⟨v, p, rfl, _⟩ := h; rfl
  · obtain ⟨v, p, rfl, hp, hl, q⟩ := h
    refine ⟨_, PSs.nox (pss_cons (ps_if (PW.pt (pw_or (pt_not (pt_val (pe_callB (show CallR _ _ (rIsi K) from call_isi) (by rfl) T.isinstance (by decide +kernel) (pa_cons (pv 0) (pa_cons (pe_gt (n := "tuple") T.tuple (by rfl) (by decide +kernel)) pa_nil))))) (pw_or (pt_cmpR op_lt (pe_callB (show CallR _ _ (rLenQ K) from call_len_seq) (by rfl) T.len (by decide +kernel) (pa_cons (pv 0) pa_nil)) pe_int (nomark _)) (pw_or1 (pt_not (pt_val (pe_callB (show CallR _ _ (rIsi K) from call_isi) (by rfl) T.isinstance (by decide +kernel) (pa_cons (pe_ix (show IxR _ (rIxT K) from ix_tup) (pv 0) pe_int (fun _ _ => rfl)) (pa_cons (pe_gt (n := "str") T.str (by rfl) (by decide +kernel)) pa_nil))))))))) (pss_one (ps_ret pe_bl)) pss_nil)
      (pss_cons (ps_if (pt_cmpR op_eq (pe_ix (show IxR _ (rIxT K) from ix_tup) (pv 0) pe_int (fun _ _ => rfl)) pe_str (nomark _)) (pss_one (ps_ret (pe_and (pe_cmpR op_eq (pe_callB (show CallR _ _ (rLenQ K) from call_len_seq) (by rfl) T.len (by decide +kernel) (pa_cons (pv 0) pa_nil)) pe_int (nomark _)) (pe_and (pe_fn (fn_are_numbers T) (hr.mono (by decide)) (by rfl) (pa_cons (pe_ix (show IxR _ (rIxT K) from ix_tup) (pv 0) pe_int (fun _ _ => rfl)) pa_nil)) (pe_and (pe_fn (fn_is_whole T) (hr.mono (by decide)) (by rfl) (pa_cons (pe_ix (show IxR _ (rIxT K) from ix_tup) (pv 0) pe_int (fun _ _ => rfl)) pa_nil)) (pe_one (pe_fn (fn_is_whole T) (hr.mono (by decide)) (by rfl) (pa_cons (pe_ix (show IxR _ (rIxT K) from ix_tup) (pv 0) pe_int (fun _ _ => rfl)) pa_nil)))))))) pss_nil)
      (pss_cons (ps_if (pt_cmpR op_eq (pe_ix (show IxR _ (rIxT K) from ix_tup) (pv 0) pe_int (fun _ _ => rfl)) pe_str (nomark _)) (pss_one (ps_ret (pe_and (pe_cmpR op_eq (pe_callB (show CallR _ _ (rLenQ K) from call_len_seq) (by rfl) T.len (by decide +kernel) (pa_cons (pv 0) pa_nil)) pe_int (nomark _)) (pe_one (pe_or (pe_cmpR op_isN (pe_ix (show IxR _ (rIxT K) from ix_tup) (pv 0) pe_int (fun _ _ => rfl)) pe_non (nomark _)) (pe_one (pe_fn (fn_is_whole T) (hr.mono (by decide)) (by rfl) (pa_cons (pe_ix (show IxR _ (rIxT K) from ix_tup) (pv 0) pe_int (fun _ _ => rfl)) pa_nil)))))))) pss_nil)
      (pss_one (ps_ret (pe_and (pe_cmpR op_eq (pe_ix (show IxR _ (rIxT K) from ix_tup) (pv 0) pe_int (fun _ _ => rfl)) pe_str (nomark _)) (pe_and (pe_cmpR op_eq (pe_callB (show CallR _ _ (rLenQ K) from call_len_seq) (by rfl) T.len (by decide +kernel) (pa_cons (pv 0) pa_nil)) pe_int (nomark _)) (pe_one (pe_fn (fn_is_whole T) (hr.mono (by decide)) (by rfl) (pa_cons (pe_ix (show IxR _ (rIxT K) from ix_tup) (pv 0) pe_int (fun _ _ => rfl)) pa_nil)))))))))), ?_⟩
    cases v with
    | ref t =>
      have str : ∀ (n : String), Kd K H (.str n) "str" := fun n => .base (.str n)
      cases p with
      | wish ss n r =>
        obtain ⟨b, ht, hb⟩ := hp
        have kt := kd_tup (SqT.of (K := K) ht)
        refine ⟨_, rfl, _, _, _, _, _, rfl, .ty _, kt, (kit_kd kt).2.2.2.1, _, rfl, iteF ?_⟩
        refine ⟨_, rfl, t, _, rfl, .inr (SqT.of ht), _, _, rfl, rfl, _, rfl, iteF ?_⟩
        refine ⟨_, rfl, t, _, _, _, rfl, rfl, SqT.of ht, atI_nat (j := 0) rfl, _, _, _, _, _, rfl, .ty _, str "wish", (kit_kd (str "wish")).2.2.2.2, _, rfl, iteF ?_⟩
        refine ⟨_, rfl, t, _, _, _, rfl, rfl, SqT.of ht, atI_nat (j := 0) rfl, rfl, _, rfl, ?_⟩
        rw [decide_eq_true rfl]
        refine iteT ⟨_, rfl, t, _, rfl, .inr (SqT.of ht), rfl, _, rfl, iteT ?_⟩
        refine ⟨_, rfl, t, _, _, _, rfl, rfl, SqT.of ht, atI_nat (j := 1) rfl, _, rfl, .inl ⟨b, _, rfl, SqL.of hb, by rw [List.length_map]; exact hl ss n r rfl, fun x hx => ?_, fun H1 s1 => ?_⟩⟩
        · obtain ⟨m, _, rfl⟩ := List.mem_map.mp hx
          exact ⟨_, kd_int m⟩
        rw [all_isInt]
        refine ⟨_, rfl, iteT ⟨_, rfl, t, _, _, _, rfl, rfl, SqT.of (s1 _ _ ht), atI_nat (j := 2) rfl, _, _, rfl, kd_int n, _, rfl, iteT ?_⟩⟩
        exact ⟨_, rfl, t, _, _, _, rfl, rfl, SqT.of (s1 _ _ ht), atI_nat (j := 3) rfl, _, _, rfl, kd_int r, q _ s1⟩
      | sing o =>
        have ht : H t = some (.tup [.str "sing", optV o]) := hp
        have kt := kd_tup (SqT.of (K := K) ht)
        refine ⟨_, rfl, _, _, _, _, _, rfl, .ty _, kt, (kit_kd kt).2.2.2.1, _, rfl, iteF ?_⟩
        refine ⟨_, rfl, t, _, rfl, .inr (SqT.of ht), _, _, rfl, rfl, _, rfl, iteF ?_⟩
        refine ⟨_, rfl, t, _, _, _, rfl, rfl, SqT.of ht, atI_nat (j := 0) rfl, _, _, _, _, _, rfl, .ty _, str "sing", (kit_kd (str "sing")).2.2.2.2, _, rfl, iteF ?_⟩
        refine ⟨_, rfl, t, _, _, _, rfl, rfl, SqT.of ht, atI_nat (j := 0) rfl, rfl, _, rfl, ?_⟩
        rw [nW1]
        refine iteF ⟨_, rfl, t, _, _, _, rfl, rfl, SqT.of ht, atI_nat (j := 0) rfl, rfl, _, rfl, ?_⟩
        rw [decide_eq_true rfl]
        refine iteT ⟨_, rfl, t, _, rfl, .inr (SqT.of ht), rfl, _, rfl, iteT ?_⟩
        refine ⟨_, rfl, t, _, _, _, rfl, rfl, SqT.of ht, atI_nat (j := 1) rfl, ?_⟩
        cases o with
        | none => exact ⟨rfl, _, rfl, iteT (q _ (Same.refl _))⟩
        | some n => exact ⟨rfl, _, rfl, iteF ⟨_, rfl, t, _, _, _, rfl, rfl, SqT.of ht, atI_nat (j := 1) rfl, _, _, rfl, kd_int n, q _ (Same.refl _)⟩⟩
      | out n =>
        have ht : H t = some (.tup [.str "out", .int n]) := hp
        have kt := kd_tup (SqT.of (K := K) ht)
        refine ⟨_, rfl, _, _, _, _, _, rfl, .ty _, kt, (kit_kd kt).2.2.2.1, _, rfl, iteF ?_⟩
        refine ⟨_, rfl, t, _, rfl, .inr (SqT.of ht), _, _, rfl, rfl, _, rfl, iteF ?_⟩
        refine ⟨_, rfl, t, _, _, _, rfl, rfl, SqT.of ht, atI_nat (j := 0) rfl, _, _, _, _, _, rfl, .ty _, str "out", (kit_kd (str "out")).2.2.2.2, _, rfl, iteF ?_⟩
        refine ⟨_, rfl, t, _, _, _, rfl, rfl, SqT.of ht, atI_nat (j := 0) rfl, rfl, _, rfl, ?_⟩
        rw [nW2]
        refine iteF ⟨_, rfl, t, _, _, _, rfl, rfl, SqT.of ht, atI_nat (j := 0) rfl, rfl, _, rfl, ?_⟩
        rw [nS2]
        refine iteF ⟨_, rfl, t, _, _, _, rfl, rfl, SqT.of ht, atI_nat (j := 0) rfl, rfl, _, rfl, iteT ?_⟩
        refine ⟨_, rfl, t, _, rfl, .inr (SqT.of ht), rfl, _, rfl, iteT ?_⟩
        exact ⟨_, rfl, t, _, _, _, rfl, rfl, SqT.of ht, atI_nat (j := 1) rfl, _, _, rfl, kd_int n, q _ (Same.refl _)⟩
    | _ => exact hp.elim
theorem sc_judged : FnScope ["many", "tale", "part", "place"] ["many", "tale"] (defScope s_judged) := ⟨rfl, rfl, rfl, by decide +kernel, rfl, by decide +kernel, by decide +kernel⟩
def sp_judged (K : PySem.W.Frag) : Sp := fun vs H Q _ => ∃ (many : Int) (a : Addr) (tale : List Part), vs = [.int many, .ref a] ∧ 1 ≤ many ∧ many ≤ 6 ∧ TaleIn K H a tale ∧ tale.length ≤ 30 ∧
  ∀ H' r, Same H H' → H r = none → AnsAt K H' r (firstWrong many tale) → Q (.ref r) H'
theorem fn_judged (T : Tx K mg) : Fn P w K mg base "judged" 6 (sp_judged K) := by
  obtain ⟨fd, F⟩ := T.d_judged
  refine ⟨_, fd, _, F.ok (CX := CX0) sc_judged (fun vs H Q E h => ?_) (fun cdv A outer s H vs Q E hr h => ?_), T.g_judged, F.kp, F.bindsN fun _ _ _ _ _ _ us hl => match us, hl with | [_, _], _ => rfl⟩
  · obtain ⟨many, a, tale, rfl, _⟩ := h; rfl
  · obtain ⟨many, a, tale, rfl, m1, m6, ⟨cs, hs, hP, tok⟩, t30, q⟩ := h
    refine ⟨_, PSs.nox (pss_cons (ps_expr (pe_fn (fn_check_many T) (hr.mono (by decide)) (by rfl) (pa_cons (pv 0) pa_nil)))
      (pss_cons (ps_if (PW.pt (pw_or (pt_not (pt_val (pe_callB (show CallR _ _ (rIsi K) from call_isi) (by rfl) T.isinstance (by decide +kernel) (pa_cons (pv 1) (pa_cons (pe_gt (n := "list") T.list (by rfl) (by decide +kernel)) pa_nil))))) (pw_or (pt_cmpR op_gt (pe_callB (show CallR _ _ (rLenQ K) from call_len_seq) (by rfl) T.len (by decide +kernel) (pa_cons (pv 1) pa_nil)) (pe_gi T.c_MOST_PARTS (by rfl)) (nomark _)) (pw_or1 (pt_not (pt_val (pe_callB (show CallR _ _ (rAll K) from cr_all (by rfl)) (by rfl) T.all (by decide +kernel) (pa_cons (pe_lc (own := [("part", 2)]) (g := (gName 2)) (tt := tYes) (by rfl) sc_judged.nd (show PI _ _ _ (iList K _) from pi_list (pv 1)) (blkOk_by (by kernel_rfl)) (fun _ _ _ _ _ => (pg_name (i := 2) sc_judged.nd rfl (by first | exact Or.inl rfl | exact Or.inr rfl))) (fun _ _ _ _ _ => pts_nil) (fun _ _ _ _ _ => (pe_fn (fn_is_part T) (hr.mono (by decide)) (by rfl) (pa_cons (pv 2) pa_nil)))) pa_nil)))))))) (pss_one ps_never) pss_nil)
      (pss_cons (ps_set (i := 3) sc_judged.nd rfl (by first | exact Or.inl rfl | exact Or.inr rfl) (pe_fn (fn_first_wrong T) (hr.mono (by decide)) (by rfl) (pa_cons (pv 0) (pa_cons (pv 1) pa_nil))))
      (pss_one (ps_ret (pe_ifExp (pt_cmpR op_lt (pv 3) pe_int (nomark _)) (pe_mkO T.mkb_Right (by rfl) T.g_Right) (pe_mk (mk_Wrong T) (hr.mono (by decide)) (by rfl) (pa_cons (pv 3) pa_nil)))))))), ?_⟩
    have hcl := hP.len
    refine ⟨_, rfl, many, rfl, m1, m6, ?_⟩
    have kl := kd_list hs
    refine ⟨_, rfl, _, _, _, _, _, rfl, .ty _, kl, (kit_kd kl).2.2.1, _, rfl, iteF ?_⟩
    refine ⟨_, rfl, a, _, rfl, .inl hs, _, _, rfl, rfl, _, rfl, ?_⟩
    rw [decide_eq_false (by omega)]
    refine iteF ⟨_, rfl, a, rfl, ⟨_, hs⟩, fun D nD => lc_map (fun _ => V.bl true) hs nD (by omega) (fun i x H1 hx s1 k hk => ?_) (fun H1 s1 hD => ?_) gname_mono⟩
    · obtain ⟨part, hpt, hpa⟩ := hP.get hx
      exact ⟨rfl, _, rfl, x, part, rfl, hpa.mono s1, fun ss n r e => tok.2 ss n r (by rw [← e]; exact List.mem_of_getElem? hpt), hk⟩
    · refine ⟨_, cs.map (fun _ => true), rfl, SqL.of (by rw [List.map_map]; exact hD), ?_⟩
      rw [show (cs.map (fun _ => true)).all id = true from by rw [List.all_map]; exact List.all_eq_true.mpr fun _ _ => rfl]
      refine ⟨_, rfl, iteF ?_⟩
      refine ⟨_, rfl, _, rfl, many, a, cs, tale, rfl, m1, m6, s1.seq hs, hP.mono s1, tok, fun H2 s2 => ?_⟩
      generalize firstWrong many tale = fw at *
      refine ⟨_, rfl, _, _, rfl, rfl, _, rfl, ?_⟩
      have s12 := s1.trans s2
      by_cases h0 : fw < 0
      · rw [decide_eq_true h0]
        refine iteT fun x dx nx ndx nex => ?_
        have nx0 := s12.free nx
        exact to_made nx ndx fun J j hx => q J x (s12.trans j) nx0 (.inl ⟨h0, dx, hx⟩)
      · rw [decide_eq_false h0]
        refine iteF ⟨_, rfl, fun x dx nx ndx nex => ⟨x, dx, .int fw, rfl, upd_same, fun G g hy => ⟨rfl, ?_⟩⟩⟩
        exact q G x (s12.trans (made_same nx ndx g)) (s12.free nx) (.inr ⟨by omega, dx, hy⟩)
end
end Song

/-! ### Lt3: the law k03's own going over -/
namespace Song
open PySem L2
theorem eqvI_all : ∀ xs ys : List Int, PyData.eqvAll (xs.map PyData.int) (ys.map PyData.int) = decide (xs = ys)
  | [], [] => rfl
  | [], _ :: _ => rfl
  | _ :: _, [] => rfl
  | a :: r, b :: t => by
    show ((a == b) && PyData.eqvAll (r.map PyData.int) (t.map PyData.int)) = _
    rw [eqvI_all r t]
    by_cases h : a = b
    · subst h
      rw [beq_self_eq_true, Bool.true_and]
      exact decide_eq_decide.mpr ⟨fun e => by rw [e], fun e => by injection e⟩
    · rw [beq_eq_false_iff_ne.mpr h, Bool.false_and, decide_eq_false (fun e => h (by injection e))]
theorem eqv_intsD (xs ys : List Int) : PyData.eqv (.list (xs.map PyData.int)) (.list (ys.map PyData.int)) = decide (xs = ys) := eqvI_all xs ys
section
variable {P : Program} {w : World} {K : PySem.W.Frag} {mg : Str → Option Value} {base : Heap}
theorem sc__law_can : FnScope ["_law_state", "_law_part", "_law_many_here", "_law_singers", "_law_good", "_law_one"] ["_law_state", "_law_part", "_law_many_here"] (defScope s__law_can) := ⟨rfl, rfl, rfl, by decide +kernel, rfl, by decide +kernel, by decide +kernel⟩
def sp_can (K : PySem.W.Frag) : Sp := fun vs H Q _ => ∃ (S : List Addr) (p : Addr) (B : Ad) (st : EvS) (v : V) (part : Part) (many : Int), vs = [.ref p, v, .int many] ∧ Ls S H p B st ∧ EvOk st ∧ (st.last.length : Int) = many ∧ st.tale.length < 900 ∧
  PartAt (off (own p B) H) v part ∧ (∀ ss n r, part = .wish ss n r → ss.length ≤ 1000) ∧
  ∀ H', Fra (own p B) H H' → (∀ st', stepPart st part = some st' → Ls S H' p B st') → Q (.bl (stepPart st part).isSome) H'
theorem fn__law_can (T : Tx K mg) : Fn P w K mg base "_law_can" 3 (sp_can K) := by
  obtain ⟨fd, F⟩ := T.d__law_can
  refine ⟨_, fd, _, F.ok (CX := CX0) sc__law_can (fun vs H Q E h => ?_) (fun cdv A outer s H vs Q E hr h => ?_), T.g__law_can, F.kp, F.bindsN fun _ _ _ _ _ _ us hl => match us, hl with | [_, _, _], _ => rfl⟩
  · obtain ⟨S, p, B, st, v, part, many, rfl, _⟩ := h; rfl
  · obtain ⟨S, p, B, st, v, part, many, rfl, ev, ok, hla, h900, hpa, hwl, q⟩ := h
    refine ⟨_, PSs.nox (pss_cons (ps_if (pt_cmpR op_eq (pe_ix (show IxR _ (rIxT K) from ix_tup) (pv 1) pe_int (fun _ _ => rfl)) pe_str (nomark _)) (pss_cons (ps_set (i := 3) sc__law_can.nd rfl (by first | exact Or.inl rfl | exact Or.inr rfl) (pe_ix (show IxR _ (rIxT K) from ix_tup) (pv 1) pe_int (fun _ _ => rfl)))
      (pss_cons (ps_set (i := 4) sc__law_can.nd rfl (by first | exact Or.inl rfl | exact Or.inr rfl) (pe_and (pe_chain op_le op_le pe_int (pe_callB (show CallR _ _ (rLenQ K) from call_len_seq) (by rfl) T.len (by decide +kernel) (pa_cons (pv 3) pa_nil)) pe_int) (pe_and (pe_cmpR (show OpR _ _ (rEqD K) from op_eqD hr.units) (pv 3) (pe_callB (show CallR _ _ (rSortedSet w) from cr_sortedSet (by rfl)) (by rfl) T.sorted (by decide +kernel) (pa_cons (pe_callTy (show CallR _ _ (rSetI K w) from cr_setI (by rfl)) (by rfl) T.set (by decide +kernel) (pa_cons (pv 3) pa_nil)) pa_nil)) (nomark _)) (pe_one (pe_callB (show CallR _ _ (rAll K) from cr_all (by rfl)) (by rfl) T.all (by decide +kernel) (pa_cons (pe_lc (own := [("_law_one", 5)]) (g := (gName 5)) (tt := tYes) (by rfl) sc__law_can.nd (show PI _ _ _ (iList K _) from pi_list (pv 3)) (blkOk_by (by kernel_rfl)) (fun _ _ _ _ _ => (pg_name (i := 5) sc__law_can.nd rfl (by first | exact Or.inl rfl | exact Or.inr rfl))) (fun _ _ _ _ _ => pts_nil) (fun _ _ _ _ _ => (pe_chain op_le op_lt pe_int (pv 5) (pv 2)))) pa_nil))))))
      (pss_one (ps_ret (pe_and (pv 4) (pe_and (pe_cmpR op_lt (pe_callB (show CallR _ _ (rLenQ K) from call_len_seq) (by rfl) T.len (by decide +kernel) (pa_cons (pe_dget (hu_of hr) (pv 0) pe_str (fun _ _ => rfl)) pa_nil)) pe_int (nomark _)) (pe_one (pe_cmpR (show OpR _ _ (rEqD K) from op_eqD hr.units) (pe_fn (fn__law_wished T) (hr.mono (by decide)) (by rfl) (pa_cons (pv 0) (pa_cons (pv 3) pa_nil))) (pe_tup (pa_cons (pe_ix (show IxR _ (rIxT K) from ix_tup) (pv 1) pe_int (fun _ _ => rfl)) (pa_cons (pe_ix (show IxR _ (rIxT K) from ix_tup) (pv 1) pe_int (fun _ _ => rfl)) pa_nil))) (nomark _))))))))) pss_nil)
      (pss_cons (ps_if (pt_cmpR op_eq (pe_ix (show IxR _ (rIxT K) from ix_tup) (pv 1) pe_int (fun _ _ => rfl)) pe_str (nomark _)) (pss_one (ps_ret (pe_cmpR (show OpR _ _ (rEqD K) from op_eqD hr.units) (pe_fn (fn__law_sung T) (hr.mono (by decide)) (by rfl) (pa_cons (pv 0) pa_nil)) (pe_ix (show IxR _ (rIxT K) from ix_tup) (pv 1) pe_int (fun _ _ => rfl)) (nomark _)))) pss_nil)
      (pss_cons (ps_if (pt_cmpR (show OpR _ _ (rIn K true) from op_notIn_seq) (pe_ix (show IxR _ (rIxT K) from ix_tup) (pv 1) pe_int (fun _ _ => rfl)) (pe_dget (hu_of hr) (pv 0) pe_str (fun _ _ => rfl)) (by rfl)) (pss_one (ps_ret pe_bl)) pss_nil)
      (pss_cons (ps_expr (pe_fn (fn__law_out T) (hr.mono (by decide)) (by rfl) (pa_cons (pv 0) (pa_cons (pe_ix (show IxR _ (rIxT K) from ix_tup) (pv 1) pe_int (fun _ _ => rfl)) pa_nil))))
      (pss_one (ps_ret pe_bl)))))), ?_⟩
    cases v with
    | ref u =>
      cases part with
      | wish ss n r =>
        obtain ⟨b, hu, hb⟩ := hpa
        have hu' := (off_some hu).2
        have hb' := (off_some hb).2
        have hsl := hwl ss n r rfl
        have fail : stepPart st (.wish ss n r) = none → ∀ H', Same H H' → Q (.bl false) H' := fun e H' s' => by
          have z := q H' (Fra.of s') (fun st' h => by rw [e] at h; cases h)
          rw [e] at z; exact z
        refine ⟨_, rfl, u, _, _, _, rfl, rfl, SqT.of hu', atI_nat (j := 0) rfl, rfl, _, rfl, ?_⟩
        rw [decide_eq_true rfl]
        refine iteT ⟨_, rfl, u, _, _, _, rfl, rfl, SqT.of hu', atI_nat (j := 1) rfl, ?_⟩
        refine ⟨_, rfl, b, _, rfl, .inl (SqL.of hb'), _, _, rfl, rfl, _, rfl, ?_⟩
        rw [List.length_map]
        have bad : areSingers ss many = false → stepPart st (.wish ss n r) = none := fun e => by
          simp only [stepPart]
          rw [if_neg (fun z => by rw [hla, e] at z; exact absurd z.1 (by decide))]
        by_cases h1 : (1 : Int) ≤ (ss.length : Int)
        case neg =>
          rw [decide_eq_false h1]
          refine iteF ⟨_, rfl, iteF ⟨_, rfl, _, rfl, iteF (fail (bad ?_) H (Same.refl _))⟩⟩
          unfold areSingers
          rw [decide_eq_false (fun z => h1 (by omega))]; rfl
        rw [decide_eq_true h1]
        refine iteT ⟨_, _, rfl, rfl, _, rfl, ?_⟩
        by_cases h3 : (ss.length : Int) ≤ 3
        case neg =>
          rw [decide_eq_false h3]
          refine iteF ⟨_, rfl, _, rfl, iteF (fail (bad ?_) H (Same.refl _))⟩
          unfold areSingers
          rw [decide_eq_false (fun z => h3 (by omega))]; rfl
        rw [decide_eq_true h3]
        refine iteT ?_
        refine ⟨_, rfl, _, rfl, b, ss, rfl, SqL.of hb', by omega, fun c cN hcN nc => ?_⟩
        refine to_new nc fun H1 s1 hc => ?_
        refine ⟨c, _, _, rfl, hc, by omega, fun ks e pw mem len ne => ?_⟩
        refine to_new ne fun H2 s2 he => ?_
        have s12 := s1.trans s2
        refine ⟨_, _, dp_ints (SqL.of (s12 _ _ hb')), dp_ints (SqL.of he), (shp_ints _).ok, (shp_ints _).ok, _, rfl, ?_⟩
        rw [eqv_intsD]
        by_cases hr : ss = ks
        case neg =>
          rw [decide_eq_false hr]
          refine iteF ⟨_, rfl, _, rfl, iteF (fail (bad ?_) H2 s12)⟩
          cases hA : areSingers ss many with
          | false => rfl
          | true =>
            obtain ⟨_, _, _, hri⟩ := areS_len hA
            exact absurd (pw_ext (pw_of hri) pw (fun z => ⟨fun m => (mem z).mpr (decide_eq_true m), fun m => of_decide_eq_true ((mem z).mp m)⟩)) hr
        rw [decide_eq_true hr]
        have hri : rising ss = true := by rw [hr]; exact rising_of pw
        refine iteT ?_
        refine ⟨_, rfl, b, rfl, ⟨_, SqL.of (s12 _ _ hb')⟩, fun D nD => lc_map (fun x => .bl (inR many x)) (SqL.of (s12 _ _ hb')) nD (by rw [List.length_map]; omega) ?_ ?_ gname_mono⟩
        · intro i x H3 hx s3 k hk
          obtain ⟨n, rfl, _⟩ := int_at hx
          refine ⟨rfl, _, rfl, _, _, rfl, rfl, _, rfl, ?_⟩
          have hk2 : k (.bl (decide (0 ≤ n) && decide (n < many))) H3 := hk H3 (Same.refl _)
          by_cases h0 : (0 : Int) ≤ n
          · rw [decide_eq_true h0] at hk2 ⊢
            exact iteT ⟨_, rfl, _, _, rfl, rfl, hk2⟩
          · rw [decide_eq_false h0] at hk2 ⊢
            exact iteF hk2
        · intro H3 s3 hD
          refine ⟨_, (ss.map V.int).map (inR many), rfl, SqL.of (by rw [← bls_all]; exact hD), ?_⟩
          rw [all_id, inR_all]
          have s13 := s12.trans s3
          refine ⟨_, rfl, _, rfl, ?_⟩
          have eA : areSingers ss many = ss.all fun n => decide (0 ≤ n ∧ n < many) := by
            unfold areSingers
            rw [hri, decide_eq_true (by omega), Bool.and_true, Bool.true_and]
          rw [← eA]
          cases hA : areSingers ss many with
          | false => exact iteF (fail (bad hA) H3 s13)
          | true =>
            have ev3 := ev.mono s13
            obtain ⟨cs3, c3, hq3⟩ := ev3.cell
            refine iteT ⟨_, rfl, p, _, rfl, c3.gRounds, B.ro, _, rfl, .inl (SqL.of c3.ro), _, _, rfl, rfl, _, rfl, ?_⟩
            rw [List.length_map]
            by_cases h24 : (st.rounds.length : Int) < 24
            case neg =>
              rw [decide_eq_false h24]
              refine iteF (fail ?_ H3 s13)
              simp only [stepPart]
              rw [if_neg (fun z => h24 (by omega))]
            rw [decide_eq_true h24]
            have hb3 : off (own p B) H3 b = some (.lst (ss.map V.int)) := (off_mono s13) _ _ hb
            have hu3 : off (own p B) H3 u = some (.tup [.str "wish", .ref b, .int n, .int r]) := (off_mono s13) _ _ hu
            refine iteT ⟨_, rfl, _, rfl, S, p, b, B, st, ss, rfl, ev3, ok, h900, SqL.of hb3, by rw [hla]; exact hA, by omega, fun H5 v f5 ev5 nv hv => ?_⟩
            have hu5 : H5 u = some (.tup [.str "wish", .ref b, .int n, .int r]) := f5 _ _ (off_some hu3).1 (off_some hu3).2
            refine ⟨_, rfl, u, _, _, _, rfl, rfl, SqT.of hu5, atI_nat (j := 2) rfl, _, rfl, u, _, _, _, rfl, rfl, SqT.of hu5, atI_nat (j := 3) rfl, by show 2 ≤ sizeLine; decide, fun e ne => ?_⟩
            refine to_new ne fun H6 s6 he => ?_
            refine ⟨_, _, .tup (SqT.of (s6 _ _ hv)) (.cons (.int _) (.cons (.int _) .nil)), .tup (SqT.of he) (.cons (.int _) (.cons (.int _) .nil)), (shp_pair _ _).ok, (shp_pair _ _).ok, ?_⟩
            rw [eqv_pair]
            have f6 : Fra (own p B) H H6 := (Fra.of s13).trans (f5.trans (Fra.of s6))
            by_cases hE : (st.rounds.length : Int) = n ∧ st.num ss = r
            · have e : stepPart st (.wish ss n r) = some (st.wish ss) := by
                simp only [stepPart]
                rw [if_pos ⟨by rw [hla]; exact hA, by omega, hE.1.symm, hE.2.symm⟩]
              rw [decide_eq_true hE]
              have z := q H6 f6 (fun st' h => by rw [e] at h; cases h; exact ev5.mono s6)
              rw [e] at z
              exact z
            · have e : stepPart st (.wish ss n r) = none := by
                simp only [stepPart]
                rw [if_neg (fun z => hE ⟨z.2.2.1.symm, z.2.2.2.symm⟩)]
              rw [decide_eq_false hE]
              have z := q H6 f6 (fun st' h => by rw [e] at h; cases h)
              rw [e] at z
              exact z
      | sing o =>
        have hu' := (off_some hpa).2
        refine ⟨_, rfl, u, _, _, _, rfl, rfl, SqT.of hu', atI_nat (j := 0) rfl, rfl, _, rfl, ?_⟩
        rw [nW1]
        refine iteF ⟨_, rfl, u, _, _, _, rfl, rfl, SqT.of hu', atI_nat (j := 0) rfl, rfl, _, rfl, ?_⟩
        rw [decide_eq_true rfl]
        refine iteT ⟨_, rfl, S, p, B, st, rfl, ev, ok, h900, fun H5 f5 ev5 => ?_⟩
        have hu5 : H5 u = some (.tup [.str "sing", optV o]) := f5 _ _ (off_some hpa).1 hu'
        refine ⟨_, rfl, u, _, _, _, rfl, rfl, SqT.of hu5, atI_nat (j := 1) rfl, _, _, dp_opt _, dp_opt _, (shp_optD _).ok, (shp_optD _).ok, ?_⟩
        rw [eqv_opt]
        by_cases hE : st.next = o
        · have e : stepPart st (.sing o) = some st.sing := by
            simp only [stepPart]
            rw [if_pos hE]
          rw [decide_eq_true hE]
          have z := q H5 f5 (fun st' h => by rw [e] at h; cases h; exact ev5)
          rw [e] at z
          exact z
        · have e : stepPart st (.sing o) = none := by
            simp only [stepPart]
            rw [if_neg hE]
          rw [decide_eq_false hE]
          have z := q H5 f5 (fun st' h => by rw [e] at h; cases h)
          rw [e] at z
          exact z
      | out n =>
        have hu' := (off_some hpa).2
        obtain ⟨cs3, c3, hq3⟩ := ev.cell
        refine ⟨_, rfl, u, _, _, _, rfl, rfl, SqT.of hu', atI_nat (j := 0) rfl, rfl, _, rfl, ?_⟩
        rw [nW2]
        refine iteF ⟨_, rfl, u, _, _, _, rfl, rfl, SqT.of hu', atI_nat (j := 0) rfl, rfl, _, rfl, ?_⟩
        rw [nS2]
        refine iteF ⟨_, rfl, u, _, _, _, rfl, rfl, SqT.of hu', atI_nat (j := 1) rfl, _, rfl, p, _, rfl, c3.gWaits, B.wa, _, rfl, .inl (SqL.of c3.wa), rfl, flat_ints _, _, rfl, ?_⟩
        rw [inV_ints]
        by_cases hE : n ∈ st.waiting
        · rw [decide_eq_true hE]
          refine iteF ⟨_, rfl, _, rfl, u, _, _, _, rfl, rfl, SqT.of hu', atI_nat (j := 1) rfl, S, p, B, st, n, rfl, ev, ok, h900, hE, fun H5 f5 ev5 => ?_⟩
          have e : stepPart st (.out n) = some (st.out n) := by
            simp only [stepPart]
            rw [if_pos hE]
          have z := q H5 f5 (fun st' h => by rw [e] at h; cases h; exact ev5)
          rw [e] at z
          exact z
        · rw [decide_eq_false hE]
          have e : stepPart st (.out n) = none := by
            simp only [stepPart]
            rw [if_neg hE]
          have z := q H (Fra.refl _ _) (fun st' h => by rw [e] at h; cases h)
          rw [e] at z
          exact iteT z
    | _ => exact hpa.elim
end
end Song

/-! ### Lt3b: _law_first, _law_copied, _law_due of k03 -/
namespace Song
open PySem L2
/-- what an answer says of a tale whose first wrong place is t -/
def ansSays (fw t : Int) : Bool := decide ((fw < 0 ∧ t < 0) ∨ (0 ≤ fw ∧ t = fw))
theorem ansSays_right {fw t : Int} (h : fw < 0) : ansSays fw t = decide (t < 0) := decide_eq_decide.mpr ⟨fun z => by omega, fun z => by omega⟩
theorem ansSays_wrong {fw t : Int} (h : 0 ≤ fw) : ansSays fw t = decide (0 ≤ fw ∧ t = fw) := decide_eq_decide.mpr ⟨fun z => by omega, fun z => by omega⟩
section
variable {P : Program} {w : World} {K : PySem.W.Frag} {mg : Str → Option Value} {base : Heap}
theorem sc__law_first : FnScope ["_law_many_here", "_law_tale", "_law_state", "_law_place", "_law_part"] ["_law_many_here", "_law_tale"] (defScope s__law_first) := ⟨rfl, rfl, rfl, by decide +kernel, rfl, by decide +kernel, by decide +kernel⟩
theorem fn__law_first (T : Tx K mg) : Fn P w K mg base "_law_first" 4 (sp_first_wrong K) := by
  obtain ⟨fd, F⟩ := T.d__law_first
  refine ⟨_, fd, _, F.ok (CX := CX0) sc__law_first (fun vs H Q E h => ?_) (fun cdv A outer s H vs Q E hr h => ?_), T.g__law_first, F.kp, F.bindsN fun _ _ _ _ _ _ us hl => match us, hl with | [_, _], _ => rfl⟩
  · obtain ⟨many, a, cs, tale, rfl, _⟩ := h; rfl
  · obtain ⟨many, a, cs, tale, rfl, m1, m6, hs, hP, tok, q⟩ := h
    refine ⟨_, PSs.nox (pss_cons (ps_set (i := 2) sc__law_first.nd rfl (by first | exact Or.inl rfl | exact Or.inr rfl) (pe_fn (fn__law_open T) (hr.mono (by decide)) (by rfl) (pa_cons (pv 0) pa_nil)))
      (pss_cons (ps_for PassesOwn.never rfl (show PI _ _ _ (iEnum K _) from pi_enum (by rfl) T.enumerate (pa_cons (pv 1) pa_nil)) (show PG _ _ (gTup K _ _) from pg_tup rfl (pgs_cons (pg_name (i := 3) sc__law_first.nd rfl (by first | exact Or.inl rfl | exact Or.inr rfl)) (pgs_cons (pg_name (i := 4) sc__law_first.nd rfl (by first | exact Or.inl rfl | exact Or.inr rfl)) pgs_nil)))
      (pss_one (ps_if (pt_not (pt_val (pe_fn (fn__law_can T) (hr.mono (by decide)) (by rfl) (pa_cons (pv 2) (pa_cons (pv 4) (pa_cons (pv 0) pa_nil)))))) (pss_one (ps_ret (pv 3))) pss_nil)))
      (pss_one (ps_ret (pe_un un_neg pe_int))))), ?_⟩
    refine ⟨_, rfl, _, rfl, m1, m6, fun H1 d B s1 c1 np a1 a2 a3 a4 => ?_⟩
    have ev1 : Ls (own d B) H1 d B (evNew many) := ⟨⟨[], c1, trivial⟩, fun _ h => h, c1.domOwn, by show 0 ≤ 900; decide⟩
    have nS : ∀ x ∈ own d B, H x = none := fun x hx => by
      unfold own at hx
      simp only [List.mem_cons, List.not_mem_nil, or_false] at hx
      rcases hx with e | e | e | e | e <;> (rw [e]; assumption)
    have so1 : Same H (off (own d B) H1) := off_free s1 nS
    have okN := evNew_ok m1 m6
    have hti : tale.length ≤ 300 := tok.1
    refine ⟨_, rfl, a, cs, rfl, s1.seq hs, for_it (walk_enum (xs := cs)) (fun i σ H' => ∃ (st : EvS) (x3 x4 : Option V), σ = [some (.int many), some (.ref a), some (.ref d), x3, x4] ∧
      EvOk st ∧ (st.last.length : Int) = many ∧ st.tale.length ≤ i ∧ Ls (own d B) H' d B st ∧ Same H (off (own d B) H') ∧ firstWrong many tale = firstFrom st i (tale.drop i)) ?_ ?_ ?_ ?_⟩
    · refine ⟨evNew many, _, _, rfl, okN, ?_, Nat.le_refl _, ev1, so1, rfl⟩
      show ((List.replicate many.toNat (0 : Int)).length : Int) = many
      rw [List.length_replicate]; omega
    · rintro i σ H' _ ⟨st, x3, x4, _, _, _, _, _, so, _⟩
      exact (so.trans (off_le _ _)).seq hs
    · rintro i v σ H2 H3 hi ⟨st, x3, x4, rfl, ok, hla, htl, ev, so, hfw⟩ ⟨t, x, y, rfl, nt, rfl, hx, hy⟩
      cases hx
      obtain ⟨part, hpt, hpa⟩ := hP.get hy
      have hcl := hP.len
      have hdr : tale.drop i = part :: tale.drop (i + 1) := by
        obtain ⟨hlt, e⟩ := List.getElem?_eq_some_iff.mp hpt
        rw [List.drop_eq_getElem_cons hlt, e]
      rw [hdr] at hfw
      refine ⟨t, _, rfl, SqT.of upd_same, rfl, _, _, rfl, _, _, rfl, rfl, ?_⟩
      refine to_new nt fun H3 s3 ht => ?_
      have ev3 := ev.mono s3
      have so3 : Same H (off (own d B) H3) := so.trans (off_mono s3)
      refine ⟨_, rfl, _, rfl, _, rfl, own d B, d, B, st, y, part, many, rfl, ev3, ok, hla, by omega, hpa.mono so3, fun ss n r e => tok.2 ss n r (by rw [← e]; exact List.mem_of_getElem? hpt), fun H4 f4 hst => ⟨_, rfl, ?_⟩⟩
      have so4 : Same H (off (own d B) H4) := so3.trans (Fra.off f4)
      cases e : stepPart st part with
      | none =>
        refine iteT ⟨_, rfl, ?_⟩
        have z := q H4 (so4.trans (off_le _ _))
        rw [hfw, firstFrom_none e] at z
        exact z
      | some st' =>
        obtain ⟨k1, k2, k3⟩ := stepPart_ok e ok
        refine iteF ⟨st', _, _, rfl, k1, by omega, by omega, hst st' e, so4, ?_⟩
        rw [hfw, firstFrom_some e]
        rfl
    · rintro σ H2 ⟨st, x3, x4, rfl, ok, hla, htl, ev, so, hfw⟩
      have hcl := hP.len
      rw [hcl, List.drop_length] at hfw
      have z := q H2 (so.trans (off_le _ _))
      rw [hfw] at z
      exact ⟨_, rfl, z⟩
theorem sc__law_copied : FnScope ["_law_tale", "_law_part"] ["_law_tale"] (defScope s__law_copied) := ⟨rfl, rfl, rfl, by decide +kernel, rfl, by decide +kernel, by decide +kernel⟩
def sp_copied (K : PySem.W.Frag) : Sp := fun vs H Q _ => ∃ (a : Addr) (tale : List Part), vs = [.ref a] ∧ TaleIn K H a tale ∧ ∀ H' b, Same H H' → H b = none → TaleIn K H' b tale → Q (.ref b) H'
theorem fn__law_copied (T : Tx K mg) : Fn P w K mg base "_law_copied" 1 (sp_copied K) := by
  obtain ⟨fd, F⟩ := T.d__law_copied
  refine ⟨_, fd, _, F.ok (CX := CX0) sc__law_copied (fun vs H Q E h => ?_) (fun cdv A outer s H vs Q E hr h => ?_), T.g__law_copied, F.kp, F.bindsN fun _ _ _ _ _ _ us hl => match us, hl with | [_], _ => rfl⟩
  · obtain ⟨a, tale, rfl, _⟩ := h; rfl
  · obtain ⟨a, tale, rfl, ⟨cs, hs, hP, tok⟩, q⟩ := h
    refine ⟨_, PSs.nox (pss_one (ps_ret (pe_lc (own := [("_law_part", 1)]) (g := (gName 1)) (tt := tYes) (by rfl) sc__law_copied.nd (show PI _ _ _ (iList K _) from pi_list (pv 0)) (blkOk_by (by kernel_rfl)) (fun _ _ _ _ _ => (pg_name (i := 1) sc__law_copied.nd rfl (by first | exact Or.inl rfl | exact Or.inr rfl))) (fun _ _ _ _ _ => pts_nil) (fun _ _ _ _ _ => (pe_ifExp (pt_cmpR op_eq (pe_ix (show IxR _ (rIxT K) from ix_tup) (pv 1) pe_int (fun _ _ => rfl)) pe_str (nomark _)) (pe_tup (pa_cons (pe_ix (show IxR _ (rIxT K) from ix_tup) (pv 1) pe_int (fun _ _ => rfl)) (pa_cons (pe_callTy (show CallR _ _ (rListO K) from call_list_of) (by rfl) T.list (by decide +kernel) (pa_cons (pe_ix (show IxR _ (rIxT K) from ix_tup) (pv 1) pe_int (fun _ _ => rfl)) pa_nil)) (pa_cons (pe_ix (show IxR _ (rIxT K) from ix_tup) (pv 1) pe_int (fun _ _ => rfl)) (pa_cons (pe_ix (show IxR _ (rIxT K) from ix_tup) (pv 1) pe_int (fun _ _ => rfl)) pa_nil))))) (pv 1)))))), ?_⟩
    have hcl := hP.len
    have hti : tale.length ≤ 300 := tok.1
    refine ⟨_, rfl, a, rfl, ⟨_, hs⟩, fun D nD => lc_all walk_list sqL_mono hs (fun i H1 y => ∃ q, tale[i]? = some q ∧ PartAt H1 y q) ?_ nD (by omega) ?_ ?_ gname_mono⟩
    · rintro i H1 H2 y s1 ⟨q, h1, h2⟩
      exact ⟨q, h1, h2.mono s1⟩
    · rintro i x H1 H2 acc hi1 s1 hD ⟨rfl, hx⟩ k hk
      obtain ⟨part, hpt, pa⟩ := hP.get hx
      have so : Same H (off [D] H2) := off_free s1 (fun z hz => by rw [List.mem_singleton.mp hz]; exact nD)
      cases x with
      | ref t =>
        cases part with
        | wish ss n r =>
          obtain ⟨b, ht, hb⟩ := pa
          have ht2 := s1 _ _ ht
          have hb2 := s1 _ _ hb
          refine ⟨rfl, _, rfl, t, _, _, _, rfl, rfl, SqT.of ht2, atI_nat (j := 0) rfl, rfl, _, rfl, ?_⟩
          rw [decide_eq_true rfl]
          refine iteT ⟨_, rfl, t, _, _, _, rfl, rfl, SqT.of ht2, atI_nat (j := 0) rfl, _, rfl, t, _, _, _, rfl, rfl, SqT.of ht2, atI_nat (j := 1) rfl, b, _, rfl, .inl (SqL.of hb2), fun b' nb => ?_⟩
          refine to_new nb fun H3 s3 hb3 => ?_
          have ht3 := s3 _ _ ht2
          refine ⟨_, rfl, t, _, _, _, rfl, rfl, SqT.of ht3, atI_nat (j := 2) rfl, _, rfl, t, _, _, _, rfl, rfl, SqT.of ht3, atI_nat (j := 3) rfl, by show 4 ≤ sizeLine; decide, fun t' nt => ?_⟩
          have nbD : b' ≠ D := (ne_of_none hD nb).symm
          have ntD : t' ≠ D := (ne_of_none (s3 _ _ hD) nt).symm
          refine hk _ _ (s3.trans (Same.new nt)) ⟨_, hpt, b', ?_, ?_⟩
          · rw [off_out (by simpa using ntD)]; exact upd_same
          · rw [off_out (by simpa using nbD)]; exact (Same.new nt) _ _ hb3
        | sing o =>
          have ht2 := s1 _ _ pa
          refine ⟨rfl, _, rfl, t, _, _, _, rfl, rfl, SqT.of ht2, atI_nat (j := 0) rfl, rfl, _, rfl, ?_⟩
          rw [nW1]
          exact iteF ⟨_, rfl, hk _ _ (Same.refl _) ⟨_, hpt, so _ _ pa⟩⟩
        | out n =>
          have ht2 := s1 _ _ pa
          refine ⟨rfl, _, rfl, t, _, _, _, rfl, rfl, SqT.of ht2, atI_nat (j := 0) rfl, rfl, _, rfl, ?_⟩
          rw [nW2]
          exact iteF ⟨_, rfl, hk _ _ (Same.refl _) ⟨_, hpt, so _ _ pa⟩⟩
      | _ => exact pa.elim
    · intro ys H1 s1 hD hly hy
      exact q H1 D s1 nD ⟨ys, SqL.of hD, (Parts.of (by omega) hy).mono (off_le _ _), tok⟩
theorem sc__law_due : FnScope ["_law_many_here", "_law_tale", "_law_found", "_law_place"] ["_law_many_here", "_law_tale", "_law_found"] (defScope s__law_due) := ⟨rfl, rfl, rfl, by decide +kernel, rfl, by decide +kernel, by decide +kernel⟩
def sp_due (K : PySem.W.Frag) : Sp := fun vs H Q _ => ∃ (many fw : Int) (a r : Addr) (tale : List Part), vs = [.int many, .ref a, .ref r] ∧ 1 ≤ many ∧ many ≤ 6 ∧ TaleIn K H a tale ∧ AnsAt K H r fw ∧ ∀ H', Same H H' → Q (.bl (ansSays fw (firstWrong many tale))) H'
theorem fn__law_due (T : Tx K mg) : Fn P w K mg base "_law_due" 5 (sp_due K) := by
  obtain ⟨fd, F⟩ := T.d__law_due
  refine ⟨_, fd, _, F.ok (CX := CX0) sc__law_due (fun vs H Q E h => ?_) (fun cdv A outer s H vs Q E hr h => ?_), T.g__law_due, F.kp, F.bindsN fun _ _ _ _ _ _ us hl => match us, hl with | [_, _, _], _ => rfl⟩
  · obtain ⟨many, fw, a, r, tale, rfl, _⟩ := h; rfl
  · obtain ⟨many, fw, a, r, tale, rfl, m1, m6, ⟨cs, hs, hP, tok⟩, ans, q⟩ := h
    refine ⟨_, PSs.nox (pss_cons (ps_set (i := 3) sc__law_due.nd rfl (by first | exact Or.inl rfl | exact Or.inr rfl) (pe_fn (fn__law_first T) (hr.mono (by decide)) (by rfl) (pa_cons (pv 0) (pa_cons (pv 1) pa_nil))))
      (pss_one (ps_ret (pe_ifExp (pt_val (pe_callB (show CallR _ _ (rIsi K) from call_isi) (by rfl) T.isinstance (by decide +kernel) (pa_cons (pv 2) (pa_cons (pe_gc T.g_Right (by rfl)) pa_nil)))) (pe_cmpR op_lt (pv 3) pe_int (nomark _)) (pe_chain op_eq op_ge (show PE _ _ (tFld K _ _) from pe_fld (pv 2) rfl) (pv 3) pe_int))))), ?_⟩
    refine ⟨_, rfl, _, rfl, many, a, cs, tale, rfl, m1, m6, hs, hP, tok, fun H1 s1 => ?_⟩
    generalize firstWrong many tale = t at *
    rcases ans.mono s1 with ⟨h0, dx, hr⟩ | ⟨h0, dx, hr⟩
    · refine ⟨_, rfl, _, _, _, _, _, rfl, .own _, ty_ins hr T.cls_Right T.ic_Right, T.ki_Right_Right, _, rfl, iteT ?_⟩
      refine ⟨_, rfl, _, _, rfl, rfl, ?_⟩
      have z := q H1 s1
      rw [ansSays_right h0] at z
      exact z
    · refine ⟨_, rfl, _, _, _, _, _, rfl, .own _, ty_ins hr T.cls_Wrong T.ic_Wrong, T.ki_Wrong_Right, _, rfl, iteF ?_⟩
      refine ⟨_, rfl, r, _, dx, _, _, rfl, hr, T.cls_Wrong, T.na_Wrong_place, wrF_place _, _, rfl, rfl, _, rfl, ?_⟩
      have z := q H1 s1
      by_cases e : fw = t
      · subst e
        rw [decide_eq_true rfl]
        refine iteT ⟨_, _, rfl, rfl, ?_⟩
        rw [ansSays_wrong h0, decide_eq_true ⟨h0, rfl⟩] at z
        show Q (.bl (decide (0 ≤ fw))) H1
        rw [decide_eq_true h0]
        exact z
      · rw [decide_eq_false (fun y => e (by injection y))]
        rw [ansSays_wrong h0, decide_eq_false (fun y => e y.2.symm)] at z
        exact iteF z
end
end Song

/-! ### Lt3c: _law_right of k03 -/
namespace Song
open PySem L2
theorem ansSays_self (fw : Int) : ansSays fw fw = true := decide_eq_true (by omega)
section
variable {P : Program} {w : World} {K : PySem.W.Frag} {mg : Str → Option Value} {base : Heap}
theorem TaleIn.dp {H : Hp} {a : Addr} {tale : List Part} (h : TaleIn K H a tale) : Dp K H (.ref a) (.list (tale.map Part.data)) := by
  obtain ⟨cs, h1, h2, _⟩ := h
  exact .lst h1 h2.dp
theorem shp_bls (a b : Bool) : Shp 2 (.list [.bool a, .bool b]) := shp_list fun x hx => by
  simp only [List.mem_cons, List.not_mem_nil, or_false] at hx
  rcases hx with e | e <;> (rw [e]; exact ⟨by rw [PyData.canLay0], by rw [PyData.depth] <;> omega⟩)
theorem TaleIn.sq {H : Hp} {a : Addr} {tale : List Part} (h : TaleIn K H a tale) : ∃ cs, SqL K H a cs ∧ Parts H cs tale := by
  obtain ⟨cs, h1, h2, _⟩ := h
  exact ⟨cs, h1, h2⟩
theorem sc__law_right : FnScope ["_law_many_here", "_law_tale", "_law_others", "_law_handed", "_law_place", "_law_again", "_law_found", "_law_sorts", "_law_other"] ["_law_many_here", "_law_tale", "_law_others"] (defScope s__law_right) := ⟨rfl, rfl, rfl, by decide +kernel, rfl, by decide +kernel, by decide +kernel⟩
def sp_right (K : PySem.W.Frag) : Sp := fun vs H Q _ => ∃ (many : Int) (a o : Addr) (tale : List Part) (os : List V), vs = [.int many, .ref a, .ref o] ∧ 1 ≤ many ∧ many ≤ 6 ∧ TaleIn K H a tale ∧ tale.length ≤ 30 ∧ SqL K H o os ∧
  (∀ v ∈ os, ∃ b t, v = .ref b ∧ TaleIn K H b t) ∧ ∀ H', Same H H' → Q (.bl true) H'
theorem fn__law_right (T : Tx K mg) : Fn P w K mg base "_law_right" 7 (sp_right K) := by
  obtain ⟨fd, F⟩ := T.d__law_right
  refine ⟨_, fd, _, F.ok (CX := CX0) sc__law_right (fun vs H Q E h => ?_) (fun cdv A outer s H vs Q E hr h => ?_), T.g__law_right, F.kp, F.bindsN fun _ _ _ _ _ _ us hl => match us, hl with | [_, _, _], _ => rfl⟩
  · obtain ⟨many, a, o, tale, os, rfl, _⟩ := h; rfl
  · obtain ⟨many, a, o, tale, os, rfl, m1, m6, inT, t30, hos, hov, q⟩ := h
    refine ⟨_, PSs.nox (pss_cons (ps_par (i := 3) (j := 4) (by rfl) sc__law_right.nd rfl rfl (by decide) rfl rfl (pa_cons (pe_fn (fn__law_copied T) (hr.mono (by decide)) (by rfl) (pa_cons (pv 1) pa_nil)) (pa_cons (pe_fn (fn__law_first T) (hr.mono (by decide)) (by rfl) (pa_cons (pv 0) (pa_cons (pv 1) pa_nil))) pa_nil)) (by rfl))
      (pss_cons (ps_for PassesOwn.never rfl (pi_range1 (by rfl) T.range (pa_cons pe_int pa_nil)) (pg_name (i := 5) sc__law_right.nd rfl (by first | exact Or.inl rfl | exact Or.inr rfl))
      (pss_cons (ps_set (i := 6) sc__law_right.nd rfl (by first | exact Or.inl rfl | exact Or.inr rfl) (pe_fn (fn_judged T) (hr.mono (by decide)) (by rfl) (pa_cons (pv 0) (pa_cons (pv 3) pa_nil))))
      (pss_cons (ps_set (i := 7) sc__law_right.nd rfl (by first | exact Or.inl rfl | exact Or.inr rfl) (pe_lst (pa_cons (pe_callB (show CallR _ _ (rIsi K) from call_isi) (by rfl) T.isinstance (by decide +kernel) (pa_cons (pv 6) (pa_cons (pe_gc T.g_Right (by rfl)) pa_nil))) (pa_cons (pe_callB (show CallR _ _ (rIsi K) from call_isi) (by rfl) T.isinstance (by decide +kernel) (pa_cons (pv 6) (pa_cons (pe_gc T.g_Wrong (by rfl)) pa_nil))) pa_nil))))
      (pss_cons (ps_if (PW.pt (pw_or (pt_not (pt_val (pe_callB (show CallR _ _ (rIsi K) from call_isi) (by rfl) T.isinstance (by decide +kernel) (pa_cons (pv 6) (pa_cons (pe_gc T.g_Answer (by rfl)) pa_nil))))) (pw_or (pt_cmpR (show OpR _ _ (rNeD K) from op_neD hr.units) (pv 7) (pe_lst (pa_cons (pe_cmpR op_lt (pv 4) pe_int (nomark _)) (pa_cons (pe_cmpR op_ge (pv 4) pe_int (nomark _)) pa_nil))) (nomark _)) (pw_or1 (pt_cmpR (show OpR _ _ (rNeD K) from op_neD hr.units) (pv 3) (pv 1) (nomark _)))))) (pss_one (ps_ret pe_bl)) pss_nil)
      (pss_cons (ps_if (PW.pt (pw_or (pt_val (pe_callB (show CallR _ _ (rIsi K) from call_isi) (by rfl) T.isinstance (by decide +kernel) (pa_cons (pv 6) (pa_cons (pe_gc T.g_Spaced (by rfl)) pa_nil)))) (pw_or (pt_val (pe_callB (show CallR _ _ (rIsi K) from call_isi) (by rfl) T.isinstance (by decide +kernel) (pa_cons (pv 6) (pa_cons (pe_gc T.g_Barred (by rfl)) pa_nil)))) (pw_or1 (pt_not (pt_val (pe_fn (fn__law_due T) (hr.mono (by decide)) (by rfl) (pa_cons (pv 0) (pa_cons (pv 1) (pa_cons (pv 6) pa_nil)))))))))) (pss_one (ps_ret pe_bl)) pss_nil)
      (pss_cons (ps_if (PW.pt (pw_or (pt_cmpR op_notBl (pe_alt (pe_me (me_Right_shows T) (hr.mono (by decide)) (pv 6) (pa_cons (pv 0) (pa_cons (pv 1) pa_nil))) (pe_me (me_Wrong_shows T) (hr.mono (by decide)) (pv 6) (pa_cons (pv 0) (pa_cons (pv 1) pa_nil)))) pe_bl (nomark _)) (pw_or1 (PW.pt (pw_and (pt_cmpR op_ge (pv 4) pe_int (nomark _)) (pw_and1 (pt_not (pt_val (pe_fn (fn__law_whole T) (hr.mono (by decide)) (by rfl) (pa_cons (show PE _ _ (tFld K _ _) from pe_fld (pv 6) rfl) pa_nil)))))))))) (pss_one (ps_ret pe_bl)) pss_nil)
      (pss_one (ps_for PassesOwn.never rfl (show PI _ _ _ (iList K _) from pi_list (pv 2)) (pg_name (i := 8) sc__law_right.nd rfl (by first | exact Or.inl rfl | exact Or.inr rfl))
      (pss_one (ps_if (pt_not (pt_val (pe_fn (fn__law_says T) (hr.mono (by decide)) (by rfl) (pa_cons (pe_alt (pe_me (me_Right_shows T) (hr.mono (by decide)) (pv 6) (pa_cons (pv 0) (pa_cons (pv 8) pa_nil))) (pe_me (me_Wrong_shows T) (hr.mono (by decide)) (pv 6) (pa_cons (pv 0) (pa_cons (pv 8) pa_nil)))) (pa_cons (pe_fn (fn__law_due T) (hr.mono (by decide)) (by rfl) (pa_cons (pv 0) (pa_cons (pv 8) (pa_cons (pv 6) pa_nil)))) pa_nil))))) (pss_one (ps_ret pe_bl)) pss_nil))))))))))
      (pss_one (ps_ret pe_bl)))), ?_⟩
    refine ⟨_, rfl, a, tale, rfl, inT, fun H1 b s1 nb inB => ?_⟩
    obtain ⟨cs1, hs1, hP1⟩ := (inT.mono s1).sq
    have tok : TaleOk tale := by obtain ⟨_, _, _, t⟩ := inT; exact t
    refine ⟨_, rfl, _, rfl, many, a, cs1, tale, rfl, m1, m6, hs1, hP1, tok, fun H2 s2 => ?_⟩
    have s12 := s1.trans s2
    generalize hfw : firstWrong many tale = fw
    refine ⟨_, _, rfl, _, rfl, by decide, by decide, for_range (lo := 0) (fun i σ H' => ∃ x5 x6 x7 x8, σ = [some (.int many), some (.ref a), some (.ref o), some (.ref b), some (.int fw), x5, x6, x7, x8] ∧ Same H2 H') ?_ ?_ ?_⟩
    · exact ⟨_, _, _, _, rfl, Same.refl _⟩
    · rintro i σ H3 hi ⟨x5, x6, x7, x8, rfl, s3⟩
      refine ⟨_, rfl, _, rfl, many, b, tale, rfl, m1, m6, inB.mono (s2.trans s3), t30, fun H4 r s4 nr ans => ?_⟩
      rw [hfw] at ans
      rcases id ans with ⟨h0, dx, hr⟩ | ⟨h0, dx, hr⟩
      · refine ⟨_, rfl, _, _, _, _, _, rfl, .own _, ty_ins hr T.cls_Right T.ic_Right, T.ki_Right_Right, _, rfl, _, _, _, _, _, rfl, .own _, ty_ins hr T.cls_Right T.ic_Right, T.ki_Right_Wrong, by show 2 ≤ sizeLine; decide, fun c nc => ?_⟩
        refine to_new nc fun H5 s5 hc => ?_
        have hr5 := s5 _ _ hr
        refine ⟨_, rfl, _, _, _, _, _, rfl, .own _, ty_ins hr5 T.cls_Right T.ic_Right, T.ki_Right_Answer, _, rfl, iteF ?_⟩
        refine ⟨_, rfl, _, rfl, _, _, rfl, rfl, _, rfl, _, _, rfl, rfl, by show 2 ≤ sizeLine; decide, fun d nd => ?_⟩
        refine to_new nd fun H6 s6 hd => ?_
        have hr6 := s6 _ _ hr5
        have s26 : Same H2 H6 := s3.trans (s4.trans (s5.trans s6))
        have ans6 := ans.mono (s5.trans s6)
        refine ⟨_, _, .lst (SqL.of (s6 _ _ hc)) (.cons (.bl _) (.cons (.bl _) .nil)), .lst (SqL.of hd) (.cons (.bl _) (.cons (.bl _) .nil)), (shp_bls _ _).ok, (shp_bls _ _).ok, _, rfl, ?_⟩
        have eE : PyData.eqv (.list [.bool true, .bool false]) (.list [.bool (decide (fw < 0)), .bool (decide (0 ≤ fw))]) = true := by
          rw [decide_eq_true h0, decide_eq_false (by omega)]; rfl
        rw [show PyData.eqv _ _ = true from eE]
        refine iteF ⟨_, rfl, _, rfl, _, _, (inB.mono (s2.trans s26)).dp, (inT.mono (s12.trans s26)).dp, (shp_tale _).ok, (shp_tale _).ok, _, rfl, ?_⟩
        rw [eqv_tale]
        refine iteF ?_
        refine ⟨_, rfl, _, _, _, _, _, rfl, .own _, ty_ins hr6 T.cls_Right T.ic_Right, T.ki_Right_Spaced, _, rfl, iteF ?_⟩
        refine ⟨_, rfl, _, _, _, _, _, rfl, .own _, ty_ins hr6 T.cls_Right T.ic_Right, T.ki_Right_Barred, _, rfl, iteF ?_⟩
        refine ⟨_, rfl, _, rfl, _, rfl, many, fw, a, r, tale, rfl, m1, m6, inT.mono (s12.trans s26), ans6, fun H7 s7 => ⟨_, rfl, ?_⟩⟩
        rw [hfw, ansSays_self]
        refine iteF ?_
        have hr7 := s7 _ _ hr6
        refine .inl ⟨_, rfl, r, dx, [], rfl, hr7, rfl, _, rfl, _, rfl, r, a, many, tale, rfl, m1, m6, inT.mono (s12.trans (s26.trans s7)), fun H8 s8 => ?_⟩
        rw [hfw, decide_eq_true h0]
        refine ⟨_, _, rfl, rfl, _, rfl, iteF ?_⟩
        have hr8 := s8 _ _ hr7
        have s28 : Same H2 H8 := s26.trans (s7.trans s8)
        have ans8 := ans6.mono (s7.trans s8)
        refine ⟨_, rfl, _, _, rfl, rfl, _, rfl, ?_⟩
        rw [decide_eq_false (by omega)]
        refine iteF (iteF ?_)
        refine ⟨_, rfl, o, rfl, ⟨_, (s12.trans s28).seq hos⟩, for_list (K := K) (a := o) (xs := os) (fun i σ H' => ∃ y5 y7 x8, σ = [some (.int many), some (.ref a), some (.ref o), some (.ref b), some (.int fw), y5, some (.ref r), y7, x8] ∧ Same H8 H') ?_ ?_ ?_ ?_⟩
        · exact ⟨_, _, _, rfl, Same.refl _⟩
        · rintro i σ G _ ⟨y5, y7, x8, rfl, g⟩
          exact ((s12.trans s28).trans g).seq hos
        · rintro i v σ G hv ⟨y5, y7, x8, rfl, g⟩
          obtain ⟨b2, t2, rfl, in2⟩ := hov v (List.mem_of_getElem? hv)
          have inG := in2.mono ((s12.trans s28).trans g)
          have hrG := g _ _ hr8
          refine .inl ⟨_, rfl, r, dx, [], rfl, hrG, rfl, _, rfl, _, rfl, r, b2, many, t2, rfl, m1, m6, inG, fun G1 g1 => ?_⟩
          refine ⟨_, rfl, _, rfl, _, rfl, many, fw, b2, r, t2, rfl, m1, m6, inG.mono g1, ans8.mono (g.trans g1), fun G2 g2 => ?_⟩
          refine ⟨_, _, rfl, _, rfl, ?_⟩
          rw [ansSays_right h0, decide_eq_true rfl]
          exact iteF ⟨_, _, _, rfl, g.trans (g1.trans g2)⟩
        · rintro σ G ⟨y5, y7, x8, rfl, g⟩
          exact ⟨_, _, _, _, rfl, s28.trans g⟩
      · refine ⟨_, rfl, _, _, _, _, _, rfl, .own _, ty_ins hr T.cls_Wrong T.ic_Wrong, T.ki_Wrong_Right, _, rfl, _, _, _, _, _, rfl, .own _, ty_ins hr T.cls_Wrong T.ic_Wrong, T.ki_Wrong_Wrong, by show 2 ≤ sizeLine; decide, fun c nc => ?_⟩
        refine to_new nc fun H5 s5 hc => ?_
        have hr5 := s5 _ _ hr
        refine ⟨_, rfl, _, _, _, _, _, rfl, .own _, ty_ins hr5 T.cls_Wrong T.ic_Wrong, T.ki_Wrong_Answer, _, rfl, iteF ?_⟩
        refine ⟨_, rfl, _, rfl, _, _, rfl, rfl, _, rfl, _, _, rfl, rfl, by show 2 ≤ sizeLine; decide, fun d nd => ?_⟩
        refine to_new nd fun H6 s6 hd => ?_
        have hr6 := s6 _ _ hr5
        have s26 : Same H2 H6 := s3.trans (s4.trans (s5.trans s6))
        have ans6 := ans.mono (s5.trans s6)
        refine ⟨_, _, .lst (SqL.of (s6 _ _ hc)) (.cons (.bl _) (.cons (.bl _) .nil)), .lst (SqL.of hd) (.cons (.bl _) (.cons (.bl _) .nil)), (shp_bls _ _).ok, (shp_bls _ _).ok, _, rfl, ?_⟩
        have eE : PyData.eqv (.list [.bool false, .bool true]) (.list [.bool (decide (fw < 0)), .bool (decide (0 ≤ fw))]) = true := by
          rw [decide_eq_true h0, decide_eq_false (by omega)]; rfl
        rw [show PyData.eqv _ _ = true from eE]
        refine iteF ⟨_, rfl, _, rfl, _, _, (inB.mono (s2.trans s26)).dp, (inT.mono (s12.trans s26)).dp, (shp_tale _).ok, (shp_tale _).ok, _, rfl, ?_⟩
        rw [eqv_tale]
        refine iteF ?_
        refine ⟨_, rfl, _, _, _, _, _, rfl, .own _, ty_ins hr6 T.cls_Wrong T.ic_Wrong, T.ki_Wrong_Spaced, _, rfl, iteF ?_⟩
        refine ⟨_, rfl, _, _, _, _, _, rfl, .own _, ty_ins hr6 T.cls_Wrong T.ic_Wrong, T.ki_Wrong_Barred, _, rfl, iteF ?_⟩
        refine ⟨_, rfl, _, rfl, _, rfl, many, fw, a, r, tale, rfl, m1, m6, inT.mono (s12.trans s26), ans6, fun H7 s7 => ⟨_, rfl, ?_⟩⟩
        rw [hfw, ansSays_self]
        refine iteF ?_
        have hr7 := s7 _ _ hr6
        refine .inr ⟨_, rfl, r, dx, _, rfl, hr7, wrF_shows _, _, rfl, _, rfl, r, dx, a, many, fw, tale, rfl, hr7, m1, m6, inT.mono (s12.trans (s26.trans s7)), fun H8 s8 => ?_⟩
        rw [hfw, decide_eq_true (⟨h0, rfl⟩ : 0 ≤ fw ∧ fw = fw)]
        refine ⟨_, _, rfl, rfl, _, rfl, iteF ?_⟩
        have hr8 := s8 _ _ hr7
        have s28 : Same H2 H8 := s26.trans (s7.trans s8)
        have ans8 := ans6.mono (s7.trans s8)
        refine ⟨_, rfl, _, _, rfl, rfl, _, rfl, ?_⟩
        rw [decide_eq_true (by omega)]
        refine iteT ⟨_, rfl, r, _, dx, _, _, rfl, hr8, T.cls_Wrong, T.na_Wrong_place, wrF_place _, _, _, rfl, kd_int _, _, rfl, iteF ?_⟩
        refine ⟨_, rfl, o, rfl, ⟨_, (s12.trans s28).seq hos⟩, for_list (K := K) (a := o) (xs := os) (fun i σ H' => ∃ y5 y7 x8, σ = [some (.int many), some (.ref a), some (.ref o), some (.ref b), some (.int fw), y5, some (.ref r), y7, x8] ∧ Same H8 H') ?_ ?_ ?_ ?_⟩
        · exact ⟨_, _, _, rfl, Same.refl _⟩
        · rintro i σ G _ ⟨y5, y7, x8, rfl, g⟩
          exact ((s12.trans s28).trans g).seq hos
        · rintro i v σ G hv ⟨y5, y7, x8, rfl, g⟩
          obtain ⟨b2, t2, rfl, in2⟩ := hov v (List.mem_of_getElem? hv)
          have inG := in2.mono ((s12.trans s28).trans g)
          have hrG := g _ _ hr8
          refine .inr ⟨_, rfl, r, dx, _, rfl, hrG, wrF_shows _, _, rfl, _, rfl, r, dx, b2, many, fw, t2, rfl, hrG, m1, m6, inG, fun G1 g1 => ?_⟩
          refine ⟨_, rfl, _, rfl, _, rfl, many, fw, b2, r, t2, rfl, m1, m6, inG.mono g1, ans8.mono (g.trans g1), fun G2 g2 => ?_⟩
          refine ⟨_, _, rfl, _, rfl, ?_⟩
          rw [ansSays_wrong h0, decide_eq_true rfl]
          exact iteF ⟨_, _, _, rfl, g.trans (g1.trans g2)⟩
        · rintro σ G ⟨y5, y7, x8, rfl, g⟩
          exact ⟨_, _, _, _, rfl, s28.trans g⟩
    · rintro σ H3 ⟨x5, x6, x7, x8, rfl, s3⟩
      exact q _ (s12.trans s3)
end
end Song

/-! ### Lt3d: _law_bent, _law_told of k03 -/
namespace Song
open PySem L2
section
variable {P : Program} {w : World} {K : PySem.W.Frag} {mg : Str → Option Value} {base : Heap}
theorem sc__law_bent : FnScope ["_law_part", "_law_number", "_law_many_here"] ["_law_part", "_law_number", "_law_many_here"] (defScope s__law_bent) := ⟨rfl, rfl, rfl, by decide +kernel, rfl, by decide +kernel, by decide +kernel⟩
def sp_bent (K : PySem.W.Frag) : Sp := fun vs H Q _ => ∃ (v : V) (part : Part) (n many : Int), vs = [v, .int n, .int many] ∧ PartAt H v part ∧ (∀ ss k r, part = .wish ss k r → ss.length ≤ 3) ∧ 1 ≤ many ∧
  ∀ H' y part', Same H H' → PartAt H' y part' → (∀ ss k r, part' = .wish ss k r → ss.length ≤ 4) → Q y H'
theorem fn__law_bent (T : Tx K mg) : Fn P w K mg base "_law_bent" 1 (sp_bent K) := by
  obtain ⟨fd, F⟩ := T.d__law_bent
  refine ⟨_, fd, _, F.ok (CX := CX0) sc__law_bent (fun vs H Q E h => ?_) (fun cdv A outer s H vs Q E hr h => ?_), T.g__law_bent, F.kp, F.bindsN fun _ _ _ _ _ _ us hl => match us, hl with | [_, _, _], _ => rfl⟩
  · obtain ⟨v, part, n, many, rfl, _⟩ := h; rfl
  · obtain ⟨v, part, n, many, rfl, hp, hl, m1, q⟩ := h
    refine ⟨_, PSs.nox (pss_cons (ps_if (pt_cmpR op_ne (pe_ix (show IxR _ (rIxT K) from ix_tup) (pv 0) pe_int (fun _ _ => rfl)) pe_str (nomark _)) (pss_one (ps_ret (pe_tup (pa_cons (pe_ix (show IxR _ (rIxT K) from ix_tup) (pv 0) pe_int (fun _ _ => rfl)) (pa_cons (pe_op op_sub (pe_op op_add (pe_ifExp (pt_cmpR op_notN (pe_ix (show IxR _ (rIxT K) from ix_tup) (pv 0) pe_int (fun _ _ => rfl)) pe_non (nomark _)) (pe_ix (show IxR _ (rIxT K) from ix_tup) (pv 0) pe_int (fun _ _ => rfl)) pe_int) pe_int) (pe_op op_mod (pv 1) pe_int)) pa_nil))))) pss_nil)
      (pss_cons (ps_if (pt_cmpR op_eq (pe_op op_mod (pv 1) pe_int) pe_int (nomark _)) (pss_one (ps_ret (pe_tup (pa_cons pe_str (pa_cons (pe_callB (show CallR _ _ (rSortedI K) from cr_sortedI) (by rfl) T.sorted (by decide +kernel) (pa_cons (pe_op op_cat (pe_ix (show IxR _ (rIxT K) from ix_tup) (pv 0) pe_int (fun _ _ => rfl)) (pe_lst (pa_cons (pe_op op_mod (pe_op op_fdivW (pv 1) pe_int) (pe_op op_add (pv 2) pe_int)) pa_nil))) pa_nil)) (pa_cons (pe_ix (show IxR _ (rIxT K) from ix_tup) (pv 0) pe_int (fun _ _ => rfl)) (pa_cons (pe_ix (show IxR _ (rIxT K) from ix_tup) (pv 0) pe_int (fun _ _ => rfl)) pa_nil))))))) pss_nil)
      (pss_one (ps_ret (pe_tup (pa_cons pe_str (pa_cons (pe_callTy (show CallR _ _ (rListO K) from call_list_of) (by rfl) T.list (by decide +kernel) (pa_cons (pe_ix (show IxR _ (rIxT K) from ix_tup) (pv 0) pe_int (fun _ _ => rfl)) pa_nil)) (pa_cons (pe_op op_sub (pe_op op_add (pe_ix (show IxR _ (rIxT K) from ix_tup) (pv 0) pe_int (fun _ _ => rfl)) (pe_op op_mod (pv 1) pe_int)) pe_int) (pa_cons (pe_op op_sub (pe_op op_add (pe_ix (show IxR _ (rIxT K) from ix_tup) (pv 0) pe_int (fun _ _ => rfl)) (pe_op op_mod (pv 1) pe_int)) pe_int) pa_nil))))))))), ?_⟩
    cases v with
    | ref t =>
      cases part with
      | wish ss k r =>
        obtain ⟨b, ht, hb⟩ := hp
        have hsl := hl ss k r rfl
        refine ⟨_, rfl, t, _, _, _, rfl, rfl, SqT.of ht, atI_nat (j := 0) rfl, rfl, _, rfl, ?_⟩
        rw [decide_eq_true rfl]
        refine iteF ⟨_, rfl, _, _, rfl, rfl, (show (0 : Int) < 3 by decide), rfl, _, rfl, ?_⟩
        by_cases h0 : V.int (n % 3) = V.int 0
        · rw [decide_eq_true h0]
          refine iteT ⟨_, rfl, t, _, _, _, rfl, rfl, SqT.of ht, atI_nat (j := 1) rfl, _, rfl, _, _, rfl, rfl, ⟨by decide, by decide +kernel⟩, _, rfl, _, _, rfl, rfl, _, _, rfl, rfl, (show 0 < many + 1 by omega), by show 1 ≤ sizeLine; decide, fun c nc => ?_⟩
          refine to_new nc fun H1 s1 hc => ?_
          refine ⟨b, c, _, _, rfl, rfl, s1 _ _ hb, hc, Nat.le_of_lt (lt_line (by rw [List.length_map]; show ss.length + 1 ≤ 1000; omega)), fun d nd => ?_⟩
          refine to_new nd fun H2 s2 hd => ?_
          rw [← snoc_ints] at hd
          refine ⟨d, _, rfl, SqL.of hd, fun ks e pm srt ne => ?_⟩
          refine to_new ne fun H3 s3 he => ?_
          have ht3 := s3 _ _ (s2 _ _ (s1 _ _ ht))
          refine ⟨_, rfl, t, _, _, _, rfl, rfl, SqT.of ht3, atI_nat (j := 2) rfl, _, rfl, t, _, _, _, rfl, rfl, SqT.of ht3, atI_nat (j := 3) rfl, by show 4 ≤ sizeLine; decide, fun f nf => ?_⟩
          refine to_new nf fun H4 s4 hf => ?_
          refine q H4 (.ref f) (.wish ks k r) (s1.trans (s2.trans (s3.trans s4))) ⟨e, hf, s4 _ _ he⟩ (fun ss' k' r' ee => ?_)
          injection ee with e1 _ _
          rw [← e1, pm.length_eq, List.length_append, List.length_singleton]; omega
        · rw [decide_eq_false h0]
          refine iteF ⟨_, rfl, t, _, _, _, rfl, rfl, SqT.of ht, atI_nat (j := 1) rfl, b, _, rfl, .inl (SqL.of hb), fun c nc => ?_⟩
          refine to_new nc fun H1 s1 hc => ?_
          have ht1 := s1 _ _ ht
          refine ⟨_, rfl, t, _, _, _, rfl, rfl, SqT.of ht1, atI_nat (j := 2) rfl, _, rfl, _, _, rfl, rfl, (show (0 : Int) < 3 by decide), _, _, rfl, rfl, _, _, rfl, rfl,
            _, rfl, t, _, _, _, rfl, rfl, SqT.of ht1, atI_nat (j := 3) rfl, _, rfl, _, _, rfl, rfl, (show (0 : Int) < 3 by decide), _, _, rfl, rfl, _, _, rfl, rfl, by show 4 ≤ sizeLine; decide, fun f nf => ?_⟩
          refine to_new nf fun H2 s2 hf => ?_
          refine q H2 (.ref f) (.wish ss _ _) (s1.trans s2) ⟨c, hf, s2 _ _ hc⟩ (fun ss' k' r' ee => ?_)
          injection ee with e1 _ _
          rw [← e1]; omega
      | sing o =>
        have ht : H t = some (.tup [.str "sing", optV o]) := hp
        refine ⟨_, rfl, t, _, _, _, rfl, rfl, SqT.of ht, atI_nat (j := 0) rfl, rfl, _, rfl, ?_⟩
        rw [nW1]
        refine iteT ⟨_, rfl, t, _, _, _, rfl, rfl, SqT.of ht, atI_nat (j := 0) rfl, _, rfl, t, _, _, _, rfl, rfl, SqT.of ht, atI_nat (j := 1) rfl, rfl, _, rfl, ?_⟩
        cases o with
        | none =>
          refine iteF ⟨_, _, rfl, rfl, _, rfl, _, _, rfl, rfl, (show (0 : Int) < 3 by decide), _, _, rfl, rfl, by show 2 ≤ sizeLine; decide, fun f nf => ?_⟩
          exact to_new nf fun H1 s1 hf => q H1 (.ref f) (.sing (some _)) s1 hf (fun _ _ _ ee => by cases ee)
        | some m =>
          refine iteT ⟨_, rfl, t, _, _, _, rfl, rfl, SqT.of ht, atI_nat (j := 1) rfl, _, _, rfl, rfl, _, rfl, _, _, rfl, rfl, (show (0 : Int) < 3 by decide), _, _, rfl, rfl, by show 2 ≤ sizeLine; decide, fun f nf => ?_⟩
          exact to_new nf fun H1 s1 hf => q H1 (.ref f) (.sing (some _)) s1 hf (fun _ _ _ ee => by cases ee)
      | out m =>
        have ht : H t = some (.tup [.str "out", .int m]) := hp
        refine ⟨_, rfl, t, _, _, _, rfl, rfl, SqT.of ht, atI_nat (j := 0) rfl, rfl, _, rfl, ?_⟩
        rw [nW2]
        refine iteT ⟨_, rfl, t, _, _, _, rfl, rfl, SqT.of ht, atI_nat (j := 0) rfl, _, rfl, t, _, _, _, rfl, rfl, SqT.of ht, atI_nat (j := 1) rfl, rfl, _, rfl, ?_⟩
        refine iteT ⟨_, rfl, t, _, _, _, rfl, rfl, SqT.of ht, atI_nat (j := 1) rfl, _, _, rfl, rfl, _, rfl, _, _, rfl, rfl, (show (0 : Int) < 3 by decide), _, _, rfl, rfl, by show 2 ≤ sizeLine; decide, fun f nf => ?_⟩
        exact to_new nf fun H1 s1 hf => q H1 (.ref f) (.out _) s1 hf (fun _ _ _ ee => by cases ee)
    | _ => exact hp.elim
theorem sc__law_told : FnScope ["_law_script", "_law_many_here", "_law_state", "_law_kind", "_law_more"] ["_law_script", "_law_many_here"] (defScope s__law_told) := ⟨rfl, rfl, rfl, by decide +kernel, rfl, by decide +kernel, by decide +kernel⟩
def sp_told (K : PySem.W.Frag) : Sp := fun vs H Q _ => ∃ (a : Addr) (ns : List Int) (many : Int), vs = [.ref a, .int many] ∧ SqL K H a (ns.map V.int) ∧ Scr ns ∧ 1 ≤ many ∧ many ≤ 6 ∧
  ∀ H' l cs tale, Same H H' → H l = none → H' l = some (.lst cs) → Parts (off [l] H') cs tale → TaleV many tale → tale.length ≤ 26 → Q (.ref l) H'
theorem fn__law_told (T : Tx K mg) : Fn P w K mg base "_law_told" 4 (sp_told K) := by
  obtain ⟨fd, F⟩ := T.d__law_told
  refine ⟨_, fd, _, F.ok (CX := CX0) sc__law_told (fun vs H Q E h => ?_) (fun cdv A outer s H vs Q E hr h => ?_), T.g__law_told, F.kp, F.bindsN fun _ _ _ _ _ _ us hl => match us, hl with | [_, _], _ => rfl⟩
  · obtain ⟨a, ns, many, rfl, _⟩ := h; rfl
  · obtain ⟨a, ns, many, rfl, hs, hb, m1, m6, q⟩ := h
    refine ⟨_, PSs.nox (pss_cons (ps_set (i := 2) sc__law_told.nd rfl (by first | exact Or.inl rfl | exact Or.inr rfl) (pe_fn (fn__law_open T) (hr.mono (by decide)) (by rfl) (pa_cons (pv 1) pa_nil)))
      (pss_cons (ps_for PassesOwn.never rfl (show PI _ _ _ (iList K _) from pi_list (pe_fn (fn__law_deeds T) (hr.mono (by decide)) (by rfl) (pa_cons (pv 0) (pa_cons pe_int (pa_cons pe_int (pa_cons (pv 1) pa_nil)))))) (show PG _ _ (gTup K _ _) from pg_tup rfl (pgs_cons (pg_name (i := 3) sc__law_told.nd rfl (by first | exact Or.inl rfl | exact Or.inr rfl)) (pgs_cons (pg_name (i := 4) sc__law_told.nd rfl (by first | exact Or.inl rfl | exact Or.inr rfl)) pgs_nil)))
      (pss_one (ps_if (PW.pt (pw_and (pt_cmpR op_eq (pv 3) pe_str (nomark _)) (pw_and1 (pt_cmpR op_lt (pe_callB (show CallR _ _ (rLenQ K) from call_len_seq) (by rfl) T.len (by decide +kernel) (pa_cons (pe_dget (hu_of hr) (pv 2) pe_str (fun _ _ => rfl)) pa_nil)) pe_int (nomark _))))) (pss_one (ps_expr (pe_fn (fn__law_wished T) (hr.mono (by decide)) (by rfl) (pa_cons (pv 2) (pa_cons (pv 4) pa_nil))))) (pss_one (ps_if (pt_cmpR op_eq (pv 3) pe_str (nomark _)) (pss_one (ps_expr (pe_fn (fn__law_sung T) (hr.mono (by decide)) (by rfl) (pa_cons (pv 2) pa_nil)))) (pss_one (ps_if (PW.pt (pw_and (pt_cmpR op_eq (pv 3) pe_str (nomark _)) (pw_and1 (pt_cmpR (show OpR _ _ (rNeD K) from op_neD hr.units) (pe_dget (hu_of hr) (pv 2) pe_str (fun _ _ => rfl)) (pe_lst pa_nil) (nomark _))))) (pss_one (ps_expr (pe_fn (fn__law_out T) (hr.mono (by decide)) (by rfl) (pa_cons (pv 2) (pa_cons (pe_ix (show IxR _ (rIxL K) from ix_list) (pe_dget (hu_of hr) (pv 2) pe_str (fun _ _ => rfl)) (pe_op op_mod (pv 4) (pe_callB (show CallR _ _ (rLenQ K) from call_len_seq) (by rfl) T.len (by decide +kernel) (pa_cons (pe_dget (hu_of hr) (pv 2) pe_str (fun _ _ => rfl)) pa_nil))) (fun _ _ => rfl)) pa_nil))))) pss_nil)))))))
      (pss_one (ps_ret (pe_dget (hu_of hr) (pv 2) pe_str (fun _ _ => rfl)))))), ?_⟩
    refine ⟨_, rfl, _, rfl, m1, m6, fun H1 d B s1 c1 np a1 a2 a3 a4 => ?_⟩
    have ev1 : Ls (own d B) H1 d B (evNew many) := ⟨⟨[], c1, trivial⟩, fun _ h => h, c1.domOwn, by show 0 ≤ 900; decide⟩
    have nS : ∀ x ∈ own d B, H x = none := fun x hx => by
      unfold own at hx
      simp only [List.mem_cons, List.not_mem_nil, or_false] at hx
      rcases hx with e | e | e | e | e <;> (rw [e]; assumption)
    have okN := evNew_ok m1 m6
    refine ⟨_, rfl, _, rfl, own d B, a, ns, 0, 26, many, rfl, s1.seq hs, hb, by decide, by decide, m1, m6, ev1.dom, fun l H2 ds nl s2 hl hds _ d12 => ?_⟩
    have d12 : ds.length ≤ 26 := d12
    have lS : l ∉ own d B := new_out ev1.dom nl
    have ev2 := ev1.mono s2
    have so2 : Same H (off (own d B) H2) := off_free (s1.trans s2) nS
    refine ⟨l, rfl, ⟨_, SqL.of hl⟩, for_list (K := K) (a := l) (xs := ds) (fun i σ H' => ∃ (st : EvS) (x3 x4 : Option V), σ = [some (.ref a), some (.int many), some (.ref d), x3, x4] ∧
      EvOk st ∧ (st.last.length : Int) = many ∧ st.tale.length ≤ i ∧ TaleV many st.tale ∧ Ls (own d B) H' d B st ∧ Same H (off (own d B) H') ∧ off (own d B) H' l = some (.lst ds) ∧ Deeds (off (own d B) H') many ds) ?_ ?_ ?_ ?_⟩
    · refine ⟨evNew many, _, _, rfl, okN, ?_, Nat.le_refl _, (fun _ _ _ h => by cases h), ev2, so2, by rw [off_out lS]; exact hl, hds.mono (off_less (fun x hx => List.mem_cons_of_mem _ hx))⟩
      show ((List.replicate many.toNat (0 : Int)).length : Int) = many
      rw [List.length_replicate]; omega
    · rintro i σ H' _ ⟨st, x3, x4, _, _, _, _, _, _, _, h, _⟩
      exact SqL.of (off_some h).2
    · rintro i v σ H3 hv ⟨st, x3, x4, rfl, ok, hla, htl, tv, ev, so, hl3, hd3⟩
      have hi : i < ds.length := (List.getElem?_eq_some_iff.mp hv).1
      obtain ⟨dd, hda, hdo⟩ := hd3 v (List.mem_of_getElem? hv)
      obtain ⟨cs3, c3, hq3⟩ := ev.cell
      have fin : ∀ (st' : EvS) (H4 : Hp), EvOk st' → st'.last.length = st.last.length → st'.tale.length ≤ i + 1 → TaleV many st'.tale → Ls (own d B) H4 d B st' → Same (off (own d B) H3) (off (own d B) H4) → ∀ z3 z4 : Option V,
          ∃ (st : EvS) (x3 x4 : Option V), [some (.ref a), some (.int many), some (.ref d), z3, z4] = [some (.ref a), some (.int many), some (.ref d), x3, x4] ∧
          EvOk st ∧ (st.last.length : Int) = many ∧ st.tale.length ≤ i + 1 ∧ TaleV many st.tale ∧ Ls (own d B) H4 d B st ∧ Same H (off (own d B) H4) ∧ off (own d B) H4 l = some (.lst ds) ∧ Deeds (off (own d B) H4) many ds :=
        fun st' H4 k1 k2 k3 k5 ev4 so4 z3 z4 => ⟨st', _, _, rfl, k1, by omega, k3, k5, ev4, so.trans so4, so4 _ _ hl3, hd3.mono so4⟩
      cases v with
      | ref t =>
        cases dd with
        | wish ss =>
          obtain ⟨b, ht, hb2⟩ := hda
          have ht' := (off_some ht).2
          refine ⟨t, _, rfl, SqT.of ht', rfl, _, _, rfl, _, _, rfl, rfl, ?_⟩
          refine ⟨_, rfl, rfl, _, rfl, ?_⟩
          rw [decide_eq_true rfl]
          refine iteT ⟨_, rfl, d, _, rfl, c3.gRounds, B.ro, _, rfl, .inl (SqL.of c3.ro), _, _, rfl, rfl, _, rfl, ?_⟩
          rw [List.length_map]
          by_cases h24 : (st.rounds.length : Int) < 24
          · rw [decide_eq_true h24]
            refine iteT ⟨_, rfl, _, rfl, own d B, d, b, B, st, ss, rfl, ev, ok, by omega, SqL.of hb2, by rw [hla]; exact hdo, by omega, fun H5 v f5 ev5 nv hv => ?_⟩
            refine fin (st.wish ss) H5 (ok.wish (by omega) (areS_len hdo).2.1) (setAll_len _ _ _) ?_ (tv.wish hdo) ev5 (Fra.off f5) _ _
            show (st.tale ++ [_]).length ≤ _
            rw [List.length_append, List.length_singleton]; omega
          · rw [decide_eq_false h24]
            refine iteF ⟨_, rfl, rfl, _, rfl, ?_⟩
            rw [nS1]
            refine iteF ⟨_, rfl, rfl, _, rfl, ?_⟩
            rw [nO1]
            exact iteF (iteF (fin st H3 ok rfl (by omega) tv ev (Same.refl _) _ _))
        | sing =>
          have ht' := (off_some hda).2
          refine ⟨t, _, rfl, SqT.of ht', rfl, _, _, rfl, _, _, rfl, rfl, ?_⟩
          refine ⟨_, rfl, rfl, _, rfl, ?_⟩
          rw [nW1]
          refine iteF (iteF ⟨_, rfl, rfl, _, rfl, ?_⟩)
          rw [decide_eq_true rfl]
          refine iteT ⟨_, rfl, own d B, d, B, st, rfl, ev, ok, by omega, fun H5 f5 ev5 => ?_⟩
          have := sing_tale st
          exact fin st.sing H5 ok.sing (by rw [EvS.sing_last]) (by omega) tv.sing ev5 (Fra.off f5) _ _
        | out n =>
          have ht' := (off_some hda).2
          refine ⟨t, _, rfl, SqT.of ht', rfl, _, _, rfl, _, _, rfl, rfl, ?_⟩
          refine ⟨_, rfl, rfl, _, rfl, ?_⟩
          rw [nW2]
          refine iteF (iteF ⟨_, rfl, rfl, _, rfl, ?_⟩)
          rw [nS2]
          refine iteF ⟨_, rfl, rfl, _, rfl, ?_⟩
          rw [decide_eq_true rfl]
          refine iteT ⟨_, rfl, d, _, rfl, c3.gWaits, Nat.zero_le _, fun e ne => ?_⟩
          refine to_new ne fun H4 s4 he => ?_
          have c4 := c3.mono s4
          have ev4 := ev.mono s4
          refine ⟨_, _, dp_ints (SqL.of c4.wa), .lst (SqL.of he) .nil, (shp_ints _).ok, shp_nil.ok, _, rfl, ?_⟩
          rw [eqv_nil]
          by_cases hw : st.waiting = []
          · rw [hw]
            exact iteF (fin st H4 ok rfl (by omega) tv ev4 (off_mono s4) _ _)
          · rw [show st.waiting.isEmpty = false from List.isEmpty_eq_false_iff.mpr hw]
            have wl : 0 < st.waiting.length := List.length_pos_iff.mpr hw
            have k0 := Int.emod_nonneg n (b := (st.waiting.length : Int)) (by omega)
            have k1 := Int.emod_lt_of_pos n (b := (st.waiting.length : Int)) (by omega)
            have mem : st.waiting.getD (n % (st.waiting.length : Int)).toNat 0 ∈ st.waiting := by
              rw [List.getD_eq_getElem?_getD, List.getElem?_eq_getElem (by omega)]
              exact List.getElem_mem _
            refine iteT ⟨_, rfl, _, rfl, d, _, rfl, c4.gWaits, _, rfl, _, rfl, d, _, rfl, c4.gWaits, B.wa, _, rfl, .inl (SqL.of c4.wa), _, _, rfl, rfl, ?_⟩
            rw [List.length_map]
            refine ⟨by show (0 : Int) < _; omega, B.wa, _, _, _, rfl, rfl, SqL.of c4.wa, at_int k0 k1, ?_⟩
            refine ⟨own d B, d, B, st, _, rfl, ev4, ok, by omega, mem, fun H5 f5 ev5 => ?_⟩
            refine fin (st.out _) H5 (ok.out _) rfl ?_ tv.out ev5 ((off_mono s4).trans (Fra.off f5)) _ _
            show (st.tale ++ [_]).length ≤ _
            rw [List.length_append, List.length_singleton]; omega
      | _ => exact hda.elim
    · rintro σ H3 ⟨st, x3, x4, rfl, ok, hla, htl, tv, ev, so, hl3, hd3⟩
      obtain ⟨cs3, c3, hq3⟩ := ev.cell
      refine ⟨_, rfl, d, _, rfl, c3.gTale, q H3 B.ca cs3 st.tale (so.trans (off_le _ _)) a4 c3.ca (hq3.mono (off_less (fun x hx => ?_))) tv (by omega)⟩
      rw [List.mem_singleton.mp hx]
      exact (memA d B).2.2.2.2
end
end Song

/-! ### L03: the law k03 -/
namespace Song
open PySem L2
/-- a tale in the heap, not too long a wish in it -/
def TL (H : Hp) (a : Addr) (cs : List V) (tale : List Part) : Prop := H a = some (.lst cs) ∧ Parts H cs tale ∧ ∀ ss n r, Part.wish ss n r ∈ tale → ss.length ≤ 1000
theorem TL.mono {H H' : Hp} {a : Addr} {cs : List V} {t : List Part} (s : Same H H') (h : TL H a cs t) : TL H' a cs t := by
  obtain ⟨h1, h2, h3⟩ := h
  exact ⟨s _ _ h1, h2.mono s, h3⟩
theorem TL.inn {K : PySem.W.Frag} {H : Hp} {a : Addr} {cs : List V} {t : List Part} (h : TL H a cs t) (hl : t.length ≤ 300) : TaleIn K H a t := by
  obtain ⟨h1, h2, h3⟩ := h
  exact ⟨cs, SqL.of h1, h2, hl, h3⟩
def cutP (ps : List Part) (lo hi : Option Int) : List Part := (ps.drop (HT.sIx ps.length 0 lo)).take (HT.sIx ps.length ps.length hi - HT.sIx ps.length 0 lo)
theorem cutP_len (ps : List Part) (lo hi : Option Int) : (cutP ps lo hi).length ≤ ps.length := by
  unfold cutP
  rw [List.length_take, List.length_drop]; omega
theorem cutP_last (ps : List Part) : (cutP ps (some (-1)) none).length ≤ 1 := by
  unfold cutP
  rw [List.length_take, List.length_drop]
  have : ps.length - HT.sIx ps.length 0 (some (-1)) ≤ 1 := by
    simp only [HT.sIx]
    rw [if_pos (by decide)]
    omega
  omega
@[elab_as_elim] theorem to_cut {H : Hp} {a p : Addr} {cs : List V} {t : List Part} {lo hi : Option Int} {Q : Hp → Prop} (np : H p = none) (h : TL H a cs t) (q : ∀ H', Same H H' → TL H' p (cutV cs lo hi) (cutP t lo hi) → Q H') : Q (upd H p (.lst (cutV cs lo hi))) := by
  obtain ⟨h1, h2, h3⟩ := h
  have e : Parts H (cutV cs lo hi) (cutP t lo hi) := by
    unfold cutV cutP
    rw [h2.len]
    exact (h2.drop _).take _
  refine to_new np fun H' s' hp => q H' s' ⟨hp, e.mono s', fun ss n r hm => h3 ss n r ?_⟩
  unfold cutP at hm
  exact List.mem_of_mem_drop (List.mem_of_mem_take hm)
@[elab_as_elim] theorem to_cat {H : Hp} {a b p : Addr} {cs ds : List V} {x y : List Part} {Q : Hp → Prop} (np : H p = none) (h : TL H a cs x) (k : TL H b ds y) (q : ∀ H', Same H H' → TL H' p (cs ++ ds) (x ++ y) → Q H') : Q (upd H p (.lst (cs ++ ds))) := by
  obtain ⟨h1, h2, h3⟩ := h
  obtain ⟨k1, k2, k3⟩ := k
  refine to_new np fun H' s' hp => q H' s' ⟨hp, (h2.app k2).mono s', fun ss n r hm => ?_⟩
  rcases List.mem_append.mp hm with z | z
  · exact h3 ss n r z
  · exact k3 ss n r z
theorem TL.room {H H' : Hp} {a b : Addr} {cs ds : List V} {x y : List Part} (h : TL H a cs x) (k : TL H' b ds y) (hl : x.length + y.length ≤ 1000) : cs.length + ds.length ≤ sizeLine := by
  rw [h.2.1.len, k.2.1.len]; exact Nat.le_of_lt (lt_line hl)
theorem TL.one {H : Hp} {a : Addr} {v : V} {p : Part} (h : H a = some (.lst [v])) (hp : PartAt H v p) (hw : ∀ ss n r, p = .wish ss n r → ss.length ≤ 1000) : TL H a [v] [p] :=
  ⟨h, ⟨hp, trivial⟩, fun ss n r hm => hw ss n r (List.mem_singleton.mp hm).symm⟩
def TLs (H : Hp) (vs : List V) : Prop := ∀ v ∈ vs, ∃ b cs t, v = .ref b ∧ TL H b cs t ∧ t.length ≤ 30
theorem TLs.mono {H H' : Hp} {vs : List V} (s : Same H H') (h : TLs H vs) : TLs H' vs := fun v hv => by
  obtain ⟨b, cs, t, h1, h2, h3⟩ := h v hv
  exact ⟨b, cs, t, h1, h2.mono s, h3⟩
theorem TLs.nil {H : Hp} : TLs H [] := fun _ h => by cases h
theorem TLs.cons {H : Hp} {a : Addr} {cs : List V} {t : List Part} {vs : List V} (h : TL H a cs t) (hl : t.length ≤ 30) (k : TLs H vs) : TLs H (.ref a :: vs) := fun v hv => by
  rcases List.mem_cons.mp hv with e | e
  · exact ⟨a, cs, t, e, h, hl⟩
  · exact k v e
theorem TLs.snoc {H : Hp} {a : Addr} {cs : List V} {t : List Part} {vs : List V} (h : TL H a cs t) (hl : t.length ≤ 30) (k : TLs H vs) : TLs H (vs ++ [.ref a]) := fun v hv => by
  rcases List.mem_append.mp hv with e | e
  · exact k v e
  · exact ⟨a, cs, t, List.mem_singleton.mp e, h, hl⟩
theorem TLs.others {K : PySem.W.Frag} {H : Hp} {vs : List V} (h : TLs H vs) : ∀ v ∈ vs, ∃ b t, v = .ref b ∧ TaleIn K H b t := fun v hv => by
  obtain ⟨b, cs, t, h1, h2, h3⟩ := h v hv
  exact ⟨b, t, h1, h2.inn (by omega)⟩
/-- a list of references is put anew: tales elsewhere stay -/
theorem TL.keep {H H' : Hp} {t x b : Addr} {r cs : List V} {tale : List Part} (ht : H t = some (.lst (.ref x :: r))) (nb : b ≠ t) (f : Fra [t] H H') (h : TL H b cs tale) : TL (off [t] H') b cs tale := by
  obtain ⟨h1, h2, h3⟩ := h
  have one : ∀ a o, a ≠ t → H a = some o → off [t] H' a = some o := fun a o n e => by
    rw [off_out (by simpa using n)]; exact f.one n e
  refine ⟨one _ _ nb h1, Parts.of h2.len (fun i v e => ?_), h3⟩
  obtain ⟨p, hp, pa⟩ := h2.get e
  refine ⟨p, hp, ?_⟩
  cases v with
  | ref u =>
    cases p with
    | wish ss n k =>
      obtain ⟨b2, hu, hb⟩ := pa
      refine ⟨b2, one _ _ (fun z => ?_) hu, one _ _ (fun z => ?_) hb⟩
      · rw [z, ht] at hu; cases hu
      · rw [z, ht] at hb
        cases ss <;> cases hb
    | sing o => exact one _ _ (fun z => by rw [z] at pa; have pa : H t = _ := pa; rw [ht] at pa; cases pa) pa
    | out n => exact one _ _ (fun z => by rw [z] at pa; have pa : H t = _ := pa; rw [ht] at pa; cases pa) pa
  | _ => exact pa.elim
theorem sIx_nat (n : Nat) (d k : Nat) : HT.sIx n d (some (k : Int)) = min k n := by
  simp only [HT.sIx]
  rw [if_neg (by omega)]; rfl
theorem cutP_lo (ps : List Part) (n : Nat) : (cutP ps none (some (n : Int))).length ≤ n := by
  unfold cutP
  rw [List.length_take, sIx_nat]
  show min (min n ps.length - 0) _ ≤ n
  omega
theorem cutP_hi (ps : List Part) (n : Nat) : (cutP ps (some (n : Int)) none).length ≤ ps.length - n := by
  unfold cutP
  rw [List.length_take, List.length_drop, sIx_nat]
  omega
theorem eqvL_nil (ds : List PyData) : PyData.eqv (.list ds) (.list []) = ds.isEmpty := by cases ds <;> rfl
def fullT : List Part := (List.range 25).map fun i : Nat => Part.wish [0] (0 + (i : Int)) (0 + (i : Int) + 1)
def singsT : List Part := (List.range 6).map fun i : Nat => Part.sing (some (0 + (i : Int)))
theorem full_at {i : Nat} (h : i < 25) : fullT[i]? = some (Part.wish [0] (0 + (i : Int)) (0 + (i : Int) + 1)) := by
  unfold fullT
  rw [List.getElem?_map, List.getElem?_range h]; rfl
theorem sings_at {i : Nat} (h : i < 6) : singsT[i]? = some (Part.sing (some (0 + (i : Int)))) := by
  unfold singsT
  rw [List.getElem?_map, List.getElem?_range h]; rfl
theorem full_fw : firstWrong 1 fullT = 24 := by decide +kernel
theorem full_fw24 : firstWrong 1 (cutP fullT none (some 24)) = -1 := by decide +kernel
theorem bad_fw1 : firstWrong 2 [.wish [1, 0] 0 1] = 0 := by decide +kernel
theorem bad_fw2 : firstWrong 1 [.wish [0] 0 2] = 0 := by decide +kernel
theorem len24 : (cutP fullT none (some 24)).length = 24 := by decide +kernel
theorem fullW : ∀ ss n r, Part.wish ss n r ∈ fullT → ss.length ≤ 1000 := fun ss n r hm => by
  obtain ⟨i, _, e⟩ := List.mem_map.mp hm
  injection e with e1 _ _
  rw [← e1]; decide
theorem singsW : ∀ ss n r, Part.wish ss n r ∈ singsT → ss.length ≤ 1000 := fun ss n r hm => by
  obtain ⟨i, _, e⟩ := List.mem_map.mp hm
  cases e
section
variable {P : Program} {w : World} {K : PySem.W.Frag} {mg : Str → Option Value} {base : Heap}
theorem sc_law : FnScope ["_law_script", "_law_many_here", "_law_value_here", "_law_tale", "_law_tales", "_law_at", "_law_some", "_law_full", "_law_found", "_law_whole_here", "_law_bad"] ["_law_script"] (defScope s_law) := ⟨rfl, rfl, rfl, by decide +kernel, rfl, by decide +kernel, by decide +kernel⟩
theorem ok_law0 {fd : FuncData} (T : Tx K mg) (F : FnP K "law" "law" s_law (He.ga K "law") fd) : FnOk P w K mg base CX0 8 (He.ga K "law") fd ["_law_script"] (spLaw K) := by
  refine F.ok (CX := CX0) sc_law (fun vs H Q E h => ?_) (fun cdv A outer s H vs Q E hr h => ?_)
  · obtain ⟨a, ns, rfl, _⟩ := h; rfl
  · obtain ⟨a, ns, rfl, hs, hb, q⟩ := h
    refine ⟨_, PSs.nox (pss_cons (ps_set (i := 0) sc_law.nd rfl (by first | exact Or.inl rfl | exact Or.inr rfl) (pe_slice (show SlR _ (rSlL K) from sl_list) (pv 0) po_none (po_some pe_int)))
      (pss_cons (ps_par (i := 1) (j := 2) (by rfl) sc_law.nd rfl rfl (by decide) rfl rfl (pa_cons (pe_fn (fn__law_many T) (hr.mono (by decide)) (by rfl) (pa_cons (pv 0) pa_nil)) (pa_cons (pe_fn (fn__law_value T) (hr.mono (by decide)) (by rfl) (pa_cons (pe_fn (fn__law_cell_at T) (hr.mono (by decide)) (by rfl) (pa_cons (pv 0) (pa_cons pe_int pa_nil))) (pa_cons pe_int pa_nil))) pa_nil)) (by rfl))
      (pss_cons (ps_set (i := 3) sc_law.nd rfl (by first | exact Or.inl rfl | exact Or.inr rfl) (pe_fn (fn__law_told T) (hr.mono (by decide)) (by rfl) (pa_cons (pv 0) (pa_cons (pv 1) pa_nil))))
      (pss_cons (ps_set (i := 4) sc_law.nd rfl (by first | exact Or.inl rfl | exact Or.inr rfl) (pe_lst (pa_cons (pv 3) (pa_cons (pe_slice (show SlR _ (rSlL K) from sl_list) (pv 3) (po_some pe_int) po_none) (pa_cons (pe_op op_cat (pv 3) (pe_slice (show SlR _ (rSlL K) from sl_list) (pv 3) (po_some (pe_un un_neg pe_int)) po_none)) (pa_cons (pe_op op_cat (pe_lst (pa_cons (pe_tup (pa_cons pe_str (pa_cons pe_non pa_nil))) pa_nil)) (pv 3)) (pa_cons (pe_op op_cat (pv 3) (pe_lst (pa_cons (pe_tup (pa_cons pe_str (pa_cons pe_int pa_nil))) pa_nil))) (pa_cons (pe_op op_cat (pv 3) (pe_lst (pa_cons (pe_tup (pa_cons pe_str (pa_cons pe_int pa_nil))) pa_nil))) pa_nil))))))))
      (pss_cons (ps_if (pt_cmpR (show OpR _ _ (rNeD K) from op_neD hr.units) (pv 3) (pe_lst pa_nil) (nomark _)) (pss_cons (ps_set (i := 5) sc_law.nd rfl (by first | exact Or.inl rfl | exact Or.inr rfl) (pe_op op_mod (pv 2) (pe_callB (show CallR _ _ (rLenQ K) from call_len_seq) (by rfl) T.len (by decide +kernel) (pa_cons (pv 3) pa_nil))))
      (pss_cons (ps_expr (show PE _ _ (tBM K _ _ _ _) from pe_bm PySem.F.plainAttrs_list PySem.F.slot_list_append PySem.F.type_list_append mt_append (pv 4) (pa_cons (pe_op op_cat (pe_op op_cat (pe_slice (show SlR _ (rSlL K) from sl_list) (pv 3) po_none (po_some (pv 5))) (pe_lst (pa_cons (pe_fn (fn__law_bent T) (hr.mono (by decide)) (by rfl) (pa_cons (pe_ix (show IxR _ (rIxL K) from ix_list) (pv 3) (pv 5) (fun _ _ => rfl)) (pa_cons (pe_op op_fdivW (pv 2) pe_int) (pa_cons (pv 1) pa_nil)))) pa_nil))) (pe_slice (show SlR _ (rSlL K) from sl_list) (pv 3) (po_some (pe_op op_add (pv 5) pe_int)) po_none)) pa_nil)))
      (pss_one (ps_expr (show PE _ _ (tBM K _ _ _ _) from pe_bm PySem.F.plainAttrs_list PySem.F.slot_list_append PySem.F.type_list_append mt_append (pv 4) (pa_cons (pe_op op_cat (pe_slice (show SlR _ (rSlL K) from sl_list) (pv 3) po_none (po_some (pv 5))) (pe_slice (show SlR _ (rSlL K) from sl_list) (pv 3) (po_some (pe_op op_add (pv 5) pe_int)) po_none)) pa_nil)))))) pss_nil)
      (pss_cons (ps_for PassesOwn.never rfl (show PI _ _ _ (iList K _) from pi_list (pv 4)) (pg_name (i := 6) sc_law.nd rfl (by first | exact Or.inl rfl | exact Or.inr rfl))
      (pss_one (ps_if (pt_not (pt_val (pe_fn (fn__law_right T) (hr.mono (by decide)) (by rfl) (pa_cons (pv 1) (pa_cons (pv 6) (pa_cons (pe_lst (pa_cons (pv 3) (pa_cons (pe_slice (show SlR _ (rSlL K) from sl_list) (pv 3) po_none (po_some pe_int)) pa_nil))) pa_nil)))))) (pss_one (ps_ret pe_bl)) pss_nil)))
      (pss_cons (ps_setLc (i := 7) (own := [("_law_at", 5)]) (g := (gName 5)) (tt := tYes) (by rfl) sc_law.nd rfl rfl (sw_true rfl rfl rfl (by decide +kernel)) (pi_range1 (by rfl) T.range (pa_cons pe_int pa_nil)) (blkOk_by (by kernel_rfl)) (fun _ _ _ _ _ => (pg_name (i := 5) sc_law.nd rfl (by first | exact Or.inl rfl | exact Or.inr rfl))) (fun _ _ _ _ _ => pts_nil) (fun _ _ _ _ _ => (pe_tup (pa_cons pe_str (pa_cons (pe_lst (pa_cons pe_int pa_nil)) (pa_cons (pv 5) (pa_cons (pe_op op_add (pv 5) pe_int) pa_nil)))))))
      (pss_cons (ps_set (i := 8) sc_law.nd rfl (by first | exact Or.inl rfl | exact Or.inr rfl) (pe_fn (fn_judged T) (hr.mono (by decide)) (by rfl) (pa_cons pe_int (pa_cons (pv 7) pa_nil))))
      (pss_cons (ps_if (PW.pt (pw_or (pt_not (pt_val (pe_callB (show CallR _ _ (rIsi K) from call_isi) (by rfl) T.isinstance (by decide +kernel) (pa_cons (pv 8) (pa_cons (pe_gc T.g_Wrong (by rfl)) pa_nil))))) (pw_or (pt_cmpR op_ne (show PE _ _ (tFld K _ _) from pe_fld (pv 8) rfl) pe_int (nomark _)) (pw_or1 (pt_not (pt_val (pe_callB (show CallR _ _ (rIsi K) from call_isi) (by rfl) T.isinstance (by decide +kernel) (pa_cons (pe_fn (fn_judged T) (hr.mono (by decide)) (by rfl) (pa_cons pe_int (pa_cons (pe_slice (show SlR _ (rSlL K) from sl_list) (pv 7) po_none (po_some pe_int)) pa_nil))) (pa_cons (pe_gc T.g_Right (by rfl)) pa_nil))))))))) (pss_one (ps_ret pe_bl)) pss_nil)
      (pss_cons (ps_set (i := 9) sc_law.nd rfl (by first | exact Or.inl rfl | exact Or.inr rfl) (pe_op op_cat (pe_slice (show SlR _ (rSlL K) from sl_list) (pv 7) po_none (po_some pe_int)) (pe_lc (own := [("_law_at", 5)]) (g := (gName 5)) (tt := tYes) (by rfl) sc_law.nd (pi_range1 (by rfl) T.range (pa_cons pe_int pa_nil)) (blkOk_by (by kernel_rfl)) (fun _ _ _ _ _ => (pg_name (i := 5) sc_law.nd rfl (by first | exact Or.inl rfl | exact Or.inr rfl))) (fun _ _ _ _ _ => pts_nil) (fun _ _ _ _ _ => (pe_tup (pa_cons pe_str (pa_cons (pv 5) pa_nil)))))))
      (pss_cons (ps_if (PW.pt (pw_or (pt_not (pt_val (pe_fn (fn__law_right T) (hr.mono (by decide)) (by rfl) (pa_cons pe_int (pa_cons (pv 9) (pa_cons (pe_lst (pa_cons (pe_slice (show SlR _ (rSlL K) from sl_list) (pv 9) po_none (po_some pe_int)) (pa_cons (pv 7) pa_nil))) pa_nil)))))) (pw_or1 (pt_not (pt_val (pe_fn (fn__law_right T) (hr.mono (by decide)) (by rfl) (pa_cons pe_int (pa_cons (pe_op op_cat (pe_slice (show SlR _ (rSlL K) from sl_list) (pv 9) po_none (po_some pe_int)) (pe_lst (pa_cons (pe_tup (pa_cons pe_str (pa_cons pe_int pa_nil))) pa_nil))) (pa_cons (pe_lst (pa_cons (pv 9) pa_nil)) pa_nil))))))))) (pss_one (ps_ret pe_bl)) pss_nil)
      (pss_cons (ps_for PassesOwn.never rfl (show PI _ _ _ (iTup K _) from pi_tup (pe_tup (pa_cons (pe_fn (fn_judged T) (hr.mono (by decide)) (by rfl) (pa_cons pe_int (pa_cons (pe_lst (pa_cons (pe_tup (pa_cons pe_str (pa_cons (pe_lst (pa_cons pe_int (pa_cons pe_int pa_nil))) (pa_cons pe_int (pa_cons pe_int pa_nil))))) pa_nil)) pa_nil))) (pa_cons (pe_fn (fn_judged T) (hr.mono (by decide)) (by rfl) (pa_cons pe_int (pa_cons (pe_lst (pa_cons (pe_tup (pa_cons pe_str (pa_cons (pe_lst (pa_cons pe_int pa_nil)) (pa_cons pe_int (pa_cons pe_int pa_nil))))) pa_nil)) pa_nil))) pa_nil)))) (pg_name (i := 10) sc_law.nd rfl (by first | exact Or.inl rfl | exact Or.inr rfl))
      (pss_one (ps_if (PW.pt (pw_or (pt_not (pt_val (pe_callB (show CallR _ _ (rIsi K) from call_isi) (by rfl) T.isinstance (by decide +kernel) (pa_cons (pv 10) (pa_cons (pe_gc T.g_Wrong (by rfl)) pa_nil))))) (pw_or1 (pt_cmpR op_ne (show PE _ _ (tFld K _ _) from pe_fld (pv 10) rfl) pe_int (nomark _))))) (pss_one (ps_ret pe_bl)) pss_nil)))
      (pss_one (ps_ret pe_bl)))))))))))))), ?_⟩
    refine ⟨_, rfl, _, rfl, a, _, rfl, hs, fun z nz => ?_⟩
    rw [cut63 hb.1]
    refine to_new nz fun H1 s1 hz => ?_
    refine ⟨_, rfl, z, ns, rfl, SqL.of hz, hb, fun H2 s2 => ?_⟩
    obtain ⟨m1, m6⟩ := lawMany_in ns
    generalize lawMany ns = many at *
    refine ⟨_, rfl, z, ns, _, rfl, SqL.of (s2 _ _ hz), by decide, _, _, rfl, (hb.cell 1).mono (by decide), by decide, by decide, fun H3 s3 => ?_⟩
    have hv0 := lawValue_nn (cellAt ns 1) 8
    generalize lawValue (cellAt ns 1) 8 = val at *
    refine ⟨_, _, rfl, _, rfl, _, rfl, z, ns, many, rfl, SqL.of (s3 _ _ (s2 _ _ hz)), hb, m1, m6, fun H4 l cs tale s4 nl hl hP tv t26 => ?_⟩
    have tl4 : TL H4 l cs tale := ⟨hl, hP.mono (off_le _ _), (tv.ok (by omega)).2⟩
    refine ⟨_, rfl, _, rfl, _, rfl, l, _, rfl, SqL.of tl4.1, fun b5 n5 => ?_⟩
    refine to_cut n5 tl4 fun H5 s5 k5 => ?_
    refine ⟨_, rfl, _, rfl, _, rfl, _, rfl, l, _, rfl, SqL.of (tl4.mono s5).1, fun b6 n6 => ?_⟩
    refine to_cut n6 (tl4.mono s5) fun H6 s6 k6 => ?_
    have L1 := cutP_len tale (some 1) none
    have L2 := cutP_last tale
    have t6 := tl4.mono (s5.trans s6)
    refine ⟨l, b6, _, _, rfl, rfl, t6.1, k6.1, t6.room k6 (by omega), fun b7 n7 => ?_⟩
    refine to_cat n7 t6 k6 fun H7 s7 k7 => ?_
    refine ⟨by show 2 ≤ sizeLine; decide, fun c1 nc1 => ?_⟩
    refine to_new nc1 fun H8 s8 hc1 => ?_
    refine ⟨by show 1 ≤ sizeLine; decide, fun c2 nc2 => ?_⟩
    refine to_new nc2 fun H9 s9 hc2 => ?_
    have s49 : Same H4 H9 := s5.trans (s6.trans (s7.trans (s8.trans s9)))
    have t9 := tl4.mono s49
    have u9 := TL.one (p := .sing none) hc2 (s9 _ _ hc1) (fun _ _ _ e => by cases e)
    refine ⟨_, rfl, c2, l, _, _, rfl, rfl, u9.1, t9.1, u9.room t9 (by rw [List.length_singleton]; omega), fun b10 n10 => ?_⟩
    refine to_cat n10 u9 t9 fun H10 s10 k10 => ?_
    refine ⟨_, rfl, by show 2 ≤ sizeLine; decide, fun d1 nd1 => ?_⟩
    refine to_new nd1 fun H11 s11 hd1 => ?_
    refine ⟨by show 1 ≤ sizeLine; decide, fun d2 nd2 => ?_⟩
    refine to_new nd2 fun H12 s12 hd2 => ?_
    have s412 : Same H4 H12 := s49.trans (s10.trans (s11.trans s12))
    have t12 := tl4.mono s412
    have u12 := TL.one (p := .out 30) hd2 (s12 _ _ hd1) (fun _ _ _ e => by cases e)
    refine ⟨l, d2, _, _, rfl, rfl, t12.1, u12.1, t12.room u12 (by rw [List.length_singleton]; omega), fun b13 n13 => ?_⟩
    refine to_cat n13 t12 u12 fun H13 s13 k13 => ?_
    refine ⟨_, rfl, by show 2 ≤ sizeLine; decide, fun e1 ne1 => ?_⟩
    refine to_new ne1 fun H14 s14 he1 => ?_
    refine ⟨by show 1 ≤ sizeLine; decide, fun e2 ne2 => ?_⟩
    refine to_new ne2 fun H15 s15 he2 => ?_
    have s415 : Same H4 H15 := s412.trans (s13.trans (s14.trans s15))
    have t15 := tl4.mono s415
    have u15 := TL.one (p := .sing (some 5)) he2 (s15 _ _ he1) (fun _ _ _ e => by cases e)
    refine ⟨l, e2, _, _, rfl, rfl, t15.1, u15.1, t15.room u15 (by rw [List.length_singleton]; omega), fun b16 n16 => ?_⟩
    refine to_cat n16 t15 u15 fun H16 s16 k16 => ?_
    have s416 : Same H4 H16 := s415.trans s16
    have vs0 : TLs H16 [.ref l, .ref b5, .ref b7, .ref b10, .ref b13, .ref b16] := by
      refine .cons (tl4.mono s416) (by omega) (.cons (k5.mono (s6.trans (s7.trans (s8.trans (s9.trans (s10.trans (s11.trans (s12.trans (s13.trans (s14.trans (s15.trans s16))))))))))) (by omega) (.cons (k7.mono (s8.trans (s9.trans (s10.trans (s11.trans (s12.trans (s13.trans (s14.trans (s15.trans s16))))))))) ?_ (.cons (k10.mono (s11.trans (s12.trans (s13.trans (s14.trans (s15.trans s16)))))) ?_ (.cons (k13.mono (s14.trans (s15.trans s16))) ?_ (.cons k16 ?_ .nil)))))
      · rw [List.length_append]; omega
      · rw [List.length_append, List.length_singleton]; omega
      · rw [List.length_append, List.length_singleton]; omega
      · rw [List.length_append, List.length_singleton]; omega
    refine ⟨by show 6 ≤ sizeLine; decide, fun t nt => ?_⟩
    have nt4 : H4 t = none := s416.free nt
    refine to_new nt fun H17 s17 ht => ?_
    have ks : TLs (off [t] H17) [.ref l, .ref b5, .ref b7, .ref b10, .ref b13, .ref b16] := vs0.mono (off_free s17 (fun x hx => by rw [List.mem_singleton.mp hx]; exact nt))
    have so17 : Same H4 (off [t] H17) := off_free (s416.trans s17) (fun x hx => by rw [List.mem_singleton.mp hx]; exact nt4)
    obtain ⟨vr, vsH⟩ : ∃ vr, [V.ref l, .ref b5, .ref b7, .ref b10, .ref b13, .ref b16] = V.ref l :: vr := ⟨_, rfl⟩
    have vsL : [V.ref l, .ref b5, .ref b7, .ref b10, .ref b13, .ref b16].length = 6 := rfl
    generalize hvs : [V.ref l, .ref b5, .ref b7, .ref b10, .ref b13, .ref b16] = vs at ht ks vsH vsL
    refine ⟨_, rfl, Nat.zero_le _, fun e ne => ?_⟩
    refine to_new ne fun H18 s18 he => ?_
    have ht18 := s18 _ _ ht
    have ks18 := ks.mono (off_mono s18)
    have so18 : Same H4 (off [t] H18) := so17.trans (off_mono s18)
    have tl18 := tl4.mono (so18.trans (off_le _ _))
    refine ⟨_, _, (tl18.inn (K := K) (by omega)).dp, .lst (SqL.of he) .nil, (shp_tale _).ok, shp_nil.ok, _, rfl, ?_⟩
    rw [eqvL_nil]
    by_cases hne : tale = []
    · rw [hne]
      refine iteF ?_
      refine ⟨_, rfl, t, rfl, ⟨_, SqL.of ht18⟩, for_list (K := K) (a := t) (xs := vs) (fun i σ H' => ∃ x5 x6 x7 x8 x9 x10, σ = [some (.ref z), some (.int many), some (.int val), some (.ref l), some (.ref t), x5, x6, x7, x8, x9, x10] ∧ Same H18 H') ?_ ?_ ?_ ?_⟩
      · exact ⟨_, _, _, _, _, _, rfl, Same.refl _⟩
      · rintro i σ G _ ⟨x5, x6, x7, x8, x9, x10, rfl, g⟩
        exact SqL.of (g _ _ ht18)
      · rintro i v σ G hv ⟨x5, x6, x7, x8, x9, x10, rfl, g⟩
        obtain ⟨b, cs', tt, rfl, tlb, l30⟩ := ks18 v (List.mem_of_getElem? hv)
        have tlG := (tlb.mono (off_le _ _)).mono g
        have tG := (tl4.mono (so18.trans (off_le _ _))).mono g
        have L4 := cutP_len tale none (some 4)
        refine ⟨_, rfl, _, rfl, _, rfl, _, rfl, _, rfl, l, _, rfl, SqL.of tG.1, fun c nc => ?_⟩
        refine to_cut nc tG fun G1 g1 kc => ?_
        refine ⟨by show 2 ≤ sizeLine; decide, fun d nd => ?_⟩
        refine to_new nd fun G2 g2 hd => ?_
        refine ⟨many, b, d, tt, _, rfl, m1, m6, (tlG.mono (g1.trans g2)).inn (by omega), l30, SqL.of hd, (TLs.cons (tG.mono (g1.trans g2)) (by omega) (TLs.cons (kc.mono g2) (by omega) .nil)).others, fun G3 g3 => ⟨_, rfl, iteF ?_⟩⟩
        exact ⟨_, _, _, _, _, _, rfl, g.trans (g1.trans (g2.trans g3))⟩
      rintro σ G ⟨x5, x6, x7, x8, x9, x10, rfl, g⟩
      refine ⟨_, rfl, by decide, by decide, fun D nD => lc_all walk_range (fun _ _ _ h => h) trivial (fun i H1 y => PartAt H1 y (.wish [0] (0 + (i : Int)) (0 + (i : Int) + 1))) (fun i H1 H2 y s1 h => h.mono s1) nD (by decide) ?_ ?_ gname_mono⟩
      · rintro i x G1 G2 acc hi g1 hD ⟨rfl, rfl⟩ k hk
        refine ⟨rfl, by show 1 ≤ sizeLine; decide, fun b nb => ?_⟩
        refine to_new nb fun G3 g3 hb3 => ?_
        refine ⟨_, rfl, _, rfl, _, _, rfl, rfl, by show 4 ≤ sizeLine; decide, fun u nu => ?_⟩
        have nbD : b ≠ D := (ne_of_none hD nb).symm
        have nuD : u ≠ D := (ne_of_none (g3 _ _ hD) nu).symm
        refine hk _ _ (g3.trans (Same.new nu)) ⟨b, ?_, ?_⟩
        · rw [off_out (by simpa using nuD)]; exact upd_same
        · rw [off_out (by simpa using nbD)]; exact (Same.new nu) _ _ hb3
      intro ys G1 g1 hD hly hy
      have hly25 : ys.length = 25 := hly
      have kF : TL G1 D ys fullT := ⟨hD, (Parts.of (ps := fullT) (by rw [hly25]; rfl) (fun i y e => ⟨_, full_at (by rw [← hly25]; exact (List.getElem?_eq_some_iff.mp e).1), hy i y e⟩)).mono (off_le _ _), fullW⟩
      refine ⟨_, rfl, 1, D, fullT, rfl, by decide, by decide, kF.inn (by decide), by decide, fun G2 r g2 nr ans => ?_⟩
      rw [full_fw] at ans
      rcases ans with ⟨h0, _⟩ | ⟨h0, dx, hr⟩
      · exact absurd h0 (by decide)
      refine ⟨_, rfl, _, _, _, _, _, rfl, .own _, ty_ins hr T.cls_Wrong T.ic_Wrong, T.ki_Wrong_Wrong, _, rfl, iteF ?_⟩
      refine ⟨_, rfl, r, _, dx, _, _, rfl, hr, T.cls_Wrong, T.na_Wrong_place, wrF_place _, rfl, _, rfl, ?_⟩
      rw [decide_eq_true rfl]
      have kF2 := kF.mono g2
      refine iteF ⟨_, rfl, _, rfl, D, _, rfl, SqL.of kF2.1, fun c nc => ?_⟩
      refine to_cut nc kF2 fun G3 g3 kc => ?_
      refine ⟨1, c, _, rfl, by decide, by decide, kc.inn (by rw [len24]; decide), by rw [len24]; decide, fun G4 r2 g4 nr2 ans => ?_⟩
      rw [full_fw24] at ans
      rcases ans with ⟨h1, dx2, hr2⟩ | ⟨h1, _⟩
      case inr => exact absurd h1 (by decide)
      refine ⟨_, _, _, _, _, rfl, .own _, ty_ins hr2 T.cls_Right T.ic_Right, T.ki_Right_Right, _, rfl, iteF ?_⟩
      have kF4 := kF2.mono (g3.trans g4)
      refine ⟨_, rfl, _, rfl, D, _, rfl, SqL.of kF4.1, fun c2 nc2 => ?_⟩
      refine to_cut nc2 kF4 fun G5 g5 kc2 => ?_
      refine ⟨_, rfl, by decide, by decide, fun E nE => lc_all walk_range (fun _ _ _ h => h) trivial (fun i H1 y => PartAt H1 y (.sing (some (0 + (i : Int))))) (fun i H1 H2 y s1 h => h.mono s1) nE (by decide) ?_ ?_ gname_mono⟩
      · rintro i x G6 G7 acc hi g6 hD ⟨rfl, rfl⟩ k hk
        refine ⟨rfl, _, rfl, by show 2 ≤ sizeLine; decide, fun u nu => ?_⟩
        have nuD : u ≠ E := (ne_of_none hD nu).symm
        refine hk _ _ (Same.new nu) ?_
        show off [E] _ u = _
        rw [off_out (by simpa using nuD)]; exact upd_same
      intro ys2 G6 g6 hE hly2 hy2
      have hly6 : ys2.length = 6 := hly2
      have kS : TL G6 E ys2 singsT := ⟨hE, (Parts.of (ps := singsT) (by rw [hly6]; rfl) (fun i y e => ⟨_, sings_at (by rw [← hly6]; exact (List.getElem?_eq_some_iff.mp e).1), hy2 i y e⟩)).mono (off_le _ _), singsW⟩
      have kc6 := kc2.mono g6
      refine ⟨c2, E, _, _, rfl, rfl, kc6.1, kS.1, kc6.room kS (by rw [len24]; decide), fun w0 nw0 => ?_⟩
      refine to_cat nw0 kc6 kS fun G7 g7 kw => ?_
      have lenW : (cutP fullT none (some 24) ++ singsT).length = 30 := by rw [List.length_append, len24]; rfl
      generalize cutP fullT none (some 24) ++ singsT = wholeT at kw lenW
      have kF7 := kF4.mono (g5.trans (g6.trans g7))
      have L29 : (cutP wholeT none (some 29)).length = 29 := by
        unfold cutP
        rw [List.length_take, List.length_drop, lenW]; decide
      refine ⟨_, rfl, _, rfl, _, rfl, w0, _, rfl, SqL.of kw.1, fun d nd => ?_⟩
      refine to_cut nd kw fun G8 g8 kd => ?_
      refine ⟨_, rfl, by show 2 ≤ sizeLine; decide, fun e ne => ?_⟩
      refine to_new ne fun G9 g9 he => ?_
      refine ⟨1, w0, e, wholeT, _, rfl, by decide, by decide, (kw.mono (g8.trans g9)).inn (by omega), by omega, SqL.of he, (TLs.cons (kd.mono g9) (by omega) (TLs.cons (kF7.mono (g8.trans g9)) (by decide) .nil)).others, fun G10 g10 => ⟨_, rfl, iteF ?_⟩⟩
      have kw10 := kw.mono (g8.trans (g9.trans g10))
      refine ⟨_, rfl, _, rfl, w0, _, rfl, SqL.of kw10.1, fun d2 nd2 => ?_⟩
      refine to_cut nd2 kw10 fun G11 g11 kd2 => ?_
      refine ⟨by show 2 ≤ sizeLine; decide, fun u1 nu1 => ?_⟩
      refine to_new nu1 fun G12 g12 hu1 => ?_
      refine ⟨by show 1 ≤ sizeLine; decide, fun u2 nu2 => ?_⟩
      refine to_new nu2 fun G13 g13 hu2 => ?_
      have kd13 := kd2.mono (g12.trans g13)
      have ku13 := TL.one (p := .sing (some 0)) hu2 (g13 _ _ hu1) (fun _ _ _ e => by cases e)
      refine ⟨d2, u2, _, _, rfl, rfl, kd13.1, ku13.1, kd13.room ku13 (by rw [List.length_singleton]; omega), fun u3 nu3 => ?_⟩
      refine to_cat nu3 kd13 ku13 fun G14 g14 k14 => ?_
      refine ⟨_, rfl, by show 1 ≤ sizeLine; decide, fun u4 nu4 => ?_⟩
      refine to_new nu4 fun G15 g15 hu4 => ?_
      refine ⟨1, u3, u4, _, _, rfl, by decide, by decide, (k14.mono g15).inn (by rw [List.length_append, List.length_singleton]; omega), by rw [List.length_append, List.length_singleton]; omega, SqL.of hu4, (TLs.cons (kw10.mono (g11.trans (g12.trans (g13.trans (g14.trans g15))))) (by omega) .nil).others, fun G16 g16 => ⟨_, rfl, iteF ?_⟩⟩
      refine ⟨by show 2 ≤ sizeLine; decide, fun v1 nv1 => ?_⟩
      refine to_new nv1 fun J1 j1 hv1 => ?_
      refine ⟨by show 4 ≤ sizeLine; decide, fun v2 nv2 => ?_⟩
      refine to_new nv2 fun J2 j2 hv2 => ?_
      refine ⟨by show 1 ≤ sizeLine; decide, fun v3 nv3 => ?_⟩
      refine to_new nv3 fun J3 j3 hv3 => ?_
      have kb1 := TL.one (p := .wish [1, 0] 0 1) hv3 ⟨v1, j3 _ _ hv2, j3 _ _ (j2 _ _ hv1)⟩ (fun _ _ _ e => by injection e with e1 _ _; rw [← e1]; decide)
      refine ⟨2, v3, _, rfl, by decide, by decide, kb1.inn (by decide), by decide, fun J4 r3 j4 nr3 ans => ?_⟩
      rw [bad_fw1] at ans
      refine ⟨by show 1 ≤ sizeLine; decide, fun v4 nv4 => ?_⟩
      refine to_new nv4 fun J5 j5 hv4 => ?_
      refine ⟨by show 4 ≤ sizeLine; decide, fun v5 nv5 => ?_⟩
      refine to_new nv5 fun J6 j6 hv5 => ?_
      refine ⟨by show 1 ≤ sizeLine; decide, fun v6 nv6 => ?_⟩
      refine to_new nv6 fun J7 j7 hv6 => ?_
      have kb2 := TL.one (p := .wish [0] 0 2) hv6 ⟨v4, j7 _ _ hv5, j7 _ _ (j6 _ _ hv4)⟩ (fun _ _ _ e => by injection e with e1 _ _; rw [← e1]; decide)
      refine ⟨1, v6, _, rfl, by decide, by decide, kb2.inn (by decide), by decide, fun J8 r4 j8 nr4 ans2 => ?_⟩
      rw [bad_fw2] at ans2
      have ans8 := ans.mono (j5.trans (j6.trans (j7.trans j8)))
      refine ⟨by show 2 ≤ sizeLine; decide, fun tp ntp => ?_⟩
      refine to_new ntp fun J9 j9 htp => ?_
      have allA : ∀ v ∈ [V.ref r3, V.ref r4], ∃ r, v = .ref r ∧ AnsAt K J9 r 0 := fun v hv => by
        simp only [List.mem_cons, List.not_mem_nil, or_false] at hv
        rcases hv with e | e
        · exact ⟨r3, e, ans8.mono j9⟩
        · exact ⟨r4, e, ans2.mono j9⟩
      refine ⟨tp, rfl, ⟨_, SqT.of htp⟩, for_tup (K := K) (a := tp) (xs := [V.ref r3, V.ref r4]) (fun _ σ G => ∃ y1 y2 y3 y4 y5 y6 y7 y8 y9 y10 y11, σ = [y1, y2, y3, y4, y5, y6, y7, y8, y9, y10, y11] ∧ Same J9 G) ?_ ?_ ?_ ?_⟩
      · exact ⟨_, _, _, _, _, _, _, _, _, _, _, rfl, Same.refl _⟩
      · rintro k σ G _ ⟨_, _, _, _, _, _, _, _, _, _, _, rfl, g⟩
        exact SqT.of (g _ _ htp)
      · rintro k v σ G hv ⟨_, _, _, _, _, _, _, _, _, _, _, rfl, g⟩
        obtain ⟨r, rfl, ans⟩ := allA v (List.mem_of_getElem? hv)
        rcases ans.mono g with ⟨h0, _⟩ | ⟨h0, dx, hr⟩
        · exact absurd h0 (by decide)
        refine ⟨_, rfl, _, _, _, _, _, rfl, .own _, ty_ins hr T.cls_Wrong T.ic_Wrong, T.ki_Wrong_Wrong, _, rfl, iteF ?_⟩
        refine ⟨_, rfl, r, _, dx, _, _, rfl, hr, T.cls_Wrong, T.na_Wrong_place, wrF_place _, rfl, _, rfl, ?_⟩
        rw [decide_eq_true rfl]
        exact iteF ⟨_, _, _, _, _, _, _, _, _, _, _, rfl, g⟩
      rintro σ G ⟨_, _, _, _, _, _, _, _, _, _, _, rfl, g⟩
      exact q _
    · rw [show (tale.map Part.data).isEmpty = false from List.isEmpty_eq_false_iff.mpr (by simpa using hne)]
      have tpos : 0 < tale.length := List.length_pos_iff.mpr hne
      have hcl : cs.length = tale.length := tl18.2.1.len
      have lst18 : SqL K H18 l cs := SqL.of tl18.1
      refine iteT ⟨_, rfl, _, rfl, l, _, rfl, .inl lst18, _, _, rfl, rfl, (by show (0 : Int) < (cs.length : Int); omega), ?_⟩
      have j0 := Int.emod_nonneg val (b := (cs.length : Int)) (by omega)
      have j1 := Int.emod_lt_of_pos val (b := (cs.length : Int)) (by omega)
      obtain ⟨n, hn⟩ := Int.eq_ofNat_of_zero_le j0
      rw [show (fun i j : Int => V.int (i % j)) val (cs.length : Int) = V.int ((n : Nat) : Int) from congrArg V.int hn]
      have nlt : n < cs.length := by omega
      have ltT : H18 t = some (.lst (.ref l :: vr)) := by rw [← vsH]; exact ht18
      obtain ⟨part, hpt, hpa⟩ := tl18.2.1.get (List.getElem?_eq_getElem nlt)
      have hp3 : ∀ ss k r, part = .wish ss k r → ss.length ≤ 3 := fun ss k r e => (areS_len (tv ss k r (by rw [← e]; exact List.mem_of_getElem? hpt))).2.1
      refine ⟨_, rfl, .inl ⟨rfl, _, SqL.of ht18⟩, _, rfl, _, rfl, _, rfl, l, _, rfl, lst18, fun c nc => ?_⟩
      refine to_cut nc tl18 fun H19 s19 kc => ?_
      have tl19 := tl18.mono s19
      refine ⟨_, rfl, _, rfl, l, _, _, _, rfl, rfl, SqL.of tl19.1, atI_nat (j := n) (List.getElem?_eq_getElem nlt), _, rfl, _, _, rfl, rfl, ⟨by decide, by decide +kernel⟩, _, rfl, ?_⟩
      refine ⟨_, part, _, many, rfl, hpa.mono s19, hp3, m1, fun H20 y part' s20 hy hw => ?_⟩
      refine ⟨by show 1 ≤ sizeLine; decide, fun d nd => ?_⟩
      refine to_new nd fun H21 s21 hd => ?_
      have kd := TL.one (p := part') hd (hy.mono s21) (fun ss k r e => by have := hw ss k r e; omega)
      have kc21 := kc.mono (s20.trans s21)
      have l1 := cutP_lo tale n
      have l2 := cutP_hi tale (n + 1)
      refine ⟨c, d, _, _, rfl, rfl, kc21.1, kd.1, kc21.room kd (by rw [List.length_singleton]; omega), fun b22 n22 => ?_⟩
      refine to_cat n22 kc21 kd fun H22 s22 k22 => ?_
      have tl22 := tl19.mono (s20.trans (s21.trans s22))
      refine ⟨_, rfl, _, rfl, _, _, rfl, rfl, _, rfl, l, _, rfl, SqL.of tl22.1, fun c3 nc3 => ?_⟩
      rw [show ((n : Nat) : Int) + 1 = ((n + 1 : Nat) : Int) by omega]
      refine to_cut nc3 tl22 fun H23 s23 kc3 => ?_
      have k23 := k22.mono s23
      have lk : (cutP tale none (some (n : Int)) ++ [part']).length ≤ n + 1 := by rw [List.length_append, List.length_singleton]; omega
      refine ⟨b22, c3, _, _, rfl, rfl, k23.1, kc3.1, k23.room kc3 (by omega), fun b24 n24 => ?_⟩
      refine to_cat n24 k23 kc3 fun H24 s24 k24 => ?_
      have s1824 : Same H18 H24 := s19.trans (s20.trans (s21.trans (s22.trans (s23.trans s24))))
      have ht24 := s1824 _ _ ht18
      have b24t : b24 ≠ t := (ne_of_none ((s19.trans (s20.trans (s21.trans (s22.trans s23)))) _ _ ht18) n24).symm
      refine ⟨t, _, _, rfl, rfl, ht24, lt_line (by omega), ?_⟩
      refine to_put fun H25 f25 ht25 => ?_
      have ks25 : TLs (off [t] H25) (vs ++ [.ref b24]) := by
        refine TLs.snoc (TL.keep (s1824 _ _ ltT) b24t f25 k24) (by rw [List.length_append]; omega) ((ks18.mono (off_mono s1824)).mono (Fra.off f25))
      have so25 : Same H4 (off [t] H25) := (so18.trans (off_mono s1824)).trans (Fra.off f25)
      have tl25 := tl4.mono (so25.trans (off_le _ _))
      have ltT25 : H25 t = some (.lst (.ref l :: (vr ++ [.ref b24]))) := by rw [ht25, vsH]; rfl
      refine ⟨_, rfl, .inl ⟨rfl, _, SqL.of ht25⟩, _, rfl, _, rfl, _, rfl, l, _, rfl, SqL.of tl25.1, fun c nc => ?_⟩
      refine to_cut nc tl25 fun H26 s26 kc => ?_
      have tl26 := tl25.mono s26
      refine ⟨_, rfl, _, rfl, _, _, rfl, rfl, _, rfl, l, _, rfl, SqL.of tl26.1, fun c4 nc4 => ?_⟩
      rw [show ((n : Nat) : Int) + 1 = ((n + 1 : Nat) : Int) by omega]
      refine to_cut nc4 tl26 fun H27 s27 kc4 => ?_
      have kc27 := kc.mono s27
      refine ⟨c, c4, _, _, rfl, rfl, kc27.1, kc4.1, kc27.room kc4 (by omega), fun b34 n34 => ?_⟩
      refine to_cat n34 kc27 kc4 fun H34 s34 k34 => ?_
      have s2534 : Same H25 H34 := s26.trans (s27.trans s34)
      have b34t : b34 ≠ t := (ne_of_none ((s26.trans s27) _ _ ht25) n34).symm
      refine ⟨t, _, _, rfl, rfl, s2534 _ _ ht25, lt_line (by rw [List.length_append, List.length_singleton]; omega), ?_⟩
      refine to_put fun H35 f35 ht35 => ?_
      have ks35 : TLs (off [t] H35) (vs ++ [.ref b24] ++ [.ref b34]) := by
        refine TLs.snoc (TL.keep (s2534 _ _ ltT25) b34t f35 k34) (by rw [List.length_append]; omega) ((ks25.mono (off_mono s2534)).mono (Fra.off f35))
      have so35 : Same H4 (off [t] H35) := (so25.trans (off_mono s2534)).trans (Fra.off f35)
      refine ⟨_, rfl, t, rfl, ⟨_, SqL.of ht35⟩, for_list (K := K) (a := t) (xs := (vs ++ [V.ref b24] ++ [V.ref b34])) (fun i σ H' => ∃ x5 x6 x7 x8 x9 x10, σ = [some (.ref z), some (.int many), some (.int val), some (.ref l), some (.ref t), x5, x6, x7, x8, x9, x10] ∧ Same H35 H') ?_ ?_ ?_ ?_⟩
      · exact ⟨_, _, _, _, _, _, rfl, Same.refl _⟩
      · rintro i σ G _ ⟨x5, x6, x7, x8, x9, x10, rfl, g⟩
        exact SqL.of (g _ _ ht35)
      · rintro i v σ G hv ⟨x5, x6, x7, x8, x9, x10, rfl, g⟩
        obtain ⟨b, cs', tt, rfl, tlb, l30⟩ := ks35 v (List.mem_of_getElem? hv)
        have tlG := (tlb.mono (off_le _ _)).mono g
        have tG := (tl4.mono (so35.trans (off_le _ _))).mono g
        have L4 := cutP_len tale none (some 4)
        refine ⟨_, rfl, _, rfl, _, rfl, _, rfl, _, rfl, l, _, rfl, SqL.of tG.1, fun c nc => ?_⟩
        refine to_cut nc tG fun G1 g1 kc => ?_
        refine ⟨by show 2 ≤ sizeLine; decide, fun d nd => ?_⟩
        refine to_new nd fun G2 g2 hd => ?_
        refine ⟨many, b, d, tt, _, rfl, m1, m6, (tlG.mono (g1.trans g2)).inn (by omega), l30, SqL.of hd, (TLs.cons (tG.mono (g1.trans g2)) (by omega) (TLs.cons (kc.mono g2) (by omega) .nil)).others, fun G3 g3 => ⟨_, rfl, iteF ?_⟩⟩
        exact ⟨_, _, _, _, _, _, rfl, g.trans (g1.trans (g2.trans g3))⟩
      rintro σ G ⟨x5, x6, x7, x8, x9, x10, rfl, g⟩
      refine ⟨_, rfl, by decide, by decide, fun D nD => lc_all walk_range (fun _ _ _ h => h) trivial (fun i H1 y => PartAt H1 y (.wish [0] (0 + (i : Int)) (0 + (i : Int) + 1))) (fun i H1 H2 y s1 h => h.mono s1) nD (by decide) ?_ ?_ gname_mono⟩
      · rintro i x G1 G2 acc hi g1 hD ⟨rfl, rfl⟩ k hk
        refine ⟨rfl, by show 1 ≤ sizeLine; decide, fun b nb => ?_⟩
        refine to_new nb fun G3 g3 hb3 => ?_
        refine ⟨_, rfl, _, rfl, _, _, rfl, rfl, by show 4 ≤ sizeLine; decide, fun u nu => ?_⟩
        have nbD : b ≠ D := (ne_of_none hD nb).symm
        have nuD : u ≠ D := (ne_of_none (g3 _ _ hD) nu).symm
        refine hk _ _ (g3.trans (Same.new nu)) ⟨b, ?_, ?_⟩
        · rw [off_out (by simpa using nuD)]; exact upd_same
        · rw [off_out (by simpa using nbD)]; exact (Same.new nu) _ _ hb3
      intro ys G1 g1 hD hly hy
      have hly25 : ys.length = 25 := hly
      have kF : TL G1 D ys fullT := ⟨hD, (Parts.of (ps := fullT) (by rw [hly25]; rfl) (fun i y e => ⟨_, full_at (by rw [← hly25]; exact (List.getElem?_eq_some_iff.mp e).1), hy i y e⟩)).mono (off_le _ _), fullW⟩
      refine ⟨_, rfl, 1, D, fullT, rfl, by decide, by decide, kF.inn (by decide), by decide, fun G2 r g2 nr ans => ?_⟩
      rw [full_fw] at ans
      rcases ans with ⟨h0, _⟩ | ⟨h0, dx, hr⟩
      · exact absurd h0 (by decide)
      refine ⟨_, rfl, _, _, _, _, _, rfl, .own _, ty_ins hr T.cls_Wrong T.ic_Wrong, T.ki_Wrong_Wrong, _, rfl, iteF ?_⟩
      refine ⟨_, rfl, r, _, dx, _, _, rfl, hr, T.cls_Wrong, T.na_Wrong_place, wrF_place _, rfl, _, rfl, ?_⟩
      rw [decide_eq_true rfl]
      have kF2 := kF.mono g2
      refine iteF ⟨_, rfl, _, rfl, D, _, rfl, SqL.of kF2.1, fun c nc => ?_⟩
      refine to_cut nc kF2 fun G3 g3 kc => ?_
      refine ⟨1, c, _, rfl, by decide, by decide, kc.inn (by rw [len24]; decide), by rw [len24]; decide, fun G4 r2 g4 nr2 ans => ?_⟩
      rw [full_fw24] at ans
      rcases ans with ⟨h1, dx2, hr2⟩ | ⟨h1, _⟩
      case inr => exact absurd h1 (by decide)
      refine ⟨_, _, _, _, _, rfl, .own _, ty_ins hr2 T.cls_Right T.ic_Right, T.ki_Right_Right, _, rfl, iteF ?_⟩
      have kF4 := kF2.mono (g3.trans g4)
      refine ⟨_, rfl, _, rfl, D, _, rfl, SqL.of kF4.1, fun c2 nc2 => ?_⟩
      refine to_cut nc2 kF4 fun G5 g5 kc2 => ?_
      refine ⟨_, rfl, by decide, by decide, fun E nE => lc_all walk_range (fun _ _ _ h => h) trivial (fun i H1 y => PartAt H1 y (.sing (some (0 + (i : Int))))) (fun i H1 H2 y s1 h => h.mono s1) nE (by decide) ?_ ?_ gname_mono⟩
      · rintro i x G6 G7 acc hi g6 hD ⟨rfl, rfl⟩ k hk
        refine ⟨rfl, _, rfl, by show 2 ≤ sizeLine; decide, fun u nu => ?_⟩
        have nuD : u ≠ E := (ne_of_none hD nu).symm
        refine hk _ _ (Same.new nu) ?_
        show off [E] _ u = _
        rw [off_out (by simpa using nuD)]; exact upd_same
      intro ys2 G6 g6 hE hly2 hy2
      have hly6 : ys2.length = 6 := hly2
      have kS : TL G6 E ys2 singsT := ⟨hE, (Parts.of (ps := singsT) (by rw [hly6]; rfl) (fun i y e => ⟨_, sings_at (by rw [← hly6]; exact (List.getElem?_eq_some_iff.mp e).1), hy2 i y e⟩)).mono (off_le _ _), singsW⟩
      have kc6 := kc2.mono g6
      refine ⟨c2, E, _, _, rfl, rfl, kc6.1, kS.1, kc6.room kS (by rw [len24]; decide), fun w0 nw0 => ?_⟩
      refine to_cat nw0 kc6 kS fun G7 g7 kw => ?_
      have lenW : (cutP fullT none (some 24) ++ singsT).length = 30 := by rw [List.length_append, len24]; rfl
      generalize cutP fullT none (some 24) ++ singsT = wholeT at kw lenW
      have kF7 := kF4.mono (g5.trans (g6.trans g7))
      have L29 : (cutP wholeT none (some 29)).length = 29 := by
        unfold cutP
        rw [List.length_take, List.length_drop, lenW]; decide
      refine ⟨_, rfl, _, rfl, _, rfl, w0, _, rfl, SqL.of kw.1, fun d nd => ?_⟩
      refine to_cut nd kw fun G8 g8 kd => ?_
      refine ⟨_, rfl, by show 2 ≤ sizeLine; decide, fun e ne => ?_⟩
      refine to_new ne fun G9 g9 he => ?_
      refine ⟨1, w0, e, wholeT, _, rfl, by decide, by decide, (kw.mono (g8.trans g9)).inn (by omega), by omega, SqL.of he, (TLs.cons (kd.mono g9) (by omega) (TLs.cons (kF7.mono (g8.trans g9)) (by decide) .nil)).others, fun G10 g10 => ⟨_, rfl, iteF ?_⟩⟩
      have kw10 := kw.mono (g8.trans (g9.trans g10))
      refine ⟨_, rfl, _, rfl, w0, _, rfl, SqL.of kw10.1, fun d2 nd2 => ?_⟩
      refine to_cut nd2 kw10 fun G11 g11 kd2 => ?_
      refine ⟨by show 2 ≤ sizeLine; decide, fun u1 nu1 => ?_⟩
      refine to_new nu1 fun G12 g12 hu1 => ?_
      refine ⟨by show 1 ≤ sizeLine; decide, fun u2 nu2 => ?_⟩
      refine to_new nu2 fun G13 g13 hu2 => ?_
      have kd13 := kd2.mono (g12.trans g13)
      have ku13 := TL.one (p := .sing (some 0)) hu2 (g13 _ _ hu1) (fun _ _ _ e => by cases e)
      refine ⟨d2, u2, _, _, rfl, rfl, kd13.1, ku13.1, kd13.room ku13 (by rw [List.length_singleton]; omega), fun u3 nu3 => ?_⟩
      refine to_cat nu3 kd13 ku13 fun G14 g14 k14 => ?_
      refine ⟨_, rfl, by show 1 ≤ sizeLine; decide, fun u4 nu4 => ?_⟩
      refine to_new nu4 fun G15 g15 hu4 => ?_
      refine ⟨1, u3, u4, _, _, rfl, by decide, by decide, (k14.mono g15).inn (by rw [List.length_append, List.length_singleton]; omega), by rw [List.length_append, List.length_singleton]; omega, SqL.of hu4, (TLs.cons (kw10.mono (g11.trans (g12.trans (g13.trans (g14.trans g15))))) (by omega) .nil).others, fun G16 g16 => ⟨_, rfl, iteF ?_⟩⟩
      refine ⟨by show 2 ≤ sizeLine; decide, fun v1 nv1 => ?_⟩
      refine to_new nv1 fun J1 j1 hv1 => ?_
      refine ⟨by show 4 ≤ sizeLine; decide, fun v2 nv2 => ?_⟩
      refine to_new nv2 fun J2 j2 hv2 => ?_
      refine ⟨by show 1 ≤ sizeLine; decide, fun v3 nv3 => ?_⟩
      refine to_new nv3 fun J3 j3 hv3 => ?_
      have kb1 := TL.one (p := .wish [1, 0] 0 1) hv3 ⟨v1, j3 _ _ hv2, j3 _ _ (j2 _ _ hv1)⟩ (fun _ _ _ e => by injection e with e1 _ _; rw [← e1]; decide)
      refine ⟨2, v3, _, rfl, by decide, by decide, kb1.inn (by decide), by decide, fun J4 r3 j4 nr3 ans => ?_⟩
      rw [bad_fw1] at ans
      refine ⟨by show 1 ≤ sizeLine; decide, fun v4 nv4 => ?_⟩
      refine to_new nv4 fun J5 j5 hv4 => ?_
      refine ⟨by show 4 ≤ sizeLine; decide, fun v5 nv5 => ?_⟩
      refine to_new nv5 fun J6 j6 hv5 => ?_
      refine ⟨by show 1 ≤ sizeLine; decide, fun v6 nv6 => ?_⟩
      refine to_new nv6 fun J7 j7 hv6 => ?_
      have kb2 := TL.one (p := .wish [0] 0 2) hv6 ⟨v4, j7 _ _ hv5, j7 _ _ (j6 _ _ hv4)⟩ (fun _ _ _ e => by injection e with e1 _ _; rw [← e1]; decide)
      refine ⟨1, v6, _, rfl, by decide, by decide, kb2.inn (by decide), by decide, fun J8 r4 j8 nr4 ans2 => ?_⟩
      rw [bad_fw2] at ans2
      have ans8 := ans.mono (j5.trans (j6.trans (j7.trans j8)))
      refine ⟨by show 2 ≤ sizeLine; decide, fun tp ntp => ?_⟩
      refine to_new ntp fun J9 j9 htp => ?_
      have allA : ∀ v ∈ [V.ref r3, V.ref r4], ∃ r, v = .ref r ∧ AnsAt K J9 r 0 := fun v hv => by
        simp only [List.mem_cons, List.not_mem_nil, or_false] at hv
        rcases hv with e | e
        · exact ⟨r3, e, ans8.mono j9⟩
        · exact ⟨r4, e, ans2.mono j9⟩
      refine ⟨tp, rfl, ⟨_, SqT.of htp⟩, for_tup (K := K) (a := tp) (xs := [V.ref r3, V.ref r4]) (fun _ σ G => ∃ y1 y2 y3 y4 y5 y6 y7 y8 y9 y10 y11, σ = [y1, y2, y3, y4, y5, y6, y7, y8, y9, y10, y11] ∧ Same J9 G) ?_ ?_ ?_ ?_⟩
      · exact ⟨_, _, _, _, _, _, _, _, _, _, _, rfl, Same.refl _⟩
      · rintro k σ G _ ⟨_, _, _, _, _, _, _, _, _, _, _, rfl, g⟩
        exact SqT.of (g _ _ htp)
      · rintro k v σ G hv ⟨_, _, _, _, _, _, _, _, _, _, _, rfl, g⟩
        obtain ⟨r, rfl, ans⟩ := allA v (List.mem_of_getElem? hv)
        rcases ans.mono g with ⟨h0, _⟩ | ⟨h0, dx, hr⟩
        · exact absurd h0 (by decide)
        refine ⟨_, rfl, _, _, _, _, _, rfl, .own _, ty_ins hr T.cls_Wrong T.ic_Wrong, T.ki_Wrong_Wrong, _, rfl, iteF ?_⟩
        refine ⟨_, rfl, r, _, dx, _, _, rfl, hr, T.cls_Wrong, T.na_Wrong_place, wrF_place _, rfl, _, rfl, ?_⟩
        rw [decide_eq_true rfl]
        exact iteF ⟨_, _, _, _, _, _, _, _, _, _, _, rfl, g⟩
      rintro σ G ⟨_, _, _, _, _, _, _, _, _, _, _, rfl, g⟩
      exact q _
end
end Song

namespace Song
open PySem L2
def fn : List He.DefD := [d_counts_of, d_bars, d_least_between, d_keeps, d_is_whole, d_are_numbers, d_check_many, d_are_singers, d_floor_of, d_round_for, d_in_turn, d_Evening___init__, d_Evening_wish, d_Evening_sing, d_Evening_look_at, d_Evening_withdraw, d_Evening_waits, d_Evening_tale, d_is_part, d_first_wrong, d_Right_shows, d_Wrong___init__, d_Wrong_shows, d_Spaced___init__, d_Spaced_shows, d_Barred___init__, d_Barred_shows, d_judged, d__law_cell_at, d__law_draw, d__law_value, d__law_whole, d__law_says, d__law_many, d__law_deeds, d__law_open, d__law_queue, d__law_wished, d__law_sung, d__law_out, d__law_can, d__law_first, d__law_copied, d__law_due, d__law_right, d__law_bent, d__law_told, d_law]
def fa : List He.Fa := [.glo "counts_of", .glo "bars", .glo "least_between", .glo "keeps", .glo "TurnError", .glo "BadMany", .glo "BadSingers", .glo "BadSong", .glo "BadTale", .glo "TooMany", .int "MOST_SINGERS" 6, .int "MOST_OF_SONG" 3, .int "MOST_SONGS" 24, .glo "is_whole", .glo "are_numbers", .glo "check_many", .glo "are_singers", .glo "floor_of", .glo "round_for", .glo "in_turn", .glo "Evening", .cls "Evening", .mkr "Evening", .meth "Evening" "wish", .meth "Evening" "sing", .meth "Evening" "look_at", .meth "Evening" "withdraw", .meth "Evening" "waits", .meth "Evening" "tale", .noat "Evening" "came", .noat "Evening" "going", .noat "Evening" "last", .noat "Evening" "rounds", .noat "Evening" "waiting", .glo "is_part", .glo "first_wrong", .glo "Answer", .cls "Answer", .glo "Right", .cls "Right", .meth "Right" "shows", .glo "Wrong", .cls "Wrong", .mkr "Wrong", .meth "Wrong" "shows", .noat "Wrong" "place", .glo "Spaced", .cls "Spaced", .mkr "Spaced", .meth "Spaced" "shows", .noat "Spaced" "order", .glo "Barred", .cls "Barred", .mkr "Barred", .meth "Barred" "shows", .noat "Barred" "singers", .int "MOST_PARTS" 30, .glo "judged", .glo "_law_cell_at", .glo "_law_draw", .glo "_law_value", .glo "_law_whole", .glo "_law_says", .glo "_law_many", .glo "_law_deeds", .glo "_law_open", .glo "_law_queue", .glo "_law_wished", .glo "_law_sung", .glo "_law_out", .glo "_law_can", .glo "_law_first", .glo "_law_copied", .glo "_law_due", .glo "_law_right", .glo "_law_bent", .glo "_law_told", .glo "law", .free "len", .free "isinstance", .free "all", .free "any", .free "range", .free "sorted", .free "set", .free "max", .free "min", .free "list", .free "enumerate", .free "zip", .free "int", .free "bool", .free "tuple", .free "str", .free "dict", .free "abs"]
abbrev R : PySem.W.OpenRow := PySem.W.OpenLaw.row PySem.Challenge.rw_songturns_k03_whole_tales
def ex : List (PySem.W.Frag → Bool) := [fun K => mkB K (He.ga K "Answer"), fun K => mkB K (He.ga K "Right"), fun K => isCB K (He.ga K "Evening"), fun K => decide (PySem.W.kitOne K (.ref (He.ga K "Evening")) (.ref (He.ga K "Answer")) = some false), fun K => decide (PySem.W.kitOne K (.ref (He.ga K "Evening")) (.ref (He.ga K "Barred")) = some false), fun K => decide (PySem.W.kitOne K (.ref (He.ga K "Evening")) (.ref (He.ga K "Right")) = some false), fun K => decide (PySem.W.kitOne K (.ref (He.ga K "Evening")) (.ref (He.ga K "Spaced")) = some false), fun K => decide (PySem.W.kitOne K (.ref (He.ga K "Evening")) (.ref (He.ga K "Wrong")) = some false), fun K => isCB K (He.ga K "Answer"), fun K => decide (PySem.W.kitOne K (.ref (He.ga K "Answer")) (.ref (He.ga K "Answer")) = some true), fun K => decide (PySem.W.kitOne K (.ref (He.ga K "Answer")) (.ref (He.ga K "Barred")) = some false), fun K => decide (PySem.W.kitOne K (.ref (He.ga K "Answer")) (.ref (He.ga K "Right")) = some false), fun K => decide (PySem.W.kitOne K (.ref (He.ga K "Answer")) (.ref (He.ga K "Spaced")) = some false), fun K => decide (PySem.W.kitOne K (.ref (He.ga K "Answer")) (.ref (He.ga K "Wrong")) = some false), fun K => isCB K (He.ga K "Right"), fun K => decide (PySem.W.kitOne K (.ref (He.ga K "Right")) (.ref (He.ga K "Answer")) = some true), fun K => decide (PySem.W.kitOne K (.ref (He.ga K "Right")) (.ref (He.ga K "Barred")) = some false), fun K => decide (PySem.W.kitOne K (.ref (He.ga K "Right")) (.ref (He.ga K "Right")) = some true), fun K => decide (PySem.W.kitOne K (.ref (He.ga K "Right")) (.ref (He.ga K "Spaced")) = some false), fun K => decide (PySem.W.kitOne K (.ref (He.ga K "Right")) (.ref (He.ga K "Wrong")) = some false), fun K => isCB K (He.ga K "Wrong"), fun K => decide (PySem.W.kitOne K (.ref (He.ga K "Wrong")) (.ref (He.ga K "Answer")) = some true), fun K => decide (PySem.W.kitOne K (.ref (He.ga K "Wrong")) (.ref (He.ga K "Barred")) = some false), fun K => decide (PySem.W.kitOne K (.ref (He.ga K "Wrong")) (.ref (He.ga K "Right")) = some false), fun K => decide (PySem.W.kitOne K (.ref (He.ga K "Wrong")) (.ref (He.ga K "Spaced")) = some false), fun K => decide (PySem.W.kitOne K (.ref (He.ga K "Wrong")) (.ref (He.ga K "Wrong")) = some true), fun K => isCB K (He.ga K "Spaced"), fun K => decide (PySem.W.kitOne K (.ref (He.ga K "Spaced")) (.ref (He.ga K "Answer")) = some true), fun K => decide (PySem.W.kitOne K (.ref (He.ga K "Spaced")) (.ref (He.ga K "Barred")) = some false), fun K => decide (PySem.W.kitOne K (.ref (He.ga K "Spaced")) (.ref (He.ga K "Right")) = some false), fun K => decide (PySem.W.kitOne K (.ref (He.ga K "Spaced")) (.ref (He.ga K "Spaced")) = some true), fun K => decide (PySem.W.kitOne K (.ref (He.ga K "Spaced")) (.ref (He.ga K "Wrong")) = some false), fun K => isCB K (He.ga K "Barred"), fun K => decide (PySem.W.kitOne K (.ref (He.ga K "Barred")) (.ref (He.ga K "Answer")) = some true), fun K => decide (PySem.W.kitOne K (.ref (He.ga K "Barred")) (.ref (He.ga K "Barred")) = some true), fun K => decide (PySem.W.kitOne K (.ref (He.ga K "Barred")) (.ref (He.ga K "Right")) = some false), fun K => decide (PySem.W.kitOne K (.ref (He.ga K "Barred")) (.ref (He.ga K "Spaced")) = some false), fun K => decide (PySem.W.kitOne K (.ref (He.ga K "Barred")) (.ref (He.ga K "Wrong")) = some false)]
abbrev hk : PySem.W.Hook := hookY 4 fa fn ex
def ob (s : PySem.W.SharedT) : Bool × He.AlD := obsYG 4 fa fn ex (HandSHeadRun.getT s)
theorem ob_eq (s : PySem.W.SharedT) : ob s = hk.obs s.abs := obsYG_eq (HandSHeadRun.getT_eq s)
def loose0 : List Str := ["_wall", "__name__", "counts_of", "bars", "least_between", "keeps", "TurnError", "BadMany", "BadSingers", "BadSong", "BadTale", "TooMany", "MOST_SINGERS", "MOST_OF_SONG", "MOST_SONGS", "is_whole", "are_numbers", "check_many", "are_singers", "floor_of", "round_for", "in_turn", "Evening", "is_part", "first_wrong", "Answer", "Right", "Wrong", "Spaced", "Barred"]
def loose1 : List Str := ["MOST_PARTS", "judged", "_law_cell_at", "_law_draw", "_law_value", "_law_whole", "_law_says", "_law_many", "_law_deeds", "_law_open", "_law_queue", "_law_wished", "_law_sung", "_law_out", "_law_can", "_law_first", "_law_copied", "_law_due", "_law_right", "_law_bent", "_law_told"]
def loose : List Str := loose0 ++ loose1
theorem tx_of {K : PySem.W.Frag} {h : Heap} {mg : Str → Option Value} (X : K.In h) (G : h.Ns mainGlobals mg) (c : He.SaysD fa fn K) (c2 : exOk ex K = true) : Tx K mg :=
  ⟨He.glo_ok X G (c.fact 0 (f := .glo "counts_of") rfl),
   He.glo_ok X G (c.fact 1 (f := .glo "bars") rfl),
   He.glo_ok X G (c.fact 2 (f := .glo "least_between") rfl),
   He.glo_ok X G (c.fact 3 (f := .glo "keeps") rfl),
   He.glo_ok X G (c.fact 4 (f := .glo "TurnError") rfl),
   He.glo_ok X G (c.fact 5 (f := .glo "BadMany") rfl),
   He.glo_ok X G (c.fact 6 (f := .glo "BadSingers") rfl),
   He.glo_ok X G (c.fact 7 (f := .glo "BadSong") rfl),
   He.glo_ok X G (c.fact 8 (f := .glo "BadTale") rfl),
   He.glo_ok X G (c.fact 9 (f := .glo "TooMany") rfl),
   He.int_ok X G (c.fact 10 (f := .int "MOST_SINGERS" 6) rfl),
   He.int_ok X G (c.fact 11 (f := .int "MOST_OF_SONG" 3) rfl),
   He.int_ok X G (c.fact 12 (f := .int "MOST_SONGS" 24) rfl),
   He.glo_ok X G (c.fact 13 (f := .glo "is_whole") rfl),
   He.glo_ok X G (c.fact 14 (f := .glo "are_numbers") rfl),
   He.glo_ok X G (c.fact 15 (f := .glo "check_many") rfl),
   He.glo_ok X G (c.fact 16 (f := .glo "are_singers") rfl),
   He.glo_ok X G (c.fact 17 (f := .glo "floor_of") rfl),
   He.glo_ok X G (c.fact 18 (f := .glo "round_for") rfl),
   He.glo_ok X G (c.fact 19 (f := .glo "in_turn") rfl),
   He.glo_ok X G (c.fact 20 (f := .glo "Evening") rfl),
   He.cls_ok (c.fact 21 (f := .cls "Evening") rfl),
   He.mkr_ok (c.fact 22 (f := .mkr "Evening") rfl),
   He.meth_ok (c.fact 23 (f := .meth "Evening" "wish") rfl),
   He.meth_ok (c.fact 24 (f := .meth "Evening" "sing") rfl),
   He.meth_ok (c.fact 25 (f := .meth "Evening" "look_at") rfl),
   He.meth_ok (c.fact 26 (f := .meth "Evening" "withdraw") rfl),
   He.meth_ok (c.fact 27 (f := .meth "Evening" "waits") rfl),
   He.meth_ok (c.fact 28 (f := .meth "Evening" "tale") rfl),
   He.noat_ok (c.fact 29 (f := .noat "Evening" "came") rfl),
   He.noat_ok (c.fact 30 (f := .noat "Evening" "going") rfl),
   He.noat_ok (c.fact 31 (f := .noat "Evening" "last") rfl),
   He.noat_ok (c.fact 32 (f := .noat "Evening" "rounds") rfl),
   He.noat_ok (c.fact 33 (f := .noat "Evening" "waiting") rfl),
   He.glo_ok X G (c.fact 34 (f := .glo "is_part") rfl),
   He.glo_ok X G (c.fact 35 (f := .glo "first_wrong") rfl),
   He.glo_ok X G (c.fact 36 (f := .glo "Answer") rfl),
   He.cls_ok (c.fact 37 (f := .cls "Answer") rfl),
   He.glo_ok X G (c.fact 38 (f := .glo "Right") rfl),
   He.cls_ok (c.fact 39 (f := .cls "Right") rfl),
   He.meth_ok (c.fact 40 (f := .meth "Right" "shows") rfl),
   He.glo_ok X G (c.fact 41 (f := .glo "Wrong") rfl),
   He.cls_ok (c.fact 42 (f := .cls "Wrong") rfl),
   He.mkr_ok (c.fact 43 (f := .mkr "Wrong") rfl),
   He.meth_ok (c.fact 44 (f := .meth "Wrong" "shows") rfl),
   He.noat_ok (c.fact 45 (f := .noat "Wrong" "place") rfl),
   He.glo_ok X G (c.fact 46 (f := .glo "Spaced") rfl),
   He.cls_ok (c.fact 47 (f := .cls "Spaced") rfl),
   He.mkr_ok (c.fact 48 (f := .mkr "Spaced") rfl),
   He.meth_ok (c.fact 49 (f := .meth "Spaced" "shows") rfl),
   He.noat_ok (c.fact 50 (f := .noat "Spaced" "order") rfl),
   He.glo_ok X G (c.fact 51 (f := .glo "Barred") rfl),
   He.cls_ok (c.fact 52 (f := .cls "Barred") rfl),
   He.mkr_ok (c.fact 53 (f := .mkr "Barred") rfl),
   He.meth_ok (c.fact 54 (f := .meth "Barred" "shows") rfl),
   He.noat_ok (c.fact 55 (f := .noat "Barred" "singers") rfl),
   He.int_ok X G (c.fact 56 (f := .int "MOST_PARTS" 30) rfl),
   He.glo_ok X G (c.fact 57 (f := .glo "judged") rfl),
   He.glo_ok X G (c.fact 58 (f := .glo "_law_cell_at") rfl),
   He.glo_ok X G (c.fact 59 (f := .glo "_law_draw") rfl),
   He.glo_ok X G (c.fact 60 (f := .glo "_law_value") rfl),
   He.glo_ok X G (c.fact 61 (f := .glo "_law_whole") rfl),
   He.glo_ok X G (c.fact 62 (f := .glo "_law_says") rfl),
   He.glo_ok X G (c.fact 63 (f := .glo "_law_many") rfl),
   He.glo_ok X G (c.fact 64 (f := .glo "_law_deeds") rfl),
   He.glo_ok X G (c.fact 65 (f := .glo "_law_open") rfl),
   He.glo_ok X G (c.fact 66 (f := .glo "_law_queue") rfl),
   He.glo_ok X G (c.fact 67 (f := .glo "_law_wished") rfl),
   He.glo_ok X G (c.fact 68 (f := .glo "_law_sung") rfl),
   He.glo_ok X G (c.fact 69 (f := .glo "_law_out") rfl),
   He.glo_ok X G (c.fact 70 (f := .glo "_law_can") rfl),
   He.glo_ok X G (c.fact 71 (f := .glo "_law_first") rfl),
   He.glo_ok X G (c.fact 72 (f := .glo "_law_copied") rfl),
   He.glo_ok X G (c.fact 73 (f := .glo "_law_due") rfl),
   He.glo_ok X G (c.fact 74 (f := .glo "_law_right") rfl),
   He.glo_ok X G (c.fact 75 (f := .glo "_law_bent") rfl),
   He.glo_ok X G (c.fact 76 (f := .glo "_law_told") rfl),
   He.glo_ok X G (c.fact 77 (f := .glo "law") rfl),
   He.free_ok X G (c.fact 78 (f := .free "len") rfl),
   He.free_ok X G (c.fact 79 (f := .free "isinstance") rfl),
   He.free_ok X G (c.fact 80 (f := .free "all") rfl),
   He.free_ok X G (c.fact 81 (f := .free "any") rfl),
   He.free_ok X G (c.fact 82 (f := .free "range") rfl),
   He.free_ok X G (c.fact 83 (f := .free "sorted") rfl),
   He.free_ok X G (c.fact 84 (f := .free "set") rfl),
   He.free_ok X G (c.fact 85 (f := .free "max") rfl),
   He.free_ok X G (c.fact 86 (f := .free "min") rfl),
   He.free_ok X G (c.fact 87 (f := .free "list") rfl),
   He.free_ok X G (c.fact 88 (f := .free "enumerate") rfl),
   He.free_ok X G (c.fact 89 (f := .free "zip") rfl),
   He.free_ok X G (c.fact 90 (f := .free "int") rfl),
   He.free_ok X G (c.fact 91 (f := .free "bool") rfl),
   He.free_ok X G (c.fact 92 (f := .free "tuple") rfl),
   He.free_ok X G (c.fact 93 (f := .free "str") rfl),
   He.free_ok X G (c.fact 94 (f := .free "dict") rfl),
   He.free_ok X G (c.fact 95 (f := .free "abs") rfl),
   c.def_ 0 (d := d_counts_of) rfl,
   c.def_ 1 (d := d_bars) rfl,
   c.def_ 2 (d := d_least_between) rfl,
   c.def_ 3 (d := d_keeps) rfl,
   c.def_ 4 (d := d_is_whole) rfl,
   c.def_ 5 (d := d_are_numbers) rfl,
   c.def_ 6 (d := d_check_many) rfl,
   c.def_ 7 (d := d_are_singers) rfl,
   c.def_ 8 (d := d_floor_of) rfl,
   c.def_ 9 (d := d_round_for) rfl,
   c.def_ 10 (d := d_in_turn) rfl,
   c.def_ 11 (d := d_Evening___init__) rfl,
   c.def_ 12 (d := d_Evening_wish) rfl,
   c.def_ 13 (d := d_Evening_sing) rfl,
   c.def_ 14 (d := d_Evening_look_at) rfl,
   c.def_ 15 (d := d_Evening_withdraw) rfl,
   c.def_ 16 (d := d_Evening_waits) rfl,
   c.def_ 17 (d := d_Evening_tale) rfl,
   c.def_ 18 (d := d_is_part) rfl,
   c.def_ 19 (d := d_first_wrong) rfl,
   c.def_ 20 (d := d_Right_shows) rfl,
   c.def_ 21 (d := d_Wrong___init__) rfl,
   c.def_ 22 (d := d_Wrong_shows) rfl,
   c.def_ 23 (d := d_Spaced___init__) rfl,
   c.def_ 24 (d := d_Spaced_shows) rfl,
   c.def_ 25 (d := d_Barred___init__) rfl,
   c.def_ 26 (d := d_Barred_shows) rfl,
   c.def_ 27 (d := d_judged) rfl,
   c.def_ 28 (d := d__law_cell_at) rfl,
   c.def_ 29 (d := d__law_draw) rfl,
   c.def_ 30 (d := d__law_value) rfl,
   c.def_ 31 (d := d__law_whole) rfl,
   c.def_ 32 (d := d__law_says) rfl,
   c.def_ 33 (d := d__law_many) rfl,
   c.def_ 34 (d := d__law_deeds) rfl,
   c.def_ 35 (d := d__law_open) rfl,
   c.def_ 36 (d := d__law_queue) rfl,
   c.def_ 37 (d := d__law_wished) rfl,
   c.def_ 38 (d := d__law_sung) rfl,
   c.def_ 39 (d := d__law_out) rfl,
   c.def_ 40 (d := d__law_can) rfl,
   c.def_ 41 (d := d__law_first) rfl,
   c.def_ 42 (d := d__law_copied) rfl,
   c.def_ 43 (d := d__law_due) rfl,
   c.def_ 44 (d := d__law_right) rfl,
   c.def_ 45 (d := d__law_bent) rfl,
   c.def_ 46 (d := d__law_told) rfl,
   c.def_ 47 (d := d_law) rfl,
   mkB_ok (exAll 0 c2 rfl),
   mkB_ok (exAll 1 c2 rfl),
   isCB_ok (exAll 2 c2 rfl),
   of_decide_eq_true (exAll 3 c2 rfl),
   of_decide_eq_true (exAll 4 c2 rfl),
   of_decide_eq_true (exAll 5 c2 rfl),
   of_decide_eq_true (exAll 6 c2 rfl),
   of_decide_eq_true (exAll 7 c2 rfl),
   isCB_ok (exAll 8 c2 rfl),
   of_decide_eq_true (exAll 9 c2 rfl),
   of_decide_eq_true (exAll 10 c2 rfl),
   of_decide_eq_true (exAll 11 c2 rfl),
   of_decide_eq_true (exAll 12 c2 rfl),
   of_decide_eq_true (exAll 13 c2 rfl),
   isCB_ok (exAll 14 c2 rfl),
   of_decide_eq_true (exAll 15 c2 rfl),
   of_decide_eq_true (exAll 16 c2 rfl),
   of_decide_eq_true (exAll 17 c2 rfl),
   of_decide_eq_true (exAll 18 c2 rfl),
   of_decide_eq_true (exAll 19 c2 rfl),
   isCB_ok (exAll 20 c2 rfl),
   of_decide_eq_true (exAll 21 c2 rfl),
   of_decide_eq_true (exAll 22 c2 rfl),
   of_decide_eq_true (exAll 23 c2 rfl),
   of_decide_eq_true (exAll 24 c2 rfl),
   of_decide_eq_true (exAll 25 c2 rfl),
   isCB_ok (exAll 26 c2 rfl),
   of_decide_eq_true (exAll 27 c2 rfl),
   of_decide_eq_true (exAll 28 c2 rfl),
   of_decide_eq_true (exAll 29 c2 rfl),
   of_decide_eq_true (exAll 30 c2 rfl),
   of_decide_eq_true (exAll 31 c2 rfl),
   isCB_ok (exAll 32 c2 rfl),
   of_decide_eq_true (exAll 33 c2 rfl),
   of_decide_eq_true (exAll 34 c2 rfl),
   of_decide_eq_true (exAll 35 c2 rfl),
   of_decide_eq_true (exAll 36 c2 rfl),
   of_decide_eq_true (exAll 37 c2 rfl)⟩
theorem run (w : World) : HandSHeadRun.RunEq R (PySem.W.view R.prog [59]) hk ob 6000 loose w := by
  intro os
  kernel_rfl
end Song

/-! ### End: the law's call, the head -/
namespace Song
open PySem L2
/-- the law's end over a head by facts, with the bound on the script's numbers -/
theorem walk_end {l : PySem.W.OpenLaw} {n k : Nat} {q : Program} {loose : List Str} {XP : (Str → Option Value) → Heap → Prop} {YP : World → Heap → Prop} {d : DefRec} {x : Str}
    (hn : l.most = some n) (hn2 : n ≤ sizeLine) (hdf : d.params.defaults = []) (hr : Room k callerA)
    (F : ∀ (w : World) (mg : Str → Option Value) (fa : Addr) (h : Heap), YP w h → h.Ns mainGlobals mg → mg d.name = some (.ref fa) →
      ∃ (K : PySem.W.Frag) (fd : FuncData) (sp : Sp), K.In h ∧ (∀ (s : Shared) (u : Value), BindsTo s fd ⟨[u], []⟩ [(x, u)]) ∧
        (∀ (H : Hp) (a : Addr) (ns : List Int), ns.length ≤ n → (∀ z ∈ ns, Builtin.Int.intBits z ≤ 1048576) → SqL K H a (ns.map V.int) → sp [.ref a] H (fun v _ => v = .bl true) fun _ _ _ => False) ∧
        ∀ base : Heap, K.In base → base.Ns mainGlobals mg → FnOk l.prog w K mg base CX0 k fa fd [x] sp) :
    PySem.W.WalkO q loose XP YP l.row.toRowW d [] (fun f vs => PySem.call f vs) := by
  refine Att.attach_callB hn hdf fun w s₀ s₁ mg mb fa o pm cd doc a vs ns G Y ho hd hcd hmg hobj hi hlen hbits hg => ?_
  obtain ⟨K, fd, sp, KX, hb, hsp, hF⟩ := F w mg fa _ Y G.T.g hmg
  exact law_call KX G.T.g G.T.b G.T.builtins G.T.nolimit hg hobj hi (Nat.le_trans hlen hn2) hr hF hb (fun H _ hS => hsp H a ns hlen hbits hS) fun H e s' z => z
theorem facts {P : Program} {w : World} {K : PySem.W.Frag} {h : Heap} {mg : Str → Option Value} {f : Addr} (X : K.In h) (G : h.Ns mainGlobals mg) (hfa : mg ("law" : Str) = some (.ref f)) (c : He.SaysD fa fn K) (c2 : exOk ex K = true) :
    ∃ fd : FuncData, (∀ (s : Shared) (v : Value), BindsTo s fd ⟨[v], []⟩ [("_law_script", v)]) ∧ ∀ base : Heap, K.In base → base.Ns mainGlobals mg → FnOk P w K mg base CX0 8 f fd ["_law_script"] (spLaw K) := by
  have T := tx_of X G c c2
  obtain ⟨fd, F⟩ := T.d_law
  have e : He.ga K "law" = f := by
    have z := T.g_law.symm.trans hfa
    injection z with z; injection z
  subst e
  have b := FunD.bindsA (ps := ["_law_script"]) F fun _ _ _ _ _ _ us hl => match us, hl with | [_], _ => rfl
  exact ⟨fd, fun s v => b s [v] rfl, fun base _ _ => ok_law0 (P := P) (w := w) (base := base) T F⟩
end Song
open PySem PySem.W PySem.Calls PyProof.Rows
set_option maxHeartbeats 0 in
theorem PySem.Challenge.cw_songturns_k03_whole_tales_holds : PySem.Challenge.rw_songturns_k03_whole_tales.Holds := by
  w_on; o_law
  refine HandSHeadRun.head_any (r := OpenLaw.row PySem.Challenge.rw_songturns_k03_whole_tales) (q := view (OpenLaw.row PySem.Challenge.rw_songturns_k03_whole_tales).prog [59]) (H := Song.hk) (ob := Song.ob) (M := 6000) (loose := Song.loose) (d := HandSHeadRun.topDef (OpenLaw.row PySem.Challenge.rw_songturns_k03_whole_tales).prog 59) (kwd := []) Song.ob_eq
    (by kernel_rfl) (fun s => by kernel_rfl) Song.run (by kernel_rfl) (by kernel_rfl) (by kernel_rfl) (by rfl) (by first | assumption | decide +kernel) (by decide +kernel) ⟨rfl, rfl, rfl, rfl, rfl, by decide +kernel⟩ ?hw ?hc
  case hw => w_witness2
  case hc =>
    refine Song.walk_end (l := PySem.Challenge.rw_songturns_k03_whole_tales) (n := 63) (k := 8) (x := "_law_script") rfl (by decide) (by kernel_rfl) ⟨rfl, by decide, by decide⟩ ?F
    intro w mg fa h Y G hmg0
    obtain ⟨K, KX, c, c2⟩ := Y
    have hmg : mg ("law" : PySem.Str) = some (.ref fa) := by
      have e : (HandSHeadRun.topDef (OpenLaw.row PySem.Challenge.rw_songturns_k03_whole_tales).prog 59).name = ("law" : PySem.Str) := by kernel_rfl
      rw [← e]
      exact hmg0
    obtain ⟨fd, hb, hF⟩ := Song.facts (P := (PySem.Challenge.rw_songturns_k03_whole_tales).prog) (w := w) KX G hmg c c2
    exact ⟨K, fd, Song.spLaw K, KX, hb, fun H a ns hl hz hS => ⟨a, ns, rfl, hS, ⟨hl, fun z hm => Song.Bits.of_int (hz z hm)⟩, fun _ => rfl⟩, hF⟩
#print axioms PySem.Challenge.cw_songturns_k03_whole_tales_holds
