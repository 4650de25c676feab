import PyProof.Rows.All
import Wide.All
import OpenK.AllK
import Wide.FinOn
import KE.KStateDown
import HandS.ForMost
import HandS.IsInst
import HandS.Defaults
import HandS.Wide
import HandS.SortInts
import HandS.SortRule
import HandS.Strs
import HandS.SetFor
import HandS.Style
import HandS.Conv
import HandS.More
import HandS.Walk
import HandS.Flow
import HandS.Head0
import HandS.Head1
import HandS.Head2
import HandS.HeadEnd
import HandS.HeadHook1
import HandS.HeadHook2
import HandS.EndBits
import HandS.WordsDict
import HandS.Small
import KE.KDictList
import HandS.Deep
import HandS.Exc
import HandS.ExcOwn
import HandS.ExcIs
import HandS.TryOnly
import HandS.WordsExc
import HandS.Lambda
import HandS.EndTab
import HandS.HeadHook4
import HandS.HeadWalk
import KE.KNestM
import PySem.Challenge.RW_songturns_k10_refused_evenings
set_option Elab.async false
set_option linter.all false
set_option maxRecDepth 100000
set_option maxHeartbeats 4000000
/-! ### SetL: set(xs) of a list of int numbers, as a value -/
namespace Song
open PySem PySem.Spec PyProof.Rows L2
/-- a set just laid -/
abbrev set0 (w : World) : Obj := ⟨.type "set", none, .set #[] 0 (.fresh 0 0 (!w.params.followText "set-order")), #[]⟩
section
variable {P : Program} {w : World} {A : Around} {E : Value → Shared → Prop} {s : Shared}
set_option maxHeartbeats 8000000 in
theorem set_of_list {l : Addr} {its : Array Value} (ks : List Int) {Q : Value → Shared → Prop} (nh : A.handled = none) (isl : s.heap.IsList l its) (hint : IntsAre its.toList ks) (few : ks.length + 1 < scanBound)
    (q : ∀ (h2 : Heap) (tk c : Nat), SetR w h2 s.heap.objs.size (fun j => decide (j ∈ ks)) c → c ≤ ks.length → (∀ b o, s.heap.get? b = some o → h2.get? b = some o) → Q (.ref s.heap.objs.size) { s with heap := h2, toks := tk }) :
    wpAny (model P w) A (call (.type "set") [.ref l]) Q E s := by
  have lenI : its.size = ks.length := by have z := IntsAre.length hint; rw [Array.length_toList] at z; exact z
  obtain ⟨_, _, mroS⟩ := F.called_set.mro
  have madeS := F.called_set.made
  have subS := F.called_set.sub
  refine wpAny_call (codeAny_of_tree ?_)
  show wpAny _ _ (callAny (.type "set") _) _ _ _
  refine wpAny_pure ⟨Code.quiet_builtin _ (by decide +kernel), codeAny_builtin F.entry_type_call ?_⟩
  rw [Around.under_plain (weight_type_call_type "set" [.ref l] []) rfl]
  have n1 := F.called_set.notType
  have n2 := F.called_set.canCreate
  have n3 := F.typeCall_set_1 (.ref l)
  repeat (any_goals (first | assumption | wp_step))
  refine codeAny_mono (code_set_led1 (.ref l) (E := E) (Q₁ := fun ob s1 => ob = .ref s.heap.objs.size ∧ s1 = { s with heap := s.heap.push (set0 w) }) ⟨rfl, rfl⟩) fun res s1 hres => ?_
  cases res with
  | error e => exact hres
  | ok fl =>
    cases fl with
    | ret ob =>
      obtain ⟨rfl, rfl⟩ := hres
      have atS : (s.heap.push (set0 w)).get? s.heap.objs.size = some (set0 w) := Heap.get?_push_size _ rfl
      have tyS : Shared.TypeIs { s with heap := s.heap.push (set0 w) } (.ref s.heap.objs.size) "set" := ⟨_, atS, rfl⟩
      have i1 := F.called_set.init.lookup
      have i2 := F.called_set.init.bind (.ref s.heap.objs.size)
      repeat (any_goals (first | assumption | wp_step))
      refine codeAny_mono (codeAny_call_builtin (R := wants (fun r s2 => r = .none ∧ ∃ h2 tk c, s2 = { s with heap := h2, toks := tk } ∧ SetR w h2 s.heap.objs.size (fun j => decide (j ∈ ks)) c ∧ c ≤ ks.length ∧
        (∀ b o, s.heap.get? b = some o → h2.get? b = some o)) E) F.called_set.init.plain F.entry_set_init (check_set_init_1 tyS ?_)) fun r2 s2 hr2 => ?_
      · obtain ⟨⟨oc, od, odt, osl⟩, ho, c1, nl, c2⟩ := isl
        simp only at c1 c2
        subst c1; subst c2
        have ho1 : (s.heap.push (set0 w)).get? l = some ⟨.type "list", od, .seq its nl, osl⟩ := Heap.get?_push_of_some _ ho
        have u1 := F.sub_list_set
        have u2 := F.sub_list_frozenset
        have u3 : (Value.type "list" == Value.type "dict") = false := by decide
        have isl1 : (s.heap.push (set0 w)).IsList l its := ⟨_, ho1, rfl, nl, rfl⟩
        unfold Builtin.«set.__init__» noKeywords Builtin.Frozenset.updateFrom
        generalize keepI : pyIter = PI
        wp_walk
        subst keepI
        refine wpAny_pyIter_list isl1 ?_
        refine wpAny_bind (wpAny_runValue ?_)
        have lt : l < s.heap.objs.size := Heap.lt_size ho
        have nh3 : A.in1.in1.in1.handled = none := by simp [nh]
        have ne1 : l ≠ (s.heap.push (set0 w)).objs.size := by rw [Heap.size_push]; exact Nat.ne_of_lt (Nat.lt_succ_of_lt lt)
        have ne2 : s.heap.objs.size ∉ [(s.heap.push (set0 w)).objs.size, l] := by
          rw [Heap.size_push]
          simp only [List.mem_cons, List.not_mem_nil, or_false, not_or]
          exact And.intro (Nat.ne_of_lt (Nat.lt_succ_self _)) (Nat.ne_of_gt lt)
        have vals : ∀ (i : Nat) (v : Value), its[i]? = some v → ∃ k t, ks[i]? = some k ∧ v = .int k t := fun i v hv => by
          have lti : i < ks.length := by rw [← lenI]; exact (Array.getElem?_eq_some_iff.mp hv).1
          obtain ⟨t, e⟩ := PyProof.Rows.IntsAre.int_at hint i v (by rw [Array.getElem?_toList]; exact hv)
          refine ⟨ks[i], t, List.getElem?_eq_getElem lti, ?_⟩
          rw [e, List.getD_eq_getElem?_getD, List.getElem?_eq_getElem lti] <;> rfl
        refine set_update_ints ((Walks.list nh3 _ l ne1 its).toS) s.heap.objs.size ne2 ks lenI few vals (its.size - 0) 0 _ (by omega) (Nat.zero_le _)
          ⟨⟨_, Heap.get?_push_size _ rfl, rfl, rfl⟩, (isl1.push _)⟩ ⟨0, Nat.le_refl 0, setR_new_at (Heap.get?_push_of_some _ atS)⟩ ?_
        intro s3 c3 mv hc3 hS3
        obtain ⟨h3, g3, d3, t3, o3⟩ := s3
        have eg : g3 = s.gens := mv.gens
        have ed : d3 = s.drawn := mv.drawn
        have eo : o3 = s.os := mv.os
        subst eg; subst ed; subst eo
        show wpAny _ _ _ _ _ _
        refine wpAny_pure ?_
        show wpAny _ _ (ret Value.none) _ _ _
        rw [lenI] at hc3
        refine wpAny_pure ⟨rfl, h3, t3, c3, rfl, hS3, hc3, fun b o e => ?_⟩
        have b0 : b < s.heap.objs.size := Heap.lt_size e
        refine mv.heap b o ?_ (Heap.get?_push_of_some _ (Heap.get?_push_of_some _ e))
        rw [Heap.size_push]
        simp only [List.mem_cons, List.not_mem_nil, or_false, not_or]
        exact And.intro (Nat.ne_of_lt b0) (Nat.ne_of_lt (Nat.lt_succ_of_lt b0))
      · cases r2 with
        | error e => exact hr2
        | ok f2 =>
          cases f2 with
          | ret r =>
            obtain ⟨rfl, h2, tk, c, rfl, hS, hc, hk⟩ := hr2
            repeat (any_goals (first | assumption | wp_step))
            exact q _ _ _ hS hc hk
          | _ => exact hr2.elim
    | _ => exact hres.elim
end
/-- set(xs), xs a list of int numbers: who is in, and no more than there were -/
def rSetI (K : PySem.W.Frag) (w : World) : List V → Hp → VK → Prop := fun xs H Q => ∃ (l : Addr) (ks : List Int), xs = [V.ref l] ∧ SqL K H l (ks.map V.int) ∧ ks.length ≤ 1000 ∧
  ∀ (a : Addr) (c : Nat), c ≤ ks.length → H a = none → Q (.ref a) (upd H a (SetO w a (fun j => decide (j ∈ ks)) c))
theorem cr_setI {X : Cx} (hc : X.calm = true) : CallR X (.type "set") (rSetI X.K X.w) := by
  intro pins s σ H xs us Q I r h
  obtain ⟨l, ks, rfl, hs, hl, q⟩ := h
  obtain ⟨its, rv, ⟨o, n, ho, c1, c2, c3⟩, hlen⟩ := I.list hs
  have hint : IntsAre its ks := ints_of_vals rv
  have isl : s.heap.IsList l its.toArray := ⟨o, ho, c1, n, c3⟩
  rw [Vals.ref1 r]
  refine set_of_list ks (I.ok.hd hc) isl (by simpa using hint) (by unfold scanBound; omega) fun h2 tk c hS hcl hk => ?_
  have hn : H s.heap.objs.size = none := I.hok.fresh (Nat.le_refl _)
  obtain ⟨o2, es, ep, st, ho2, rest⟩ := id hS
  refine ⟨.ref s.heap.objs.size, _, I.laid (t' := tk) (fun b u e => hk b u e) (Nat.le_refl _) ?_, rfl, q _ c hcl hn⟩
  exact setO_new hS
end Song

/-! ### Lay: what every def's proof leans on (own layer over the hand layer) -/
namespace Song
open PySem L2

/-! #### heaps -/
theorem Same.new {H : Hp} {p : Addr} {o : HO} (n : H p = none) : Same H (upd H p o) := fun b o' e => by
  rw [upd_ne (ne_of_none e n)]
  exact e
/-- a new object: the heap behind it is only known to extend the one ahead -/
theorem new_all {H : Hp} {o : HO} {Q : Addr → Hp → Prop} (h : ∀ p H', H p = none → Same H H' → H' p = some o → Q p H') : ∀ p, H p = none → Q p (upd H p o) :=
  fun p n => h p _ n (Same.new n) upd_same
/-- behind a new object: the heap is only known to extend the one ahead -/
@[elab_as_elim] theorem to_new {H : Hp} {p : Addr} {o : HO} {Q : Hp → Prop} (n : H p = none) (h : ∀ H', Same H H' → H' p = some o → Q H') : Q (upd H p o) := h _ (Same.new n) upd_same
/-- a heap without some addresses -/
def off (S : List Addr) (H : Hp) : Hp := fun a => if a ∈ S then none else H a
theorem off_in {S : List Addr} {H : Hp} {a : Addr} (h : a ∈ S) : off S H a = none := by unfold off; rw [if_pos h]
theorem off_out {S : List Addr} {H : Hp} {a : Addr} (h : a ∉ S) : off S H a = H a := by unfold off; rw [if_neg h]
theorem off_some {S : List Addr} {H : Hp} {a : Addr} {o : HO} (h : off S H a = some o) : a ∉ S ∧ H a = some o := by
  by_cases q : a ∈ S
  · rw [off_in q] at h; cases h
  · rw [off_out q] at h; exact ⟨q, h⟩
theorem off_le (S : List Addr) (H : Hp) : Same (off S H) H := fun _ _ h => (off_some h).2
theorem off_mono {S : List Addr} {H H' : Hp} (s : Same H H') : Same (off S H) (off S H') := fun b o h => by
  obtain ⟨q, h⟩ := off_some h
  rw [off_out q]; exact s _ _ h
/-- all but the addresses S stays -/
def Fra (S : List Addr) (H H' : Hp) : Prop := ∀ a o, a ∉ S → H a = some o → H' a = some o
theorem Fra.refl (S : List Addr) (H : Hp) : Fra S H H := fun _ _ _ h => h
theorem Fra.of {S : List Addr} {H H' : Hp} (s : Same H H') : Fra S H H' := fun a o _ h => s a o h
theorem Fra.trans {S : List Addr} {H H1 H2 : Hp} (a : Fra S H H1) (b : Fra S H1 H2) : Fra S H H2 := fun c o n h => b c o n (a c o n h)
theorem Fra.mono {S S' : List Addr} {H H' : Hp} (f : Fra S H H') (h : ∀ a ∈ S, a ∈ S') : Fra S' H H' := fun a o n e => f a o (fun q => n (h a q)) e
theorem Fra.put {S : List Addr} {H : Hp} {a : Addr} {o : HO} (h : a ∈ S) : Fra S H (upd H a o) := fun b o' n e => by
  have q : b ≠ a := fun q => n (by rw [q]; exact h)
  rw [upd_ne q]; exact e
@[elab_as_elim] theorem to_put {H : Hp} {p : Addr} {o : HO} {Q : Hp → Prop} (h : ∀ H', Fra [p] H H' → H' p = some o → Q H') : Q (upd H p o) := h _ (Fra.put (by simp)) upd_same
theorem Fra.one {H H' : Hp} {p a : Addr} {o : HO} (f : Fra [p] H H') (n : a ≠ p) (h : H a = some o) : H' a = some o := f a o (by simpa using n) h
theorem Fra.off {S : List Addr} {H H' : Hp} (f : Fra S H H') : Same (off S H) (off S H') := fun b o h => by
  obtain ⟨q, h⟩ := off_some h
  rw [off_out q]; exact f _ _ q h
theorem Fra.same {H H' : Hp} (f : Fra [] H H') : Same H H' := fun b o h => f b o (by simp) h
/-- what is new to H stays outside of what H tells -/
theorem Fra.back {H0 H H' : Hp} {S : List Addr} (s : Same H0 H) (f : Fra S H H') (h : ∀ a ∈ S, H0 a = none) : Same H0 H' := fun b o e =>
  f b o (fun q => by rw [h b q] at e; cases e) (s b o e)
theorem Same.sqT {K : PySem.W.Frag} {H H' : Hp} {a : Addr} {xs : List V} (e : Same H H') (h : SqT K H a xs) : SqT K H' a xs := by
  rcases h with (h | ⟨o, h⟩) | h
  · exact .inl (.inl (e _ _ h))
  · exact .inl (.inr ⟨o, e _ _ h⟩)
  · exact .inr h
mutual
theorem dp_mono {K : PySem.W.Frag} {H H' : Hp} (e : Same H H') : ∀ {v : V} {d : PyData}, Dp K H v d → Dp K H' v d
  | _, _, .non => .non
  | _, _, .bl b => .bl b
  | _, _, .int i => .int i
  | _, _, .str x => .str x
  | _, _, .lst s a => .lst (e.seq s) (dpAll_mono e a)
  | _, _, .tup s a => .tup (Same.sqT e s) (dpAll_mono e a)
theorem dpAll_mono {K : PySem.W.Frag} {H H' : Hp} (e : Same H H') : ∀ {vs : List V} {ds : List PyData}, DpAll K H vs ds → DpAll K H' vs ds
  | _, _, .nil => .nil
  | _, _, .cons d a => .cons (dp_mono e d) (dpAll_mono e a)
end
theorem dpAll_app {K : PySem.W.Frag} {H : Hp} : ∀ {vs ws : List V} {ds es : List PyData}, DpAll K H vs ds → DpAll K H ws es → DpAll K H (vs ++ ws) (ds ++ es)
  | _, _, _, _, .nil, h => h
  | _, _, _, _, .cons d a, h => .cons d (dpAll_app a h)
theorem dpAll_len {K : PySem.W.Frag} {H : Hp} : ∀ {vs : List V} {ds : List PyData}, DpAll K H vs ds → vs.length = ds.length
  | _, _, .nil => rfl
  | _, _, .cons _ a => by simp [dpAll_len a]
theorem dpAll_get {K : PySem.W.Frag} {H : Hp} : ∀ {vs : List V} {ds : List PyData} {i : Nat} {v : V}, DpAll K H vs ds → vs[i]? = some v → ∃ d, ds[i]? = some d ∧ Dp K H v d
  | _, _, _, _, .nil, e => by simp at e
  | _, _, 0, _, .cons d a, e => by
    simp at e; subst e; exact ⟨_, rfl, d⟩
  | _, _, i + 1, v, .cons d a, e => by
    obtain ⟨d', h1, h2⟩ := dpAll_get (i := i) (v := v) a (by simpa using e)
    exact ⟨d', by simpa using h1, h2⟩
theorem dpAll_ints {K : PySem.W.Frag} {H : Hp} : ∀ (ns : List Int), DpAll K H (ns.map V.int) (ns.map PyData.int)
  | [] => .nil
  | n :: r => .cons (.int n) (dpAll_ints r)
theorem dp_ints {K : PySem.W.Frag} {H : Hp} {a : Addr} {ns : List Int} (h : SqL K H a (ns.map V.int)) : Dp K H (.ref a) (.list (ns.map PyData.int)) := .lst h (dpAll_ints ns)
theorem ints_inj : ∀ {ns ms : List Int}, ns.map V.int = ms.map V.int → ns = ms
  | [], [], _ => rfl
  | [], _ :: _, h => by cases h
  | _ :: _, [], h => by cases h
  | a :: r, b :: s, h => by
    simp only [List.map_cons, List.cons.injEq, V.int.injEq] at h
    rw [h.1, ints_inj h.2]

/-! #### calls of the program's own defs, by one word each -/
section
variable {P : Program} {w : World} {K : PySem.W.Frag} {mg : Str → Option Value} {base : Heap}
structure Fn (P : Program) (w : World) (K : PySem.W.Frag) (mg : Str → Option Value) (base : Heap) (x : Str) (k : Nat) (sp : Sp) : Prop where
  ex : ∃ (f : Addr) (fd : FuncData) (ps : List Str), FnOk P w K mg base CX0 k f fd ps sp ∧ mg x = some (.ref f) ∧ PySem.W.keepIn K (.ref f) = true ∧ Binds K fd ps []
structure Me (P : Program) (w : World) (K : PySem.W.Frag) (mg : Str → Option Value) (base : Heap) (C : Addr) (m : Str) (k : Nat) (sp : Sp) : Prop where
  ex : ∃ (f : Addr) (fd : FuncData) (ps : List Str), FnOk P w K mg base CX0 k f fd ps sp ∧ Cls K C ∧ Meth K C m f ∧ Binds K fd ps []
structure Mke (P : Program) (w : World) (K : PySem.W.Frag) (mg : Str → Option Value) (base : Heap) (x : Str) (C : Addr) (k : Nat) (sp : Sp) : Prop where
  ex : ∃ (f : Addr) (fd : FuncData) (ps : List Str), FnOk P w K mg base CX0 k f fd ps sp ∧ Mk K C f ∧ mg x = some (.ref C) ∧ Binds K fd ps []
abbrev FnP (K : PySem.W.Frag) (x q : Str) (st : Stmt) (f : Addr) (fd : FuncData) : Prop := FunD K x q (defArgs st) (defBody st) (defScope st) [] [] f fd
end
section
variable {X : Cx} {x m : Str} {k : Nat} {sp : Sp} {e o : Expr} {es : List Expr} {t : TA} {to : TE} {C : Addr} {p apos pos : Pos}
theorem pe_fn (F : Fn X.prog X.w X.K X.mg X.base x k sp) (hr : Room k X.A) (hg : Gl X x) (ha : PA X (e :: es) t)
    (hdb : (x == ("__debug__" : Str)) = false := by decide) (he : starEach (e :: es) X.env = (false, eval e X.env) :: starEach es X.env := by rfl) (hpl : (backTo pos (starEach es X.env)).any (·.1) = false := by rfl) :
    PE X (.Call (.Name x p) (e :: es) [] pos) (tCall sp [] E0 t) := by
  obtain ⟨f, fd, ps, h1, h2, h3, h4⟩ := F.ex
  exact pe_call h1 hr hg h2 h3 h4 .nil pass0 ha hdb he hpl
theorem pe_fn0 (F : Fn X.prog X.w X.K X.mg X.base x k sp) (hr : Room k X.A) (hg : Gl X x) (hdb : (x == ("__debug__" : Str)) = false := by decide) :
    PE X (.Call (.Name x p) [] [] pos) (tCall sp [] E0 tNil) := by
  obtain ⟨f, fd, ps, h1, h2, h3, h4⟩ := F.ex
  exact pe_call0 h1 hr hg h2 h3 h4 .nil pass0 hdb
theorem pe_me {pl : Sem Bool} (F : Me X.prog X.w X.K X.mg X.base C m k sp) (hr : Room k X.A) (ho : PE X o to) (ha : PA X (e :: es) t)
    (hst : starEach (e :: es) X.env = (false, eval e X.env) :: starEach es X.env := by rfl) (hpl : (backTo pos (starEach es X.env)).any (·.1) = false := by rfl)
    (ht : eval (.Call (.Attribute o m apos) (e :: es) [] pos) X.env = (do
      let ov ← eval o X.env
      standAt apos.atName
      let (f, first) ← holding [ov] (getMethod ov m pl)
      callWith pos f first (backTo pos (starEach (e :: es) X.env)) (backToKw pos (keywordEach [] X.env))) := by rfl) :
    PE X (.Call (.Attribute o m apos) (e :: es) [] pos) (tMeth C m sp [] E0 to t) := by
  obtain ⟨f, fd, ps, h1, h2, h3, h4⟩ := F.ex
  exact pe_meth ho h2 h3 h1 hr h4 .nil pass0 ha hst hpl ht
theorem pe_me0 {pl : Sem Bool} (F : Me X.prog X.w X.K X.mg X.base C m k sp) (hr : Room k X.A) (ho : PE X o to)
    (ht : eval (.Call (.Attribute o m apos) [] [] pos) X.env = (do
      let ov ← eval o X.env
      standAt apos.atName
      let (f, first) ← holding [ov] (getMethod ov m pl)
      callWith pos f first (backTo pos (starEach [] X.env)) (backToKw pos (keywordEach [] X.env))) := by rfl) :
    PE X (.Call (.Attribute o m apos) [] [] pos) (tMeth C m sp [] E0 to tNil) := by
  obtain ⟨f, fd, ps, h1, h2, h3, h4⟩ := F.ex
  exact pe_meth0 ho h2 h3 h1 hr h4 .nil pass0 ht
theorem pe_mk (F : Mke X.prog X.w X.K X.mg X.base x C k sp) (hr : Room (k + 1) X.A) (hg : Gl X x) (ha : PA X (e :: es) t)
    (hdb : (x == ("__debug__" : Str)) = false := by decide) (he : starEach (e :: es) X.env = (false, eval e X.env) :: starEach es X.env := by rfl) (hpl : (backTo pos (starEach es X.env)).any (·.1) = false := by rfl) :
    PE X (.Call (.Name x p) (e :: es) [] pos) (tMake C sp [] E0 t) := by
  obtain ⟨f, fd, ps, h1, h2, h3, h4⟩ := F.ex
  exact pe_make h2 h1 hr hg h3 h4 .nil pass0 ha hdb he hpl
theorem pe_gi {i : Int} (h : ∃ t, X.mg x = some (.int i t)) (hg : Gl X x) (hd : (x == ("__debug__" : Str)) = false := by decide) : PE X (.Name x pos) (tC (.int i)) := by
  obtain ⟨t, h⟩ := h
  exact pe_glob hg h ⟨t, rfl⟩ hd
theorem pe_gc (h : X.mg x = some (.ref C)) (hg : Gl X x) (hd : (x == ("__debug__" : Str)) = false := by decide) : PE X (.Name x pos) (tC (.ref C)) := pe_glob hg h rfl hd
theorem pe_gt {n : String} (h : X.mg x = none) (hg : Gl X x) (hv : bootBuiltins x = some (.type n)) (hn : x ≠ "__name__" := by decide) (hd : (x == ("__debug__" : Str)) = false := by decide) : PE X (.Name x pos) (tC (.ty n)) := pe_bltn hg h hv rfl hn hd
/-- * of ints, by what the model itself asks -/
theorem op_mulO : OpR X (binaryOp .Mult) (rI IntMulOk fun i j => .int (i * j)) := opI fun _ _ _ _ _ _ _ hc q => PyProof.Rows.mul_int q hc
end

/-- readings of rules that the kit states without a name -/
def rLenQ (K : PySem.W.Frag) : List V → Hp → VK → Prop := fun xs H Q => ∃ p ys, xs = [.ref p] ∧ (SqL K H p ys ∨ SqT K H p ys) ∧ Q (.int ys.length) H
def rListO (K : PySem.W.Frag) : List V → Hp → VK → Prop := fun xs H Q => ∃ p ys, xs = [.ref p] ∧ (SqL K H p ys ∨ SqT K H p ys) ∧ ∀ l, H l = none → Q (.ref l) (upd H l (.lst ys))
def rTupO (K : PySem.W.Frag) : List V → Hp → VK → Prop := fun xs H Q => ∃ p ys, xs = [.ref p] ∧ ((SqL K H p ys ∧ ∀ l, H l = none → Q (.ref l) (upd H l (.tup ys))) ∨ (SqT K H p ys ∧ Q (.ref p) H))
/-! #### comprehensions -/
section
variable {J : It} {n : Nat} {G : Hp → Prop} {Y : Nat → Hp → V → Hp → Prop} {g : TG} {tt : TT} {te : TE} {vs : List Nat} {σ : St} {H1 : Hp} {D : Addr} {Qd : Hp → Prop}
/-- what a comprehension over a walk asks -/
abbrev LcAsks (J : It) (g : TG) (tt : TT) (te : TE) (vs : List Nat) (σ : St) (H1 : Hp) (D : Addr) (Qd : Hp → Prop) : Prop :=
  ∃ W : Nat → Nat → Hp → Prop, (∃ m, W 0 m (upd H1 D (.lst []))) ∧ ∀ i m H, W i m H →
      (J.stop i H ∧ Qd H) ∨ (J.go i H ∧ ∃ Nx : Hp → Prop, (∀ H', Nx H' → ∃ m', m' < m ∧ W (i + 1) m' H') ∧ ∀ x H', J.yld i H x H' → g x (wipe σ vs) H' fun σ2 H2 => wipe σ2 vs = wipe σ vs ∧ tt σ2 H2 fun b H3 =>
        if b = true then te σ2 H3 fun y H4 => ∃ acc, H4 D = some (.lst acc) ∧ acc.length < sizeLine ∧ Nx (upd H4 D (.lst (acc ++ [y]))) else Nx H3)
theorem off_one {H : Hp} {D : Addr} {o : HO} : off [D] (upd H D o) = off [D] H := by
  funext b
  by_cases q : b ∈ [D]
  · rw [off_in q, off_in q]
  · rw [off_out q, off_out q, upd_ne (fun z => q (by simp [z]))]
theorem same_put {H1 H : Hp} {D : Addr} {o : HO} (n : H1 D = none) (s : Same H1 H) : Same H1 (upd H D o) := fun b o e => by
  rw [upd_ne (ne_of_none e n)]
  exact s _ _ e
theorem yes_of {te : TE} {σ : St} {H : Hp} {k : VK} {kn : Hp → Prop} (h : te σ H k) : tYes σ H (fun b H3 => if b = true then te σ H3 k else kn H3) := by
  unfold tYes
  dsimp only
  rw [if_pos rfl]
  exact h
/-- no test: each element's value is told by R (monotone), whatever else is laid meanwhile -/
theorem lc_all (w : Walk J n G Y) (hGm : ∀ H H', Same H H' → G H → G H') (hG : G H1) (R : Nat → Hp → V → Prop) (hR : ∀ i H H' y, Same H H' → R i H y → R i H' y) (nD : H1 D = none) (hlen : n ≤ 1000)
    (hs : ∀ (i : Nat) x H H' acc, i < n → Same H1 H → H D = some (.lst acc) → Y i H x H' → ∀ k : V → Hp → Prop, (∀ y H2, Same H H2 → R i (off [D] H2) y → k y H2) →
      g x (wipe σ vs) H' fun σ2 H2 => wipe σ2 vs = wipe σ vs ∧ te σ2 H2 k)
    (hd : ∀ ys H, Same H1 H → H D = some (.lst ys) → ys.length = n → (∀ (i : Nat) y, ys[i]? = some y → R i (off [D] H) y) → Qd H)
    (hg : ∀ x σ H Q Q', (∀ σ2 H2, Q σ2 H2 → Q' σ2 H2) → g x σ H Q → g x σ H Q') : LcAsks J g tYes te vs σ H1 D Qd := by
  refine lc_it w (fun i H => Same H1 H ∧ ∃ ys, H D = some (.lst ys) ∧ ys.length = i ∧ ∀ (j : Nat) y, ys[j]? = some y → R j (off [D] H) y) ?_ ?_ ?_ ?_
  · exact ⟨Same.new nD, [], upd_same, rfl, fun j y e => by simp at e⟩
  · intro i H _ h
    exact hGm _ _ h.1 hG
  · rintro i x H H' hi ⟨s, ys, hD, hl, hy⟩ hY
    refine hg _ _ _ _ _ (fun σ2 H2 h => ?_) (hs i x H H' ys hi s hD hY (fun y H4 => ∃ acc, H4 D = some (.lst acc) ∧ acc.length < sizeLine ∧ (Same H1 (upd H4 D (.lst (acc ++ [y]))) ∧ ∃ ys, (upd H4 D (.lst (acc ++ [y]))) D = some (.lst ys) ∧ ys.length = i + 1 ∧ ∀ (j : Nat) y', ys[j]? = some y' → R j (off [D] (upd H4 D (.lst (acc ++ [y])))) y')) ?_)
    · refine ⟨h.1, ?_⟩
      unfold tYes
      dsimp only
      rw [if_pos rfl]
      exact h.2
    · intro y H4 s4 r
      refine ⟨ys, s4 _ _ hD, Nat.lt_of_le_of_lt (show ys.length ≤ 1000 by omega) (by decide), same_put nD (s.trans s4), ys ++ [y], upd_same, by simp [hl], fun j y' e => ?_⟩
      rw [off_one]
      by_cases hj : j < ys.length
      · rw [List.getElem?_append_left hj] at e
        exact hR j _ _ _ (off_mono s4) (hy j y' e)
      · have ej : j = ys.length := by
          have := (List.getElem?_eq_some_iff.mp e).1
          simp at this; omega
        subst ej
        rw [List.getElem?_append_right (Nat.le_refl _)] at e
        simp at e
        subst e
        rw [hl]
        exact r
  · rintro H ⟨s, ys, hD, hl, hy⟩
    exact hd ys H s hD hl hy
/-- element and test are plain functions of the turn -/
theorem lc_pure (w : Walk J n G Y) (hGm : ∀ H H', Same H H' → G H → G H') (hG : G H1) (f : Nat → Option V) (nD : H1 D = none) (hlen : n ≤ 1000)
    (hs : ∀ (i : Nat) x H H', i < n → Same H1 H → Y i H x H' → ∀ (k : V → Hp → Prop) (kn : Hp → Prop), (∀ y H2, f i = some y → Same H H2 → k y H2) → (∀ H2, f i = none → Same H H2 → kn H2) →
      g x (wipe σ vs) H' fun σ2 H2 => wipe σ2 vs = wipe σ vs ∧ tt σ2 H2 fun b H3 => if b = true then te σ2 H3 k else kn H3)
    (hd : ∀ H, Same H1 H → H D = some (.lst ((List.range n).filterMap f)) → Qd H) : LcAsks J g tt te vs σ H1 D Qd := by
  refine lc_it w (fun i H => Same H1 H ∧ H D = some (.lst ((List.range i).filterMap f))) ?_ ?_ ?_ ?_
  · exact ⟨Same.new nD, upd_same⟩
  · intro i H _ h
    exact hGm _ _ h.1 hG
  · rintro i x H H' hi ⟨s, hD⟩ hY
    have hl : ((List.range i).filterMap f).length ≤ i := by
      have := List.length_filterMap_le f (List.range i)
      rwa [List.length_range] at this
    refine hs i x H H' hi s hY _ _ (fun y H4 e s4 => ?_) (fun H4 e s4 => ?_)
    · refine ⟨_, s4 _ _ hD, Nat.lt_of_le_of_lt (show _ ≤ 1000 by omega) (by decide), same_put nD (s.trans s4), ?_⟩
      rw [upd_same, List.range_succ, List.filterMap_append]
      simp [e]
    · refine ⟨s.trans s4, ?_⟩
      rw [s4 _ _ hD, List.range_succ, List.filterMap_append]
      simp [e]
  · rintro H ⟨s, hD⟩
    exact hd H s hD
theorem sqL_mono {K : PySem.W.Frag} {a : Addr} {xs : List V} (H H' : Hp) (s : Same H H') (h : SqL K H a xs) : SqL K H' a xs := s.seq h
theorem sqL2_mono {K : PySem.W.Frag} {a b : Addr} {xs ys : List V} (H H' : Hp) (s : Same H H') (h : SqL K H a xs ∧ SqL K H b ys) : SqL K H' a xs ∧ SqL K H' b ys := ⟨s.seq h.1, s.seq h.2⟩
theorem range_filterMap {α β : Type} (f : α → Option β) : ∀ (xs : List α), (List.range xs.length).filterMap (fun i => xs[i]?.bind f) = xs.filterMap f
  | [] => rfl
  | x :: xs => by
    have ih := range_filterMap f xs
    rw [List.length_cons, List.range_succ_eq_map, List.filterMap_cons, List.filterMap_map, List.filterMap_cons]
    have e : ((fun i => ((x :: xs)[i]?).bind f) ∘ Nat.succ) = fun i => (xs[i]?).bind f := by funext i; simp
    rw [e, ih]
    simp
theorem range_map {α β : Type} (f : α → β) (xs : List α) : (List.range xs.length).filterMap (fun i => xs[i]?.map f) = xs.map f := by
  have e : (fun (i : Nat) => xs[i]?.map f) = fun (i : Nat) => xs[i]?.bind fun x => some (f x) := by funext i; cases xs[i]? <;> rfl
  rw [e, range_filterMap, ← List.filterMap_eq_map]
  rfl
/-- over a list, no test, a plain function of the item -/
theorem lc_map {K : PySem.W.Frag} {a : Addr} {xs : List V} (f : V → V) (hSq : SqL K H1 a xs) (nD : H1 D = none) (hlen : xs.length ≤ 1000)
    (hs : ∀ (i : Nat) x H, xs[i]? = some x → Same H1 H → ∀ k : V → Hp → Prop, (∀ H', Same H H' → k (f x) H') → g x (wipe σ vs) H fun σ2 H2 => wipe σ2 vs = wipe σ vs ∧ te σ2 H2 k)
    (hd : ∀ H, Same H1 H → H D = some (.lst (xs.map f)) → Qd H)
    (hg : ∀ x σ H Q Q', (∀ σ2 H2, Q σ2 H2 → Q' σ2 H2) → g x σ H Q → g x σ H Q') : LcAsks (Itl K a) g tYes te vs σ H1 D Qd := by
  refine lc_pure walk_list sqL_mono hSq (fun i => xs[i]?.map f) nD hlen (fun i x H H' hi s hY k kn hk _ => ?_) (fun H s hD => hd H s (by rw [← range_map]; exact hD))
  obtain ⟨rfl, hx⟩ := hY
  refine hg _ _ _ _ _ (fun σ2 H2 h => ?_) (hs i x H' hx s k fun H2 s2 => hk _ H2 (by rw [hx]; rfl) s2)
  refine ⟨h.1, ?_⟩
  unfold tYes
  dsimp only
  rw [if_pos rfl]
  exact h.2
theorem eq_map_of {α β : Type} {f : α → β} : ∀ {xs : List α} {ys : List β}, ys.length = xs.length → (∀ (i : Nat) y, ys[i]? = some y → ∃ x, xs[i]? = some x ∧ y = f x) → ys = xs.map f
  | [], [], _, _ => rfl
  | [], _ :: _, h, _ => by cases h
  | _ :: _, [], h, _ => by cases h
  | x :: xs, y :: ys, h, r => by
    obtain ⟨x', e, ey⟩ := r 0 y rfl
    cases e
    rw [ey, eq_map_of (xs := xs) (ys := ys) (by simpa using h) fun i y' e => r (i + 1) y' (by simpa using e)]
    rfl
theorem gtup_mono {K : PySem.W.Frag} {i j : Nat} (x : V) (σ : St) (H : Hp) (Q Q' : St → Hp → Prop) (h : ∀ σ2 H2, Q σ2 H2 → Q' σ2 H2) (q : gTup K 2 (gCons (gName i) (gCons (gName j) gNil)) x σ H Q) : gTup K 2 (gCons (gName i) (gCons (gName j) gNil)) x σ H Q' := by
  obtain ⟨a, xs, e, hs, hl, v, r, er, v2, r2, er2, en, q⟩ := q
  exact ⟨a, xs, e, hs, hl, v, r, er, v2, r2, er2, en, h _ _ q⟩
theorem gname_mono {i : Nat} (x : V) (σ : St) (H : Hp) (Q Q' : St → Hp → Prop) (h : ∀ σ2 H2, Q σ2 H2 → Q' σ2 H2) (q : gName i x σ H Q) : gName i x σ H Q' := h _ _ q
end

/-! #### what sort a value is -/
def isInt : V → Bool
  | .int _ => true
  | _ => false
abbrev Kd (K : PySem.W.Frag) (H : Hp) (v : V) (t : String) : Prop := TyX K H v (.type t)
theorem kd_int {K : PySem.W.Frag} {H : Hp} (i : Int) : Kd K H (.int i) "int" := .base (.int i)
theorem kd_list {K : PySem.W.Frag} {H : Hp} {a : Addr} {xs : List V} (h : SqL K H a xs) : Kd K H (.ref a) "list" := by
  rcases h with (h | ⟨o, h⟩) | ⟨o, its, n, hk, hc, _⟩
  · exact .base (.lst h)
  · exact .base (.frz h)
  · exact .kList hk hc
theorem kd_tup {K : PySem.W.Frag} {H : Hp} {a : Addr} {xs : List V} (h : SqT K H a xs) : Kd K H (.ref a) "tuple" := by
  rcases h with (h | ⟨o, h⟩) | ⟨o, its, n, hk, hc, _⟩
  · exact .base (.tup h)
  · exact .fTuple h
  · exact .kTuple hk hc
theorem kd_isInt {K : PySem.W.Frag} {H : Hp} {v : V} {t : String} (h : Kd K H v t) : isInt v = (t == "int") := by
  generalize e : Value.type t = u at h
  cases h with
  | base b =>
    cases b <;> first | (cases e; rfl) | cases e
  | _ => cases e; rfl
theorem isi_of {K : PySem.W.Frag} {H : Hp} {v : V} {t n : String} {b : Bool} {Q : VK} (h : Kd K H v t) (e : PySem.W.kitOne K (.type t) (.type n) = some b) (q : Q (.bl b) H) : rIsi K [v, .ty n] H Q :=
  ⟨v, .ty n, .type t, .type n, b, rfl, .ty n, h, e, q⟩
/-- isinstance(v, int), (v, bool), (v, list), (v, tuple), (v, str) of a value of a known sort -/
theorem kit_kd {K : PySem.W.Frag} {H : Hp} {v : V} {t : String} (h : Kd K H v t) :
    PySem.W.kitOne K (.type t) (.type "int") = some (t == "int" || t == "bool") ∧ PySem.W.kitOne K (.type t) (.type "bool") = some (t == "bool") ∧
    PySem.W.kitOne K (.type t) (.type "list") = some (t == "list") ∧ PySem.W.kitOne K (.type t) (.type "tuple") = some (t == "tuple") ∧ PySem.W.kitOne K (.type t) (.type "str") = some (t == "str") := by
  generalize e : Value.type t = u at h
  cases h with
  | base b =>
    cases b <;> first | (cases e; exact ⟨kit_ty (by decide +kernel), kit_ty (by decide +kernel), kit_ty (by decide +kernel), kit_ty (by decide +kernel), kit_ty (by decide +kernel)⟩) | cases e
  | _ => cases e; exact ⟨kit_ty (by decide +kernel), kit_ty (by decide +kernel), kit_ty (by decide +kernel), kit_ty (by decide +kernel), kit_ty (by decide +kernel)⟩

/-! #### further facts of the top -/
def exOk (ex : List (PySem.W.Frag → Bool)) (K : PySem.W.Frag) : Bool := ex.all fun f => f K
theorem exAll {ex : List (PySem.W.Frag → Bool)} {K : PySem.W.Frag} (i : Nat) {f : PySem.W.Frag → Bool} (c : exOk ex K = true) (h : ex[i]? = some f) : f K = true := List.all_eq_true.mp c f (List.mem_of_getElem? h)
def obsYG (n : Nat) (fa : List He.Fa) (fn : List He.DefD) (ex : List (PySem.W.Frag → Bool)) (g : Addr → Option Obj) : Bool × He.AlD := (exOk ex (He.frG g (He.asD g n)), He.obsD fa fn (He.frG g (He.asD g n)))
def hookY (n : Nat) (fa : List He.Fa) (fn : List He.DefD) (ex : List (PySem.W.Frag → Bool)) : PySem.W.Hook where
  α := Bool × He.AlD
  obs := fun s => obsYG n fa fn ex s.heap.get?
  val := fun _ => (true, He.valD fn)
  says := fun _ h => ∃ K : PySem.W.Frag, K.In h ∧ He.SaysD fa fn K ∧ exOk ex K = true
  of := fun _ _ e => ⟨_, He.frG_in, congrArg Prod.snd e, congrArg Prod.fst e⟩
  keeps := fun _ _ _ ⟨K, hK, c⟩ k => ⟨K, PySem.W.Frag.In.keeps hK k, c⟩
theorem obsYG_eq {n : Nat} {fa : List He.Fa} {fn : List He.DefD} {ex : List (PySem.W.Frag → Bool)} {g : Addr → Option Obj} {s : Shared} (h : ∀ a, g a = s.heap.get? a) : obsYG n fa fn ex g = (hookY n fa fn ex).obs s := by
  have e : g = s.heap.get? := funext h
  rw [e]; rfl
/-- a class without an __init__ of its own -/
structure MkB (K : PySem.W.Frag) (C : Addr) : Prop where
  makes : PySem.W.makesIn K C = true
  init : PySem.W.findIn K (.ref C) "__init__" = some (some (.builtin "object.__init__"))
  kp : PySem.W.keepIn K (.ref C) = true
  top : PySem.W.mroIn K C (.type "object") = some true
def mkB (K : PySem.W.Frag) (C : Addr) : Bool := PySem.W.makesIn K C && (He.eqO (PySem.W.findIn K (.ref C) "__init__") (some (some (.builtin "object.__init__"))) && (PySem.W.keepIn K (.ref C) && decide (PySem.W.mroIn K C (.type "object") = some true)))
theorem mkB_ok {K : PySem.W.Frag} {C : Addr} (h : mkB K C = true) : MkB K C := by
  obtain ⟨h1, h⟩ := He.ba h
  obtain ⟨h2, h⟩ := He.ba h
  obtain ⟨h3, h4⟩ := He.ba h
  exact ⟨h1, He.eqO_ok h2, h3, of_decide_eq_true h4⟩
/-- what isinstance asks of an own class -/
structure IsC (K : PySem.W.Frag) (C : Addr) : Prop where
  cls : PySem.W.findIn K (.ref C) "__class__" = some (some (.builtin "object.__class__"))
  spe : PySem.W.specialIn K (.builtin "object.__class__") "__get__" = some (some (.builtin "getset_descriptor.__get__"))
  tak : PySem.W.takesIn K (.builtin "object.__class__") = some true
  mro : PySem.W.mroIn K C (.type "object") = some true
def isCB (K : PySem.W.Frag) (C : Addr) : Bool := He.eqO (PySem.W.findIn K (.ref C) "__class__") (some (some (.builtin "object.__class__"))) && (He.eqO (PySem.W.specialIn K (.builtin "object.__class__") "__get__") (some (some (.builtin "getset_descriptor.__get__"))) &&
  (decide (PySem.W.takesIn K (.builtin "object.__class__") = some true) && decide (PySem.W.mroIn K C (.type "object") = some true)))
theorem isCB_ok {K : PySem.W.Frag} {C : Addr} (h : isCB K C = true) : IsC K C := by
  obtain ⟨h1, h⟩ := He.ba h
  obtain ⟨h2, h⟩ := He.ba h
  obtain ⟨h3, h4⟩ := He.ba h
  exact ⟨He.eqO_ok h1, He.eqO_ok h2, of_decide_eq_true h3, of_decide_eq_true h4⟩
/-- C(), no __init__: a new instance without attributes -/
def tMkO (C : Addr) : TE := fun _ H Q => ∀ x dx, H x = none → H dx = none → dx ≠ x → Q (.ref x) (upd (upd H dx (.own x)) x (.ins C dx []))
theorem pe_mkO {X : Cx} {x : Str} {C : Addr} {p pos : Pos} (M : MkB X.K C) (hg : Gl X x) (hm : X.mg x = some (.ref C)) (hdb : (x == ("__debug__" : Str)) = false := by decide) : PE X (.Call (.Name x p) [] [] pos) (tMkO C) := by
  refine ⟨fun pins s σ H Q I h => ?_⟩
  refine wpAny_Call_Name_kw (ld_glob I hg hm ?_ hdb)
  refine PySem.W.callWith_K0 I.kIn M.kp ?_
  have hq := h (s.heap.objs.size + 1) s.heap.objs.size (I.hok.fresh (Nat.le_succ _)) (I.hok.fresh (Nat.le_refl _)) (Nat.ne_of_lt (Nat.lt_succ_self _))
  have I2 := Inv.made (C := C) I
  refine wpAny_call (make_map0 I.kIn M.makes M.init (fun self => PySem.W.Looks.of_pure (PySem.W.oi_bind self)) ?_)
  have hL : PySem.W.Looks (model X.prog X.w) ((s.heap.push PySem.W.emptyDict).push (PySem.W.instObj C s.heap.objs.size)) (isInstance (.ref (s.heap.objs.size + 1)) (.type "object")) true := by
    have e2 : ((s.heap.push PySem.W.emptyDict).push (PySem.W.instObj C s.heap.objs.size)).get? (s.heap.objs.size + 1) = some (PySem.W.instObj C s.heap.objs.size) := by
      have := Heap.get?_push_size (s.heap.push PySem.W.emptyDict) (o := PySem.W.instObj C s.heap.objs.size) rfl
      rwa [Heap.size_push] at this
    have t1 : PySem.W.Looks (model X.prog X.w) ((s.heap.push PySem.W.emptyDict).push (PySem.W.instObj C s.heap.objs.size)) (typeOf (.ref (s.heap.objs.size + 1))) (.ref C) := (PySem.W.Looks.ld e2).andThen .now
    exact t1.andThen (PySem.W.looks_mroIn I2.kIn M.top)
  refine codeAny_call_builtin PySem.W.oi_plain PySem.W.entry_oi (@PySem.W.check_slot (model X.prog X.w) _ _ _ "object.__init__" "object" "__init__" _ [] [] _ PySem.W.oi_kind PySem.W.oi_split hL (PySem.W.oi_args _) ?_)
  rw [PySem.W.oi_run]
  exact wpAny_pure (And.intro rfl ⟨V.ref (s.heap.objs.size + 1), _, I2, rfl, hq⟩)
end Song

/-! ### Pl1: plain lists: greatest ones, songs in turn (no program in sight) -/
namespace Song
def maxL : List Int → Int
  | [] => 0
  | n :: r => r.foldl max n
theorem foldl_max_le : ∀ (r : List Int) (n m : Int), n ≤ m → (∀ y ∈ r, y ≤ m) → r.foldl max n ≤ m
  | [], _, _, h, _ => h
  | y :: r, n, m, h, hr => foldl_max_le r (max n y) m (by have := hr y (by simp); omega) fun z hz => hr z (by simp [hz])
theorem le_foldl_max : ∀ (r : List Int) (n : Int), n ≤ r.foldl max n ∧ ∀ y ∈ r, y ≤ r.foldl max n
  | [], n => ⟨Int.le_refl _, fun y h => by cases h⟩
  | y :: r, n => by
    obtain ⟨h1, h2⟩ := le_foldl_max r (max n y)
    have e : (y :: r).foldl max n = r.foldl max (max n y) := rfl
    rw [e]
    refine ⟨by omega, fun z hz => ?_⟩
    rcases List.mem_cons.mp hz with q | q
    · omega
    · exact h2 z q
theorem foldl_max_mem : ∀ (r : List Int) (n : Int), r.foldl max n ∈ n :: r
  | [], n => by simp
  | y :: r, n => by
    have h := foldl_max_mem r (max n y)
    have e : (y :: r).foldl max n = r.foldl max (max n y) := rfl
    rw [e]
    rcases List.mem_cons.mp h with q | q
    · rw [q]
      by_cases c : n ≤ y
      · rw [Int.max_eq_right c]; simp
      · rw [Int.max_eq_left (by omega)]; simp
    · simp [q]
theorem maxL_ge {ns : List Int} {y : Int} (h : y ∈ ns) : y ≤ maxL ns := by
  cases ns with
  | nil => cases h
  | cons n r =>
    obtain ⟨h1, h2⟩ := le_foldl_max r n
    rcases List.mem_cons.mp h with q | q
    · rw [q]; exact h1
    · exact h2 y q
theorem maxL_mem {ns : List Int} (h : ns ≠ []) : maxL ns ∈ ns := by
  cases ns with
  | nil => exact absurd rfl h
  | cons n r => exact foldl_max_mem r n
theorem maxL_eq {ns : List Int} {m : Int} (h : m ∈ ns) (hm : ∀ y ∈ ns, y ≤ m) : m = maxL ns := by
  have h1 := maxL_ge h
  have h2 := hm _ (maxL_mem (fun e => by rw [e] at h; cases h))
  omega
/-- the least round that a singer's next song can have -/
def floorOf (last : List Int) (going s : Int) : Int := max going (last.getD s.toNat 0 + 1)
def roundFor (last : List Int) (going : Int) (ss : List Int) : Int := maxL (ss.map (floorOf last going))
/-- the law's own way to say it -/
theorem roundFor_law {last : List Int} {going : Int} {ss : List Int} (h : ss ≠ []) : maxL (going :: ss.map fun s => last.getD s.toNat 0 + 1) = roundFor last going ss := by
  have h1 : ∀ s ∈ ss, floorOf last going s ≤ roundFor last going ss := fun s hs => maxL_ge (List.mem_map.mpr ⟨s, hs, rfl⟩)
  have h2 : going ≤ maxL (going :: ss.map fun s => last.getD s.toNat 0 + 1) := maxL_ge (by simp)
  have h3 : ∀ s ∈ ss, last.getD s.toNat 0 + 1 ≤ maxL (going :: ss.map fun s => last.getD s.toNat 0 + 1) := fun s hs => maxL_ge (List.mem_cons_of_mem _ (List.mem_map.mpr ⟨s, hs, rfl⟩))
  have h4 := maxL_mem (ns := going :: ss.map fun s => last.getD s.toNat 0 + 1) (by simp)
  have h5 : roundFor last going ss ∈ ss.map (floorOf last going) := maxL_mem (by simpa using h)
  obtain ⟨s, hs, e⟩ := List.mem_map.mp h5
  obtain ⟨s0, hs0⟩ : ∃ s0, s0 ∈ ss := by
    cases ss with
    | nil => exact absurd rfl h
    | cons a r => exact ⟨a, by simp⟩
  have f0 := h1 s0 hs0
  have f1 := h3 s hs
  unfold floorOf at e f0
  rcases List.mem_cons.mp h4 with q | q
  · omega
  · obtain ⟨s1, hs1, e1⟩ := List.mem_map.mp q
    have f2 := h1 s1 hs1
    unfold floorOf at f2
    omega
/-! #### pairs in order -/
def ltPr (a b : Int × Int) : Bool := decide (a.1 < b.1) || (decide (a.1 = b.1) && decide (a.2 < b.2))
theorem ltPr_iff {a b : Int × Int} : ltPr a b = true ↔ a.1 < b.1 ∨ (a.1 = b.1 ∧ a.2 < b.2) := by
  unfold ltPr
  simp
theorem ltPr_false {a b : Int × Int} : ltPr a b = false ↔ ¬ (a.1 < b.1 ∨ (a.1 = b.1 ∧ a.2 < b.2)) := by
  rw [← ltPr_iff]; simp
theorem ltPr_anti {a b : Int × Int} (h1 : ltPr a b = false) (h2 : ltPr b a = false) : a = b := by
  rw [ltPr_false] at h1 h2
  obtain ⟨a1, a2⟩ := a
  obtain ⟨b1, b2⟩ := b
  simp only at h1 h2
  have e1 : a1 = b1 := by omega
  have e2 : a2 = b2 := by omega
  rw [e1, e2]
def SortedP (l : List (Int × Int)) : Prop := l.Pairwise fun x y => ltPr y x = false
theorem sortedP_unique : ∀ {l m : List (Int × Int)}, l.Perm m → SortedP l → SortedP m → l = m
  | [], m, p, _, _ => (List.nil_perm.mp p).symm ▸ rfl
  | x :: l, [], p, _, _ => absurd p.length_eq (by simp)
  | x :: l, y :: m, p, h1, h2 => by
    obtain ⟨a1, a2⟩ := List.pairwise_cons.mp h1
    obtain ⟨b1, b2⟩ := List.pairwise_cons.mp h2
    have e : x = y := by
      have hx : x ∈ y :: m := p.subset (by simp)
      have hy : y ∈ x :: l := p.symm.subset (by simp)
      rcases List.mem_cons.mp hx with q | q
      · exact q
      rcases List.mem_cons.mp hy with q' | q'
      · exact q'.symm
      exact ltPr_anti (b1 x q) (a1 y q')
    subst e
    rw [sortedP_unique (List.perm_cons x |>.mp p) a2 b2]
def insP (x : Int × Int) : List (Int × Int) → List (Int × Int)
  | [] => [x]
  | y :: r => if ltPr y x then y :: insP x r else x :: y :: r
def sortP : List (Int × Int) → List (Int × Int)
  | [] => []
  | x :: r => insP x (sortP r)
theorem insP_perm (x : Int × Int) : ∀ l, (insP x l).Perm (x :: l)
  | [] => List.Perm.refl _
  | y :: r => by
    unfold insP
    split
    · exact ((insP_perm x r).cons y).trans (List.Perm.swap x y r)
    · exact List.Perm.refl _
theorem sortP_perm : ∀ l, (sortP l).Perm l
  | [] => List.Perm.refl _
  | x :: r => (insP_perm x (sortP r)).trans ((sortP_perm r).cons x)
theorem insP_sorted (x : Int × Int) : ∀ l, SortedP l → SortedP (insP x l)
  | [], _ => by
    unfold insP SortedP
    exact List.pairwise_singleton _ _
  | y :: r, h => by
    obtain ⟨a1, a2⟩ := List.pairwise_cons.mp h
    unfold insP
    split
    · rename_i c
      refine List.pairwise_cons.mpr ⟨fun z hz => ?_, insP_sorted x r a2⟩
      rcases List.mem_cons.mp ((insP_perm x r).subset hz) with q | q
      · rw [q, ltPr_false]
        rw [ltPr_iff] at c
        omega
      · exact a1 z q
    · rename_i c
      have c : ltPr y x = false := by simpa using c
      refine List.pairwise_cons.mpr ⟨fun z hz => ?_, h⟩
      rcases List.mem_cons.mp hz with q | q
      · rw [q]; exact c
      · have := a1 z q
        rw [ltPr_false] at this c ⊢
        omega
theorem sortP_sorted : ∀ l, SortedP (sortP l)
  | [] => List.Pairwise.nil
  | x :: r => insP_sorted x _ (sortP_sorted r)
theorem sortP_eq {l m : List (Int × Int)} (p : l.Perm m) (h : SortedP l) : l = sortP m := sortedP_unique (p.trans (sortP_perm m).symm) h (sortP_sorted m)
/-- the songs that wait, in turn -/
def inTurn (rounds waits : List Int) : List Int := (sortP (waits.map fun s => (rounds.getD s.toNat 0, s))).map (·.2)
theorem inTurn_perm (rounds waits : List Int) : (inTurn rounds waits).Perm waits := by
  unfold inTurn
  have h := (sortP_perm (waits.map fun s => (rounds.getD s.toNat 0, s))).map (·.2)
  rw [List.map_map] at h
  have e : waits.map ((fun x : Int × Int => x.2) ∘ fun s => (rounds.getD s.toNat 0, s)) = waits := by
    rw [show ((fun x : Int × Int => x.2) ∘ fun s => (rounds.getD s.toNat 0, s)) = id from rfl, List.map_id]
  rw [e] at h
  exact h
end Song

/-! ### Exn: defs that raise, own error classes, tables of lambdas (own layer) -/
namespace Song
open PySem L2
/-! #### contracts that tell what is raised -/
structure FnX (P : Program) (w : World) (K : PySem.W.Frag) (mg : Str → Option Value) (base : Heap) (x : Str) (k : Nat) (sp : Sp) : Prop where
  ex : ∃ (f : Addr) (fd : FuncData) (ps : List Str), FnOk P w K mg base (L2.CX P w) k f fd ps sp ∧ mg x = some (.ref f) ∧ PySem.W.keepIn K (.ref f) = true ∧ Binds K fd ps []
structure MeX (P : Program) (w : World) (K : PySem.W.Frag) (mg : Str → Option Value) (base : Heap) (C : Addr) (m : Str) (k : Nat) (sp : Sp) : Prop where
  ex : ∃ (f : Addr) (fd : FuncData) (ps : List Str), FnOk P w K mg base (L2.CX P w) k f fd ps sp ∧ Cls K C ∧ Meth K C m f ∧ Binds K fd ps []
structure MkeX (P : Program) (w : World) (K : PySem.W.Frag) (mg : Str → Option Value) (base : Heap) (x : Str) (C : Addr) (k : Nat) (sp : Sp) : Prop where
  ex : ∃ (f : Addr) (fd : FuncData) (ps : List Str), FnOk P w K mg base (L2.CX P w) k f fd ps sp ∧ Mk K C f ∧ mg x = some (.ref C) ∧ Binds K fd ps []
/-- what may leave, whatever the slots are -/
abbrev TkE (X : Cx) (E : XK) : Prop := Takes X (fun cls d _ H => E cls d H)
section
variable {X : Cx} {x m : Str} {k : Nat} {sp : Sp} {e o : Expr} {es : List Expr} {t : TA} {to : TE} {C : Addr} {p apos pos : Pos} {E : XK}
theorem pe_fnx (F : FnX X.prog X.w X.K X.mg X.base x k sp) (hr : Room k X.A) (hg : Gl X x) (tk : TkE X E) (ha : PA X (e :: es) t)
    (hdb : (x == ("__debug__" : Str)) = false := by decide) (he : starEach (e :: es) X.env = (false, eval e X.env) :: starEach es X.env := by rfl) (hpl : (backTo pos (starEach es X.env)).any (·.1) = false := by rfl) :
    PE X (.Call (.Name x p) (e :: es) [] pos) (tCall sp [] E t) := by
  obtain ⟨f, fd, ps, h1, h2, h3, h4⟩ := F.ex
  exact pe_call h1 hr hg h2 h3 h4 .nil (passes_call tk fun _ _ _ _ h => h) ha hdb he hpl
theorem pe_mex {pl : Sem Bool} (F : MeX X.prog X.w X.K X.mg X.base C m k sp) (hr : Room k X.A) (tk : TkE X E) (ho : PE X o to) (ha : PA X (e :: es) t)
    (hst : starEach (e :: es) X.env = (false, eval e X.env) :: starEach es X.env := by rfl) (hpl : (backTo pos (starEach es X.env)).any (·.1) = false := by rfl)
    (ht : eval (.Call (.Attribute o m apos) (e :: es) [] pos) X.env = (do
      let ov ← eval o X.env
      standAt apos.atName
      let (f, first) ← holding [ov] (getMethod ov m pl)
      callWith pos f first (backTo pos (starEach (e :: es) X.env)) (backToKw pos (keywordEach [] X.env))) := by rfl) :
    PE X (.Call (.Attribute o m apos) (e :: es) [] pos) (tMeth C m sp [] E to t) := by
  obtain ⟨f, fd, ps, h1, h2, h3, h4⟩ := F.ex
  exact pe_meth ho h2 h3 h1 hr h4 .nil (passes_call tk fun _ _ _ _ h => h) ha hst hpl ht
theorem pe_mkx (F : MkeX X.prog X.w X.K X.mg X.base x C k sp) (hr : Room (k + 1) X.A) (hg : Gl X x) (tk : TkE X E) (ha : PA X (e :: es) t)
    (hdb : (x == ("__debug__" : Str)) = false := by decide) (he : starEach (e :: es) X.env = (false, eval e X.env) :: starEach es X.env := by rfl) (hpl : (backTo pos (starEach es X.env)).any (·.1) = false := by rfl) :
    PE X (.Call (.Name x p) (e :: es) [] pos) (tMake C sp [] E t) := by
  obtain ⟨f, fd, ps, h1, h2, h3, h4⟩ := F.ex
  exact pe_make h2 h1 hr hg h3 h4 .nil (passes_call tk fun _ _ _ _ h => h) ha hdb he hpl
end
/-! #### own error classes -/
structure ExK (K : PySem.W.Frag) (mg : Str → Option Value) (x : Str) : Prop where
  g : mg x = some (.ref (He.ga K x))
  i : PySem.W.excIn K (He.ga K x) He.veBase "ValueError.__new__" = true
  k : PySem.W.keepIn K (.ref (He.ga K x)) = true
  s : PySem.W.subIn K (.ref (He.ga K x)) (.type "BaseException") = some true
  t : PySem.W.typeIn K (.ref (He.ga K x)) = some (.type "type")
theorem exk_of {K : PySem.W.Frag} {mg : Str → Option Value} {x : Str} (g : mg x = some (.ref (He.ga K x))) (c : PySem.W.excIn K (He.ga K x) He.veBase "ValueError.__new__" = true ∧ PySem.W.keepIn K (.ref (He.ga K x)) = true ∧ PySem.W.subIn K (.ref (He.ga K x)) (.type "BaseException") = some true ∧
    PySem.W.typeIn K (.ref (He.ga K x)) = some (.type "type")) : ExK K mg x := ⟨g, c.1, c.2.1, c.2.2.1, c.2.2.2⟩
/-- raise x('m') -/
theorem ps_rz {X : Cx} {E : XK} {x m : Str} {j : Nat} {p p2 pos pos' : Pos} (hc : X.calm = true) (tk : TkE X E) (c : ExK X.K X.mg x) (hg : Gl X x) (hdb : (x == ("__debug__" : Str)) = false := by decide) :
    PS X (.Raise (some (.Call (.Name x p) [.Constant (.str m) j p2] [] pos)) none pos') (fun _ _ H => E (.ref (He.ga X.K x)) none H) :=
  ps_raise hc tk (pmk_own PySem.F.excBase_ValueError c.i c.g c.k (raises_own c.s c.t) hg hdb)
/-- the names of the eight -/
def cn (i : Nat) : Str := (["BadMany", "BadSingers", "BadSong", "BadTale", "BadSongs", "BadGap", "BadOrder", "TooMany"] : List Str).getD i ""
structure KM (K : PySem.W.Frag) (i : Nat) : Prop where
  c : ExcC K (He.ga K (cn i))
  j : ∀ j, j < 8 → PySem.W.kitOne K (.ref (He.ga K (cn i))) (.ref (He.ga K (cn j))) = some (i == j)
  v : PySem.W.kitOne K (.ref (He.ga K (cn i))) (.type "ValueError") = some true
  m : PySem.W.exmOne K (.ref (He.ga K (cn i))) (.ref (He.ga K "TurnError")) = some true
def kmB1 (K : PySem.W.Frag) (D : Addr) (i : Nat) : Bool :=
  He.eqO (PySem.W.findIn K (.ref D) "__getattribute__") (some (some (.builtin "BaseException.__getattribute__"))) && (He.eqO (PySem.W.findIn K (.ref D) "__getattr__") (some none) && (decide (PySem.W.subIn K (.ref D) (.type "BaseException") = some true) && (PySem.W.hasDictIn K D &&
  (He.eqO (PySem.W.findIn K (.ref D) "__class__") (some (some (.builtin "object.__class__"))) && (He.eqO (PySem.W.specialIn K (.builtin "object.__class__") "__get__") (some (some (.builtin "getset_descriptor.__get__"))) &&
  (decide (PySem.W.takesIn K (.builtin "object.__class__") = some true) && (decide (PySem.W.mroIn K D (.type "object") = some true) &&
  ((List.range 8).all (fun j => decide (PySem.W.kitOne K (.ref D) (.ref (He.ga K (cn j))) = some (i == j))) &&
  (decide (PySem.W.kitOne K (.ref D) (.type "ValueError") = some true) && decide (PySem.W.exmOne K (.ref D) (.ref (He.ga K "TurnError")) = some true))))))))))
def kmB (K : PySem.W.Frag) : Bool := (List.range 8).all fun i => kmB1 K (He.ga K (cn i)) i
theorem km_ok {K : PySem.W.Frag} (h : kmB K = true) : ∀ i, i < 8 → KM K i := fun i hi => by
  have h := List.all_eq_true.mp h i (List.mem_range.mpr hi)
  obtain ⟨h1, h⟩ := He.ba h
  obtain ⟨h2, h⟩ := He.ba h
  obtain ⟨h3, h⟩ := He.ba h
  obtain ⟨h4, h⟩ := He.ba h
  obtain ⟨h5, h⟩ := He.ba h
  obtain ⟨h6, h⟩ := He.ba h
  obtain ⟨h7, h⟩ := He.ba h
  obtain ⟨h8, h⟩ := He.ba h
  obtain ⟨h9, h⟩ := He.ba h
  obtain ⟨h10, h11⟩ := He.ba h
  exact ⟨⟨He.eqO_ok h1, He.eqO_ok h2, of_decide_eq_true h3, h4, He.eqO_ok h5, He.eqO_ok h6, of_decide_eq_true h7, of_decide_eq_true h8⟩,
    fun j hj => of_decide_eq_true (List.all_eq_true.mp h9 j (List.mem_range.mpr hj)), of_decide_eq_true h10, of_decide_eq_true h11⟩
/-! #### defs that make lambdas -/
/-- as FunD.ok, the code object told -/
theorem okC {P : Program} {w : World} {K : PySem.W.Frag} {mg : Str → Option Value} {base : Heap} {x qual : Str} {params : Arguments} {body : List Stmt} {scope : Scope} {dvs : List V} {kws : List (Str × V)} {f : Addr} {fd : FuncData} {CX : CXT} {N ps : List Str} {k : Nat} {sp : Sp} {at_ : He.Defn}
    (F : FunD K x qual params body scope dvs kws f fd) (ef : f = He.fAd K at_) (S : FnScope N ps scope) (len : ∀ vs H Q E, sp vs H Q E → vs.length = ps.length)
    (hbody : ∀ (cdv : Value) (_ : cdv = .ref (He.cT K at_).1) (A : Around) (outer : List Env) (s : Shared) (H : Hp) (vs : List V) (Q : VK) (E : XK), Room k (A.deeper (PyProof.Rows.envOfC qual scope s.heap.objs.size f cdv)) → sp vs H Q E →
      ∃ t, PSs (cxOf CX P w K mg base N qual scope f cdv A outer s H E) body t ∧ t { nx := fun _ H' => Q .non H', rt := Q } (L2.start N vs) H) : FnOk P w K mg base CX (k + 1) f fd ps sp := by
  obtain ⟨oc, od, dV, kV, doc, pm, an, cdv, ct, osl, rfl, lk, hcd, _, _⟩ := F.ex
  obtain ⟨c, ec⟩ := He.codeIn_ref hcd
  have e1 : (He.cT K at_).1 = c := He.codeOf_eq (by rw [← ef]; exact lk) ec
  exact fn_of lk hcd S len fun A outer s H vs Q E hr hsp => hbody cdv (by rw [ec, e1]) A outer s H vs Q E hr hsp
/-- a table's name of a def -/
abbrev qOf (d : Str) : Str := d ++ ".<locals>." ++ "<lambda>"
abbrev TLof (K : PySem.W.Frag) (tf : List He.Defn) : List (Addr × Str) := tf.map fun p => ((He.cT K p).2, qOf p.1)
structure LamT (K : PySem.W.Frag) (mg : Str → Option Value) (base : Heap) (Tl : List (Addr × Str)) (d : Str) : Prop where
  tb : LamX.TabB base mg (He.cT K (d, none)).1 (He.cT K (d, none)).2
  mem : ((He.cT K (d, none)).2, qOf d) ∈ Tl
  uq : ∀ p ∈ Tl, p.1 = (He.cT K (d, none)).2 → p.2 = qOf d
theorem nodup_inj {α β : Type} {f : α → β} : ∀ {l : List α}, (l.map f).Nodup → ∀ {a b : α}, a ∈ l → b ∈ l → f a = f b → a = b
  | [], _, _, _, h, _, _ => by cases h
  | c :: r, nd, a, b, ha, hb, e => by
    rw [List.map_cons, List.nodup_cons] at nd
    rcases List.mem_cons.mp ha with e1 | h1
    · rcases List.mem_cons.mp hb with e2 | h2
      · rw [e1, e2]
      · exact absurd (by rw [← e1, e]; exact List.mem_map_of_mem h2) nd.1
    · rcases List.mem_cons.mp hb with e2 | h2
      · exact absurd (by rw [← e2, ← e]; exact List.mem_map_of_mem h1) nd.1
      · exact nodup_inj nd.2 h1 h2 e
theorem lamT_of {K : PySem.W.Frag} {mg : Str → Option Value} {base : Heap} {tf : List He.Defn} {d : Str} (B : ∀ p ∈ tf, LamX.TabB base mg (He.cT K p).1 (He.cT K p).2) (nd : (tf.map fun p => (He.cT K p).2).Nodup) (h : (d, none) ∈ tf) : LamT K mg base (TLof K tf) d :=
  ⟨B _ h, List.mem_map.mpr ⟨_, h, rfl⟩, fun p hp e => by
    obtain ⟨q, hq, rfl⟩ := List.mem_map.mp hp
    have := nodup_inj (f := fun p => (He.cT K p).2) nd hq h e
    rw [this]⟩
/-- a def's body: what leaves it -/
theorem tkF {P : Program} {w : World} {K : PySem.W.Frag} {mg : Str → Option Value} {base : Heap} {N : List Str} {qual : Str} {scope : Scope} {f : Addr} {cdv : Value} {A : Around} {outer : List Env} {s : Shared} {H : Hp} {E : XK} : TkE (cxOf (L2.CX P w) P w K mg base N qual scope f cdv A outer s H E) E :=
  takes_of (X := cxOf (L2.CX P w) P w K mg base N qual scope f cdv A outer s H E) (E := E) rfl rfl rfl rfl
/-- a lambda's body: what leaves it -/
theorem tkLam {X : Cx} {A : Around} {outer : List Env} {s : Shared} {H : Hp} {E : XK} {scope : Scope} {f c' : Addr} : TkE (LamX.lamCx X A outer s H E scope f c') E := takes_of (X := LamX.lamCx X A outer s H E scope f c') (E := E) rfl rfl rfl rfl
/-- the slots are as many as the names -/
theorem takes_len {X : Cx} {W : WX} (tk : Takes X W) : Takes X (fun cls d σ H => σ.length = X.N.length → W cls d σ H) := fun u s' x => by
  obtain ⟨a, B, sI, pins, σ, H, cls, d, h1, I, h2, h3, h4, h5, h6, h7, w⟩ := x
  exact tk u s' ⟨a, B, sI, pins, σ, H, cls, d, h1, I, h2, h3, h4, h5, h6, h7, w I.len⟩
/-- all but tables -/
def nt (H : Hp) : Hp := fun b => match H b with
  | some (.tbl _) => none
  | x => x
theorem nt_some {H : Hp} {b : Addr} {o : HO} (h : nt H b = some o) : H b = some o ∧ ∀ ps, o ≠ .tbl ps := by
  unfold nt at h
  split at h
  · cases h
  · rename_i z
    exact ⟨h, fun ps e => z ps (by rw [h, e])⟩
theorem nt_of {H : Hp} {b : Addr} {o : HO} (h : H b = some o) (n : ∀ ps, o ≠ .tbl ps) : nt H b = some o := by
  unfold nt
  split
  · rename_i z
    rw [h] at z
    exact absurd (Option.some.inj z) (n _)
  · exact h
theorem nt_le (H : Hp) : Same (nt H) H := fun _ _ h => (nt_some h).1
theorem nt_ext {H H' : Hp} (e : LamX.ExtN H H') : Same (nt H) (nt H') := fun b o h => by
  obtain ⟨h, n⟩ := nt_some h
  exact nt_of (e b o h n) n
theorem ext_of_nt {H H' : Hp} (e : Same (nt H) (nt H')) : LamX.ExtN H H' := fun b o h n => (nt_some (e b o (nt_of h n))).1
theorem nt_same {H H' : Hp} (e : Same H H') : Same (nt H) (nt H') := nt_ext (LamX.ExtN.of e)
theorem nt_fra {S : List Addr} {H H' : Hp} (f : Fra S H H') : Fra S (nt H) (nt H') := fun a o q h => by
  obtain ⟨h, n⟩ := nt_some h
  exact nt_of (f a o q h) n
theorem nt_none {H : Hp} {b : Addr} (h : H b = none) : nt H b = none := by
  unfold nt
  rw [h]
theorem tabs_same {T : List (Addr × Str)} {H H' : Hp} (t : LamX.Tabs T H) (e : Same H H') : LamX.Tabs T H' := t.ext e
end Song

namespace Song
open PySem L2
def top (i : Nat) : Stmt := PySem.Challenge.pw_songturns_k10_refused_evenings.main.body.getD i (.Pass ⟨0, 0, 0, 0⟩)
def inC (st : Stmt) (i : Nat) : Stmt := match st with
  | .ClassDef _ _ _ b _ _ _ _ _ _ _ => b.getD i (.Pass ⟨0, 0, 0, 0⟩)
  | _ => .Pass ⟨0, 0, 0, 0⟩
abbrev s_is_whole : Stmt := top 15
def d_is_whole : He.DefD := ⟨("is_whole", none), "is_whole", "is_whole", defArgs s_is_whole, defBody s_is_whole, defScope s_is_whole, [], []⟩
abbrev s_are_numbers : Stmt := top 16
def d_are_numbers : He.DefD := ⟨("are_numbers", none), "are_numbers", "are_numbers", defArgs s_are_numbers, defBody s_are_numbers, defScope s_are_numbers, [], []⟩
abbrev s_check_many : Stmt := top 17
def d_check_many : He.DefD := ⟨("check_many", none), "check_many", "check_many", defArgs s_check_many, defBody s_check_many, defScope s_check_many, [], []⟩
abbrev s_are_singers : Stmt := top 18
def d_are_singers : He.DefD := ⟨("are_singers", none), "are_singers", "are_singers", defArgs s_are_singers, defBody s_are_singers, defScope s_are_singers, [], []⟩
abbrev s_floor_of : Stmt := top 20
def d_floor_of : He.DefD := ⟨("floor_of", none), "floor_of", "floor_of", defArgs s_floor_of, defBody s_floor_of, defScope s_floor_of, [], []⟩
abbrev s_round_for : Stmt := top 21
def d_round_for : He.DefD := ⟨("round_for", none), "round_for", "round_for", defArgs s_round_for, defBody s_round_for, defScope s_round_for, [], []⟩
abbrev s_in_turn : Stmt := top 22
def d_in_turn : He.DefD := ⟨("in_turn", none), "in_turn", "in_turn", defArgs s_in_turn, defBody s_in_turn, defScope s_in_turn, [], []⟩
abbrev s_more_ahead : Stmt := top 23
def d_more_ahead : He.DefD := ⟨("more_ahead", none), "more_ahead", "more_ahead", defArgs s_more_ahead, defBody s_more_ahead, defScope s_more_ahead, [], []⟩
abbrev s_Evening___init__ : Stmt := inC (top 25) 0
def d_Evening___init__ : He.DefD := ⟨("Evening", some "__init__"), "__init__", "Evening.__init__", defArgs s_Evening___init__, defBody s_Evening___init__, defScope s_Evening___init__, [], []⟩
abbrev s_Evening_wish : Stmt := inC (top 25) 1
def d_Evening_wish : He.DefD := ⟨("Evening", some "wish"), "wish", "Evening.wish", defArgs s_Evening_wish, defBody s_Evening_wish, defScope s_Evening_wish, [], []⟩
abbrev s_Evening_sing : Stmt := inC (top 25) 2
def d_Evening_sing : He.DefD := ⟨("Evening", some "sing"), "sing", "Evening.sing", defArgs s_Evening_sing, defBody s_Evening_sing, defScope s_Evening_sing, [], []⟩
abbrev s_Evening_look_at : Stmt := inC (top 25) 3
def d_Evening_look_at : He.DefD := ⟨("Evening", some "look_at"), "look_at", "Evening.look_at", defArgs s_Evening_look_at, defBody s_Evening_look_at, defScope s_Evening_look_at, [], []⟩
abbrev s_Evening_withdraw : Stmt := inC (top 25) 4
def d_Evening_withdraw : He.DefD := ⟨("Evening", some "withdraw"), "withdraw", "Evening.withdraw", defArgs s_Evening_withdraw, defBody s_Evening_withdraw, defScope s_Evening_withdraw, [], []⟩
abbrev s_Evening_round_now : Stmt := inC (top 25) 5
def d_Evening_round_now : He.DefD := ⟨("Evening", some "round_now"), "round_now", "Evening.round_now", defArgs s_Evening_round_now, defBody s_Evening_round_now, defScope s_Evening_round_now, [], []⟩
abbrev s_Evening_waits : Stmt := inC (top 25) 6
def d_Evening_waits : He.DefD := ⟨("Evening", some "waits"), "waits", "Evening.waits", defArgs s_Evening_waits, defBody s_Evening_waits, defScope s_Evening_waits, [], []⟩
abbrev s_Evening_ahead_of : Stmt := inC (top 25) 7
def d_Evening_ahead_of : He.DefD := ⟨("Evening", some "ahead_of"), "ahead_of", "Evening.ahead_of", defArgs s_Evening_ahead_of, defBody s_Evening_ahead_of, defScope s_Evening_ahead_of, [], []⟩
abbrev s_Evening_within : Stmt := inC (top 25) 8
def d_Evening_within : He.DefD := ⟨("Evening", some "within"), "within", "Evening.within", defArgs s_Evening_within, defBody s_Evening_within, defScope s_Evening_within, [], []⟩
abbrev s_Evening_worst : Stmt := inC (top 25) 9
def d_Evening_worst : He.DefD := ⟨("Evening", some "worst"), "worst", "Evening.worst", defArgs s_Evening_worst, defBody s_Evening_worst, defScope s_Evening_worst, [], []⟩
abbrev s_Evening_tale : Stmt := inC (top 25) 10
def d_Evening_tale : He.DefD := ⟨("Evening", some "tale"), "tale", "Evening.tale", defArgs s_Evening_tale, defBody s_Evening_tale, defScope s_Evening_tale, [], []⟩
abbrev s_is_part : Stmt := top 27
def d_is_part : He.DefD := ⟨("is_part", none), "is_part", "is_part", defArgs s_is_part, defBody s_is_part, defScope s_is_part, [], []⟩
abbrev s_first_wrong : Stmt := top 28
def d_first_wrong : He.DefD := ⟨("first_wrong", none), "first_wrong", "first_wrong", defArgs s_first_wrong, defBody s_first_wrong, defScope s_first_wrong, [], []⟩
abbrev s_Wrong___init__ : Stmt := inC (top 32) 0
def d_Wrong___init__ : He.DefD := ⟨("Wrong", some "__init__"), "__init__", "Wrong.__init__", defArgs s_Wrong___init__, defBody s_Wrong___init__, defScope s_Wrong___init__, [], []⟩
abbrev s_judged : Stmt := top 35
def d_judged : He.DefD := ⟨("judged", none), "judged", "judged", defArgs s_judged, defBody s_judged, defScope s_judged, [], []⟩
abbrev s__law_cell_at : Stmt := top 37
def d__law_cell_at : He.DefD := ⟨("_law_cell_at", none), "_law_cell_at", "_law_cell_at", defArgs s__law_cell_at, defBody s__law_cell_at, defScope s__law_cell_at, [], []⟩
abbrev s__law_draw : Stmt := top 38
def d__law_draw : He.DefD := ⟨("_law_draw", none), "_law_draw", "_law_draw", defArgs s__law_draw, defBody s__law_draw, defScope s__law_draw, [], []⟩
abbrev s__law_value : Stmt := top 39
def d__law_value : He.DefD := ⟨("_law_value", none), "_law_value", "_law_value", defArgs s__law_value, defBody s__law_value, defScope s__law_value, [], []⟩
abbrev s__law_kinds : Stmt := top 40
def d__law_kinds : He.DefD := ⟨("_law_kinds", none), "_law_kinds", "_law_kinds", defArgs s__law_kinds, defBody s__law_kinds, defScope s__law_kinds, [], []⟩
abbrev s__law_due_of : Stmt := top 41
def d__law_due_of : He.DefD := ⟨("_law_due_of", none), "_law_due_of", "_law_due_of", defArgs s__law_due_of, defBody s__law_due_of, defScope s__law_due_of, [], []⟩
abbrev s__law_strange : Stmt := top 42
def d__law_strange : He.DefD := ⟨("_law_strange", none), "_law_strange", "_law_strange", defArgs s__law_strange, defBody s__law_strange, defScope s__law_strange, [], []⟩
abbrev s__law_right : Stmt := top 43
def d__law_right : He.DefD := ⟨("_law_right", none), "_law_right", "_law_right", defArgs s__law_right, defBody s__law_right, defScope s__law_right, [], []⟩
abbrev s_law : Stmt := top 44
def d_law : He.DefD := ⟨("law", none), "law", "law", defArgs s_law, defBody s_law, defScope s_law, [], []⟩
def tf : List He.Defn := [("_law_right", none), ("law", none)]
structure Tx (K : PySem.W.Frag) (mg : Str → Option Value) : Prop where
  g_TurnError : mg "TurnError" = some (.ref (He.ga K "TurnError"))
  x_TurnError : ExK K mg "TurnError"
  g_BadMany : mg "BadMany" = some (.ref (He.ga K "BadMany"))
  x_BadMany : ExK K mg "BadMany"
  g_BadSingers : mg "BadSingers" = some (.ref (He.ga K "BadSingers"))
  x_BadSingers : ExK K mg "BadSingers"
  g_BadSong : mg "BadSong" = some (.ref (He.ga K "BadSong"))
  x_BadSong : ExK K mg "BadSong"
  g_BadTale : mg "BadTale" = some (.ref (He.ga K "BadTale"))
  x_BadTale : ExK K mg "BadTale"
  g_BadSongs : mg "BadSongs" = some (.ref (He.ga K "BadSongs"))
  x_BadSongs : ExK K mg "BadSongs"
  g_BadGap : mg "BadGap" = some (.ref (He.ga K "BadGap"))
  x_BadGap : ExK K mg "BadGap"
  g_BadOrder : mg "BadOrder" = some (.ref (He.ga K "BadOrder"))
  x_BadOrder : ExK K mg "BadOrder"
  g_TooMany : mg "TooMany" = some (.ref (He.ga K "TooMany"))
  x_TooMany : ExK K mg "TooMany"
  c_MOST_SINGERS : ∃ t, mg "MOST_SINGERS" = some (.int 6 t)
  c_MOST_OF_SONG : ∃ t, mg "MOST_OF_SONG" = some (.int 3 t)
  c_MOST_SONGS : ∃ t, mg "MOST_SONGS" = some (.int 24 t)
  g_is_whole : mg "is_whole" = some (.ref (He.ga K "is_whole"))
  g_are_numbers : mg "are_numbers" = some (.ref (He.ga K "are_numbers"))
  g_check_many : mg "check_many" = some (.ref (He.ga K "check_many"))
  g_are_singers : mg "are_singers" = some (.ref (He.ga K "are_singers"))
  g_floor_of : mg "floor_of" = some (.ref (He.ga K "floor_of"))
  g_round_for : mg "round_for" = some (.ref (He.ga K "round_for"))
  g_in_turn : mg "in_turn" = some (.ref (He.ga K "in_turn"))
  g_more_ahead : mg "more_ahead" = some (.ref (He.ga K "more_ahead"))
  g_Evening : mg "Evening" = some (.ref (He.ga K "Evening"))
  cls_Evening : Cls K (He.ga K "Evening")
  mk_Evening : Mk K (He.ga K "Evening") (He.ma K (He.ga K "Evening") "__init__")
  me_Evening_wish : Meth K (He.ga K "Evening") "wish" (He.ma K (He.ga K "Evening") "wish")
  me_Evening_sing : Meth K (He.ga K "Evening") "sing" (He.ma K (He.ga K "Evening") "sing")
  me_Evening_look_at : Meth K (He.ga K "Evening") "look_at" (He.ma K (He.ga K "Evening") "look_at")
  me_Evening_withdraw : Meth K (He.ga K "Evening") "withdraw" (He.ma K (He.ga K "Evening") "withdraw")
  me_Evening_round_now : Meth K (He.ga K "Evening") "round_now" (He.ma K (He.ga K "Evening") "round_now")
  me_Evening_waits : Meth K (He.ga K "Evening") "waits" (He.ma K (He.ga K "Evening") "waits")
  me_Evening_ahead_of : Meth K (He.ga K "Evening") "ahead_of" (He.ma K (He.ga K "Evening") "ahead_of")
  me_Evening_within : Meth K (He.ga K "Evening") "within" (He.ma K (He.ga K "Evening") "within")
  me_Evening_worst : Meth K (He.ga K "Evening") "worst" (He.ma K (He.ga K "Evening") "worst")
  me_Evening_tale : Meth K (He.ga K "Evening") "tale" (He.ma K (He.ga K "Evening") "tale")
  na_Evening_came : NoAttr K (He.ga K "Evening") "came"
  na_Evening_going : NoAttr K (He.ga K "Evening") "going"
  na_Evening_last : NoAttr K (He.ga K "Evening") "last"
  na_Evening_rounds : NoAttr K (He.ga K "Evening") "rounds"
  na_Evening_waiting : NoAttr K (He.ga K "Evening") "waiting"
  g_is_part : mg "is_part" = some (.ref (He.ga K "is_part"))
  g_first_wrong : mg "first_wrong" = some (.ref (He.ga K "first_wrong"))
  g_Answer : mg "Answer" = some (.ref (He.ga K "Answer"))
  cls_Answer : Cls K (He.ga K "Answer")
  g_Right : mg "Right" = some (.ref (He.ga K "Right"))
  cls_Right : Cls K (He.ga K "Right")
  g_Wrong : mg "Wrong" = some (.ref (He.ga K "Wrong"))
  cls_Wrong : Cls K (He.ga K "Wrong")
  mk_Wrong : Mk K (He.ga K "Wrong") (He.ma K (He.ga K "Wrong") "__init__")
  na_Wrong_place : NoAttr K (He.ga K "Wrong") "place"
  c_MOST_PARTS : ∃ t, mg "MOST_PARTS" = some (.int 30 t)
  g_judged : mg "judged" = some (.ref (He.ga K "judged"))
  g__law_cell_at : mg "_law_cell_at" = some (.ref (He.ga K "_law_cell_at"))
  g__law_draw : mg "_law_draw" = some (.ref (He.ga K "_law_draw"))
  g__law_value : mg "_law_value" = some (.ref (He.ga K "_law_value"))
  g__law_kinds : mg "_law_kinds" = some (.ref (He.ga K "_law_kinds"))
  g__law_due_of : mg "_law_due_of" = some (.ref (He.ga K "_law_due_of"))
  g__law_strange : mg "_law_strange" = some (.ref (He.ga K "_law_strange"))
  g__law_right : mg "_law_right" = some (.ref (He.ga K "_law_right"))
  g_law : mg "law" = some (.ref (He.ga K "law"))
  len : mg "len" = none
  isinstance : mg "isinstance" = none
  all : mg "all" = none
  any : mg "any" = none
  range : mg "range" = none
  sorted : mg "sorted" = none
  set : mg "set" = none
  max : mg "max" = none
  min : mg "min" = none
  list : mg "list" = none
  enumerate : mg "enumerate" = none
  zip : mg "zip" = none
  int : mg "int" = none
  bool : mg "bool" = none
  tuple : mg "tuple" = none
  str : mg "str" = none
  dict : mg "dict" = none
  abs : mg "abs" = none
  ValueError : mg "ValueError" = none
  d_is_whole : ∃ fd, FnP K "is_whole" "is_whole" s_is_whole (He.ga K "is_whole") fd
  d_are_numbers : ∃ fd, FnP K "are_numbers" "are_numbers" s_are_numbers (He.ga K "are_numbers") fd
  d_check_many : ∃ fd, FnP K "check_many" "check_many" s_check_many (He.ga K "check_many") fd
  d_are_singers : ∃ fd, FnP K "are_singers" "are_singers" s_are_singers (He.ga K "are_singers") fd
  d_floor_of : ∃ fd, FnP K "floor_of" "floor_of" s_floor_of (He.ga K "floor_of") fd
  d_round_for : ∃ fd, FnP K "round_for" "round_for" s_round_for (He.ga K "round_for") fd
  d_in_turn : ∃ fd, FnP K "in_turn" "in_turn" s_in_turn (He.ga K "in_turn") fd
  d_more_ahead : ∃ fd, FnP K "more_ahead" "more_ahead" s_more_ahead (He.ga K "more_ahead") fd
  d_Evening___init__ : ∃ fd, FnP K "__init__" "Evening.__init__" s_Evening___init__ (He.ma K (He.ga K "Evening") "__init__") fd
  d_Evening_wish : ∃ fd, FnP K "wish" "Evening.wish" s_Evening_wish (He.ma K (He.ga K "Evening") "wish") fd
  d_Evening_sing : ∃ fd, FnP K "sing" "Evening.sing" s_Evening_sing (He.ma K (He.ga K "Evening") "sing") fd
  d_Evening_look_at : ∃ fd, FnP K "look_at" "Evening.look_at" s_Evening_look_at (He.ma K (He.ga K "Evening") "look_at") fd
  d_Evening_withdraw : ∃ fd, FnP K "withdraw" "Evening.withdraw" s_Evening_withdraw (He.ma K (He.ga K "Evening") "withdraw") fd
  d_Evening_round_now : ∃ fd, FnP K "round_now" "Evening.round_now" s_Evening_round_now (He.ma K (He.ga K "Evening") "round_now") fd
  d_Evening_waits : ∃ fd, FnP K "waits" "Evening.waits" s_Evening_waits (He.ma K (He.ga K "Evening") "waits") fd
  d_Evening_ahead_of : ∃ fd, FnP K "ahead_of" "Evening.ahead_of" s_Evening_ahead_of (He.ma K (He.ga K "Evening") "ahead_of") fd
  d_Evening_within : ∃ fd, FnP K "within" "Evening.within" s_Evening_within (He.ma K (He.ga K "Evening") "within") fd
  d_Evening_worst : ∃ fd, FnP K "worst" "Evening.worst" s_Evening_worst (He.ma K (He.ga K "Evening") "worst") fd
  d_Evening_tale : ∃ fd, FnP K "tale" "Evening.tale" s_Evening_tale (He.ma K (He.ga K "Evening") "tale") fd
  d_is_part : ∃ fd, FnP K "is_part" "is_part" s_is_part (He.ga K "is_part") fd
  d_first_wrong : ∃ fd, FnP K "first_wrong" "first_wrong" s_first_wrong (He.ga K "first_wrong") fd
  d_Wrong___init__ : ∃ fd, FnP K "__init__" "Wrong.__init__" s_Wrong___init__ (He.ma K (He.ga K "Wrong") "__init__") fd
  d_judged : ∃ fd, FnP K "judged" "judged" s_judged (He.ga K "judged") fd
  d__law_cell_at : ∃ fd, FnP K "_law_cell_at" "_law_cell_at" s__law_cell_at (He.ga K "_law_cell_at") fd
  d__law_draw : ∃ fd, FnP K "_law_draw" "_law_draw" s__law_draw (He.ga K "_law_draw") fd
  d__law_value : ∃ fd, FnP K "_law_value" "_law_value" s__law_value (He.ga K "_law_value") fd
  d__law_kinds : ∃ fd, FnP K "_law_kinds" "_law_kinds" s__law_kinds (He.ga K "_law_kinds") fd
  d__law_due_of : ∃ fd, FnP K "_law_due_of" "_law_due_of" s__law_due_of (He.ga K "_law_due_of") fd
  d__law_strange : ∃ fd, FnP K "_law_strange" "_law_strange" s__law_strange (He.ga K "_law_strange") fd
  d__law_right : ∃ fd, FnP K "_law_right" "_law_right" s__law_right (He.ga K "_law_right") fd
  d_law : ∃ fd, FnP K "law" "law" s_law (He.ga K "law") fd
  mkb_Answer : MkB K (He.ga K "Answer")
  mkb_Right : MkB K (He.ga K "Right")
  km : ∀ i, i < 8 → KM K i
  tne : (tf.map fun p => (He.cT K p).2).Nodup
end Song

/-! ### Ev1: small defs -/
namespace Song
open PySem L2
section
variable {P : Program} {w : World} {K : PySem.W.Frag} {mg : Str → Option Value} {base : Heap}
theorem sc_is_whole : FnScope ["thing"] ["thing"] (defScope s_is_whole) := ⟨rfl, rfl, rfl, by decide +kernel, rfl, by decide +kernel, by decide +kernel⟩
def sp_is_whole (K : PySem.W.Frag) : Sp := fun vs H Q _ => ∃ (v : V) (t : String), vs = [v] ∧ Kd K H v t ∧ Q (.bl (isInt v)) H
theorem fn_is_whole (T : Tx K mg) : Fn P w K mg base "is_whole" 1 (sp_is_whole K) := by
  obtain ⟨fd, F⟩ := T.d_is_whole
  refine ⟨_, fd, _, F.ok (CX := CX0) sc_is_whole (fun vs H Q E h => ?_) (fun cdv A outer s H vs Q E hr h => ?_), T.g_is_whole, F.kp, F.bindsN fun _ _ _ _ _ _ us hl => match us, hl with | [_], _ => rfl⟩
  · obtain ⟨v, t, rfl, _⟩ := h; rfl
  · obtain ⟨v, t, rfl, ht, q⟩ := h
    refine ⟨_, PSs.nox (pss_one (ps_ret (pe_and (pe_callB (show CallR _ _ (rIsi K) from call_isi) (by rfl) T.isinstance (by decide +kernel) (pa_cons (pv 0) (pa_cons (pe_gt (n := "int") T.int (by rfl) (by decide +kernel)) pa_nil))) (pe_one (pe_not (pe_callB (show CallR _ _ (rIsi K) from call_isi) (by rfl) T.isinstance (by decide +kernel) (pa_cons (pv 0) (pa_cons (pe_gt (n := "bool") T.bool (by rfl) (by decide +kernel)) pa_nil)))))))), ?_⟩
    obtain ⟨k1, k2, _⟩ := kit_kd ht
    refine ⟨_, rfl, _, _, _, _, _, rfl, .ty _, ht, k1, _, rfl, ?_⟩
    rw [kd_isInt ht] at q
    by_cases e : t = "int"
    · subst e
      exact iteT ⟨_, rfl, _, _, _, _, _, rfl, .ty _, ht, k2, _, rfl, q⟩
    · by_cases e2 : t = "bool"
      · subst e2
        exact iteT ⟨_, rfl, _, _, _, _, _, rfl, .ty _, ht, k2, _, rfl, q⟩
      · have f1 : (t == "int") = false := beq_eq_false_iff_ne.mpr e
        have f2 : (t == "bool") = false := beq_eq_false_iff_ne.mpr e2
        rw [f1] at q
        rw [f1, f2]
        exact iteF q
theorem sc_are_numbers : FnScope ["thing", "one"] ["thing"] (defScope s_are_numbers) := ⟨rfl, rfl, rfl, by decide +kernel, rfl, by decide +kernel, by decide +kernel⟩
def sp_are_numbers (K : PySem.W.Frag) : Sp := fun vs H Q _ => ∃ v : V, vs = [v] ∧
  ((∃ (a : Addr) (xs : List V), v = .ref a ∧ SqL K H a xs ∧ xs.length ≤ 1000 ∧ (∀ x ∈ xs, ∃ t, Kd K H x t) ∧ ∀ H', Same H H' → Q (.bl (xs.all isInt)) H') ∨ (∃ t, Kd K H v t ∧ t ≠ "list" ∧ Q (.bl false) H))
theorem kd_mono {K : PySem.W.Frag} {H H' : Hp} {v : V} {t : String} (s : Same H H') (h : Kd K H v t) : Kd K H' v t := by
  generalize e : Value.type t = u at h
  cases h with
  | base b =>
    cases b with
    | non => cases e; exact .base .non
    | bl x => cases e; exact .base (.bl x)
    | int x => cases e; exact .base (.int x)
    | str x => cases e; exact .base (.str x)
    | flt x => cases e; exact .base (.flt x)
    | lst h => cases e; exact .base (.lst (s _ _ h))
    | frz h => cases e; exact .base (.frz (s _ _ h))
    | tup h => cases e; exact .base (.tup (s _ _ h))
    | dK h => cases e; exact .base (.dK (s _ _ h))
    | dT h => cases e; exact .base (.dT (s _ _ h))
  | byt b => cases e; exact .byt b
  | set h => cases e; exact .set (s _ _ h)
  | kList h c => cases e; exact .kList h c
  | kTuple h c => cases e; exact .kTuple h c
  | kDict h c => cases e; exact .kDict h c
  | fTuple h => cases e; exact .fTuple (s _ _ h)
  | fDict h => cases e; exact .fDict (s _ _ h)
theorem bls_all (xs : List V) (f : V → Bool) : xs.map (fun x => V.bl (f x)) = (xs.map f).map V.bl := by rw [List.map_map]; rfl
theorem all_id (xs : List V) (f : V → Bool) : (xs.map f).all id = xs.all f := by rw [List.all_map]; rfl
theorem fn_are_numbers (T : Tx K mg) : Fn P w K mg base "are_numbers" 2 (sp_are_numbers K) := by
  obtain ⟨fd, F⟩ := T.d_are_numbers
  refine ⟨_, fd, _, F.ok (CX := CX0) sc_are_numbers (fun vs H Q E h => ?_) (fun cdv A outer s H vs Q E hr h => ?_), T.g_are_numbers, F.kp, F.bindsN fun _ _ _ _ _ _ us hl => match us, hl with | [_], _ => rfl⟩
  · obtain ⟨v, rfl, _⟩ := h; rfl
  · obtain ⟨v, rfl, h⟩ := h
    refine ⟨_, PSs.nox (pss_one (ps_ret (pe_and (pe_callB (show CallR _ _ (rIsi K) from call_isi) (by rfl) T.isinstance (by decide +kernel) (pa_cons (pv 0) (pa_cons (pe_gt (n := "list") T.list (by rfl) (by decide +kernel)) pa_nil))) (pe_one (pe_callB (show CallR _ _ (rAll K) from cr_all (by rfl)) (by rfl) T.all (by decide +kernel) (pa_cons (pe_lc (own := [("one", 1)]) (g := (gName 1)) (tt := tYes) (by rfl) sc_are_numbers.nd (show PI _ _ _ (iList K _) from pi_list (pv 0)) (blkOk_by (by kernel_rfl)) (fun _ _ _ _ _ => (pg_name (i := 1) sc_are_numbers.nd rfl (by first | exact Or.inl rfl | exact Or.inr rfl))) (fun _ _ _ _ _ => pts_nil) (fun _ _ _ _ _ => (pe_fn (fn_is_whole T) (hr.mono (by first | decide | omega)) (by rfl) (pa_cons (pv 1) pa_nil)))) pa_nil)))))), ?_⟩
    rcases h with ⟨a, xs, rfl, hs, hl, ht, q⟩ | ⟨t, ht, hn, q⟩
    · refine ⟨_, rfl, _, _, _, _, _, rfl, .ty _, kd_list hs, (kit_kd (kd_list hs)).2.2.1, _, rfl, iteT ?_⟩
      refine ⟨_, rfl, a, rfl, ⟨_, hs⟩, fun D nD => lc_map (fun x => .bl (isInt x)) hs nD hl ?_ ?_ gname_mono⟩
      · intro i x H1 hx s1 k hk
        refine ⟨rfl, _, rfl, ?_⟩
        obtain ⟨t, ht⟩ := ht x (List.mem_of_getElem? hx)
        exact ⟨x, t, rfl, kd_mono s1 ht, hk _ (Same.refl _)⟩
      · intro H1 s1 hD
        refine ⟨_, xs.map isInt, rfl, SqL.of (by rw [← bls_all]; exact hD), ?_⟩
        rw [all_id]
        exact q _ s1
    · refine ⟨_, rfl, _, _, _, _, _, rfl, .ty _, ht, (kit_kd ht).2.2.1, _, rfl, ?_⟩
      rw [show (t == "list") = false from beq_eq_false_iff_ne.mpr hn]
      exact iteF q
end
end Song

/-! ### Ev2: counts, singers, rounds, turns -/
namespace Song
open PySem L2
/-! #### plain functions -/
/-- rising, each below the next -/
def rising : List Int → Bool
  | [] => true
  | [_] => true
  | a :: b :: r => decide (a < b) && rising (b :: r)
def areSingers (ns : List Int) (many : Int) : Bool := decide (1 ≤ ns.length ∧ ns.length ≤ 3) && ns.all (fun n => decide (0 ≤ n ∧ n < many)) && rising ns
def zipLt (ns : List Int) : List Bool := (ns.zip (ns.drop 1)).map fun p => decide (p.1 < p.2)
theorem zipLt_all : ∀ ns : List Int, (zipLt ns).all id = rising ns
  | [] => rfl
  | [_] => rfl
  | a :: b :: r => by
    have ih := zipLt_all (b :: r)
    unfold zipLt at ih ⊢
    unfold rising
    simp only [List.drop_succ_cons, List.drop_zero, List.zip_cons_cons, List.map_cons, List.all_cons, id] at ih ⊢
    rw [ih]
/-- 0 <= x < many -/
def inR (many : Int) : V → Bool
  | .int n => decide (0 ≤ n) && decide (n < many)
  | _ => false
theorem inR_all (many : Int) (ns : List Int) : (ns.map V.int).all (inR many) = ns.all fun n => decide (0 ≤ n ∧ n < many) := by
  rw [List.all_map]
  congr 1
  funext n
  show (decide (0 ≤ n) && decide (n < many)) = _
  rw [Bool.decide_and]
theorem int_at {ns : List Int} {i : Nat} {x : V} (h : (ns.map V.int)[i]? = some x) : ∃ n, x = .int n ∧ ns[i]? = some n := by
  rw [List.getElem?_map] at h
  cases e : ns[i]? with
  | none => rw [e] at h; cases h
  | some n => rw [e] at h; exact ⟨n, (Option.some.inj h).symm, rfl⟩
theorem cut1 (ns : List Int) : cutV (ns.map V.int) (some 1) none = (ns.drop 1).map V.int := by
  unfold cutV
  cases ns with
  | nil => rfl
  | cons a r =>
    have e1 : HT.sIx ((a :: r).map V.int).length 0 (some 1) = 1 := by
      show HT.sIx _ 0 (some 1) = 1
      simp [HT.sIx]
    have e2 : HT.sIx ((a :: r).map V.int).length ((a :: r).map V.int).length none = ((a :: r).map V.int).length := rfl
    rw [e1, e2, List.take_of_length_le (by simp), ← List.map_drop]
theorem zip_vals (ns : List Int) : (List.range (min (ns.map V.int).length ((ns.drop 1).map V.int).length)).filterMap (fun i => ((ns.zip (ns.drop 1))[i]?).map fun p => V.bl (decide (p.1 < p.2))) = (zipLt ns).map V.bl := by
  have e : min (ns.map V.int).length ((ns.drop 1).map V.int).length = (ns.zip (ns.drop 1)).length := by simp
  rw [e, range_map]
  unfold zipLt
  rw [List.map_map]
  rfl
section
variable {P : Program} {w : World} {K : PySem.W.Frag} {mg : Str → Option Value} {base : Heap}
theorem sc_check_many : FnScope ["many"] ["many"] (defScope s_check_many) := ⟨rfl, rfl, rfl, by decide +kernel, rfl, by decide +kernel, by decide +kernel⟩
def sp_check_many : Sp := fun vs H Q _ => ∃ n : Int, vs = [.int n] ∧ 1 ≤ n ∧ n ≤ 6 ∧ Q .non H
theorem fn_check_many (T : Tx K mg) : Fn P w K mg base "check_many" 2 sp_check_many := by
  obtain ⟨fd, F⟩ := T.d_check_many
  refine ⟨_, fd, _, F.ok (CX := CX0) sc_check_many (fun vs H Q E h => ?_) (fun cdv A outer s H vs Q E hr h => ?_), T.g_check_many, F.kp, F.bindsN fun _ _ _ _ _ _ us hl => match us, hl with | [_], _ => rfl⟩
  · obtain ⟨n, rfl, _⟩ := h; rfl
  · obtain ⟨n, rfl, h1, h6, q⟩ := h
    refine ⟨_, PSs.nox (pss_one (ps_if (PW.pt (pw_or (pt_not (pt_val (pe_fn (fn_is_whole T) (hr.mono (by first | decide | omega)) (by rfl) (pa_cons (pv 0) pa_nil)))) (pw_or1 (pt_not (pt_chain op_le op_le pe_int (pv 0) (pe_gi T.c_MOST_SINGERS (by rfl))))))) (pss_one ps_never) pss_nil)), ?_⟩
    refine ⟨_, rfl, _, _, rfl, kd_int n, _, rfl, iteF ?_⟩
    refine ⟨_, rfl, _, _, rfl, rfl, _, rfl, ?_⟩
    rw [decide_eq_true h1]
    refine iteT ⟨_, _, rfl, rfl, _, rfl, ?_⟩
    rw [decide_eq_true h6]
    exact iteF q
theorem sc_are_singers : FnScope ["thing", "many", "one", "other"] ["thing", "many"] (defScope s_are_singers) := ⟨rfl, rfl, rfl, by decide +kernel, rfl, by decide +kernel, by decide +kernel⟩
def sp_are_singers (K : PySem.W.Frag) : Sp := fun vs H Q _ => ∃ (a : Addr) (ns : List Int) (many : Int), vs = [.ref a, .int many] ∧ SqL K H a (ns.map V.int) ∧ ns.length ≤ 1000 ∧ ∀ H', Same H H' → Q (.bl (areSingers ns many)) H'
theorem fn_are_singers (T : Tx K mg) : Fn P w K mg base "are_singers" 3 (sp_are_singers K) := by
  obtain ⟨fd, F⟩ := T.d_are_singers
  refine ⟨_, fd, _, F.ok (CX := CX0) sc_are_singers (fun vs H Q E h => ?_) (fun cdv A outer s H vs Q E hr h => ?_), T.g_are_singers, F.kp, F.bindsN fun _ _ _ _ _ _ us hl => match us, hl with | [_, _], _ => rfl⟩
  · obtain ⟨a, ns, many, rfl, _⟩ := h; rfl
  · obtain ⟨a, ns, many, rfl, hs, hl, q⟩ := h
    refine ⟨_, PSs.nox (pss_cons (ps_if (PW.pt (pw_or (pt_not (pt_val (pe_fn (fn_are_numbers T) (hr.mono (by first | decide | omega)) (by rfl) (pa_cons (pv 0) pa_nil)))) (pw_or1 (pt_not (pt_chain op_le op_le pe_int (pe_callB (show CallR _ _ (rLenQ K) from call_len_seq) (by rfl) T.len (by decide +kernel) (pa_cons (pv 0) pa_nil)) (pe_gi T.c_MOST_OF_SONG (by rfl))))))) (pss_one (ps_ret pe_bl)) pss_nil)
      (pss_cons (ps_if (pt_not (pt_val (pe_callB (show CallR _ _ (rAll K) from cr_all (by rfl)) (by rfl) T.all (by decide +kernel) (pa_cons (pe_lc (own := [("one", 2)]) (g := (gName 2)) (tt := tYes) (by rfl) sc_are_singers.nd (show PI _ _ _ (iList K _) from pi_list (pv 0)) (blkOk_by (by kernel_rfl)) (fun _ _ _ _ _ => (pg_name (i := 2) sc_are_singers.nd rfl (by first | exact Or.inl rfl | exact Or.inr rfl))) (fun _ _ _ _ _ => pts_nil) (fun _ _ _ _ _ => (pe_chain op_le op_lt pe_int (pv 2) (pv 1)))) pa_nil)))) (pss_one (ps_ret pe_bl)) pss_nil)
      (pss_one (ps_ret (pe_callB (show CallR _ _ (rAll K) from cr_all (by rfl)) (by rfl) T.all (by decide +kernel) (pa_cons (pe_lc (own := [("one", 2), ("other", 3)]) (g := (gTup K 2 (gCons (gName 2) (gCons (gName 3) gNil)))) (tt := tYes) (by rfl) sc_are_singers.nd (show PI _ _ _ (iZip K _) from pi_zip (by rfl) T.zip (pa_cons (pv 0) (pa_cons (pe_slice (show SlR _ (rSlL K) from sl_list) (pv 0) (po_some pe_int) po_none) pa_nil))) (blkOk_by (by kernel_rfl)) (fun _ _ _ _ _ => (show PG _ _ (gTup K _ _) from pg_tup rfl (pgs_cons (pg_name (i := 2) sc_are_singers.nd rfl (by first | exact Or.inl rfl | exact Or.inr rfl)) (pgs_cons (pg_name (i := 3) sc_are_singers.nd rfl (by first | exact Or.inl rfl | exact Or.inr rfl)) pgs_nil)))) (fun _ _ _ _ _ => pts_nil) (fun _ _ _ _ _ => (pe_cmpR op_lt (pv 2) (pv 3) (nomark _)))) pa_nil)))))), ?_⟩
    have hlV : (ns.map V.int).length ≤ 1000 := by rw [List.length_map]; exact hl
    have allI : (ns.map V.int).all isInt = true := by
      rw [List.all_map, List.all_eq_true]; intro x _; rfl
    refine ⟨_, rfl, _, rfl, .inl ⟨a, _, rfl, hs, hlV, fun x hx => ?_, fun H1 s1 => ?_⟩⟩
    · obtain ⟨i, _, rfl⟩ := List.mem_map.mp hx
      exact ⟨_, kd_int i⟩
    rw [allI]
    refine ⟨_, rfl, iteF ?_⟩
    refine ⟨_, rfl, a, _, rfl, .inl (s1.seq hs), _, _, rfl, rfl, _, rfl, ?_⟩
    rw [List.length_map]
    by_cases h1 : (1 : Int) ≤ (ns.length : Int)
    case neg =>
      have e0 : areSingers ns many = false := by
        unfold areSingers
        rw [decide_eq_false (by omega)]; rfl
      rw [decide_eq_false h1]
      refine iteF ⟨_, rfl, iteT ?_⟩
      rw [e0] at q
      exact q _ s1
    rw [decide_eq_true h1]
    refine iteT ⟨_, _, rfl, rfl, _, rfl, ?_⟩
    by_cases h3 : (ns.length : Int) ≤ 3
    case neg =>
      have e0 : areSingers ns many = false := by
        unfold areSingers
        rw [decide_eq_false (by omega)]; rfl
      rw [decide_eq_false h3]
      rw [e0] at q
      exact iteT (q _ s1)
    rw [decide_eq_true h3]
    refine iteF ?_
    refine ⟨_, rfl, a, rfl, ⟨_, s1.seq hs⟩, fun D nD => lc_map (fun x => .bl (inR many x)) (s1.seq hs) nD hlV ?_ ?_ gname_mono⟩
    · intro i x H2 hx s2 k hk
      obtain ⟨n, rfl, _⟩ := int_at hx
      refine ⟨rfl, _, rfl, _, _, rfl, rfl, _, rfl, ?_⟩
      have hk2 : k (.bl (decide (0 ≤ n) && decide (n < many))) H2 := hk H2 (Same.refl _)
      by_cases h0 : (0 : Int) ≤ n
      · rw [decide_eq_true h0] at hk2 ⊢
        exact iteT ⟨_, rfl, _, _, rfl, rfl, hk2⟩
      · rw [decide_eq_false h0] at hk2 ⊢
        exact iteF hk2
    intro H2 s2 hD
    refine ⟨_, (ns.map V.int).map (inR many), rfl, SqL.of (by rw [← bls_all]; exact hD), _, rfl, ?_⟩
    rw [all_id, inR_all]
    by_cases hA : (ns.all fun n => decide (0 ≤ n ∧ n < many)) = true
    case neg =>
      have e0 : areSingers ns many = false := by
        unfold areSingers
        rw [Bool.eq_false_iff.mpr hA, Bool.and_false]; rfl
      rw [Bool.eq_false_iff.mpr hA]
      rw [e0] at q
      exact iteT (q _ (s1.trans s2))
    rw [hA]
    refine iteF ?_
    have hs2 := (s1.trans s2).seq hs
    refine ⟨_, rfl, _, rfl, _, rfl, a, _, rfl, hs2, fun p np => ?_⟩
    refine to_new np fun H3 s3 hp => ?_
    rw [cut1] at hp
    refine ⟨a, p, _, _, rfl, s3.seq hs2, SqL.of hp, fun D nD => lc_pure (walk_zip rfl) sqL2_mono ⟨s3.seq hs2, SqL.of hp⟩ (fun i => ((ns.zip (ns.drop 1))[i]?).map fun p => V.bl (decide (p.1 < p.2))) nD (by simp; omega) ?_ ?_⟩
    · rintro i v H4 H5 hi s4 ⟨t, x, y, rfl, nt, rfl, hx, hy⟩ k kn hk _
      obtain ⟨n, rfl, hn⟩ := int_at hx
      obtain ⟨m, rfl, hm⟩ := int_at hy
      refine ⟨t, _, rfl, SqT.of upd_same, rfl, _, _, rfl, _, _, rfl, rfl, rfl, yes_of ?_⟩
      refine ⟨_, rfl, _, rfl, _, _, rfl, rfl, ?_⟩
      refine hk _ _ ?_ (Same.new nt)
      have e : (ns.zip (ns.drop 1))[i]? = some (n, m) := by rw [List.getElem?_zip_eq_some]; exact ⟨hn, hm⟩
      rw [e]
      rfl
    · intro H4 s4 hD4
      rw [zip_vals] at hD4
      refine ⟨_, zipLt ns, rfl, SqL.of hD4, ?_⟩
      rw [zipLt_all]
      have e : areSingers ns many = rising ns := by
        unfold areSingers
        rw [hA, decide_eq_true (by omega)]; rfl
      rw [← e]
      exact q _ (((s1.trans s2).trans s3).trans s4)
end
end Song

/-! ### Ut: small things used everywhere -/
namespace Song
open PySem L2
theorem at_int {ls : List Int} {s : Int} (h0 : 0 ≤ s) (h1 : s < ls.length) : atI (ls.map V.int) s = some (.int (ls.getD s.toNat 0)) := by
  obtain ⟨j, rfl⟩ := Int.eq_ofNat_of_zero_le h0
  have hj : j < ls.length := by omega
  refine atI_nat ?_
  rw [List.getElem?_map, List.getElem?_eq_getElem hj]
  simp [List.getD_eq_getElem?_getD, List.getElem?_eq_getElem hj]
theorem max_ite (i j : Int) : (if j > i then j else i) = max i j := by
  split <;> omega
/-- all of ss are places of a list so long -/
def InB (n : Nat) (ss : List Int) : Prop := ∀ s ∈ ss, 0 ≤ s ∧ s < (n : Int)
theorem off_put {S : List Addr} {H : Hp} {a : Addr} {o : HO} (h : a ∈ S) : off S (upd H a o) = off S H := by
  funext b
  by_cases q : b ∈ S
  · rw [off_in q, off_in q]
  · rw [off_out q, off_out q, upd_ne (fun z => q (by rw [z]; exact h))]
theorem new_out {S : List Addr} {H : Hp} {t : Addr} (dom : ∀ a ∈ S, ∃ o, H a = some o) (nt : H t = none) : t ∉ S := fun q => by
  obtain ⟨o, h⟩ := dom t q
  rw [nt] at h; cases h
theorem dom_put {S : List Addr} {H : Hp} {b : Addr} {o : HO} (dom : ∀ a ∈ S, ∃ o, H a = some o) : ∀ a ∈ S, ∃ o', upd H b o a = some o' := fun a ha => by
  by_cases e : a = b
  · rw [e]; exact ⟨o, upd_same⟩
  · rw [upd_ne e]; exact dom a ha
theorem dom_same {S : List Addr} {H H' : Hp} (s : Same H H') (dom : ∀ a ∈ S, ∃ o, H a = some o) : ∀ a ∈ S, ∃ o', H' a = some o' := fun a ha => by
  obtain ⟨o, h⟩ := dom a ha
  exact ⟨o, s _ _ h⟩
theorem rep_flat (n : Nat) : (List.replicate n [V.int 0]).flatten = List.replicate n (V.int 0) := by
  induction n with
  | zero => rfl
  | succ n ih => rw [List.replicate_succ, List.flatten_cons, ih]; rfl
theorem rep_ints (n : Nat) : (List.replicate n (V.int 0)) = (List.replicate n (0 : Int)).map V.int := by rw [List.map_replicate]
theorem Fra.le {S S' : List Addr} {H H' : Hp} (f : Fra S' H H') (sub : ∀ a ∈ S', a ∈ S) : Same (Song.off S H) H' := fun b o h => by
  obtain ⟨q, h⟩ := off_some h
  exact f b o (fun z => q (sub b z)) h
theorem ixN_of {n : Nat} {s : Int} (h0 : 0 ≤ s) (h1 : s < (n : Int)) : ixN n s = some s.toNat := by
  unfold ixN
  rw [if_pos h0, if_pos h1]
theorem areS_len {ss : List Int} {m : Int} (h : areSingers ss m = true) : 1 ≤ ss.length ∧ ss.length ≤ 3 ∧ (∀ s ∈ ss, 0 ≤ s ∧ s < m) ∧ rising ss = true := by
  unfold areSingers at h
  simp only [Bool.and_eq_true, decide_eq_true_eq, List.all_eq_true] at h
  exact ⟨h.1.1.1, h.1.1.2, h.1.2, h.2⟩
theorem snoc_ints (ns : List Int) (n : Int) : (ns ++ [n]).map V.int = ns.map V.int ++ [V.int n] := by rw [List.map_append]; rfl
theorem lt_line {n : Nat} (h : n ≤ 1000) : n < sizeLine := Nat.lt_of_le_of_lt h (by decide)
theorem nodup_len : ∀ {n : Nat} {ws : List Int}, InB n ws → ws.Nodup → ws.length ≤ n
  | 0, [], _, _ => Nat.le_refl _
  | 0, w :: r, h, _ => by have := h w (by simp); omega
  | n + 1, ws, h, nd => by
    have h1 : InB n (ws.erase (n : Int)) := fun s hs => by
      have h2 := h s (List.mem_of_mem_erase hs)
      have h3 : s ≠ (n : Int) := fun e => by
        rw [e] at hs
        exact (nd.not_mem_erase) hs
      omega
    have h2 := nodup_len h1 (nd.erase _)
    have h3 := List.length_erase (a := (n : Int)) (l := ws)
    split at h3 <;> omega
def optV : Option Int → V
  | none => .non
  | some n => .int n
def optD : Option Int → PyData
  | none => .none
  | some n => .int n
def Shp (k : Nat) (d : PyData) : Prop := d.canLay0 = true ∧ d.depth ≤ k
theorem shp_all {k : Nat} : ∀ {xs : List PyData}, (∀ x ∈ xs, Shp k x) → PyData.canLayAll0 xs = true ∧ PyData.depthAll xs ≤ k
  | [], _ => ⟨rfl, Nat.zero_le _⟩
  | x :: xs, h => by
    obtain ⟨h1, h2⟩ := h x (by simp)
    obtain ⟨h3, h4⟩ := shp_all (xs := xs) fun y hy => h y (by simp [hy])
    refine ⟨by rw [PyData.canLayAll0, h1, h3]; rfl, ?_⟩
    rw [PyData.depthAll]
    exact Nat.max_le.mpr ⟨h2, h4⟩
theorem shp_list {k : Nat} {xs : List PyData} (h : ∀ x ∈ xs, Shp k x) : Shp (k + 1) (.list xs) := by
  obtain ⟨h1, h2⟩ := shp_all h
  refine ⟨by rw [PyData.canLay0]; exact h1, ?_⟩
  rw [PyData.depth]
  omega
theorem shp_tuple {k : Nat} {xs : List PyData} (h : ∀ x ∈ xs, Shp k x) : Shp (k + 1) (.tuple xs) := by
  obtain ⟨h1, h2⟩ := shp_all h
  refine ⟨by rw [PyData.canLay0]; exact h1, ?_⟩
  rw [PyData.depth]
  omega
theorem shp_int {k : Nat} (i : Int) : Shp (k + 1) (.int i) := ⟨by rw [PyData.canLay0], by rw [PyData.depth] <;> omega⟩
theorem Shp.mono {k m : Nat} {d : PyData} (h : Shp k d) (hk : k ≤ m) : Shp m d := ⟨h.1, Nat.le_trans h.2 hk⟩
theorem Shp.ok {k : Nat} {d : PyData} (h : Shp k d) (hk : k ≤ 64 := by decide) : SeqAt.shaped d = true := by
  unfold SeqAt.shaped
  rw [h.1, decide_eq_true (Nat.le_trans h.2 hk)]; rfl
theorem shp_ints (ns : List Int) : Shp 2 (.list (ns.map PyData.int)) := shp_list fun x hx => by
  obtain ⟨i, _, rfl⟩ := List.mem_map.mp hx
  exact shp_int i
theorem shp_optD (o : Option Int) : Shp 1 (optD o) := by
  cases o with
  | none => exact ⟨by unfold optD; rw [PyData.canLay0], by unfold optD; rw [PyData.depth] <;> omega⟩
  | some n => exact shp_int n
theorem shp_word {x : Str} (h : PyData.canLay0 (.str x) = true) {k : Nat} : Shp (k + 1) (.str x) := ⟨h, by rw [PyData.depth] <;> omega⟩
theorem eqv_self {k : Nat} {d : PyData} (h : Shp k d) : PyData.eqv d d = true := PySem.SeqAt.eqv_refl d h.1
theorem eqv_nil (ns : List Int) : PyData.eqv (.list (ns.map PyData.int)) (.list []) = ns.isEmpty := by
  cases ns with
  | nil => rfl
  | cons a r => rfl
theorem shp_nil : Shp 1 (.list []) := shp_list (k := 0) fun x hx => by cases hx
theorem inV_ints (n : Int) (ns : List Int) : inV (.int n) (ns.map V.int) = decide (n ∈ ns) := by
  unfold inV
  rw [List.any_map]
  induction ns with
  | nil => rfl
  | cons a r ih =>
    rw [List.any_cons, ih]
    show ((a == n) || _) = _
    by_cases e : a = n
    · subst e; simp
    · have : n ≠ a := fun z => e z.symm
      simp [e, this]
theorem flat_ints (ns : List Int) : (ns.map V.int).all flatV = true := by
  rw [List.all_map, List.all_eq_true]; intro x _; rfl
theorem dp_opt {K : PySem.W.Frag} {H : Hp} (o : Option Int) : Dp K H (optV o) (optD o) := by
  cases o with
  | none => exact .non
  | some n => exact .int n
theorem cut63 {ns : List Int} (h : ns.length ≤ 63) : cutV (ns.map V.int) none (some 63) = ns.map V.int := by
  unfold cutV
  have e1 : HT.sIx (ns.map V.int).length 0 none = 0 := rfl
  have e2 : HT.sIx (ns.map V.int).length (ns.map V.int).length (some 63) = (ns.map V.int).length := by
    simp only [HT.sIx]
    rw [if_neg (by decide), List.length_map]
    have : (63 : Int).toNat = 63 := rfl
    omega
  rw [e1, e2]
  exact List.take_of_length_le (by simp)
/-- the making of an evening, seen from ahead of it -/
theorem made_same {H H' : Hp} {x dx : Addr} {o o' : HO} (nx : H x = none) (ndx : H dx = none) (f : Fra [x] (upd (upd H dx o) x o') H') : Same H H' := fun b o2 e => by
  have n1 : b ≠ x := ne_of_none e nx
  have n2 : b ≠ dx := ne_of_none e ndx
  refine f.one n1 ?_
  rw [upd_ne n1, upd_ne n2]
  exact e
theorem made_free {H : Hp} {x dx a : Addr} {o o' : HO} (h : upd (upd H dx o) x o' a = none) : H a = none := by
  have n1 : a ≠ x := fun e => by rw [e, upd_same] at h; cases h
  rw [upd_ne n1] at h
  have n2 : a ≠ dx := fun e => by rw [e, upd_same] at h; cases h
  rw [upd_ne n2] at h
  exact h
theorem sqT_mono {K : PySem.W.Frag} {a : Addr} {xs : List V} (H H' : Hp) (s : Same H H') (h : SqT K H a xs) : SqT K H' a xs := Same.sqT s h
/-- over a tuple -/
theorem lc_mapT {g : TG} {te : TE} {vs : List Nat} {σ : L2.St} {H1 : Hp} {D : Addr} {Qd : Hp → Prop} {K : PySem.W.Frag} {a : Addr} {xs : List V} (f : V → V) (hSq : SqT K H1 a xs) (nD : H1 D = none) (hlen : xs.length ≤ 1000)
    (hs : ∀ (i : Nat) x H, xs[i]? = some x → Same H1 H → ∀ k : V → Hp → Prop, (∀ H', Same H H' → k (f x) H') → g x (wipe σ vs) H fun σ2 H2 => wipe σ2 vs = wipe σ vs ∧ te σ2 H2 k)
    (hd : ∀ H, Same H1 H → H D = some (.lst (xs.map f)) → Qd H)
    (hg : ∀ x σ H Q Q', (∀ σ2 H2, Q σ2 H2 → Q' σ2 H2) → g x σ H Q → g x σ H Q') : LcAsks (Itt K a) g tYes te vs σ H1 D Qd := by
  refine lc_pure walk_tup sqT_mono hSq (fun i => xs[i]?.map f) nD hlen (fun i x H H' hi s hY k kn hk _ => ?_) (fun H s hD => hd H s (by rw [← range_map]; exact hD))
  obtain ⟨rfl, hx⟩ := hY
  refine hg _ _ _ _ _ (fun σ2 H2 h => ?_) (hs i x H' hx s k fun H2 s2 => hk _ H2 (by rw [hx]; rfl) s2)
  exact ⟨h.1, yes_of h.2⟩
theorem eqv_ints (ns : List Int) : PyData.eqv (.list (ns.map PyData.int)) (.list (ns.map PyData.int)) = true := eqv_self (shp_ints ns)
theorem eqvI_all : ∀ xs ys : List Int, PyData.eqvAll (xs.map PyData.int) (ys.map PyData.int) = decide (xs = ys)
  | [], [] => rfl
  | [], _ :: _ => rfl
  | _ :: _, [] => rfl
  | a :: r, b :: t => by
    show ((a == b) && PyData.eqvAll (r.map PyData.int) (t.map PyData.int)) = _
    rw [eqvI_all r t]
    by_cases h : a = b
    · subst h
      rw [beq_self_eq_true, Bool.true_and]
      exact decide_eq_decide.mpr ⟨fun e => by rw [e], fun e => by injection e⟩
    · rw [beq_eq_false_iff_ne.mpr h, Bool.false_and, decide_eq_false (fun e => h (by injection e))]
theorem eqv_intsD (xs ys : List Int) : PyData.eqv (.list (xs.map PyData.int)) (.list (ys.map PyData.int)) = decide (xs = ys) := eqvI_all xs ys
theorem rising_of : ∀ {ns : List Int}, ns.Pairwise (· < ·) → rising ns = true
  | [], _ => rfl
  | [_], _ => rfl
  | a :: b :: r, h => by
    obtain ⟨h1, h2⟩ := List.pairwise_cons.mp h
    unfold rising
    rw [decide_eq_true (h1 b (by simp)), rising_of h2]; rfl
theorem areS_of {ns : List Int} {m : Int} (h1 : 1 ≤ ns.length) (h3 : ns.length ≤ 3) (hi : ∀ s ∈ ns, 0 ≤ s ∧ s < m) (hr : rising ns = true) : areSingers ns m = true := by
  unfold areSingers
  rw [decide_eq_true (And.intro h1 h3), hr, List.all_eq_true.mpr fun s hs => decide_eq_true (hi s hs)]; rfl
theorem areS_take {ns : List Int} {m : Int} (h : areSingers ns m = true) : areSingers (ns.take 1) m = true := by
  obtain ⟨h1, h3, hi, hr⟩ := areS_len h
  cases ns with
  | nil => simp at h1
  | cons a r => exact areS_of (by simp) (by simp) (fun s hs => hi s (by simp at hs; simp [hs])) rfl
theorem cut_to1 (ns : List Int) : cutV (ns.map V.int) none (some 1) = (ns.take 1).map V.int := by
  unfold cutV
  cases ns with
  | nil => rfl
  | cons a r =>
    have e1 : HT.sIx ((a :: r).map V.int).length 0 none = 0 := rfl
    have e2 : HT.sIx ((a :: r).map V.int).length ((a :: r).map V.int).length (some 1) = 1 := by simp [HT.sIx]
    rw [e1, e2]; rfl
theorem cut_ints (ns : List Int) {b e : Int} (hb : 0 ≤ b) (he : 0 ≤ e) : ∃ ms : List Int, cutV (ns.map V.int) (some b) (some e) = ms.map V.int ∧ ms.length ≤ (e - b).toNat ∧ ∀ z ∈ ms, z ∈ ns := by
  unfold cutV
  refine ⟨(ns.drop (HT.sIx (ns.map V.int).length 0 (some b))).take (HT.sIx (ns.map V.int).length (ns.map V.int).length (some e) - HT.sIx (ns.map V.int).length 0 (some b)), ?_, ?_, ?_⟩
  · rw [← List.map_drop, ← List.map_take]
  · rw [List.length_take, List.length_drop]
    have e1 : ∀ (n d : Nat) (x : Int), 0 ≤ x → HT.sIx n d (some x) = min x.toNat n := fun n d x hx => by
      simp only [HT.sIx]
      rw [if_neg (by omega)]
    rw [e1 _ _ _ hb, e1 _ _ _ he, List.length_map]
    omega
  · intro z hz
    exact List.mem_of_mem_drop (List.mem_of_mem_take hz)
theorem eqv_pair (a b c d : Int) : PyData.eqv (.tuple [.int a, .int b]) (.tuple [.int c, .int d]) = decide (a = c ∧ b = d) := by
  show ((a == c) && ((b == d) && true)) = _
  by_cases h1 : a = c <;> by_cases h2 : b = d <;> simp [h1, h2]
theorem eqv_opt (o o' : Option Int) : PyData.eqv (optD o) (optD o') = decide (o = o') := by
  cases o with
  | none =>
    cases o' with
    | none => rfl
    | some n => rfl
  | some m =>
    cases o' with
    | none => rfl
    | some n =>
      show (m == n) = _
      by_cases h : m = n <;> simp [h]
theorem shp_pair (a b : Int) : Shp 2 (.tuple [.int a, .int b]) := shp_tuple fun x hx => by
  simp only [List.mem_cons, List.not_mem_nil, or_false] at hx
  rcases hx with rfl | rfl <;> exact shp_int _
theorem cut_head (vs : List V) (n : Nat) : cutV vs none (some (n : Int)) = vs.take n := by
  unfold cutV
  have e1 : HT.sIx vs.length 0 none = 0 := rfl
  have e2 : HT.sIx vs.length vs.length (some (n : Int)) = min n vs.length := by
    simp only [HT.sIx]
    rw [if_neg (by omega)]
    rfl
  rw [e1, e2, List.drop_zero]
  by_cases h : n ≤ vs.length
  · rw [Nat.min_eq_left h]; rfl
  · rw [Nat.min_eq_right (by omega), List.take_of_length_le (by omega), List.take_of_length_le (by omega)]
theorem cut_tail (vs : List V) (n : Nat) : cutV vs (some (n : Int)) none = vs.drop n := by
  unfold cutV
  have e1 : HT.sIx vs.length 0 (some (n : Int)) = min n vs.length := by
    simp only [HT.sIx]
    rw [if_neg (by omega)]
    rfl
  have e2 : HT.sIx vs.length vs.length none = vs.length := rfl
  rw [e1, e2]
  by_cases h : n ≤ vs.length
  · rw [Nat.min_eq_left h]
    exact List.take_of_length_le (by rw [List.length_drop]; omega)
  · rw [Nat.min_eq_right (by omega), List.drop_of_length_le (show vs.length ≤ n by omega), List.drop_length]
    exact List.take_nil
@[elab_as_elim] theorem to_made {H : Hp} {x dx : Addr} {o o' : HO} {Q : Hp → Prop} (nx : H x = none) (ndx : H dx = none) (h : ∀ H', Same H H' → H' x = some o' → Q H') : Q (upd (upd H dx o) x o') :=
  h _ (made_same (o := o) (o' := o') nx ndx (Fra.refl _ _)) upd_same
theorem pw_of : ∀ {ns : List Int}, rising ns = true → ns.Pairwise (· < ·)
  | [], _ => .nil
  | [_], _ => List.pairwise_singleton _ _
  | a :: b :: r, h => by
    unfold rising at h
    rw [Bool.and_eq_true] at h
    have h1 := of_decide_eq_true h.1
    have ih := pw_of h.2
    refine List.pairwise_cons.mpr ⟨fun x hx => ?_, ih⟩
    rcases List.mem_cons.mp hx with e | e
    · rw [e]; exact h1
    · exact Int.lt_trans h1 ((List.pairwise_cons.mp ih).1 x e)
/-- two rising lists of the same members are one -/
theorem pw_ext : ∀ {xs ys : List Int}, xs.Pairwise (· < ·) → ys.Pairwise (· < ·) → (∀ z, z ∈ xs ↔ z ∈ ys) → xs = ys
  | [], [], _, _, _ => rfl
  | [], b :: _, _, _, h => by have := (h b).mpr (by simp); cases this
  | a :: _, [], _, _, h => by have := (h a).mp (by simp); cases this
  | a :: r, b :: t, h1, h2, h => by
    obtain ⟨p1, q1⟩ := List.pairwise_cons.mp h1
    obtain ⟨p2, q2⟩ := List.pairwise_cons.mp h2
    have e : a = b := by
      have m1 := (h a).mp (by simp)
      have m2 := (h b).mpr (by simp)
      rcases List.mem_cons.mp m1 with e | e
      · exact e
      · rcases List.mem_cons.mp m2 with e2 | e2
        · exact e2.symm
        · have := p1 b e2; have := p2 a e; omega
    subst e
    rw [pw_ext q1 q2 fun z => ⟨fun m => ?_, fun m => ?_⟩]
    · rcases List.mem_cons.mp ((h z).mp (by simp [m])) with e | e
      · have := p1 z m; omega
      · exact e
    · rcases List.mem_cons.mp ((h z).mpr (by simp [m])) with e | e
      · have := p2 z m; omega
      · exact e
theorem off_free {S : List Addr} {H H' : Hp} (s : Same H H') (n : ∀ a ∈ S, H a = none) : Same H (off S H') := fun b o e => by
  rw [off_out (fun z => by rw [n b z] at e; cases e)]
  exact s _ _ e
theorem dom_fra {S X : List Addr} {H H' : Hp} (f : Fra X H H') (dom : ∀ a ∈ S, ∃ o, H a = some o) (domX : ∀ a ∈ X, ∃ o, H' a = some o) : ∀ a ∈ S, ∃ o, H' a = some o := fun a ha => by
  by_cases e : a ∈ X
  · exact domX a e
  · obtain ⟨o, h⟩ := dom a ha
    exact ⟨o, f a o e h⟩
theorem foldl_take {α β : Type} (f : β → α → β) (b : β) : ∀ (xs : List α) (i : Nat) (x : α), xs[i]? = some x → (xs.take (i + 1)).foldl f b = f ((xs.take i).foldl f b) x := fun xs i x h => by
  obtain ⟨hi, e⟩ := List.getElem?_eq_some_iff.mp h
  rw [List.take_succ_eq_append_getElem hi, List.foldl_append, e]; rfl
end Song

/-! ### Kn: _law_kinds, _law_due_of -/
namespace Song
open PySem L2
/-- just one of the eight, and a ValueError -/
def due (i : Nat) : List V := [.bl (i == 0), .bl (i == 1), .bl (i == 2), .bl (i == 3), .bl (i == 4), .bl (i == 5), .bl (i == 6), .bl (i == 7), .bl true]
section
variable {P : Program} {w : World} {K : PySem.W.Frag} {mg : Str → Option Value} {base : Heap}
theorem sc__law_kinds : FnScope ["_law_ask", "_law_found", "error"] ["_law_ask"] (defScope s__law_kinds) := ⟨rfl, rfl, rfl, by decide +kernel, rfl, by decide +kernel, by decide +kernel⟩
theorem lamT {d : Str} (T : Tx K mg) (B : ∀ p ∈ tf, LamX.TabB base mg (He.cT K p).1 (He.cT K p).2) (h : (d, none) ∈ tf) : LamT K mg base (TLof K tf) d := lamT_of B T.tne h
/-- what _law_kinds makes of an ask that is refused as i tells -/
def TTk (K : PySem.W.Frag) (i : Nat) : (XK → Hp → VK → Prop) → Hp → VK → Prop := fun tl H Q => ∀ H1, Same H H1 → ∀ Q',
  tl (fun cls d H' => cls = .ref (He.ga K (cn i)) ∧ d = none ∧ ∀ p H'', Same H' H'' → H'' p = some (.lst (due i)) → Q (.ref p) H'') H1 Q'
/-- what the suite of _law_kinds leaves -/
def tsK (K : PySem.W.Frag) (a : Addr) (cls : Value) (d : Option Addr) : TS := fun D σ H => ∃ i, i < 8 ∧ cls = .ref (He.ga K (cn i)) ∧ d = none ∧ σ.length = 3 ∧ σ[2]? = some (some (.ref a)) ∧
  ∀ p H', Same H H' → H' p = some (.lst (due i)) → D.nx (σ.set 1 (some (.ref p))) H'
abbrev kBody : List Stmt := defBody s__law_kinds
def kSuite : List Stmt := match kBody with
  | [_, .Try _ [.ExceptHandler _ _ b _] _ _ _, _] => b
  | _ => []
abbrev kCx (X : Cx) (g : Addr) (cdg : Value) (s : Shared) (H : Hp) : Cx := (cxOf C8.CX0 X.prog X.w X.K X.mg X.base ["_law_ask", "_law_found", "error"] "_law_kinds" (defScope s__law_kinds) g cdg X.A X.stack s H C8.E0).nox
theorem set_set1 {σ : St} {a b : Option V} : (σ.set 1 a).set 1 b = σ.set 1 b := by simp
theorem gives_kinds {X : Cx} {g : Addr} {cdg : Value} {q : Str} {i : Nat} (hi : i < 8) (T : Tx X.K X.mg) :
    LamX.GivesTo X ["_law_ask", "_law_found", "error"] "_law_kinds" (defScope s__law_kinds) g cdg kBody "_law_ask" q (TTk X.K i) := by
  intro f c' s H Q tl act hc h
  have hsu : ∀ (a : Addr) (oe : Obj) (cls : Value) (d : Option Addr) (pn : List (Addr × Obj)), Zc cls d oe → (∃ vs, oe.data = .fields vs) →
      PSs ((kCx X g cdg s H).suite a ((a, oe) :: pn)) kSuite (tsK X.K a cls d) := fun a oe cls d pn hz hf => by
    refine ⟨fun pins s1 σ H1 D I hh => ?_⟩
    obtain ⟨j, hj, rfl, rfl, hl, h2, hD⟩ := hh
    have C := T.km j hj
    have hIs := call_isE (X := kCx X g cdg s H) (a := a) (pn := pn) C.c hz hf
    refine (show PSs ((kCx X g cdg s H).suite a ((a, oe) :: pn)) kSuite _ from pss_cons (ps_set (i := 1) sc__law_kinds.nd rfl (by first | exact Or.inl rfl | exact Or.inr rfl) (pe_lst (pa_cons (pe_callB hIs (by rfl) T.isinstance (by decide +kernel) (pa_cons (pv 2) (pa_cons (pe_gc T.g_BadMany (by rfl)) pa_nil))) (pa_cons (pe_callB hIs (by rfl) T.isinstance (by decide +kernel) (pa_cons (pv 2) (pa_cons (pe_gc T.g_BadSingers (by rfl)) pa_nil))) (pa_cons (pe_callB hIs (by rfl) T.isinstance (by decide +kernel) (pa_cons (pv 2) (pa_cons (pe_gc T.g_BadSong (by rfl)) pa_nil))) pa_nil)))))
      (pss_cons (ps_set (i := 1) sc__law_kinds.nd rfl (by first | exact Or.inl rfl | exact Or.inr rfl) (pe_op op_cat (pv 1) (pe_lst (pa_cons (pe_callB hIs (by rfl) T.isinstance (by decide +kernel) (pa_cons (pv 2) (pa_cons (pe_gc T.g_BadTale (by rfl)) pa_nil))) (pa_cons (pe_callB hIs (by rfl) T.isinstance (by decide +kernel) (pa_cons (pv 2) (pa_cons (pe_gc T.g_BadSongs (by rfl)) pa_nil))) (pa_cons (pe_callB hIs (by rfl) T.isinstance (by decide +kernel) (pa_cons (pv 2) (pa_cons (pe_gc T.g_BadGap (by rfl)) pa_nil))) pa_nil))))))
      (pss_one (ps_set (i := 1) sc__law_kinds.nd rfl (by first | exact Or.inl rfl | exact Or.inr rfl) (pe_op op_cat (pv 1) (pe_lst (pa_cons (pe_callB hIs (by rfl) T.isinstance (by decide +kernel) (pa_cons (pv 2) (pa_cons (pe_gc T.g_BadOrder (by rfl)) pa_nil))) (pa_cons (pe_callB hIs (by rfl) T.isinstance (by decide +kernel) (pa_cons (pv 2) (pa_cons (pe_gc T.g_TooMany (by rfl)) pa_nil))) (pa_cons (pe_callB hIs (by rfl) T.isinstance (by decide +kernel) (pa_cons (pv 2) (pa_cons (pe_gt (n := "ValueError") T.ValueError (by rfl) (by decide +kernel)) pa_nil))) pa_nil))))))))).run pins s1 σ H1 D I ?_
    have h2' : ∀ x : Option V, (σ.set 1 x)[2]? = some (some (.ref a)) := fun x => by rw [List.getElem?_set_ne (by decide)]; exact h2
    have h1' : ∀ x : V, (σ.set 1 (some x))[1]? = some (some x) := fun x => by rw [List.getElem?_set_self (by omega)]
    have rr : ∀ (c : Addr) (u : Value), RelV (.ref c) u → u = .ref c := fun c u r => r
    have rt : ∀ (n : String) (u : Value), RelV (.ty n) u → u = .type n := fun n u r => r
    refine ⟨_, h2, _, _, _, rfl, rr _, C.j 0 (by decide), _, h2, _, _, _, rfl, rr _, C.j 1 (by decide), _, h2, _, _, _, rfl, rr _, C.j 2 (by decide), by show 3 ≤ sizeLine; decide, fun p1 n1 => ?_⟩
    refine to_new n1 fun H2 s2 hp1 => ?_
    refine ⟨_, h1' _, _, h2' _, _, _, _, rfl, rr _, C.j 3 (by decide), _, h2' _, _, _, _, rfl, rr _, C.j 4 (by decide), _, h2' _, _, _, _, rfl, rr _, C.j 5 (by decide), by show 3 ≤ sizeLine; decide, fun p2 n2 => ?_⟩
    refine to_new n2 fun H3 s3 hp2 => ?_
    refine ⟨_, _, _, _, rfl, rfl, s3 _ _ hp1, hp2, by show 3 + 3 ≤ sizeLine; decide, fun p3 n3 => ?_⟩
    refine to_new n3 fun H4 s4 hp3 => ?_
    have h1'' : ∀ x y : V, ((σ.set 1 (some x)).set 1 (some y))[1]? = some (some y) := fun x y => by rw [set_set1]; exact h1' y
    have h2'' : ∀ x y : V, ((σ.set 1 (some x)).set 1 (some y))[2]? = some (some (.ref a)) := fun x y => by rw [set_set1]; exact h2' _
    refine ⟨_, h1'' _ _, _, h2'' _ _, _, _, _, rfl, rr _, C.j 6 (by decide), _, h2'' _ _, _, _, _, rfl, rr _, C.j 7 (by decide), _, h2'' _ _, _, _, _, rfl, rt _, C.v, by show 3 ≤ sizeLine; decide, fun p4 n4 => ?_⟩
    refine to_new n4 fun H5 s5 hp4 => ?_
    refine ⟨_, _, _, _, rfl, rfl, s5 _ _ hp3, hp4, by show 6 + 3 ≤ sizeLine; decide, fun p5 n5 => ?_⟩
    refine to_new n5 fun H6 s6 hp5 => ?_
    show D.nx (((σ.set 1 (some (.ref p1))).set 1 (some (.ref p3))).set 1 (some (.ref p5))) H6
    rw [set_set1, set_set1]
    exact hD p5 H6 ((((s2.trans s3).trans s4).trans s5).trans s6) hp5
  have hgl : Gl (kCx X g cdg s H) "TurnError" := by rfl
  refine ⟨_, pss_cons (ps_set (i := 1) sc__law_kinds.nd rfl (by first | exact Or.inl rfl | exact Or.inr rfl) (pe_lst pa_nil)) (pss_cons (ps_try_as (X := (kCx X g cdg s H)) (c := .ref (He.ga X.K "TurnError")) (i := 2)
      (tb := fun W D σ H => ∃ Ech : XK, (∀ cls d σ' H', σ'.length = 3 → Ech cls d H' → W cls d σ' H') ∧ σ[0]? = some (some (.ref f)) ∧ H c' = some (LamX.CodeO c' q) ∧ ∀ Q', tl Ech H Q')
      rfl rfl sc__law_kinds.nd rfl rfl ⟨hgl, by decide, .inl T.g_TurnError⟩ L2.takes0 (fun W pn xe tk _ => ?_) hsu) (pss_one (ps_ret (pv 1)))), ?_⟩
  · refine ⟨fun pins s' σ H' D I h' => ?_⟩
    obtain ⟨Ech, hW, h1, h2, h3⟩ := h'
    have hp := fun p1 p2 => act (fun cls d σ H => σ.length = 3 → W cls d σ H) pn xe Ech p1 p2 (takes_len tk) (fun cls d σ' H' e hl => hW cls d σ' H' hl e)
    exact (pss_one (ps_expr (hp _ _))).run pins s' σ H' D I ⟨h1, h2, h3 _⟩
  · refine ⟨Nat.zero_le _, fun p0 n0 => ?_⟩
    refine to_new n0 fun H1 s1 hp0 => ?_
    refine ⟨fun cls d H' => cls = .ref (He.ga X.K (cn i)) ∧ d = none ∧ ∀ p H'', Same H' H'' → H'' p = some (.lst (due i)) → Q (.ref p) H'', ?_, rfl, s1 _ _ hc, fun Q' => h H1 s1 Q'⟩
    rintro cls d σ' H' hl ⟨rfl, rfl, hq⟩
    refine ⟨true, (T.km i hi).m, fun _ a na => ?_, fun z => by cases z⟩
    refine ⟨i, hi, rfl, rfl, by simpa using hl, by rw [List.getElem?_set_self (by omega)], fun p H'' s'' hp => ?_⟩
    refine ⟨_, ?_, hq p H'' s'' hp⟩
    rw [List.getElem?_set_ne (by decide), List.getElem?_set_self (by simp; omega)]
/-- _law_kinds(lambda: body), refused as i tells -/
def tKinds (K : PySem.W.Frag) (Tl : List (Addr × Str)) (i : Nat) (t : XK → TE) : TE := fun σ H Q => LamX.Tabs Tl H ∧ ∀ H2, LamX.ExtN H H2 → LamX.Tabs Tl H2 → ∀ Q',
  t (fun cls d H' => cls = .ref (He.ga K (cn i)) ∧ d = none ∧ ∀ p H'', Same H' H'' → H'' p = some (.lst (due i)) → Q (.ref p) H'') σ H2 Q'
theorem pe_kinds {X : Cx} {i k : Nat} {d : Str} {params : Arguments} {body : Expr} {scope : Scope} {t : XK → TE} {p lpos pos : Pos} (hi : i < 8) (T : Tx X.K X.mg) (L : LamT X.K X.mg X.base (TLof X.K tf) d) (hq : X.env.qual = d ++ ".<locals>.") (hcode : X.env.code = .ref (He.cT X.K (d, none)).1)
    (hr : Room (k + 2) X.A) (hg : Gl X "_law_kinds") (LS : LamX.LamS X.env.scope scope) (hdef : defaultsOf params X.env = ([], []))
    (hbind : ∀ (q : Str) (cl : List (Str × Addr)) (pm cv ctv : Value), bindArgs (PySem.W.kla_fn "<lambda>" q params body scope cl pm cv ctv) ⟨[], []⟩ = pure [])
    (hbody : ∀ (A : Around) (outer : List Env) (s : Shared) (H : Hp) (E : XK) (f c' : Addr), Room k (A.deeper (LamX.lamEnv X scope s.heap.objs.size f c')) → PE (LamX.lamCx X A outer s H E scope f c') body (t E)) :
    PE X (.Call (.Name "_law_kinds" p) [.Lambda params body scope lpos] [] pos) (tKinds X.K (TLof X.K tf) i t) := by
  obtain ⟨fd, F⟩ := T.d__law_kinds
  have hbd : Binds X.K fd ["_law_ask"] [] := F.bindsN fun _ _ _ _ _ _ us hl => match us, hl with | [_], _ => rfl
  have kp := F.kp
  obtain ⟨oc, od, dV, kV, doc, pm, an, cdv, ct, osl, rfl, lk, hcd, _, _⟩ := F.ex
  have R := LamX.pe_lamcall (X := X) (T := TLof X.K tf) (TT := TTk X.K i) (x := "_law_kinds") (a := "_law_ask") (p := p) (lpos := lpos) (pos := pos) (t := t) hg T.g__law_kinds kp lk hcd hbd sc__law_kinds rfl (.inl rfl) (gives_kinds (q := X.env.qual ++ "<lambda>") hi T) L.tb hcode (by rw [hq]; exact L.mem) (fun p hp e => by rw [hq]; exact L.uq p hp e) hr LS hdef hbind hbody
  refine ⟨fun pins s σ H Q I h => R.run pins s σ H Q I ⟨h.1, fun H1 e1 t1 H2 s2 Q' => h.2 H2 (e1.trans (LamX.ExtN.of s2)) (t1.ext s2) Q'⟩⟩
theorem sc__law_due_of : FnScope ["_law_at", "_law_one"] ["_law_at"] (defScope s__law_due_of) := ⟨rfl, rfl, rfl, by decide +kernel, rfl, by decide +kernel, by decide +kernel⟩
def sp_due_of : Sp := fun vs H Q _ => ∃ i : Nat, vs = [.int i] ∧ i < 8 ∧ ∀ p H', H p = none → Same H H' → H' p = some (.lst (due i)) → Q (.ref p) H'
theorem fn__law_due_of (T : Tx K mg) : Fn P w K mg base "_law_due_of" 1 sp_due_of := by
  obtain ⟨fd, F⟩ := T.d__law_due_of
  refine ⟨_, fd, _, F.ok (CX := CX0) sc__law_due_of (fun vs H Q E h => ?_) (fun cdv A outer s H vs Q E hr h => ?_), T.g__law_due_of, F.kp, F.bindsN fun _ _ _ _ _ _ us hl => match us, hl with | [_], _ => rfl⟩
  · obtain ⟨i, rfl, _⟩ := h; rfl
  · obtain ⟨i, rfl, hi, q⟩ := h
    refine ⟨_, PSs.nox (pss_one (ps_ret (pe_op op_cat (pe_lc (own := [("_law_one", 1)]) (g := (gName 1)) (tt := tYes) (by rfl) sc__law_due_of.nd (pi_range1 (by rfl) T.range (pa_cons pe_int pa_nil)) (blkOk_by (by kernel_rfl)) (fun _ _ _ _ _ => (pg_name (i := 1) sc__law_due_of.nd rfl (by first | exact Or.inl rfl | exact Or.inr rfl))) (fun _ _ _ _ _ => pts_nil) (fun _ _ _ _ _ => (pe_cmpR op_eq (pv 0) (pv 1) (nomark _)))) (pe_lst (pa_cons pe_bl pa_nil))))), ?_⟩
    refine ⟨8, rfl, by decide, by decide, fun D nD => lc_pure walk_range (fun _ _ _ h => h) trivial (fun j => some (.bl (i == j))) nD (by decide) ?_ ?_⟩
    · rintro j v H1 H2 hj s1 ⟨rfl, rfl⟩ k kn hk _
      refine ⟨rfl, yes_of ⟨_, rfl, _, rfl, rfl, ?_⟩⟩
      show k (V.bl (decide (V.int (i : Int) = V.int (0 + (j : Int))))) H2
      have e : decide (V.int (i : Int) = V.int (0 + (j : Int))) = (i == j) := by
        by_cases h : i = j
        · subst h; simp
        · rw [beq_eq_false_iff_ne.mpr h]; exact decide_eq_false (fun z => h (by injection z with z; omega))
      rw [e]
      exact hk _ _ rfl (Same.refl _)
    · intro H1 s1 hD
      refine ⟨by show 1 ≤ sizeLine; decide, fun p np => ?_⟩
      refine to_new np fun H2 s2 hp => ?_
      refine ⟨_, _, _, _, rfl, rfl, s2 _ _ hD, hp, by show 8 + 1 ≤ sizeLine; decide, fun p2 np2 => ?_⟩
      refine to_new np2 fun H3 s3 hp2 => ?_
      exact q p2 H3 (s1.free (s2.free np2)) ((s1.trans s2).trans s3) hp2
theorem dp_bls {K : PySem.W.Frag} {H : Hp} : ∀ (bs : List Bool), DpAll K H (bs.map V.bl) (bs.map PyData.bool)
  | [] => .nil
  | b :: r => .cons (.bl b) (dp_bls r)
def dueB (i : Nat) : List Bool := [i == 0, i == 1, i == 2, i == 3, i == 4, i == 5, i == 6, i == 7, true]
theorem dp_due {K : PySem.W.Frag} {H : Hp} {p : Addr} {i : Nat} (h : H p = some (.lst (due i))) : Dp K H (.ref p) (.list ((dueB i).map PyData.bool)) := .lst (SqL.of h) (dp_bls (dueB i))
theorem due_eqv (i : Nat) (hi : i < 8) : PyData.eqv (.list ((dueB i).map PyData.bool)) (.list ((dueB i).map PyData.bool)) = true ∧ SeqAt.shaped (.list ((dueB i).map PyData.bool)) = true := by
  have : i = 0 ∨ i = 1 ∨ i = 2 ∨ i = 3 ∨ i = 4 ∨ i = 5 ∨ i = 6 ∨ i = 7 := by omega
  rcases this with rfl | rfl | rfl | rfl | rfl | rfl | rfl | rfl <;> exact ⟨by decide +kernel, by decide +kernel⟩
/-- if _law_kinds(lambda: ..) != _law_due_of(i): return False -/
def tKin (K : PySem.W.Frag) (Tl : List (Addr × Str)) (i : Nat) (t : XK → TE) : TS := fun D σ H => LamX.Tabs Tl H ∧ ∀ H2, LamX.ExtN H H2 → LamX.Tabs Tl H2 → ∀ (E : XK) (Q' : VK),
  (∀ H', (∀ H'', Same H' H'' → D.nx σ H'') → E (.ref (He.ga K (cn i))) none H') → t E σ H2 Q'
theorem ps_kin {X : Cx} {st : Stmt} {i : Nat} {Tl : List (Addr × Str)} {t : XK → TE} (hi : i < 8)
    (h : PS X st (tIfS (tTest (tOp (rNeD X.K) (tKinds X.K Tl i t) (tCall sp_due_of [] E0 (tCons (tC (.int i)) tNil)))) (tRet (tC (.bl false))) tNext)) : PS X st (tKin X.K Tl i t) := by
  refine ⟨fun pins s σ H D I hw => h.run pins s σ H D I ⟨hw.1, fun H2 e2 t2 Q' => hw.2 H2 e2 t2 _ Q' fun H' hn => ⟨rfl, rfl, fun p H'' s'' hp => ?_⟩⟩⟩
  refine ⟨i, rfl, hi, fun p2 H3 n3 s3 hp2 => ?_⟩
  refine ⟨_, _, dp_due (s3 _ _ hp), dp_due hp2, (due_eqv i hi).2, (due_eqv i hi).2, _, rfl, ?_⟩
  rw [(due_eqv i hi).1]
  exact iteF (hn H3 (s''.trans s3))
end
end Song

/-! ### Ev3: rounds and turns -/
namespace Song
open PySem L2
section
variable {P : Program} {w : World} {K : PySem.W.Frag} {mg : Str → Option Value} {base : Heap}
theorem sc_floor_of : FnScope ["last", "going", "singer"] ["last", "going", "singer"] (defScope s_floor_of) := ⟨rfl, rfl, rfl, by decide +kernel, rfl, by decide +kernel, by decide +kernel⟩
def sp_floor_of (K : PySem.W.Frag) : Sp := fun vs H Q _ => ∃ (a : Addr) (ls : List Int) (g s : Int), vs = [.ref a, .int g, .int s] ∧ SqL K H a (ls.map V.int) ∧ 0 ≤ s ∧ s < (ls.length : Int) ∧ Q (.int (floorOf ls g s)) H
theorem fn_floor_of (T : Tx K mg) : Fn P w K mg base "floor_of" 1 (sp_floor_of K) := by
  obtain ⟨fd, F⟩ := T.d_floor_of
  refine ⟨_, fd, _, F.ok (CX := CX0) sc_floor_of (fun vs H Q E h => ?_) (fun cdv A outer s H vs Q E hr h => ?_), T.g_floor_of, F.kp, F.bindsN fun _ _ _ _ _ _ us hl => match us, hl with | [_, _, _], _ => rfl⟩
  · obtain ⟨a, ls, g, s, rfl, _⟩ := h; rfl
  · obtain ⟨a, ls, g, s, rfl, hs, h0, h1, q⟩ := h
    refine ⟨_, PSs.nox (pss_one (ps_ret (pe_callB (call_max2 (by rfl)) (by rfl) T.max (by decide +kernel) (pa_cons (pv 1) (pa_cons (pe_op op_add (pe_ix (show IxR _ (rIxL K) from ix_list) (pv 0) (pv 2) (fun _ _ => rfl)) pe_int) pa_nil))))), ?_⟩
    refine ⟨_, rfl, _, rfl, _, rfl, a, _, _, _, rfl, rfl, hs, at_int h0 h1, _, _, rfl, rfl, _, _, rfl, ?_⟩
    rw [max_ite]
    exact q
theorem sc_round_for : FnScope ["last", "going", "singers", "singer"] ["last", "going", "singers"] (defScope s_round_for) := ⟨rfl, rfl, rfl, by decide +kernel, rfl, by decide +kernel, by decide +kernel⟩
def sp_round_for (K : PySem.W.Frag) : Sp := fun vs H Q _ => ∃ (a b : Addr) (ls ss : List Int) (g : Int), vs = [.ref a, .int g, .ref b] ∧ SqL K H a (ls.map V.int) ∧ SqL K H b (ss.map V.int) ∧ InB ls.length ss ∧ ss ≠ [] ∧ ss.length ≤ 1000 ∧
  ∀ H', Same H H' → Q (.int (roundFor ls g ss)) H'
theorem fn_round_for (T : Tx K mg) : Fn P w K mg base "round_for" 2 (sp_round_for K) := by
  obtain ⟨fd, F⟩ := T.d_round_for
  refine ⟨_, fd, _, F.ok (CX := CX0) sc_round_for (fun vs H Q E h => ?_) (fun cdv A outer s H vs Q E hr h => ?_), T.g_round_for, F.kp, F.bindsN fun _ _ _ _ _ _ us hl => match us, hl with | [_, _, _], _ => rfl⟩
  · obtain ⟨a, b, ls, ss, g, rfl, _⟩ := h; rfl
  · obtain ⟨a, b, ls, ss, g, rfl, ha, hb, hi, hn, hl, q⟩ := h
    refine ⟨_, PSs.nox (pss_one (ps_ret (pe_callB (show CallR _ _ (rMax K) from cr_max (by rfl)) (by rfl) T.max (by decide +kernel) (pa_cons (pe_lc (own := [("singer", 3)]) (g := (gName 3)) (tt := tYes) (by rfl) sc_round_for.nd (show PI _ _ _ (iList K _) from pi_list (pv 2)) (blkOk_by (by kernel_rfl)) (fun _ _ _ _ _ => (pg_name (i := 3) sc_round_for.nd rfl (by first | exact Or.inl rfl | exact Or.inr rfl))) (fun _ _ _ _ _ => pts_nil) (fun _ _ _ _ _ => (pe_fn (fn_floor_of T) (hr.mono (by first | decide | omega)) (by rfl) (pa_cons (pv 0) (pa_cons (pv 1) (pa_cons (pv 3) pa_nil)))))) pa_nil)))), ?_⟩
    refine ⟨_, rfl, b, rfl, ⟨_, hb⟩, fun D nD => lc_map (fun x => match x with | .int s => .int (floorOf ls g s) | _ => .non) hb nD (by rw [List.length_map]; exact hl) ?_ ?_ gname_mono⟩
    · intro i x H1 hx s1 k hk
      obtain ⟨s, rfl, hs⟩ := int_at hx
      obtain ⟨h0, h1⟩ := hi s (List.mem_of_getElem? hs)
      exact ⟨rfl, _, rfl, _, rfl, _, rfl, a, ls, g, s, rfl, s1.seq ha, h0, h1, hk _ (Same.refl _)⟩
    · intro H1 s1 hD
      rw [List.map_map] at hD
      refine ⟨_, ss.map (floorOf ls g), rfl, SqL.of (by rw [List.map_map]; exact hD), ?_, fun m hm hle => ?_⟩
      · rw [List.length_map]; exact List.length_pos_iff.mpr hn
      · rw [maxL_eq hm hle]
        exact q _ s1
theorem sc_in_turn : FnScope ["rounds", "waits", "number", "song"] ["rounds", "waits"] (defScope s_in_turn) := ⟨rfl, rfl, rfl, by decide +kernel, rfl, by decide +kernel, by decide +kernel⟩
def sp_in_turn (K : PySem.W.Frag) : Sp := fun vs H Q _ => ∃ (a b : Addr) (rs ws : List Int), vs = [.ref a, .ref b] ∧ SqL K H a (rs.map V.int) ∧ SqL K H b (ws.map V.int) ∧ InB rs.length ws ∧ ws.length ≤ 1000 ∧
  ∀ p H', H p = none → Same H H' → H' p = some (.lst ((inTurn rs ws).map V.int)) → Q (.ref p) H'
/-- what a pair of ints stands for -/
def prOf (H : Hp) : V → Int × Int
  | .ref t => match H t with
    | some (.tup [.int i, .int j]) => (i, j)
    | _ => (0, 0)
  | _ => (0, 0)
theorem prOf_at {H : Hp} {t : Addr} {i j : Int} (h : H t = some (.tup [.int i, .int j])) : prOf H (.ref t) = (i, j) := by
  show (match H t with
    | some (.tup [.int i, .int j]) => (i, j)
    | _ => (0, 0)) = (i, j)
  rw [h]
theorem lexB_ltPr {a b : Int × Int} : SrtO.lexB a b = ltPr a b := by
  cases h : ltPr a b with
  | true =>
    rw [SrtO.lexB_iff]
    rw [ltPr_iff] at h
    omega
  | false =>
    rw [SrtO.lexB_no]
    rw [ltPr_false] at h
    omega
theorem srt_pairs {rs ws : List Int} {H : Hp} {ys zs : List V} (hl : ys.length = ws.length)
    (hy : ∀ (i : Nat) y, ys[i]? = some y → ∃ (t : Addr) (s : Int), ws[i]? = some s ∧ y = .ref t ∧ H t = some (.tup [.int (rs.getD s.toNat 0), .int s]))
    (srt : SrtO.Srtd (ltP (prOf H)) zs) (stb : SrtO.Stb (ltP (prOf H)) zs ys) :
    zs.map (fun z => V.int (prOf H z).2) = (inTurn rs ws).map V.int ∧ ∀ z ∈ zs, ∃ (t : Addr) (i j : Int), z = .ref t ∧ H t = some (.tup [.int i, .int j]) ∧ prOf H z = (i, j) := by
  have e1 : ys.map (prOf H) = ws.map fun s => (rs.getD s.toNat 0, s) := by
    have h2 : (ys.map (prOf H)).length = ws.length := by rw [List.length_map]; exact hl
    refine eq_map_of h2 fun i y e => ?_
    rw [List.getElem?_map] at e
    cases q : ys[i]? with
    | none => rw [q] at e; cases e
    | some v =>
      rw [q] at e
      obtain ⟨t, s, h1, rfl, h3⟩ := hy i v q
      refine ⟨s, h1, ?_⟩
      rw [← Option.some.inj e]
      exact prOf_at h3
  have e2 : zs.map (prOf H) = sortP (ws.map fun s => (rs.getD s.toNat 0, s)) := by
    refine sortP_eq (by rw [← e1]; exact stb.perm.map _) ?_
    refine List.pairwise_map.mpr (srt.imp fun {a b} h => ?_)
    rw [← lexB_ltPr]
    exact h
  refine ⟨?_, fun z hz => ?_⟩
  · unfold inTurn
    rw [← e2, List.map_map, List.map_map]
    rfl
  · obtain ⟨i, hi, rfl⟩ := List.mem_iff_getElem.mp (stb.perm.subset hz)
    obtain ⟨t, s, h1, h2, h3⟩ := hy i _ (List.getElem?_eq_getElem hi)
    exact ⟨t, _, _, h2, h3, by rw [h2]; exact prOf_at h3⟩
theorem inTurn_len (rs ws : List Int) : (inTurn rs ws).length = ws.length := (inTurn_perm rs ws).length_eq
theorem fn_in_turn (T : Tx K mg) : Fn P w K mg base "in_turn" 1 (sp_in_turn K) := by
  obtain ⟨fd, F⟩ := T.d_in_turn
  refine ⟨_, fd, _, F.ok (CX := CX0) sc_in_turn (fun vs H Q E h => ?_) (fun cdv A outer s H vs Q E hr h => ?_), T.g_in_turn, F.kp, F.bindsN fun _ _ _ _ _ _ us hl => match us, hl with | [_, _], _ => rfl⟩
  · obtain ⟨a, b, rs, ws, rfl, _⟩ := h; rfl
  · obtain ⟨a, b, rs, ws, rfl, ha, hb, hi, hl, q⟩ := h
    refine ⟨_, PSs.nox (pss_one (ps_ret (pe_lc (own := [("number", 2), ("song", 3)]) (g := (gTup K 2 (gCons (gName 2) (gCons (gName 3) gNil)))) (tt := tYes) (by rfl) sc_in_turn.nd (show PI _ _ _ (iList K _) from pi_list (pe_callB (show CallR _ _ (rSortedPO K) from cr_sortedPO) (by rfl) T.sorted (by decide +kernel) (pa_cons (pe_lc (own := [("song", 3)]) (g := (gName 3)) (tt := tYes) (by rfl) sc_in_turn.nd (show PI _ _ _ (iList K _) from pi_list (pv 1)) (blkOk_by (by kernel_rfl)) (fun _ _ _ _ _ => (pg_name (i := 3) sc_in_turn.nd rfl (by first | exact Or.inl rfl | exact Or.inr rfl))) (fun _ _ _ _ _ => pts_nil) (fun _ _ _ _ _ => (pe_tup (pa_cons (pe_ix (show IxR _ (rIxL K) from ix_list) (pv 0) (pv 3) (fun _ _ => rfl)) (pa_cons (pv 3) pa_nil))))) pa_nil))) (blkOk_by (by kernel_rfl)) (fun _ _ _ _ _ => (show PG _ _ (gTup K _ _) from pg_tup rfl (pgs_cons (pg_name (i := 2) sc_in_turn.nd rfl (by first | exact Or.inl rfl | exact Or.inr rfl)) (pgs_cons (pg_name (i := 3) sc_in_turn.nd rfl (by first | exact Or.inl rfl | exact Or.inr rfl)) pgs_nil)))) (fun _ _ _ _ _ => pts_nil) (fun _ _ _ _ _ => (pv 3))))), ?_⟩
    refine ⟨_, rfl, b, rfl, ⟨_, hb⟩, fun D nD => lc_all walk_list sqL_mono hb (fun i H y => ∃ (t : Addr) (s : Int), ws[i]? = some s ∧ y = .ref t ∧ H t = some (.tup [.int (rs.getD s.toNat 0), .int s])) ?_ nD (by rw [List.length_map]; exact hl) ?_ ?_ gname_mono⟩
    · rintro i H1 H2 y s1 ⟨t, s, h1, h2, h3⟩
      exact ⟨t, s, h1, h2, s1 _ _ h3⟩
    · rintro i x H1 H2 acc hi1 s1 hD ⟨rfl, hx⟩ k hk
      obtain ⟨s, rfl, hs⟩ := int_at hx
      obtain ⟨h0, h1⟩ := hi s (List.mem_of_getElem? hs)
      refine ⟨rfl, _, rfl, _, rfl, a, _, _, _, rfl, rfl, s1.seq ha, at_int h0 h1, _, rfl, by show 2 ≤ sizeLine; decide, fun t nt => ?_⟩
      refine hk _ _ (Same.new nt) ⟨t, s, hs, rfl, ?_⟩
      rw [off_out (by simp; exact (ne_of_none hD nt).symm)]
      exact upd_same
    · intro ys H1 s1 hD hly hy
      have hy' : ∀ x ∈ ys, ∃ t, x = V.ref t ∧ H1 t = some (.tup [.int (prOf H1 x).1, .int (prOf H1 x).2]) := fun x hx => by
        obtain ⟨i, hi, rfl⟩ := List.mem_iff_getElem.mp hx
        obtain ⟨t, s, h1, h2, h3⟩ := hy i _ (List.getElem?_eq_getElem hi)
        have h4 := (off_some h3).2
        refine ⟨t, h2, ?_⟩
        rw [h2, prOf_at h4]
        exact h4
      refine ⟨D, ys, prOf H1, rfl, SqL.of hD, hy', fun zs p srt stb np => ?_⟩
      have hly : ys.length = ws.length := by rw [hly, List.length_map]
      obtain ⟨hz1, hz2⟩ := srt_pairs (rs := rs) (ws := ws) hly (fun i y e => by
        obtain ⟨t, s, h1, h2, h3⟩ := hy i y e
        exact ⟨t, s, h1, h2, (off_some h3).2⟩) srt stb
      refine to_new np fun H2 s2 hp => ?_
      refine ⟨p, rfl, ⟨_, SqL.of hp⟩, fun D2 nD2 => lc_map (fun z => V.int (prOf H1 z).2) (SqL.of hp) nD2 ?_ ?_ ?_ gtup_mono⟩
      · rw [stb.perm.length_eq]; omega
      · intro i z H3 hz s3 k hk
        obtain ⟨t, u, v, rfl, ht, ep⟩ := hz2 z (List.mem_of_getElem? hz)
        have hk2 := hk H3 (Same.refl _)
        rw [ep] at hk2
        exact ⟨t, _, rfl, SqT.of (s3 _ _ (s2 _ _ ht)), rfl, _, _, rfl, _, _, rfl, rfl, rfl, _, rfl, hk2⟩
      · intro H3 s3 hD3
        rw [hz1] at hD3
        exact q D2 H3 (s1.free (s2.free nD2)) ((s1.trans s2).trans s3) hD3
end
end Song

/-! ### Pl2: an evening's state and its parts, plainly -/
namespace Song
open PySem L2
inductive Part where
  | wish (ss : List Int) (n r : Int)
  | sing (o : Option Int)
  | out (n : Int)
  deriving DecidableEq
structure EvS where
  last : List Int
  going : Int
  rounds : List Int
  waiting : List Int
  tale : List Part
def evNew (many : Int) : EvS := ⟨List.replicate many.toNat 0, 1, [], [], []⟩
def setAll (last : List Int) (ss : List Int) (n : Int) : List Int := ss.foldl (fun l s => l.set s.toNat n) last
theorem setAll_len : ∀ (ss last : List Int) (n : Int), (setAll last ss n).length = last.length
  | [], _, _ => rfl
  | s :: r, last, n => by
    show (setAll (last.set s.toNat n) r n).length = last.length
    rw [setAll_len r, List.length_set]
theorem setAll_snoc (last ss : List Int) (s n : Int) : setAll last (ss ++ [s]) n = (setAll last ss n).set s.toNat n := by
  unfold setAll
  rw [List.foldl_append]
  rfl
def EvS.num (st : EvS) (ss : List Int) : Int := roundFor st.last st.going ss
def EvS.wish (st : EvS) (ss : List Int) : EvS :=
  ⟨setAll st.last ss (st.num ss), st.going, st.rounds ++ [st.num ss], st.waiting ++ [(st.rounds.length : Int)], st.tale ++ [.wish ss st.rounds.length (st.num ss)]⟩
def EvS.queue (st : EvS) : List Int := inTurn st.rounds st.waiting
def EvS.next (st : EvS) : Option Int := st.queue.head?
def EvS.sing (st : EvS) : EvS := match st.next with
  | none => { st with tale := st.tale ++ [.sing none] }
  | some s => { st with waiting := st.waiting.erase s, going := st.rounds.getD s.toNat 0, tale := st.tale ++ [.sing (some s)] }
def EvS.out (st : EvS) (n : Int) : EvS := { st with waiting := st.waiting.erase n, tale := st.tale ++ [.out n] }
/-- what holds of every evening's state -/
structure EvOk (st : EvS) : Prop where
  one : 1 ≤ st.last.length
  six : st.last.length ≤ 6
  inb : InB st.rounds.length st.waiting
  nd : st.waiting.Nodup
  r24 : st.rounds.length ≤ 24
  tw : ∀ ss n r, Part.wish ss n r ∈ st.tale → ss.length ≤ 3
theorem EvOk.w24 {st : EvS} (h : EvOk st) : st.waiting.length ≤ 24 := Nat.le_trans (nodup_len h.inb h.nd) h.r24
theorem evNew_ok {many : Int} (h1 : 1 ≤ many) (h6 : many ≤ 6) : EvOk (evNew many) :=
  ⟨by show 1 ≤ (List.replicate _ _).length; rw [List.length_replicate]; omega, by show (List.replicate _ _).length ≤ 6; rw [List.length_replicate]; omega,
   (fun s h => by cases h), List.nodup_nil, by show 0 ≤ 24; omega, (fun _ _ _ h => by cases h)⟩
theorem EvOk.wish {st : EvS} {ss : List Int} (h : EvOk st) (hr : st.rounds.length < 24) (h3 : ss.length ≤ 3) : EvOk (st.wish ss) where
  one := by show 1 ≤ (setAll _ _ _).length; rw [setAll_len]; exact h.one
  six := by show (setAll _ _ _).length ≤ 6; rw [setAll_len]; exact h.six
  inb := fun s hs => by
    show 0 ≤ s ∧ s < (((st.rounds ++ [_]).length : Nat) : Int)
    rw [List.length_append, List.length_singleton]
    rcases List.mem_append.mp hs with q | q
    · have := h.inb s q; omega
    · have := List.mem_singleton.mp q; omega
  nd := by
    show (st.waiting ++ [_]).Nodup
    refine List.nodup_append.mpr ⟨h.nd, by simp, fun a ha b hb e => ?_⟩
    have := List.mem_singleton.mp hb
    have := h.inb a ha
    omega
  r24 := by show (st.rounds ++ [_]).length ≤ 24; rw [List.length_append, List.length_singleton]; omega
  tw := fun ss' n r hm => by
    rcases List.mem_append.mp hm with q | q
    · exact h.tw ss' n r q
    · have := List.mem_singleton.mp q
      injection this with e _ _
      rw [e]; exact h3
theorem EvS.next_mem {st : EvS} {s : Int} (h : st.next = some s) : s ∈ st.waiting := (inTurn_perm _ _).subset (List.mem_of_mem_head? (by unfold next queue at h; rw [h]; rfl))
theorem EvS.next_none {st : EvS} (h : st.next = none) : st.waiting = [] := by
  unfold next queue at h
  have e := List.head?_eq_none_iff.mp h
  have l := inTurn_len st.rounds st.waiting
  rw [e] at l
  exact List.eq_nil_of_length_eq_zero l.symm
theorem EvOk.sing {st : EvS} (h : EvOk st) : EvOk st.sing := by
  unfold EvS.sing
  cases e : st.next with
  | none => exact ⟨h.one, h.six, h.inb, h.nd, h.r24, fun ss n r hm => h.tw ss n r (by simpa using hm)⟩
  | some s => exact ⟨h.one, h.six, fun x hx => h.inb x (List.mem_of_mem_erase hx), h.nd.erase _, h.r24, fun ss n r hm => h.tw ss n r (by simpa using hm)⟩
theorem EvOk.out {st : EvS} (h : EvOk st) (n : Int) : EvOk (st.out n) := ⟨h.one, h.six, fun x hx => h.inb x (List.mem_of_mem_erase hx), h.nd.erase _, h.r24, fun ss n r hm => h.tw ss n r (by simpa [EvS.out] using hm)⟩
theorem erase_at : ∀ {ns : List Int} {k : Int}, k ∈ ns → ∃ j : Nat, ns[j]? = some k ∧ (∀ m : Nat, m < j → ns[m]? ≠ some k) ∧ ns.eraseIdx j = ns.erase k
  | n :: r, k, h => by
    by_cases e : n = k
    · subst e
      exact ⟨0, rfl, fun m hm => by omega, by simp⟩
    · obtain ⟨j, h1, h2, h3⟩ := erase_at (ns := r) (k := k) ((List.mem_cons.mp h).resolve_left (fun z => e z.symm))
      refine ⟨j + 1, by simpa using h1, fun m hm => ?_, ?_⟩
      · cases m with
        | zero => simpa using e
        | succ m => simpa using h2 m (by omega)
      · rw [List.eraseIdx_cons_succ, h3, List.erase_cons_tail (by simpa using e)]
/-! #### the parts as data -/
def Part.data : Part → PyData
  | .wish ss n r => .tuple [.str "wish", .list (ss.map PyData.int), .int n, .int r]
  | .sing o => .tuple [.str "sing", optD o]
  | .out n => .tuple [.str "out", .int n]
/-- a part laid in the heap -/
def PartAt (H : Hp) : V → Part → Prop
  | .ref t, .wish ss n r => ∃ b, H t = some (.tup [.str "wish", .ref b, .int n, .int r]) ∧ H b = some (.lst (ss.map V.int))
  | .ref t, .sing o => H t = some (.tup [.str "sing", optV o])
  | .ref t, .out n => H t = some (.tup [.str "out", .int n])
  | _, _ => False
def Parts (H : Hp) : List V → List Part → Prop
  | [], [] => True
  | v :: vs, p :: ps => PartAt H v p ∧ Parts H vs ps
  | _, _ => False
theorem PartAt.mono {H H' : Hp} (s : Same H H') {v : V} {p : Part} (h : PartAt H v p) : PartAt H' v p := by
  cases v with
  | ref t =>
    cases p with
    | wish ss n r =>
      obtain ⟨b, h1, h2⟩ := h
      exact ⟨b, s _ _ h1, s _ _ h2⟩
    | sing o => exact s _ _ h
    | out n => exact s _ _ h
  | _ => exact h.elim
theorem Parts.mono {H H' : Hp} (s : Same H H') : ∀ {vs : List V} {ps : List Part}, Parts H vs ps → Parts H' vs ps
  | [], [], _ => trivial
  | _ :: _, _ :: _, h => ⟨h.1.mono s, Parts.mono s h.2⟩
  | [], _ :: _, h => h.elim
  | _ :: _, [], h => h.elim
theorem Parts.snoc {H : Hp} {v : V} {p : Part} (q : PartAt H v p) : ∀ {vs : List V} {ps : List Part}, Parts H vs ps → Parts H (vs ++ [v]) (ps ++ [p])
  | [], [], _ => ⟨q, trivial⟩
  | _ :: _, _ :: _, h => ⟨h.1, Parts.snoc q h.2⟩
  | [], _ :: _, h => h.elim
  | _ :: _, [], h => h.elim
theorem Parts.len {H : Hp} : ∀ {vs : List V} {ps : List Part}, Parts H vs ps → vs.length = ps.length
  | [], [], _ => rfl
  | _ :: _, _ :: _, h => by simp [Parts.len h.2]
  | [], _ :: _, h => h.elim
  | _ :: _, [], h => h.elim
theorem Parts.get {H : Hp} : ∀ {vs : List V} {ps : List Part} {i : Nat} {v : V}, Parts H vs ps → vs[i]? = some v → ∃ p, ps[i]? = some p ∧ PartAt H v p
  | [], [], _, _, _, e => by simp at e
  | _ :: _, _ :: _, 0, _, h, e => by
    simp at e; subst e; exact ⟨_, rfl, h.1⟩
  | _ :: _, _ :: _, i + 1, v, h, e => by
    obtain ⟨p, h1, h2⟩ := Parts.get (i := i) (v := v) h.2 (by simpa using e)
    exact ⟨p, by simpa using h1, h2⟩
  | [], _ :: _, _, _, h, _ => h.elim
  | _ :: _, [], _, _, h, _ => h.elim
theorem Parts.of {H : Hp} : ∀ {vs : List V} {ps : List Part}, vs.length = ps.length → (∀ (i : Nat) v, vs[i]? = some v → ∃ p, ps[i]? = some p ∧ PartAt H v p) → Parts H vs ps
  | [], [], _, _ => trivial
  | v :: vs, p :: ps, hl, h => by
    obtain ⟨p', e, q⟩ := h 0 v rfl
    cases e
    exact ⟨q, Parts.of (by simpa using hl) fun i v' e => h (i + 1) v' (by simpa using e)⟩
  | [], _ :: _, h, _ => by simp at h
  | _ :: _, [], h, _ => by simp at h
theorem PartAt.dp {K : PySem.W.Frag} {H : Hp} {v : V} {p : Part} (h : PartAt H v p) : Dp K H v p.data := by
  cases v with
  | ref t =>
    cases p with
    | wish ss n r =>
      obtain ⟨b, h1, h2⟩ := h
      exact .tup (SqT.of h1) (.cons (.str _) (.cons (dp_ints (SqL.of h2)) (.cons (.int _) (.cons (.int _) .nil))))
    | sing o =>
      refine .tup (SqT.of h) (.cons (.str _) (.cons ?_ .nil))
      cases o with
      | none => exact .non
      | some n => exact .int n
    | out n => exact .tup (SqT.of h) (.cons (.str _) (.cons (.int _) .nil))
  | _ => exact h.elim
theorem Parts.dp {K : PySem.W.Frag} {H : Hp} : ∀ {vs : List V} {ps : List Part}, Parts H vs ps → DpAll K H vs (ps.map Part.data)
  | [], [], _ => .nil
  | _ :: _, _ :: _, h => .cons h.1.dp (Parts.dp h.2)
  | [], _ :: _, h => h.elim
  | _ :: _, [], h => h.elim
/-! #### shapes -/
theorem shp_part (p : Part) : Shp 3 p.data := by
  cases p with
  | wish ss n r =>
    refine shp_tuple fun x hx => ?_
    simp only [List.mem_cons, List.not_mem_nil, or_false] at hx
    rcases hx with rfl | rfl | rfl | rfl
    · exact shp_word (by decide +kernel)
    · exact shp_ints ss
    · exact shp_int _
    · exact shp_int _
  | sing o =>
    refine shp_tuple fun x hx => ?_
    simp only [List.mem_cons, List.not_mem_nil, or_false] at hx
    rcases hx with rfl | rfl
    · exact shp_word (by decide +kernel)
    · exact (shp_optD o).mono (by decide)
  | out n =>
    refine shp_tuple fun x hx => ?_
    simp only [List.mem_cons, List.not_mem_nil, or_false] at hx
    rcases hx with rfl | rfl
    · exact shp_word (by decide +kernel)
    · exact shp_int _
theorem shp_tale (ps : List Part) : Shp 4 (.list (ps.map Part.data)) := shp_list fun x hx => by
  obtain ⟨p, _, rfl⟩ := List.mem_map.mp hx
  exact shp_part p
end Song

/-! ### Ev4: an evening in the heap, and its methods -/
namespace Song
open PySem L2
/-- where an evening's lists stand -/
structure Ad where
  la : Addr
  ro : Addr
  wa : Addr
  ca : Addr
def own (p : Addr) (A : Ad) : List Addr := [p, A.la, A.ro, A.wa, A.ca]
def evF (A : Ad) (g : Int) : List (Str × V) := [("last", .ref A.la), ("going", .int g), ("rounds", .ref A.ro), ("waiting", .ref A.wa), ("came", .ref A.ca)]
theorem evF_last (A : Ad) (g : Int) : (evF A g).lookup ("last" : Str) = some (.ref A.la) := by kernel_rfl
theorem evF_going (A : Ad) (g : Int) : (evF A g).lookup ("going" : Str) = some (.int g) := by kernel_rfl
theorem evF_rounds (A : Ad) (g : Int) : (evF A g).lookup ("rounds" : Str) = some (.ref A.ro) := by kernel_rfl
theorem evF_waiting (A : Ad) (g : Int) : (evF A g).lookup ("waiting" : Str) = some (.ref A.wa) := by kernel_rfl
theorem evF_came (A : Ad) (g : Int) : (evF A g).lookup ("came" : Str) = some (.ref A.ca) := by kernel_rfl
theorem evF_put (A : Ad) (g g' : Int) : putF "going" (.int g') (evF A g) = evF A g' := by kernel_rfl
theorem evF_no (A : Ad) (g : Int) {m : Str} (h : m ∉ (["last", "going", "rounds", "waiting", "came"] : List Str)) : (evF A g).lookup m = none := by
  simp only [List.mem_cons, List.not_mem_nil, or_false, not_or] at h
  obtain ⟨h1, h2, h3, h4, h5⟩ := h
  unfold evF
  have f : ∀ {x : Str}, ¬ m = x → (m == x) = false := fun h => beq_eq_false_iff_ne.mpr h
  simp only [List.lookup, f h1, f h2, f h3, f h4, f h5]
structure Cells (C : Addr) (H : Hp) (p : Addr) (A : Ad) (last : List Int) (going : Int) (rounds waiting : List Int) (cs : List V) : Prop where
  pp : ∃ dx, H p = some (.ins C dx (evF A going))
  la : H A.la = some (.lst (last.map V.int))
  ro : H A.ro = some (.lst (rounds.map V.int))
  wa : H A.wa = some (.lst (waiting.map V.int))
  ca : H A.ca = some (.lst cs)
  nd : (own p A).Nodup
section
variable {C : Addr} {H H' : Hp} {p : Addr} {A : Ad} {last : List Int} {going : Int} {rounds waiting : List Int} {cs : List V}
theorem Cells.mono (s : Same H H') (c : Cells C H p A last going rounds waiting cs) : Cells C H' p A last going rounds waiting cs := by
  obtain ⟨⟨dx, h1⟩, h2, h3, h4, h5, nd⟩ := c
  exact ⟨⟨dx, s _ _ h1⟩, s _ _ h2, s _ _ h3, s _ _ h4, s _ _ h5, nd⟩
theorem Cells.ne (c : Cells C H p A last going rounds waiting cs) : p ≠ A.la ∧ p ≠ A.ro ∧ p ≠ A.wa ∧ p ≠ A.ca ∧ A.la ≠ A.ro ∧ A.la ≠ A.wa ∧ A.la ≠ A.ca ∧ A.ro ≠ A.wa ∧ A.ro ≠ A.ca ∧ A.wa ≠ A.ca := by
  have h := c.nd
  unfold own at h
  simp only [List.nodup_cons, List.mem_cons, List.not_mem_nil, or_false, not_or] at h
  obtain ⟨⟨a1, a2, a3, a4⟩, ⟨b1, b2, b3⟩, ⟨c1, c2⟩, d1, _⟩ := h
  exact ⟨a1, a2, a3, a4, b1, b2, b3, c1, c2, d1⟩
theorem Cells.putLa (c : Cells C H p A last going rounds waiting cs) (l : List Int) : Cells C (upd H A.la (.lst (l.map V.int))) p A l going rounds waiting cs := by
  obtain ⟨a1, a2, a3, a4, b1, b2, b3, c1, c2, d1⟩ := c.ne
  obtain ⟨⟨dx, h1⟩, h2, h3, h4, h5, nd⟩ := c
  exact ⟨⟨dx, by rw [upd_ne a1]; exact h1⟩, upd_same, by rw [upd_ne b1.symm]; exact h3, by rw [upd_ne b2.symm]; exact h4, by rw [upd_ne b3.symm]; exact h5, nd⟩
theorem Cells.putRo (c : Cells C H p A last going rounds waiting cs) (l : List Int) : Cells C (upd H A.ro (.lst (l.map V.int))) p A last going l waiting cs := by
  obtain ⟨a1, a2, a3, a4, b1, b2, b3, c1, c2, d1⟩ := c.ne
  obtain ⟨⟨dx, h1⟩, h2, h3, h4, h5, nd⟩ := c
  exact ⟨⟨dx, by rw [upd_ne a2]; exact h1⟩, by rw [upd_ne b1]; exact h2, upd_same, by rw [upd_ne c1.symm]; exact h4, by rw [upd_ne c2.symm]; exact h5, nd⟩
theorem Cells.putWa (c : Cells C H p A last going rounds waiting cs) (l : List Int) : Cells C (upd H A.wa (.lst (l.map V.int))) p A last going rounds l cs := by
  obtain ⟨a1, a2, a3, a4, b1, b2, b3, c1, c2, d1⟩ := c.ne
  obtain ⟨⟨dx, h1⟩, h2, h3, h4, h5, nd⟩ := c
  exact ⟨⟨dx, by rw [upd_ne a3]; exact h1⟩, by rw [upd_ne b2]; exact h2, by rw [upd_ne c1]; exact h3, upd_same, by rw [upd_ne d1.symm]; exact h5, nd⟩
theorem Cells.putCa (c : Cells C H p A last going rounds waiting cs) (l : List V) : Cells C (upd H A.ca (.lst l)) p A last going rounds waiting l := by
  obtain ⟨a1, a2, a3, a4, b1, b2, b3, c1, c2, d1⟩ := c.ne
  obtain ⟨⟨dx, h1⟩, h2, h3, h4, h5, nd⟩ := c
  exact ⟨⟨dx, by rw [upd_ne a4]; exact h1⟩, by rw [upd_ne b3]; exact h2, by rw [upd_ne c2]; exact h3, by rw [upd_ne d1]; exact h4, upd_same, nd⟩
theorem Cells.putGo (c : Cells C H p A last going rounds waiting cs) {dx : Addr} (g : Int) : Cells C (upd H p (.ins C dx (evF A g))) p A last g rounds waiting cs := by
  obtain ⟨a1, a2, a3, a4, b1, b2, b3, c1, c2, d1⟩ := c.ne
  obtain ⟨_, h2, h3, h4, h5, nd⟩ := c
  exact ⟨⟨dx, upd_same⟩, by rw [upd_ne a1.symm]; exact h2, by rw [upd_ne a2.symm]; exact h3, by rw [upd_ne a3.symm]; exact h4, by rw [upd_ne a4.symm]; exact h5, nd⟩
end
/-- the evening at p tells st; its parts lie outside of S, all that may change -/
structure Ev (K : PySem.W.Frag) (S : List Addr) (H : Hp) (p : Addr) (A : Ad) (st : EvS) : Prop where
  cell : ∃ cs, Cells (He.ga K "Evening") H p A st.last st.going st.rounds st.waiting cs ∧ Parts (off S H) cs st.tale
  sub : ∀ a ∈ own p A, a ∈ S
  dom : ∀ a ∈ S, ∃ o, H a = some o
  few : st.tale.length ≤ 900
theorem Ev.mono {K : PySem.W.Frag} {S : List Addr} {H H' : Hp} {p : Addr} {A : Ad} {st : EvS} (s : Same H H') (e : Ev K S H p A st) : Ev K S H' p A st := by
  obtain ⟨⟨cs, c, q⟩, sub, dom, few⟩ := e
  refine ⟨⟨cs, c.mono s, q.mono (off_mono s)⟩, sub, fun a ha => ?_, few⟩
  obtain ⟨o, h⟩ := dom a ha
  exact ⟨o, s _ _ h⟩
theorem memA (p : Addr) (A : Ad) : p ∈ own p A ∧ A.la ∈ own p A ∧ A.ro ∈ own p A ∧ A.wa ∈ own p A ∧ A.ca ∈ own p A := by
  unfold own; simp
section
variable {P : Program} {w : World} {K : PySem.W.Frag} {mg : Str → Option Value} {base : Heap}
/-! #### Evening(many) -/
theorem sc_Evening___init__ : FnScope ["self", "many"] ["self", "many"] (defScope s_Evening___init__) := ⟨rfl, rfl, rfl, by decide +kernel, rfl, by decide +kernel, by decide +kernel⟩
def sp_ev_init (K : PySem.W.Frag) : Sp := fun vs H Q _ => ∃ (p dx : Addr) (n : Int), vs = [.ref p, .int n] ∧ 1 ≤ n ∧ n ≤ 6 ∧ H p = some (.ins (He.ga K "Evening") dx []) ∧
  ∀ H' A, Fra [p] H H' → Cells (He.ga K "Evening") H' p A (List.replicate n.toNat 0) 1 [] [] [] → H A.la = none → H A.ro = none → H A.wa = none → H A.ca = none → Q .non H'
theorem fra_free {H H' : Hp} {p b : Addr} {o : HO} (f : Fra [p] H H') (hp : H p = some o) (nb : H' b = none) : (H b = none ∨ b = p) := by
  by_cases e : b = p
  · exact .inr e
  · refine .inl ?_
    cases q : H b with
    | none => rfl
    | some o => rw [f.one e q] at nb; cases nb
theorem mk_Evening (T : Tx K mg) : Mke P w K mg base "Evening" (He.ga K "Evening") 3 (sp_ev_init K) := by
  obtain ⟨fd, F⟩ := T.d_Evening___init__
  refine ⟨_, fd, _, F.ok (CX := CX0) sc_Evening___init__ (fun vs H Q E h => ?_) (fun cdv A outer s H vs Q E hr h => ?_), T.mk_Evening, T.g_Evening, F.bindsN fun _ _ _ _ _ _ us hl => match us, hl with | [_, _], _ => rfl⟩
  · obtain ⟨p, dx, n, rfl, _⟩ := h; rfl
  · obtain ⟨p, dx, n, rfl, h1, h6, hp, q⟩ := h
    refine ⟨_, PSs.nox (pss_cons (ps_expr (pe_fn (fn_check_many T) (hr.mono (by first | decide | omega)) (by rfl) (pa_cons (pv 1) pa_nil)))
      (pss_cons (show PS _ _ (sFld K _ _ _) from ps_fld (pv 0) (pe_op op_rep (pe_lst (pa_cons pe_int pa_nil)) (pv 1)) rfl)
      (pss_cons (show PS _ _ (sFld K _ _ _) from ps_fld (pv 0) pe_int rfl)
      (pss_cons (show PS _ _ (sFld K _ _ _) from ps_fld (pv 0) (pe_lst pa_nil) rfl)
      (pss_cons (show PS _ _ (sFld K _ _ _) from ps_fld (pv 0) (pe_lst pa_nil) rfl)
      (pss_one (show PS _ _ (sFld K _ _ _) from ps_fld (pv 0) (pe_lst pa_nil) rfl))))))), ?_⟩
    refine ⟨_, rfl, n, rfl, h1, h6, ?_⟩
    refine ⟨by show 1 ≤ sizeLine; decide, fun z nz => ?_⟩
    refine to_new nz fun H1 s1 hz => ?_
    refine ⟨_, rfl, z, n, _, rfl, rfl, hz, by omega, by omega, ?_, fun a na => ?_⟩
    · show 1 * n.toNat ≤ sizeLine
      have : sizeLine = 16777216 := by decide
      omega
    rw [rep_flat]
    refine to_new na fun H2 s2 ha => ?_
    have hp2 := s2 _ _ (s1 _ _ hp)
    have npa : p ≠ a := ne_of_none (s1 _ _ hp) na
    refine ⟨_, rfl, p, _, dx, _, rfl, hp2, T.cls_Evening, T.na_Evening_last, by show 0 < 1000; decide, ?_⟩
    refine to_put fun H3 f3 hp3 => ?_
    have ha3 := f3.one npa.symm ha
    refine ⟨_, rfl, p, _, dx, _, rfl, hp3, T.cls_Evening, T.na_Evening_going, by show 1 < 1000; decide, ?_⟩
    refine to_put fun H4 f4 hp4 => ?_
    have ha4 := f4.one npa.symm ha3
    refine ⟨Nat.zero_le _, fun b nb => ?_⟩
    refine to_new nb fun H5 s5 hb => ?_
    have npb : p ≠ b := ne_of_none hp4 nb
    have nab : a ≠ b := ne_of_none ha4 nb
    refine ⟨_, rfl, p, _, dx, _, rfl, s5 _ _ hp4, T.cls_Evening, T.na_Evening_rounds, by show 2 < 1000; decide, ?_⟩
    refine to_put fun H6 f6 hp6 => ?_
    have ha6 := f6.one npa.symm (s5 _ _ ha4)
    have hb6 := f6.one npb.symm hb
    refine ⟨Nat.zero_le _, fun c nc => ?_⟩
    refine to_new nc fun H7 s7 hc => ?_
    have npc : p ≠ c := ne_of_none hp6 nc
    have nac : a ≠ c := ne_of_none ha6 nc
    have nbc : b ≠ c := ne_of_none hb6 nc
    refine ⟨_, rfl, p, _, dx, _, rfl, s7 _ _ hp6, T.cls_Evening, T.na_Evening_waiting, by show 3 < 1000; decide, ?_⟩
    refine to_put fun H8 f8 hp8 => ?_
    have ha8 := f8.one npa.symm (s7 _ _ ha6)
    have hb8 := f8.one npb.symm (s7 _ _ hb6)
    have hc8 := f8.one npc.symm hc
    refine ⟨Nat.zero_le _, fun d nd => ?_⟩
    refine to_new nd fun H9 s9 hd => ?_
    have npd : p ≠ d := ne_of_none hp8 nd
    have nad : a ≠ d := ne_of_none ha8 nd
    have nbd : b ≠ d := ne_of_none hb8 nd
    have ncd : c ≠ d := ne_of_none hc8 nd
    refine ⟨_, rfl, p, _, dx, _, rfl, s9 _ _ hp8, T.cls_Evening, T.na_Evening_came, by show 4 < 1000; decide, ?_⟩
    refine to_put fun H10 f10 hp10 => ?_
    have fr2 : Fra [p] H H2 := Fra.of (s1.trans s2)
    have fr4 : Fra [p] H H4 := (fr2.trans f3).trans f4
    have fr6 : Fra [p] H H6 := (fr4.trans (Fra.of s5)).trans f6
    have fr8 : Fra [p] H H8 := (fr6.trans (Fra.of s7)).trans f8
    have fr10 : Fra [p] H H10 := (fr8.trans (Fra.of s9)).trans f10
    refine q H10 ⟨a, b, c, d⟩ fr10 ⟨⟨dx, ?_⟩, ?_, ?_, ?_, ?_, ?_⟩ (s1.free na) ((fra_free fr4 hp nb).resolve_right npb.symm) ((fra_free fr6 hp nc).resolve_right npc.symm) ((fra_free fr8 hp nd).resolve_right npd.symm)
    · rw [hp10]; exact congrArg some (congrArg (HO.ins _ dx) (by kernel_rfl))
    · exact f10.one npa.symm (s9 _ _ (by rw [← rep_ints]; exact ha8))
    · exact f10.one npb.symm (s9 _ _ hb8)
    · exact f10.one npc.symm (s9 _ _ hc8)
    · exact f10.one npd.symm hd
    · show [p, a, b, c, d].Nodup
      simp only [List.nodup_cons, List.mem_cons, List.not_mem_nil, or_false, not_or]
      exact ⟨⟨npa, npb, npc, npd⟩, ⟨nab, nac, nad⟩, ⟨nbc, nbd⟩, ncd, not_false, List.nodup_nil⟩
end
end Song

/-! ### Ev5: wish, sing, withdraw and the rest -/
namespace Song
open PySem L2
section
variable {C : Addr} {H : Hp} {p : Addr} {A : Ad} {last : List Int} {going : Int} {rounds waiting : List Int} {cs : List V} {Q : Hp → Prop}
@[elab_as_elim] theorem to_la (c : Cells C H p A last going rounds waiting cs) (l : List Int) (h : ∀ H', Fra (own p A) H H' → Cells C H' p A l going rounds waiting cs → Q H') : Q (upd H A.la (.lst (l.map V.int))) :=
  h _ (Fra.put (memA p A).2.1) (c.putLa l)
@[elab_as_elim] theorem to_ro (c : Cells C H p A last going rounds waiting cs) (l : List Int) (h : ∀ H', Fra (own p A) H H' → Cells C H' p A last going l waiting cs → Q H') : Q (upd H A.ro (.lst (l.map V.int))) :=
  h _ (Fra.put (memA p A).2.2.1) (c.putRo l)
@[elab_as_elim] theorem to_wa (c : Cells C H p A last going rounds waiting cs) (l : List Int) (h : ∀ H', Fra (own p A) H H' → Cells C H' p A last going rounds l cs → Q H') : Q (upd H A.wa (.lst (l.map V.int))) :=
  h _ (Fra.put (memA p A).2.2.2.1) (c.putWa l)
@[elab_as_elim] theorem to_ca (c : Cells C H p A last going rounds waiting cs) (l : List V) (h : ∀ H', Fra (own p A) H H' → Cells C H' p A last going rounds waiting l → (∀ b o, b ≠ A.ca → H b = some o → H' b = some o) → Q H') : Q (upd H A.ca (.lst l)) :=
  h _ (Fra.put (memA p A).2.2.2.2) (c.putCa l) fun b o n e => by rw [upd_ne n]; exact e
@[elab_as_elim] theorem to_go (c : Cells C H p A last going rounds waiting cs) (dx : Addr) (g : Int) (h : ∀ H', Fra (own p A) H H' → Cells C H' p A last g rounds waiting cs → Q H') : Q (upd H p (.ins C dx (evF A g))) :=
  h _ (Fra.put (memA p A).1) (c.putGo g)
end
theorem Cells.dom {C : Addr} {H H' : Hp} {p : Addr} {A : Ad} {last : List Int} {going : Int} {rounds waiting : List Int} {cs : List V} {S : List Addr} (c : Cells C H' p A last going rounds waiting cs) (f : Fra (own p A) H H')
    (d : ∀ a ∈ S, ∃ o, H a = some o) : ∀ a ∈ S, ∃ o, H' a = some o := fun a ha => by
  by_cases q : a ∈ own p A
  · unfold own at q
    simp only [List.mem_cons, List.not_mem_nil, or_false] at q
    obtain ⟨dx, hp⟩ := c.pp
    rcases q with e | e | e | e | e
    · rw [e]; exact ⟨_, hp⟩
    · rw [e]; exact ⟨_, c.la⟩
    · rw [e]; exact ⟨_, c.ro⟩
    · rw [e]; exact ⟨_, c.wa⟩
    · rw [e]; exact ⟨_, c.ca⟩
  · obtain ⟨o, h⟩ := d a ha
    exact ⟨o, f a o q h⟩
section
variable {P : Program} {w : World} {K : PySem.W.Frag} {mg : Str → Option Value} {base : Heap}
theorem sc_Evening_wish : FnScope ["self", "singers", "song", "number", "singer"] ["self", "singers"] (defScope s_Evening_wish) := ⟨rfl, rfl, rfl, by decide +kernel, rfl, by decide +kernel, by decide +kernel⟩
def sp_wish (K : PySem.W.Frag) : Sp := fun vs H Q _ => ∃ (S : List Addr) (p a : Addr) (A : Ad) (st : EvS) (ss : List Int), vs = [.ref p, .ref a] ∧ Ev K S H p A st ∧ EvOk st ∧ st.tale.length < 900 ∧ SqL K (off (own p A) H) a (ss.map V.int) ∧
  areSingers ss st.last.length = true ∧ st.rounds.length < 24 ∧
  ∀ H' t, Fra (own p A) H H' → Ev K S H' p A (st.wish ss) → H t = none → H' t = some (.tup [.int st.rounds.length, .int (st.num ss)]) → Q (.ref t) H'
theorem me_Evening_wish (T : Tx K mg) : Me P w K mg base (He.ga K "Evening") "wish" 4 (sp_wish K) := by
  obtain ⟨fd, F⟩ := T.d_Evening_wish
  refine ⟨_, fd, _, F.ok (CX := CX0) sc_Evening_wish (fun vs H Q E h => ?_) (fun cdv A outer s H vs Q E hr h => ?_), T.cls_Evening, T.me_Evening_wish, F.bindsN fun _ _ _ _ _ _ us hl => match us, hl with | [_, _], _ => rfl⟩
  · obtain ⟨S, p, a, A, st, ss, rfl, _⟩ := h; rfl
  · obtain ⟨S, p, a, A', st, ss, rfl, ev, ok, hlt, hs, hA, h24, q⟩ := h
    obtain ⟨⟨cs, c, hq⟩, sub, dom, few⟩ := ev
    obtain ⟨s1, s3, sin, _⟩ := areS_len hA
    have hsH : SqL K H a (ss.map V.int) := (off_le _ H).seq hs
    have idS : ∀ x ∈ own p A', x ∈ own p A' := fun _ h => h
    refine ⟨_, PSs.nox (pss_cons (ps_if (pt_not (pt_val (pe_fn (fn_are_singers T) (hr.mono (by first | decide | omega)) (by rfl) (pa_cons (pv 1) (pa_cons (pe_callB (show CallR _ _ (rLenQ K) from call_len_seq) (by rfl) T.len (by decide +kernel) (pa_cons (show PE _ _ (tFld K _ _) from pe_fld (pv 0) rfl) pa_nil)) pa_nil))))) (pss_one ps_never) pss_nil)
      (pss_cons (ps_if (pt_cmpR op_eq (pe_callB (show CallR _ _ (rLenQ K) from call_len_seq) (by rfl) T.len (by decide +kernel) (pa_cons (show PE _ _ (tFld K _ _) from pe_fld (pv 0) rfl) pa_nil)) (pe_gi T.c_MOST_SONGS (by rfl)) (nomark _)) (pss_one ps_never) pss_nil)
      (pss_cons (ps_par (i := 2) (j := 3) (by rfl) sc_Evening_wish.nd rfl rfl (by decide) rfl rfl (pa_cons (pe_callB (show CallR _ _ (rLenQ K) from call_len_seq) (by rfl) T.len (by decide +kernel) (pa_cons (show PE _ _ (tFld K _ _) from pe_fld (pv 0) rfl) pa_nil)) (pa_cons (pe_fn (fn_round_for T) (hr.mono (by first | decide | omega)) (by rfl) (pa_cons (show PE _ _ (tFld K _ _) from pe_fld (pv 0) rfl) (pa_cons (show PE _ _ (tFld K _ _) from pe_fld (pv 0) rfl) (pa_cons (pv 1) pa_nil)))) pa_nil)) (by rfl))
      (pss_cons (ps_expr (show PE _ _ (tBM K _ _ _ _) from pe_bm PySem.F.plainAttrs_list PySem.F.slot_list_append PySem.F.type_list_append mt_append (show PE _ _ (tFld K _ _) from pe_fld (pv 0) rfl) (pa_cons (pv 3) pa_nil)))
      (pss_cons (ps_expr (show PE _ _ (tBM K _ _ _ _) from pe_bm PySem.F.plainAttrs_list PySem.F.slot_list_append PySem.F.type_list_append mt_append (show PE _ _ (tFld K _ _) from pe_fld (pv 0) rfl) (pa_cons (pv 2) pa_nil)))
      (pss_cons (ps_for PassesOwn.never rfl (show PI _ _ _ (iList K _) from pi_list (pv 1)) (pg_name (i := 4) sc_Evening_wish.nd rfl (by first | exact Or.inl rfl | exact Or.inr rfl))
      (pss_one (ps_asg (pv 3) (pg_sub (show PE _ _ (tFld K _ _) from pe_fld (pv 0) rfl) (pv 4) set_list))))
      (pss_cons (ps_expr (show PE _ _ (tBM K _ _ _ _) from pe_bm PySem.F.plainAttrs_list PySem.F.slot_list_append PySem.F.type_list_append mt_append (show PE _ _ (tFld K _ _) from pe_fld (pv 0) rfl) (pa_cons (pe_tup (pa_cons pe_str (pa_cons (pe_callTy (show CallR _ _ (rListO K) from call_list_of) (by rfl) T.list (by decide +kernel) (pa_cons (pv 1) pa_nil)) (pa_cons (pv 2) (pa_cons (pv 3) pa_nil))))) pa_nil)))
      (pss_one (ps_ret (pe_tup (pa_cons (pv 2) (pa_cons (pv 3) pa_nil)))))))))))), ?_⟩
    obtain ⟨dx, hp⟩ := c.pp
    refine ⟨_, rfl, _, rfl, p, _, dx, _, _, rfl, hp, T.cls_Evening, T.na_Evening_last, evF_last _ _, A'.la, _, rfl, .inl (SqL.of c.la), a, ss, _, rfl, hsH, by omega, fun H1 t1 => ?_⟩
    rw [List.length_map, hA]
    refine ⟨_, rfl, iteF ?_⟩
    have c1 := c.mono t1
    have hp1 := t1 _ _ hp
    refine ⟨_, rfl, p, _, dx, _, _, rfl, hp1, T.cls_Evening, T.na_Evening_rounds, evF_rounds _ _, A'.ro, _, rfl, .inl (SqL.of c1.ro), rfl, _, rfl, ?_⟩
    rw [List.length_map, decide_eq_false (by intro z; injection z; omega)]
    refine iteF ?_
    refine ⟨_, rfl, p, _, dx, _, _, rfl, hp1, T.cls_Evening, T.na_Evening_rounds, evF_rounds _ _, A'.ro, _, rfl, .inl (SqL.of c1.ro), ?_⟩
    rw [List.length_map]
    refine ⟨_, rfl, p, _, dx, _, _, rfl, hp1, T.cls_Evening, T.na_Evening_last, evF_last _ _, _, rfl, p, _, dx, _, _, rfl, hp1, T.cls_Evening, T.na_Evening_going, evF_going _ _, _, rfl,
      A'.la, a, st.last, ss, st.going, rfl, SqL.of c1.la, t1.seq hsH, sin, (fun e => by rw [e] at s1; simp at s1), by omega, fun H2 t2 => ?_⟩
    have c2 := c1.mono t2
    have t12 := t1.trans t2
    refine ⟨_, _, rfl, ?_⟩
    have hp2 := t2 _ _ hp1
    refine ⟨_, rfl, p, _, dx, _, _, rfl, hp2, T.cls_Evening, T.na_Evening_rounds, evF_rounds _ _, .inl ⟨rfl, _, SqL.of c2.ro⟩, _, rfl, A'.ro, _, _, rfl, rfl, c2.ro, lt_line (by rw [List.length_map]; omega), ?_⟩
    rw [← snoc_ints]
    refine to_ro c2 _ fun H3 f3 c3 => ?_
    obtain ⟨dx3, hp3⟩ := c3.pp
    refine ⟨_, rfl, p, _, dx3, _, _, rfl, hp3, T.cls_Evening, T.na_Evening_waiting, evF_waiting _ _, .inl ⟨rfl, _, SqL.of c3.wa⟩, _, rfl, A'.wa, _, _, rfl, rfl, c3.wa, lt_line (by rw [List.length_map]; have := ok.w24; omega), ?_⟩
    rw [← snoc_ints]
    refine to_wa c3 _ fun H4 f4 c4 => ?_
    have fr4 : Fra (own p A') H H4 := ((Fra.of t12).trans f3).trans f4
    refine ⟨_, rfl, a, rfl, ⟨_, (fr4.le idS).seq hs⟩, for_list (K := K) (a := a) (xs := ss.map V.int)
      (fun i σ H' => (∃ x, σ = [some (.ref p), some (.ref a), some (.int st.rounds.length), some (.int (st.num ss)), x]) ∧ Fra (own p A') H H' ∧
        Cells (He.ga K "Evening") H' p A' (setAll st.last (ss.take i) (st.num ss)) st.going (st.rounds ++ [st.num ss]) (st.waiting ++ [(st.rounds.length : Int)]) cs) ⟨⟨_, rfl⟩, fr4, c4⟩ ?_ ?_ ?_⟩
    · intro i σ H' _ h
      exact (h.2.1.le idS).seq hs
    · rintro i x σ H' hx ⟨⟨y, rfl⟩, fr, ci⟩
      obtain ⟨s, rfl, hsi⟩ := int_at hx
      obtain ⟨h0, h1⟩ := sin s (List.mem_of_getElem? hsi)
      obtain ⟨dxi, hpi⟩ := ci.pp
      refine ⟨_, rfl, _, rfl, p, _, dxi, _, _, rfl, hpi, T.cls_Evening, T.na_Evening_last, evF_last _ _, _, rfl, A'.la, _, _, _, rfl, rfl, ci.la, ixN_of h0 (by rw [List.length_map, setAll_len]; exact h1), ?_⟩
      rw [← List.map_set]
      refine to_la ci _ fun H5 f5 c5 => ?_
      refine ⟨⟨_, rfl⟩, fr.trans f5, ?_⟩
      rw [List.take_add_one, hsi]
      show Cells _ _ _ _ (setAll st.last (ss.take i ++ [s]) _) _ _ _ _
      rw [setAll_snoc]
      exact c5
    · rintro σ H5 ⟨⟨y, rfl⟩, fr5, c5⟩
      rw [List.length_map, List.take_length] at c5
      obtain ⟨dx5, hp5⟩ := c5.pp
      refine ⟨_, rfl, p, _, dx5, _, _, rfl, hp5, T.cls_Evening, T.na_Evening_came, evF_came _ _, .inl ⟨rfl, _, SqL.of c5.ca⟩, _, rfl, a, _, rfl, .inl ((fr5.le idS).seq hs), fun b nb => ?_⟩
      refine to_new nb fun H6 s6 hb => ?_
      refine ⟨_, rfl, _, rfl, by show 4 ≤ sizeLine; decide, fun t nt => ?_⟩
      refine to_new nt fun H7 s7 ht => ?_
      have c7 := c5.mono (s6.trans s7)
      have fr7 : Fra (own p A') H H7 := fr5.trans (Fra.of (s6.trans s7))
      refine ⟨A'.ca, _, _, rfl, rfl, c7.ca, lt_line (by rw [hq.len]; omega), ?_⟩
      refine to_ca c7 _ fun H8 f8 c8 kp => ?_
      have fr8 : Fra (own p A') H H8 := fr7.trans f8
      refine ⟨_, rfl, _, rfl, by show 2 ≤ sizeLine; decide, fun u nu => ?_⟩
      refine to_new nu fun H9 s9 hu => ?_
      have dom5 := c5.dom fr5 dom
      have dom6 := dom_same s6 dom5
      have bS : b ∉ S := new_out dom5 nb
      have tS : t ∉ S := new_out dom6 nt
      have fr9 : Fra (own p A') H H9 := fr8.trans (Fra.of s9)
      refine q H9 u fr9 ⟨⟨_, c8.mono s9, ?_⟩, sub, dom_same s9 (c8.dom fr8 dom), ?_⟩ ?_ hu
      · refine Parts.snoc ?_ (hq.mono (Fra.off (fr9.mono sub)))
        have nca : ∀ x : Addr, x ∉ S → x ≠ A'.ca := fun x hx e => hx (by rw [e]; exact sub _ (memA p A').2.2.2.2)
        exact ⟨b, by rw [off_out tS]; exact s9 _ _ (kp _ _ (nca t tS) ht), by rw [off_out bS]; exact s9 _ _ (kp _ _ (nca b bS) (s7 _ _ hb))⟩
      · show (st.tale ++ [_]).length ≤ 900
        rw [List.length_append, List.length_singleton]; omega
      · have uS : u ∉ S := new_out (c8.dom fr8 dom) nu
        cases e : H u with
        | none => rfl
        | some o => rw [fr8 u o (fun z => uS (sub u z)) e] at nu; cases nu
end
end Song

/-! ### Ev6: sing, withdraw, waits, tale -/
namespace Song
open PySem L2
theorem Ev.free {K : PySem.W.Frag} {S : List Addr} {H H' : Hp} {p : Addr} {A : Ad} {st : EvS} {u : Addr} (ev : Ev K S H p A st) (f : Fra (own p A) H H') (d : ∀ a ∈ S, ∃ o, H' a = some o) (nu : H' u = none) : H u = none := by
  have uS : u ∉ S := new_out d nu
  cases e : H u with
  | none => rfl
  | some o => rw [f u o (fun z => uS (ev.sub u z)) e] at nu; cases nu
section
variable {P : Program} {w : World} {K : PySem.W.Frag} {mg : Str → Option Value} {base : Heap}
theorem sc_Evening_sing : FnScope ["self", "turns", "song"] ["self"] (defScope s_Evening_sing) := ⟨rfl, rfl, rfl, by decide +kernel, rfl, by decide +kernel, by decide +kernel⟩
def sp_sing (K : PySem.W.Frag) : Sp := fun vs H Q _ => ∃ (S : List Addr) (p : Addr) (A : Ad) (st : EvS), vs = [.ref p] ∧ Ev K S H p A st ∧ EvOk st ∧ st.tale.length < 900 ∧
  ∀ H', Fra (own p A) H H' → Ev K S H' p A st.sing → Q (optV st.next) H'
theorem me_Evening_sing (T : Tx K mg) : Me P w K mg base (He.ga K "Evening") "sing" 2 (sp_sing K) := by
  obtain ⟨fd, F⟩ := T.d_Evening_sing
  refine ⟨_, fd, _, F.ok (CX := CX0) sc_Evening_sing (fun vs H Q E h => ?_) (fun cdv A outer s H vs Q E hr h => ?_), T.cls_Evening, T.me_Evening_sing, F.bindsN fun _ _ _ _ _ _ us hl => match us, hl with | [_], _ => rfl⟩
  · obtain ⟨S, p, A, st, rfl, _⟩ := h; rfl
  · obtain ⟨S, p, A', st, rfl, ev, ok, hlt, q⟩ := h
    obtain ⟨⟨cs, c, hq⟩, sub, dom, few⟩ := id ev
    refine ⟨_, PSs.nox (pss_cons (ps_set (i := 1) sc_Evening_sing.nd rfl (by first | exact Or.inl rfl | exact Or.inr rfl) (pe_fn (fn_in_turn T) (hr.mono (by first | decide | omega)) (by rfl) (pa_cons (show PE _ _ (tFld K _ _) from pe_fld (pv 0) rfl) (pa_cons (show PE _ _ (tFld K _ _) from pe_fld (pv 0) rfl) pa_nil))))
      (pss_cons (ps_set (i := 2) sc_Evening_sing.nd rfl (by first | exact Or.inl rfl | exact Or.inr rfl) (pe_ifExp (pt_cmpR (show OpR _ _ (rNeD K) from op_neD hr.units) (pv 1) (pe_lst pa_nil) (nomark _)) (pe_ix (show IxR _ (rIxL K) from ix_list) (pv 1) pe_int (fun _ _ => rfl)) pe_non))
      (pss_cons (ps_if (pt_cmpR op_notN (pv 2) pe_non (nomark _)) (pss_cons (ps_expr (show PE _ _ (tBM K _ _ _ _) from pe_bm PySem.F.plainAttrs_list PySem.F.slot_list_remove PySem.F.type_list_remove mt_remove (show PE _ _ (tFld K _ _) from pe_fld (pv 0) rfl) (pa_cons (pv 2) pa_nil)))
      (pss_one (show PS _ _ (sFld K _ _ _) from ps_fld (pv 0) (pe_ix (show IxR _ (rIxL K) from ix_list) (show PE _ _ (tFld K _ _) from pe_fld (pv 0) rfl) (pv 2) (fun _ _ => rfl)) rfl))) pss_nil)
      (pss_cons (ps_expr (show PE _ _ (tBM K _ _ _ _) from pe_bm PySem.F.plainAttrs_list PySem.F.slot_list_append PySem.F.type_list_append mt_append (show PE _ _ (tFld K _ _) from pe_fld (pv 0) rfl) (pa_cons (pe_tup (pa_cons pe_str (pa_cons (pv 2) pa_nil))) pa_nil)))
      (pss_one (ps_ret (pv 2))))))), ?_⟩
    obtain ⟨dx, hp⟩ := c.pp
    refine ⟨_, rfl, p, _, dx, _, _, rfl, hp, T.cls_Evening, T.na_Evening_rounds, evF_rounds _ _, _, rfl, p, _, dx, _, _, rfl, hp, T.cls_Evening, T.na_Evening_waiting, evF_waiting _ _,
      A'.ro, A'.wa, st.rounds, st.waiting, rfl, SqL.of c.ro, SqL.of c.wa, ok.inb, by have := ok.w24; omega, fun l H1 nl s1 hl => ?_⟩
    have e0 : inTurn st.rounds st.waiting = st.queue := rfl
    rw [e0] at hl
    refine ⟨_, rfl, Nat.zero_le _, fun l2 nl2 => ?_⟩
    refine to_new nl2 fun H2 s2 hl2 => ?_
    refine ⟨_, _, dp_ints (SqL.of (s2 _ _ hl)), .lst (SqL.of hl2) .nil, (shp_ints _).ok, shp_nil.ok, _, rfl, ?_⟩
    rw [eqv_nil]
    have c2 := c.mono (s1.trans s2)
    have fr2 : Fra (own p A') H H2 := Fra.of (s1.trans s2)
    obtain ⟨dx2, hp2⟩ := c2.pp
    cases e : st.queue with
    | nil =>
      have en : st.next = none := by unfold EvS.next; rw [e]; rfl
      have es : st.sing = { st with tale := st.tale ++ [.sing none] } := by unfold EvS.sing; rw [en]
      refine iteF ⟨_, rfl, rfl, _, rfl, iteF ?_⟩
      refine ⟨_, rfl, p, _, dx2, _, _, rfl, hp2, T.cls_Evening, T.na_Evening_came, evF_came _ _, .inl ⟨rfl, _, SqL.of c2.ca⟩, _, rfl, by show 2 ≤ sizeLine; decide, fun t nt => ?_⟩
      refine to_new nt fun H3 s3 ht => ?_
      have c3 := c2.mono s3
      refine ⟨A'.ca, _, _, rfl, rfl, c3.ca, lt_line (by rw [hq.len]; omega), ?_⟩
      refine to_ca c3 _ fun H4 f4 c4 kp => ?_
      have fr4 : Fra (own p A') H H4 := (fr2.trans (Fra.of s3)).trans f4
      refine ⟨_, rfl, ?_⟩
      have tS : t ∉ S := new_out (c2.dom fr2 dom) nt
      rw [en, es] at q
      refine q H4 fr4 ⟨⟨_, c4, Parts.snoc ?_ (hq.mono (Fra.off (fr4.mono sub)))⟩, sub, c4.dom fr4 dom, ?_⟩
      · show off S H4 t = _
        rw [off_out tS]
        exact kp _ _ (fun z => tS (by rw [z]; exact sub _ (memA p A').2.2.2.2)) ht
      · show (st.tale ++ [_]).length ≤ 900
        rw [List.length_append, List.length_singleton]; omega
    | cons x r =>
      have en : st.next = some x := by unfold EvS.next; rw [e]; rfl
      have hx := EvS.next_mem en
      obtain ⟨h0, h1⟩ := ok.inb x hx
      obtain ⟨j, j1, j2, j3⟩ := erase_at hx
      rw [e] at hl
      refine iteT ⟨_, rfl, l, _, _, _, rfl, rfl, SqL.of (s2 _ _ hl), atI_nat (j := 0) rfl, ?_⟩
      refine ⟨_, rfl, rfl, _, rfl, iteT ?_⟩
      refine ⟨_, rfl, p, _, dx2, _, _, rfl, hp2, T.cls_Evening, T.na_Evening_waiting, evF_waiting _ _, .inl ⟨rfl, _, SqL.of c2.wa⟩, _, rfl, A'.wa, _, _, j, rfl, rfl, c2.wa, j1, j2, ?_⟩
      rw [j3]
      refine to_wa c2 _ fun H3 f3 c3 => ?_
      obtain ⟨dx3, hp3⟩ := c3.pp
      refine ⟨_, rfl, p, _, dx3, _, _, rfl, hp3, T.cls_Evening, T.na_Evening_rounds, evF_rounds _ _, _, rfl, A'.ro, _, _, _, rfl, rfl, SqL.of c3.ro, at_int h0 h1,
        _, rfl, p, _, dx3, _, rfl, hp3, T.cls_Evening, T.na_Evening_going, by show 5 < 1000; decide, ?_⟩
      rw [evF_put]
      refine to_go c3 dx3 _ fun H4 f4 c4 => ?_
      obtain ⟨dx4, hp4⟩ := c4.pp
      have fr4 : Fra (own p A') H H4 := (fr2.trans f3).trans f4
      refine ⟨_, rfl, p, _, dx4, _, _, rfl, hp4, T.cls_Evening, T.na_Evening_came, evF_came _ _, .inl ⟨rfl, _, SqL.of c4.ca⟩, _, rfl, by show 2 ≤ sizeLine; decide, fun t nt => ?_⟩
      refine to_new nt fun H5 s5 ht => ?_
      have c5 := c4.mono s5
      refine ⟨A'.ca, _, _, rfl, rfl, c5.ca, lt_line (by rw [hq.len]; omega), ?_⟩
      refine to_ca c5 _ fun H6 f6 c6 kp => ?_
      have fr6 : Fra (own p A') H H6 := (fr4.trans (Fra.of s5)).trans f6
      refine ⟨_, rfl, ?_⟩
      have tS : t ∉ S := new_out (c4.dom fr4 dom) nt
      have es : st.sing = { st with waiting := st.waiting.erase x, going := st.rounds.getD x.toNat 0, tale := st.tale ++ [.sing (some x)] } := by unfold EvS.sing; rw [en]
      rw [en, es] at q
      refine q H6 fr6 ⟨⟨_, c6, Parts.snoc ?_ (hq.mono (Fra.off (fr6.mono sub)))⟩, sub, c6.dom fr6 dom, ?_⟩
      · show off S H6 t = _
        rw [off_out tS]
        exact kp _ _ (fun z => tS (by rw [z]; exact sub _ (memA p A').2.2.2.2)) ht
      · show (st.tale ++ [_]).length ≤ 900
        rw [List.length_append, List.length_singleton]; omega
theorem sc_Evening_look_at : FnScope ["self", "song"] ["self", "song"] (defScope s_Evening_look_at) := ⟨rfl, rfl, rfl, by decide +kernel, rfl, by decide +kernel, by decide +kernel⟩
def sp_look_at (K : PySem.W.Frag) : Sp := fun vs H Q _ => ∃ (S : List Addr) (p : Addr) (A : Ad) (st : EvS) (n : Int), vs = [.ref p, .int n] ∧ Ev K S H p A st ∧ n ∈ st.waiting ∧ Q .non H
theorem me_Evening_look_at (T : Tx K mg) : Me P w K mg base (He.ga K "Evening") "look_at" 2 (sp_look_at K) := by
  obtain ⟨fd, F⟩ := T.d_Evening_look_at
  refine ⟨_, fd, _, F.ok (CX := CX0) sc_Evening_look_at (fun vs H Q E h => ?_) (fun cdv A outer s H vs Q E hr h => ?_), T.cls_Evening, T.me_Evening_look_at, F.bindsN fun _ _ _ _ _ _ us hl => match us, hl with | [_, _], _ => rfl⟩
  · obtain ⟨S, p, A, st, n, rfl, _⟩ := h; rfl
  · obtain ⟨S, p, A', st, n, rfl, ev, hn, q⟩ := h
    obtain ⟨⟨cs, c, hq⟩, sub, dom, few⟩ := ev
    refine ⟨_, PSs.nox (pss_one (ps_if (PW.pt (pw_or (pt_not (pt_val (pe_fn (fn_is_whole T) (hr.mono (by first | decide | omega)) (by rfl) (pa_cons (pv 1) pa_nil)))) (pw_or1 (pt_cmpR (show OpR _ _ (rIn K true) from op_notIn_seq) (pv 1) (show PE _ _ (tFld K _ _) from pe_fld (pv 0) rfl) (by rfl))))) (pss_one ps_never) pss_nil)), ?_⟩
    obtain ⟨dx, hp⟩ := c.pp
    refine ⟨_, rfl, _, _, rfl, kd_int n, _, rfl, iteF ?_⟩
    refine ⟨_, rfl, _, rfl, p, _, dx, _, _, rfl, hp, T.cls_Evening, T.na_Evening_waiting, evF_waiting _ _, A'.wa, _, rfl, .inl (SqL.of c.wa), rfl, flat_ints _, _, rfl, ?_⟩
    rw [inV_ints, decide_eq_true hn]
    exact iteF q
theorem sc_Evening_withdraw : FnScope ["self", "song"] ["self", "song"] (defScope s_Evening_withdraw) := ⟨rfl, rfl, rfl, by decide +kernel, rfl, by decide +kernel, by decide +kernel⟩
def sp_withdraw (K : PySem.W.Frag) : Sp := fun vs H Q _ => ∃ (S : List Addr) (p : Addr) (A : Ad) (st : EvS) (n : Int), vs = [.ref p, .int n] ∧ Ev K S H p A st ∧ EvOk st ∧ st.tale.length < 900 ∧ n ∈ st.waiting ∧
  ∀ H', Fra (own p A) H H' → Ev K S H' p A (st.out n) → Q (.int (st.out n).waiting.length) H'
theorem me_Evening_withdraw (T : Tx K mg) : Me P w K mg base (He.ga K "Evening") "withdraw" 3 (sp_withdraw K) := by
  obtain ⟨fd, F⟩ := T.d_Evening_withdraw
  refine ⟨_, fd, _, F.ok (CX := CX0) sc_Evening_withdraw (fun vs H Q E h => ?_) (fun cdv A outer s H vs Q E hr h => ?_), T.cls_Evening, T.me_Evening_withdraw, F.bindsN fun _ _ _ _ _ _ us hl => match us, hl with | [_, _], _ => rfl⟩
  · obtain ⟨S, p, A, st, n, rfl, _⟩ := h; rfl
  · obtain ⟨S, p, A', st, n, rfl, ev, ok, hlt, hn, q⟩ := h
    obtain ⟨⟨cs, c, hq⟩, sub, dom, few⟩ := id ev
    refine ⟨_, PSs.nox (pss_cons (ps_expr (pe_me (me_Evening_look_at T) (hr.mono (by first | decide | omega)) (pv 0) (pa_cons (pv 1) pa_nil)))
      (pss_cons (ps_expr (show PE _ _ (tBM K _ _ _ _) from pe_bm PySem.F.plainAttrs_list PySem.F.slot_list_remove PySem.F.type_list_remove mt_remove (show PE _ _ (tFld K _ _) from pe_fld (pv 0) rfl) (pa_cons (pv 1) pa_nil)))
      (pss_cons (ps_expr (show PE _ _ (tBM K _ _ _ _) from pe_bm PySem.F.plainAttrs_list PySem.F.slot_list_append PySem.F.type_list_append mt_append (show PE _ _ (tFld K _ _) from pe_fld (pv 0) rfl) (pa_cons (pe_tup (pa_cons pe_str (pa_cons (pv 1) pa_nil))) pa_nil)))
      (pss_one (ps_ret (pe_callB (show CallR _ _ (rLenQ K) from call_len_seq) (by rfl) T.len (by decide +kernel) (pa_cons (show PE _ _ (tFld K _ _) from pe_fld (pv 0) rfl) pa_nil))))))), ?_⟩
    obtain ⟨dx, hp⟩ := c.pp
    obtain ⟨j, j1, j2, j3⟩ := erase_at hn
    refine ⟨_, rfl, p, dx, _, rfl, hp, evF_no _ _ (by decide +kernel), _, rfl, S, p, A', st, n, rfl, ev, hn, ?_⟩
    refine ⟨_, rfl, p, _, dx, _, _, rfl, hp, T.cls_Evening, T.na_Evening_waiting, evF_waiting _ _, .inl ⟨rfl, _, SqL.of c.wa⟩, _, rfl, A'.wa, _, _, j, rfl, rfl, c.wa, j1, j2, ?_⟩
    rw [j3]
    refine to_wa c _ fun H3 f3 c3 => ?_
    obtain ⟨dx3, hp3⟩ := c3.pp
    refine ⟨_, rfl, p, _, dx3, _, _, rfl, hp3, T.cls_Evening, T.na_Evening_came, evF_came _ _, .inl ⟨rfl, _, SqL.of c3.ca⟩, _, rfl, by show 2 ≤ sizeLine; decide, fun t nt => ?_⟩
    refine to_new nt fun H5 s5 ht => ?_
    have c5 := c3.mono s5
    refine ⟨A'.ca, _, _, rfl, rfl, c5.ca, lt_line (by rw [hq.len]; omega), ?_⟩
    refine to_ca c5 _ fun H6 f6 c6 kp => ?_
    have fr6 : Fra (own p A') H H6 := (f3.trans (Fra.of s5)).trans f6
    obtain ⟨dx6, hp6⟩ := c6.pp
    refine ⟨_, rfl, p, _, dx6, _, _, rfl, hp6, T.cls_Evening, T.na_Evening_waiting, evF_waiting _ _, A'.wa, _, rfl, .inl (SqL.of c6.wa), ?_⟩
    rw [List.length_map]
    have tS : t ∉ S := new_out (c3.dom f3 dom) nt
    refine q H6 fr6 ⟨⟨_, c6, Parts.snoc ?_ (hq.mono (Fra.off (fr6.mono sub)))⟩, sub, c6.dom fr6 dom, ?_⟩
    · show off S H6 t = _
      rw [off_out tS]
      exact kp _ _ (fun z => tS (by rw [z]; exact sub _ (memA p A').2.2.2.2)) ht
    · show (st.tale ++ [_]).length ≤ 900
      rw [List.length_append, List.length_singleton]; omega
theorem sc_Evening_round_now : FnScope ["self"] ["self"] (defScope s_Evening_round_now) := ⟨rfl, rfl, rfl, by decide +kernel, rfl, by decide +kernel, by decide +kernel⟩
def sp_round_now (K : PySem.W.Frag) : Sp := fun vs H Q _ => ∃ (S : List Addr) (p : Addr) (A : Ad) (st : EvS), vs = [.ref p] ∧ Ev K S H p A st ∧ Q (.int st.going) H
theorem me_Evening_round_now (T : Tx K mg) : Me P w K mg base (He.ga K "Evening") "round_now" 1 (sp_round_now K) := by
  obtain ⟨fd, F⟩ := T.d_Evening_round_now
  refine ⟨_, fd, _, F.ok (CX := CX0) sc_Evening_round_now (fun vs H Q E h => ?_) (fun cdv A outer s H vs Q E hr h => ?_), T.cls_Evening, T.me_Evening_round_now, F.bindsN fun _ _ _ _ _ _ us hl => match us, hl with | [_], _ => rfl⟩
  · obtain ⟨S, p, A, st, rfl, _⟩ := h; rfl
  · obtain ⟨S, p, A', st, rfl, ev, q⟩ := h
    obtain ⟨⟨cs, c, hq⟩, sub, dom, few⟩ := ev
    obtain ⟨dx, hp⟩ := c.pp
    refine ⟨_, PSs.nox (pss_one (ps_ret (show PE _ _ (tFld K _ _) from pe_fld (pv 0) rfl))), ?_⟩
    exact ⟨_, rfl, p, _, dx, _, _, rfl, hp, T.cls_Evening, T.na_Evening_going, evF_going _ _, q⟩
theorem sc_Evening_waits : FnScope ["self"] ["self"] (defScope s_Evening_waits) := ⟨rfl, rfl, rfl, by decide +kernel, rfl, by decide +kernel, by decide +kernel⟩
def sp_waits (K : PySem.W.Frag) : Sp := fun vs H Q _ => ∃ (S : List Addr) (p : Addr) (A : Ad) (st : EvS), vs = [.ref p] ∧ Ev K S H p A st ∧ EvOk st ∧
  ∀ l H', H l = none → Same H H' → H' l = some (.lst (st.queue.map V.int)) → Q (.ref l) H'
theorem me_Evening_waits (T : Tx K mg) : Me P w K mg base (He.ga K "Evening") "waits" 2 (sp_waits K) := by
  obtain ⟨fd, F⟩ := T.d_Evening_waits
  refine ⟨_, fd, _, F.ok (CX := CX0) sc_Evening_waits (fun vs H Q E h => ?_) (fun cdv A outer s H vs Q E hr h => ?_), T.cls_Evening, T.me_Evening_waits, F.bindsN fun _ _ _ _ _ _ us hl => match us, hl with | [_], _ => rfl⟩
  · obtain ⟨S, p, A, st, rfl, _⟩ := h; rfl
  · obtain ⟨S, p, A', st, rfl, ev, ok, q⟩ := h
    obtain ⟨⟨cs, c, hq⟩, sub, dom, few⟩ := ev
    obtain ⟨dx, hp⟩ := c.pp
    refine ⟨_, PSs.nox (pss_one (ps_ret (pe_fn (fn_in_turn T) (hr.mono (by first | decide | omega)) (by rfl) (pa_cons (show PE _ _ (tFld K _ _) from pe_fld (pv 0) rfl) (pa_cons (show PE _ _ (tFld K _ _) from pe_fld (pv 0) rfl) pa_nil))))), ?_⟩
    exact ⟨_, rfl, p, _, dx, _, _, rfl, hp, T.cls_Evening, T.na_Evening_rounds, evF_rounds _ _, _, rfl, p, _, dx, _, _, rfl, hp, T.cls_Evening, T.na_Evening_waiting, evF_waiting _ _,
      A'.ro, A'.wa, st.rounds, st.waiting, rfl, SqL.of c.ro, SqL.of c.wa, ok.inb, (by have := ok.w24; omega), q⟩
/-! #### tale() -/
/-- a part told anew: the list within a wish is new to H0 -/
def PartN (H0 H : Hp) (v : V) (p : Part) : Prop := PartAt H v p ∧ ∀ ss n r, p = .wish ss n r → ∃ t b, v = .ref t ∧ H t = some (.tup [.str "wish", .ref b, .int n, .int r]) ∧ H b = some (.lst (ss.map V.int)) ∧ H0 b = none
theorem PartN.mono {H0 H H' : Hp} (s : Same H H') {v : V} {p : Part} (h : PartN H0 H v p) : PartN H0 H' v p :=
  ⟨h.1.mono s, fun ss n r e => by
    obtain ⟨t, b, h1, h2, h3, h4⟩ := h.2 ss n r e
    exact ⟨t, b, h1, s _ _ h2, s _ _ h3, h4⟩⟩
theorem nW1 : decide (V.str "sing" = V.str "wish") = false := by decide +kernel
theorem nW2 : decide (V.str "out" = V.str "wish") = false := by decide +kernel
theorem sc_Evening_tale : FnScope ["self", "one"] ["self"] (defScope s_Evening_tale) := ⟨rfl, rfl, rfl, by decide +kernel, rfl, by decide +kernel, by decide +kernel⟩
def sp_tale (K : PySem.W.Frag) : Sp := fun vs H Q _ => ∃ (S : List Addr) (p : Addr) (A : Ad) (st : EvS), vs = [.ref p] ∧ Ev K S H p A st ∧
  ∀ l H' cs, H l = none → Same H H' → H' l = some (.lst cs) → cs.length = st.tale.length → (∀ (i : Nat) v, cs[i]? = some v → ∃ q, st.tale[i]? = some q ∧ PartN H (off [l] H') v q) → Q (.ref l) H'
theorem me_Evening_tale (T : Tx K mg) : Me P w K mg base (He.ga K "Evening") "tale" 1 (sp_tale K) := by
  obtain ⟨fd, F⟩ := T.d_Evening_tale
  refine ⟨_, fd, _, F.ok (CX := CX0) sc_Evening_tale (fun vs H Q E h => ?_) (fun cdv A outer s H vs Q E hr h => ?_), T.cls_Evening, T.me_Evening_tale, F.bindsN fun _ _ _ _ _ _ us hl => match us, hl with | [_], _ => rfl⟩
  · obtain ⟨S, p, A, st, rfl, _⟩ := h; rfl
  · obtain ⟨S, p, A', st, rfl, ev, q⟩ := h
    obtain ⟨⟨cs, c, hq⟩, sub, dom, few⟩ := ev
    obtain ⟨dx, hp⟩ := c.pp
    refine ⟨_, PSs.nox (pss_one (ps_ret (pe_lc (own := [("one", 1)]) (g := (gName 1)) (tt := tYes) (by rfl) sc_Evening_tale.nd (show PI _ _ _ (iList K _) from pi_list (show PE _ _ (tFld K _ _) from pe_fld (pv 0) rfl)) (blkOk_by (by kernel_rfl)) (fun _ _ _ _ _ => (pg_name (i := 1) sc_Evening_tale.nd rfl (by first | exact Or.inl rfl | exact Or.inr rfl))) (fun _ _ _ _ _ => pts_nil) (fun _ _ _ _ _ => (pe_ifExp (pt_cmpR op_eq (pe_ix (show IxR _ (rIxT K) from ix_tup) (pv 1) pe_int (fun _ _ => rfl)) pe_str (nomark _)) (pe_tup (pa_cons (pe_ix (show IxR _ (rIxT K) from ix_tup) (pv 1) pe_int (fun _ _ => rfl)) (pa_cons (pe_callTy (show CallR _ _ (rListO K) from call_list_of) (by rfl) T.list (by decide +kernel) (pa_cons (pe_ix (show IxR _ (rIxT K) from ix_tup) (pv 1) pe_int (fun _ _ => rfl)) pa_nil)) (pa_cons (pe_ix (show IxR _ (rIxT K) from ix_tup) (pv 1) pe_int (fun _ _ => rfl)) (pa_cons (pe_ix (show IxR _ (rIxT K) from ix_tup) (pv 1) pe_int (fun _ _ => rfl)) pa_nil))))) (pv 1)))))), ?_⟩
    have hqH : Parts H cs st.tale := hq.mono (off_le S H)
    refine ⟨_, rfl, p, _, dx, _, _, rfl, hp, T.cls_Evening, T.na_Evening_came, evF_came _ _, A'.ca, rfl, ⟨_, SqL.of c.ca⟩, fun D nD => lc_all walk_list sqL_mono (SqL.of c.ca) (fun i H1 y => ∃ q, st.tale[i]? = some q ∧ PartN H H1 y q) ?_ nD (by rw [hqH.len]; omega) ?_ ?_ gname_mono⟩
    · rintro i H1 H2 y s1 ⟨q, h1, h2⟩
      exact ⟨q, h1, h2.mono s1⟩
    · rintro i x H1 H2 acc hi1 s1 hD ⟨rfl, hx⟩ k hk
      obtain ⟨part, hpt, pa⟩ := hqH.get hx
      cases x with
      | ref t =>
        cases part with
        | wish ss n r =>
          obtain ⟨b, ht, hb⟩ := pa
          have ht2 := s1 _ _ ht
          have hb2 := s1 _ _ hb
          refine ⟨rfl, _, rfl, t, _, _, _, rfl, rfl, SqT.of ht2, atI_nat (j := 0) rfl, rfl, _, rfl, ?_⟩
          rw [decide_eq_true rfl]
          refine iteT ⟨_, rfl, t, _, _, _, rfl, rfl, SqT.of ht2, atI_nat (j := 0) rfl, _, rfl, t, _, _, _, rfl, rfl, SqT.of ht2, atI_nat (j := 1) rfl, b, _, rfl, .inl (SqL.of hb2), fun b' nb => ?_⟩
          refine to_new nb fun H3 s3 hb3 => ?_
          have ht3 := s3 _ _ ht2
          refine ⟨_, rfl, t, _, _, _, rfl, rfl, SqT.of ht3, atI_nat (j := 2) rfl, _, rfl, t, _, _, _, rfl, rfl, SqT.of ht3, atI_nat (j := 3) rfl, by show 4 ≤ sizeLine; decide, fun t' nt => ?_⟩
          have hb4 : upd H3 t' (.tup [.str "wish", .ref b', .int n, .int r]) b' = some (.lst (ss.map V.int)) := (Same.new nt) _ _ hb3
          have nbD : b' ≠ D := (ne_of_none hD nb).symm
          have ntD : t' ≠ D := (ne_of_none (s3 _ _ hD) nt).symm
          have o1 : off [D] (upd H3 t' (.tup [.str "wish", .ref b', .int n, .int r])) t' = some (.tup [.str "wish", .ref b', .int n, .int r]) := by rw [off_out (by simpa using ntD)]; exact upd_same
          have o2 : off [D] (upd H3 t' (.tup [.str "wish", .ref b', .int n, .int r])) b' = some (.lst (ss.map V.int)) := by rw [off_out (by simpa using nbD)]; exact hb4
          refine hk _ _ (s3.trans (Same.new nt)) ⟨_, hpt, ⟨b', o1, o2⟩, fun ss' n' r' e => ?_⟩
          injection e with e1 e2 e3
          subst e1; subst e2; subst e3
          exact ⟨t', b', rfl, o1, o2, s1.free nb⟩
        | sing o =>
          have ht2 := s1 _ _ pa
          refine ⟨rfl, _, rfl, t, _, _, _, rfl, rfl, SqT.of ht2, atI_nat (j := 0) rfl, rfl, _, rfl, ?_⟩
          rw [nW1]
          refine iteF ⟨_, rfl, hk _ _ (Same.refl _) ⟨_, hpt, ?_, fun ss' n' r' e => by cases e⟩⟩
          show off [D] H2 t = _
          rw [off_out (by simpa using ne_of ht2 hD (by intro z; cases z))]
          exact ht2
        | out n =>
          have ht2 := s1 _ _ pa
          refine ⟨rfl, _, rfl, t, _, _, _, rfl, rfl, SqT.of ht2, atI_nat (j := 0) rfl, rfl, _, rfl, ?_⟩
          rw [nW2]
          refine iteF ⟨_, rfl, hk _ _ (Same.refl _) ⟨_, hpt, ?_, fun ss' n' r' e => by cases e⟩⟩
          show off [D] H2 t = _
          rw [off_out (by simpa using ne_of ht2 hD (by intro z; cases z))]
          exact ht2
      | _ => exact pa.elim
    · intro ys H1 s1 hD hly hy
      exact q D H1 ys nD s1 hD (by rw [hly, hqH.len]) hy
end
end Song

/-! ### Lw1: a law's draws -/
namespace Song
open PySem L2
/-! #### sizes of numbers -/
def Bits (n : Nat) (c : Int) : Prop := c.natAbs < 2 ^ n
theorem Bits.of_int {n : Nat} {c : Int} (h : Builtin.Int.intBits c ≤ n) : Bits n c := by
  unfold Builtin.Int.intBits at h
  unfold Bits
  by_cases e : c = 0
  · subst e
    exact Nat.two_pow_pos n
  · rw [if_neg (by simpa using e)] at h
    exact (Nat.log2_lt (by omega)).mp (by omega)
theorem Bits.mono {n m : Nat} {c : Int} (h : Bits n c) (hm : n ≤ m) : Bits m c := Nat.lt_of_lt_of_le h (Nat.pow_le_pow_right (by decide) hm)
theorem Bits.small {c : Int} {n : Nat} (h : c.natAbs < 2 ^ 64) (hn : 64 ≤ n) : Bits n c := Bits.mono (n := 64) h hn
theorem Bits.add {n : Nat} {a b : Int} (ha : Bits n a) (hb : Bits n b) : Bits (n + 1) (a + b) := by
  unfold Bits at *
  rw [Nat.pow_succ]
  generalize 2 ^ n = m at *
  omega
theorem Bits.mulOk {n m : Nat} {a b : Int} (ha : Bits n a) (hb : Bits m b) (h : n + m ≤ 100000000) : IntMulOk a b := by
  have f : ∀ {x : Int} {k : Nat}, Bits k x → Builtin.Int.intBits x ≤ k := fun {x k} hx => by
    unfold Builtin.Int.intBits
    split
    · omega
    · rename_i e
      have : x.natAbs ≠ 0 := by
        have : x ≠ 0 := by simpa using e
        omega
      have := (Nat.log2_lt this).mpr hx
      omega
  have h1 := f ha
  have h2 := f hb
  unfold IntMulOk
  intro z
  rw [Bool.and_eq_true] at z
  have z3 := of_decide_eq_true (show decide ((((Builtin.Int.intBits a + Builtin.Int.intBits b : Nat) : Int)) > (bitsLine : Int)) = true from z.2)
  have e : bitsLine = 134217728 := by decide
  rw [e] at z3
  omega
theorem mulS {a b : Int} (h : a.natAbs < 2 ^ 64 ∨ b.natAbs < 2 ^ 64) : IntMulOk a b := by
  rcases h with h | h
  · exact IntMulOk.of_left (intBits_le_64 (by omega) (by omega))
  · exact IntMulOk.of_right (intBits_le_64 (by omega) (by omega))
/-! #### the draws, plainly -/
def cellAt (ns : List Int) (k : Int) : Int := ns.getD k.toNat 0
def primes : List Int := [1000003, 1000033, 1000037, 1000039, 1000081, 1000099, 1000117, 1000121, 1000133, 1000151, 1000159, 1000171, 1000183, 1000187, 1000193, 1000199]
theorem primes_pos : ∀ i : Nat, i < 16 → 0 < primes.getD i 0 := by decide
def lawDraw (c k m : Int) : Int := (c * 48271 + k * 69621) % primes.getD (k % 16).toNat 0 % m
theorem lawDraw_in {c k m : Int} (h : 0 < m) : 0 ≤ lawDraw c k m ∧ lawDraw c k m < m := ⟨Int.emod_nonneg _ (by omega), Int.emod_lt_of_pos _ h⟩
def p18 : Int := 10 ^ (18 : Int).toNat
theorem p18_eq : p18 = 1000000000000000000 := by decide
def lawValue (c t : Int) : Int :=
  if p18 ≤ c then (c - p18) / 2 ^ (3 * t).toNat
  else lawDraw ((c + 977 * t) * (c + 31 * t + 5)) (t % 9 + 1) 999983 * 1000003 + lawDraw ((c + 31 * t) * (c + 7) + 977 * t) (t % 7 + 2) 1000003
theorem lawValue_nn (c t : Int) : 0 ≤ lawValue c t := by
  unfold lawValue
  split
  · exact Int.ediv_nonneg (by omega) (two_pow_nn _)
  · have h1 := (lawDraw_in (c := (c + 977 * t) * (c + 31 * t + 5)) (k := t % 9 + 1) (m := 999983) (by decide)).1
    have h2 := (lawDraw_in (c := (c + 31 * t) * (c + 7) + 977 * t) (k := t % 7 + 2) (m := 1000003) (by decide)).1
    omega
section
variable {P : Program} {w : World} {K : PySem.W.Frag} {mg : Str → Option Value} {base : Heap}
theorem sc__law_cell_at : FnScope ["_law_script", "_law_k"] ["_law_script", "_law_k"] (defScope s__law_cell_at) := ⟨rfl, rfl, rfl, by decide +kernel, rfl, by decide +kernel, by decide +kernel⟩
def sp_cell_at (K : PySem.W.Frag) : Sp := fun vs H Q _ => ∃ (a : Addr) (ns : List Int) (k : Int), vs = [.ref a, .int k] ∧ SqL K H a (ns.map V.int) ∧ 0 ≤ k ∧ Q (.int (cellAt ns k)) H
theorem fn__law_cell_at (T : Tx K mg) : Fn P w K mg base "_law_cell_at" 1 (sp_cell_at K) := by
  obtain ⟨fd, F⟩ := T.d__law_cell_at
  refine ⟨_, fd, _, F.ok (CX := CX0) sc__law_cell_at (fun vs H Q E h => ?_) (fun cdv A outer s H vs Q E hr h => ?_), T.g__law_cell_at, F.kp, F.bindsN fun _ _ _ _ _ _ us hl => match us, hl with | [_, _], _ => rfl⟩
  · obtain ⟨a, ns, k, rfl, _⟩ := h; rfl
  · obtain ⟨a, ns, k, rfl, hs, h0, q⟩ := h
    refine ⟨_, PSs.nox (pss_cons (ps_if (pt_cmpR op_lt (pv 1) (pe_callB (show CallR _ _ (rLenQ K) from call_len_seq) (by rfl) T.len (by decide +kernel) (pa_cons (pv 0) pa_nil)) (nomark _)) (pss_one (ps_ret (pe_ix (show IxR _ (rIxL K) from ix_list) (pv 0) (pv 1) (fun _ _ => rfl)))) pss_nil)
      (pss_one (ps_ret pe_int))), ?_⟩
    refine ⟨_, rfl, _, rfl, a, _, rfl, .inl hs, _, _, rfl, rfl, _, rfl, ?_⟩
    rw [List.length_map]
    by_cases h1 : k < (ns.length : Int)
    · rw [decide_eq_true h1]
      exact iteT ⟨_, rfl, _, rfl, a, _, _, _, rfl, rfl, hs, at_int h0 h1, q⟩
    · rw [decide_eq_false h1]
      refine iteF ?_
      have e : cellAt ns k = 0 := by
        unfold cellAt
        rw [List.getD_eq_getElem?_getD, List.getElem?_eq_none (by omega)]; rfl
      rw [e] at q
      exact q
theorem sc__law_draw : FnScope ["_law_cell", "_law_k", "_law_many", "_law_primes"] ["_law_cell", "_law_k", "_law_many"] (defScope s__law_draw) := ⟨rfl, rfl, rfl, by decide +kernel, rfl, by decide +kernel, by decide +kernel⟩
def sp_draw : Sp := fun vs H Q _ => ∃ c k m : Int, vs = [.int c, .int k, .int m] ∧ 0 < m ∧ ∀ H', Same H H' → Q (.int (lawDraw c k m)) H'
theorem fn__law_draw (T : Tx K mg) : Fn P w K mg base "_law_draw" 1 sp_draw := by
  obtain ⟨fd, F⟩ := T.d__law_draw
  refine ⟨_, fd, _, F.ok (CX := CX0) sc__law_draw (fun vs H Q E h => ?_) (fun cdv A outer s H vs Q E hr h => ?_), T.g__law_draw, F.kp, F.bindsN fun _ _ _ _ _ _ us hl => match us, hl with | [_, _, _], _ => rfl⟩
  · obtain ⟨c, k, m, rfl, _⟩ := h; rfl
  · obtain ⟨c, k, m, rfl, hm, q⟩ := h
    refine ⟨_, PSs.nox (pss_cons (ps_set (i := 3) sc__law_draw.nd rfl (by first | exact Or.inl rfl | exact Or.inr rfl) (pe_tup (pa_cons pe_int (pa_cons pe_int (pa_cons pe_int (pa_cons pe_int (pa_cons pe_int (pa_cons pe_int (pa_cons pe_int (pa_cons pe_int (pa_cons pe_int (pa_cons pe_int (pa_cons pe_int (pa_cons pe_int (pa_cons pe_int (pa_cons pe_int (pa_cons pe_int (pa_cons pe_int pa_nil))))))))))))))))))
      (pss_one (ps_ret (pe_op op_mod (pe_op op_mod (pe_op op_add (pe_op op_mulO (pv 0) pe_int) (pe_op op_mulO (pv 1) pe_int)) (pe_ix (show IxR _ (rIxT K) from ix_tup) (pv 3) (pe_op op_mod (pv 1) pe_int) (fun _ _ => rfl))) (pv 2))))), ?_⟩
    have hk0 := Int.emod_nonneg k (b := 16) (by decide)
    have hk1 := Int.emod_lt_of_pos k (b := 16) (by decide)
    refine ⟨by show 16 ≤ sizeLine; decide, fun t nt => ?_⟩
    refine to_new nt fun H1 s1 ht => ?_
    refine ⟨_, rfl, _, _, rfl, rfl, mulS (.inr (by decide)), _, rfl, _, _, rfl, rfl, mulS (.inr (by decide)), _, _, rfl, rfl,
      _, rfl, _, rfl, _, _, rfl, rfl, (show (0 : Int) < 16 by decide), t, primes.map V.int, _, _, rfl, rfl, SqT.of ht, at_int (ls := primes) hk0 hk1, _, _, rfl, rfl, primes_pos _ (by omega), _, rfl, _, _, rfl, rfl, hm, q _ s1⟩
theorem sc__law_value : FnScope ["_law_cell", "_law_turn", "_law_blend"] ["_law_cell", "_law_turn"] (defScope s__law_value) := ⟨rfl, rfl, rfl, by decide +kernel, rfl, by decide +kernel, by decide +kernel⟩
def sp_value : Sp := fun vs H Q _ => ∃ c t : Int, vs = [.int c, .int t] ∧ Bits 1048600 c ∧ 0 ≤ t ∧ t ≤ 100 ∧ ∀ H', Same H H' → Q (.int (lawValue c t)) H'
theorem fn__law_value (T : Tx K mg) : Fn P w K mg base "_law_value" 2 sp_value := by
  obtain ⟨fd, F⟩ := T.d__law_value
  refine ⟨_, fd, _, F.ok (CX := CX0) sc__law_value (fun vs H Q E h => ?_) (fun cdv A outer s H vs Q E hr h => ?_), T.g__law_value, F.kp, F.bindsN fun _ _ _ _ _ _ us hl => match us, hl with | [_, _], _ => rfl⟩
  · obtain ⟨c, k, rfl, _⟩ := h; rfl
  · obtain ⟨c, t, rfl, hb, h0, h1, q⟩ := h
    refine ⟨_, PSs.nox (pss_cons (ps_if (pt_cmpR op_ge (pv 0) (pe_op op_pow pe_int pe_int) (nomark _)) (pss_one (ps_ret (pe_op op_shr (pe_op op_sub (pv 0) (pe_op op_pow pe_int pe_int)) (pe_op op_mulO pe_int (pv 1))))) pss_nil)
      (pss_cons (ps_set (i := 2) sc__law_value.nd rfl (by first | exact Or.inl rfl | exact Or.inr rfl) (pe_fn (fn__law_draw T) (hr.mono (by first | decide | omega)) (by rfl) (pa_cons (pe_op op_mulO (pe_op op_add (pv 0) (pe_op op_mulO pe_int (pv 1))) (pe_op op_add (pe_op op_add (pv 0) (pe_op op_mulO pe_int (pv 1))) pe_int)) (pa_cons (pe_op op_add (pe_op op_mod (pv 1) pe_int) pe_int) (pa_cons pe_int pa_nil)))))
      (pss_one (ps_ret (pe_op op_add (pe_op op_mulO (pv 2) pe_int) (pe_fn (fn__law_draw T) (hr.mono (by first | decide | omega)) (by rfl) (pa_cons (pe_op op_add (pe_op op_mulO (pe_op op_add (pv 0) (pe_op op_mulO pe_int (pv 1))) (pe_op op_add (pv 0) pe_int)) (pe_op op_mulO pe_int (pv 1))) (pa_cons (pe_op op_add (pe_op op_mod (pv 1) pe_int) pe_int) (pa_cons pe_int pa_nil))))))))), ?_⟩
    have e18 := p18_eq
    refine ⟨_, rfl, _, _, rfl, rfl, ⟨by decide, by decide, by decide⟩, _, _, rfl, rfl, _, rfl, ?_⟩
    by_cases hc : p18 ≤ c
    · have eq : lawValue c t = (c - p18) / 2 ^ (3 * t).toNat := by unfold lawValue; rw [if_pos hc]
      rw [show decide ((10 : Int) ^ (18 : Int).toNat ≤ c) = true from decide_eq_true hc]
      refine iteT ⟨_, rfl, _, _, rfl, rfl, ⟨by decide, by decide, by decide⟩, _, _, rfl, rfl, _, rfl, _, _, rfl, rfl, mulS (.inl (by decide)), _, _, rfl, rfl, (by show 0 ≤ 3 * t; omega), ?_⟩
      rw [eq] at q
      exact q _ (Same.refl _)
    · have eq : lawValue c t = lawDraw ((c + 977 * t) * (c + 31 * t + 5)) (t % 9 + 1) 999983 * 1000003 + lawDraw ((c + 31 * t) * (c + 7) + 977 * t) (t % 7 + 2) 1000003 := by unfold lawValue; rw [if_neg hc]
      rw [show decide ((10 : Int) ^ (18 : Int).toNat ≤ c) = false from decide_eq_false hc]
      have b1 : Bits 1048601 (c + 977 * t) := hb.add (Bits.small (by omega) (by decide))
      have b2 : Bits 1048601 (c + 31 * t) := hb.add (Bits.small (by omega) (by decide))
      have b3 : Bits 1048602 (c + 31 * t + 5) := b2.add (Bits.small (by omega) (by decide))
      have b4 : Bits 1048601 (c + 7) := hb.add (Bits.small (by omega) (by decide))
      refine iteF ?_
      refine ⟨_, rfl, _, rfl, _, _, rfl, rfl, mulS (.inl (by decide)), _, _, rfl, rfl, _, rfl, _, rfl, _, _, rfl, rfl, mulS (.inl (by decide)), _, _, rfl, rfl, _, _, rfl, rfl, _, _, rfl, rfl, b1.mulOk b3 (by decide),
        _, rfl, _, _, rfl, rfl, (show (0 : Int) < 9 by decide), _, _, rfl, rfl, _, _, _, rfl, by decide, fun H1 s1 => ?_⟩
      refine ⟨_, rfl, _, _, rfl, rfl, mulS (.inr (by decide)), _, rfl, _, rfl, _, _, rfl, rfl, mulS (.inl (by decide)), _, _, rfl, rfl, _, rfl, _, _, rfl, rfl, _, _, rfl, rfl, b2.mulOk b4 (by decide),
        _, rfl, _, _, rfl, rfl, mulS (.inl (by decide)), _, _, rfl, rfl, _, rfl, _, _, rfl, rfl, (show (0 : Int) < 7 by decide), _, _, rfl, rfl, _, _, _, rfl, by decide, fun H2 s2 => ?_⟩
      refine ⟨_, _, rfl, rfl, ?_⟩
      rw [eq] at q
      exact q _ (s1.trans s2)
def lawMany (ns : List Int) : Int := 1 + lawValue (cellAt ns 0) 1 % 6
theorem lawMany_in (ns : List Int) : 1 ≤ lawMany ns ∧ lawMany ns ≤ 6 := by
  have h1 := Int.emod_nonneg (lawValue (cellAt ns 0) 1) (b := 6) (by decide)
  have h2 := Int.emod_lt_of_pos (lawValue (cellAt ns 0) 1) (b := 6) (by decide)
  unfold lawMany
  omega
/-- all the cells of a script -/
def Scr (ns : List Int) : Prop := ns.length ≤ 63 ∧ ∀ z ∈ ns, Bits 1048576 z
theorem Scr.cell {ns : List Int} (h : Scr ns) (k : Int) : Bits 1048576 (cellAt ns k) := by
  unfold cellAt
  rw [List.getD_eq_getElem?_getD]
  cases e : ns[k.toNat]? with
  | none => exact Nat.two_pow_pos _
  | some z => exact h.2 z (List.mem_of_getElem? e)
end
def spLaw (K : PySem.W.Frag) : Sp := fun vs H Q _ => ∃ (a : Addr) (ns : List Int), vs = [.ref a] ∧ SqL K H a (ns.map V.int) ∧ Scr ns ∧ ∀ H', Q (.bl true) H'
end Song

/-! ### Lw2: a law's deeds -/
namespace Song
open PySem L2
inductive Deed where
  | wish (ss : List Int)
  | sing
  | out (n : Int)
def DeedAt (H : Hp) : V → Deed → Prop
  | .ref t, .wish ss => ∃ b, H t = some (.tup [.str "wish", .ref b]) ∧ H b = some (.lst (ss.map V.int))
  | .ref t, .sing => H t = some (.tup [.str "sing", .int 0])
  | .ref t, .out n => H t = some (.tup [.str "out", .int n])
  | _, _ => False
theorem DeedAt.mono {H H' : Hp} (s : Same H H') {v : V} {d : Deed} (h : DeedAt H v d) : DeedAt H' v d := by
  cases v with
  | ref t =>
    cases d with
    | wish ss =>
      obtain ⟨b, h1, h2⟩ := h
      exact ⟨b, s _ _ h1, s _ _ h2⟩
    | sing => exact s _ _ h
    | out n => exact s _ _ h
  | _ => exact h.elim
def DeedOk (many : Int) : Deed → Prop
  | .wish ss => areSingers ss many = true
  | .sing => True
  | .out n => 0 ≤ n
/-- a list of good deeds in the heap -/
def Deeds (H : Hp) (many : Int) (vs : List V) : Prop := ∀ v ∈ vs, ∃ d, DeedAt H v d ∧ DeedOk many d
theorem Deeds.mono {H H' : Hp} {many : Int} {vs : List V} (s : Same H H') (h : Deeds H many vs) : Deeds H' many vs := fun v hv => by
  obtain ⟨d, h1, h2⟩ := h v hv
  exact ⟨d, h1.mono s, h2⟩
theorem Deeds.snoc {H : Hp} {many : Int} {vs : List V} {v : V} {d : Deed} (h : Deeds H many vs) (h1 : DeedAt H v d) (h2 : DeedOk many d) : Deeds H many (vs ++ [v]) := fun u hu => by
  rcases List.mem_append.mp hu with q | q
  · exact h u q
  · rw [List.mem_singleton.mp q]; exact ⟨d, h1, h2⟩
section
variable {P : Program} {w : World} {K : PySem.W.Frag} {mg : Str → Option Value} {base : Heap}
end
end Song

/-! ### Lw3: the law's own state of an evening, a dict -/
namespace Song
open PySem L2
def stD (A : Ad) (g : Int) : List (Key × V) := [(.inr "rounds", .ref A.ro), (.inr "last", .ref A.la), (.inr "going", .int g), (.inr "waits", .ref A.wa), (.inr "tale", .ref A.ca)]
theorem stD_last (A : Ad) (g : Int) : valV (stD A g) (.inr "last") = some (.ref A.la) := by kernel_rfl
theorem stD_going (A : Ad) (g : Int) : valV (stD A g) (.inr "going") = some (.int g) := by kernel_rfl
theorem stD_rounds (A : Ad) (g : Int) : valV (stD A g) (.inr "rounds") = some (.ref A.ro) := by kernel_rfl
theorem stD_waits (A : Ad) (g : Int) : valV (stD A g) (.inr "waits") = some (.ref A.wa) := by kernel_rfl
theorem stD_tale (A : Ad) (g : Int) : valV (stD A g) (.inr "tale") = some (.ref A.ca) := by kernel_rfl
theorem stD_put (A : Ad) (g g' : Int) : putK (stD A g) (.inr "going") (.int g') = stD A g' := by kernel_rfl
structure LC (H : Hp) (p : Addr) (A : Ad) (last : List Int) (going : Int) (rounds waiting : List Int) (cs : List V) : Prop where
  pp : H p = some (.dK (stD A going))
  la : H A.la = some (.lst (last.map V.int))
  ro : H A.ro = some (.lst (rounds.map V.int))
  wa : H A.wa = some (.lst (waiting.map V.int))
  ca : H A.ca = some (.lst cs)
  nd : (own p A).Nodup
section
variable {H H' : Hp} {p : Addr} {A : Ad} {last : List Int} {going : Int} {rounds waiting : List Int} {cs : List V}
theorem LC.gLast (c : LC H p A last going rounds waiting cs) : DGet H p (.str "last") (some (.ref A.la)) := by rw [← stD_last A going]; exact DGet.k (k := Sum.inr "last") c.pp
theorem LC.gGoing (c : LC H p A last going rounds waiting cs) : DGet H p (.str "going") (some (.int going)) := by rw [← stD_going A going]; exact DGet.k (k := Sum.inr "going") c.pp
theorem LC.gRounds (c : LC H p A last going rounds waiting cs) : DGet H p (.str "rounds") (some (.ref A.ro)) := by rw [← stD_rounds A going]; exact DGet.k (k := Sum.inr "rounds") c.pp
theorem LC.gWaits (c : LC H p A last going rounds waiting cs) : DGet H p (.str "waits") (some (.ref A.wa)) := by rw [← stD_waits A going]; exact DGet.k (k := Sum.inr "waits") c.pp
theorem LC.gTale (c : LC H p A last going rounds waiting cs) : DGet H p (.str "tale") (some (.ref A.ca)) := by rw [← stD_tale A going]; exact DGet.k (k := Sum.inr "tale") c.pp
theorem LC.mono (s : Same H H') (c : LC H p A last going rounds waiting cs) : LC H' p A last going rounds waiting cs := by
  obtain ⟨h1, h2, h3, h4, h5, nd⟩ := c
  exact ⟨s _ _ h1, s _ _ h2, s _ _ h3, s _ _ h4, s _ _ h5, nd⟩
theorem LC.ne (c : LC H p A last going rounds waiting cs) : p ≠ A.la ∧ p ≠ A.ro ∧ p ≠ A.wa ∧ p ≠ A.ca ∧ A.la ≠ A.ro ∧ A.la ≠ A.wa ∧ A.la ≠ A.ca ∧ A.ro ≠ A.wa ∧ A.ro ≠ A.ca ∧ A.wa ≠ A.ca := by
  have h := c.nd
  unfold own at h
  simp only [List.nodup_cons, List.mem_cons, List.not_mem_nil, or_false, not_or] at h
  obtain ⟨⟨a1, a2, a3, a4⟩, ⟨b1, b2, b3⟩, ⟨c1, c2⟩, d1, _⟩ := h
  exact ⟨a1, a2, a3, a4, b1, b2, b3, c1, c2, d1⟩
theorem LC.putLa (c : LC H p A last going rounds waiting cs) (l : List Int) : LC (upd H A.la (.lst (l.map V.int))) p A l going rounds waiting cs := by
  obtain ⟨a1, a2, a3, a4, b1, b2, b3, c1, c2, d1⟩ := c.ne
  obtain ⟨h1, h2, h3, h4, h5, nd⟩ := c
  exact ⟨by rw [upd_ne a1]; exact h1, upd_same, by rw [upd_ne b1.symm]; exact h3, by rw [upd_ne b2.symm]; exact h4, by rw [upd_ne b3.symm]; exact h5, nd⟩
theorem LC.putRo (c : LC H p A last going rounds waiting cs) (l : List Int) : LC (upd H A.ro (.lst (l.map V.int))) p A last going l waiting cs := by
  obtain ⟨a1, a2, a3, a4, b1, b2, b3, c1, c2, d1⟩ := c.ne
  obtain ⟨h1, h2, h3, h4, h5, nd⟩ := c
  exact ⟨by rw [upd_ne a2]; exact h1, by rw [upd_ne b1]; exact h2, upd_same, by rw [upd_ne c1.symm]; exact h4, by rw [upd_ne c2.symm]; exact h5, nd⟩
theorem LC.putWa (c : LC H p A last going rounds waiting cs) (l : List Int) : LC (upd H A.wa (.lst (l.map V.int))) p A last going rounds l cs := by
  obtain ⟨a1, a2, a3, a4, b1, b2, b3, c1, c2, d1⟩ := c.ne
  obtain ⟨h1, h2, h3, h4, h5, nd⟩ := c
  exact ⟨by rw [upd_ne a3]; exact h1, by rw [upd_ne b2]; exact h2, by rw [upd_ne c1]; exact h3, upd_same, by rw [upd_ne d1.symm]; exact h5, nd⟩
theorem LC.putCa (c : LC H p A last going rounds waiting cs) (l : List V) : LC (upd H A.ca (.lst l)) p A last going rounds waiting l := by
  obtain ⟨a1, a2, a3, a4, b1, b2, b3, c1, c2, d1⟩ := c.ne
  obtain ⟨h1, h2, h3, h4, h5, nd⟩ := c
  exact ⟨by rw [upd_ne a4]; exact h1, by rw [upd_ne b3]; exact h2, by rw [upd_ne c2]; exact h3, by rw [upd_ne d1]; exact h4, upd_same, nd⟩
theorem LC.putGo (c : LC H p A last going rounds waiting cs) (g : Int) : LC (upd H p (.dK (stD A g))) p A last g rounds waiting cs := by
  obtain ⟨a1, a2, a3, a4, b1, b2, b3, c1, c2, d1⟩ := c.ne
  obtain ⟨_, h2, h3, h4, h5, nd⟩ := c
  exact ⟨upd_same, by rw [upd_ne a1.symm]; exact h2, by rw [upd_ne a2.symm]; exact h3, by rw [upd_ne a3.symm]; exact h4, by rw [upd_ne a4.symm]; exact h5, nd⟩
end
section
variable {H : Hp} {p : Addr} {A : Ad} {last : List Int} {going : Int} {rounds waiting : List Int} {cs : List V} {Q : Hp → Prop}
@[elab_as_elim] theorem to_laL (c : LC H p A last going rounds waiting cs) (l : List Int) (h : ∀ H', Fra (own p A) H H' → LC H' p A l going rounds waiting cs → Q H') : Q (upd H A.la (.lst (l.map V.int))) :=
  h _ (Fra.put (memA p A).2.1) (c.putLa l)
@[elab_as_elim] theorem to_roL (c : LC H p A last going rounds waiting cs) (l : List Int) (h : ∀ H', Fra (own p A) H H' → LC H' p A last going l waiting cs → Q H') : Q (upd H A.ro (.lst (l.map V.int))) :=
  h _ (Fra.put (memA p A).2.2.1) (c.putRo l)
@[elab_as_elim] theorem to_waL (c : LC H p A last going rounds waiting cs) (l : List Int) (h : ∀ H', Fra (own p A) H H' → LC H' p A last going rounds l cs → Q H') : Q (upd H A.wa (.lst (l.map V.int))) :=
  h _ (Fra.put (memA p A).2.2.2.1) (c.putWa l)
@[elab_as_elim] theorem to_caL (c : LC H p A last going rounds waiting cs) (l : List V) (h : ∀ H', Fra (own p A) H H' → LC H' p A last going rounds waiting l → (∀ b o, b ≠ A.ca → H b = some o → H' b = some o) → Q H') : Q (upd H A.ca (.lst l)) :=
  h _ (Fra.put (memA p A).2.2.2.2) (c.putCa l) fun b o n e => by rw [upd_ne n]; exact e
@[elab_as_elim] theorem to_goL (c : LC H p A last going rounds waiting cs) (g : Int) (h : ∀ H', Fra (own p A) H H' → LC H' p A last g rounds waiting cs → Q H') : Q (upd H p (.dK (stD A g))) :=
  h _ (Fra.put (memA p A).1) (c.putGo g)
end
theorem LC.dom {H H' : Hp} {p : Addr} {A : Ad} {last : List Int} {going : Int} {rounds waiting : List Int} {cs : List V} {S : List Addr} (c : LC H' p A last going rounds waiting cs) (f : Fra (own p A) H H')
    (d : ∀ a ∈ S, ∃ o, H a = some o) : ∀ a ∈ S, ∃ o, H' a = some o := fun a ha => by
  by_cases q : a ∈ own p A
  · unfold own at q
    simp only [List.mem_cons, List.not_mem_nil, or_false] at q
    rcases q with e | e | e | e | e
    · rw [e]; exact ⟨_, c.pp⟩
    · rw [e]; exact ⟨_, c.la⟩
    · rw [e]; exact ⟨_, c.ro⟩
    · rw [e]; exact ⟨_, c.wa⟩
    · rw [e]; exact ⟨_, c.ca⟩
  · obtain ⟨o, h⟩ := d a ha
    exact ⟨o, f a o q h⟩
/-- the dict at p tells st -/
structure Ls (S : List Addr) (H : Hp) (p : Addr) (A : Ad) (st : EvS) : Prop where
  cell : ∃ cs, LC H p A st.last st.going st.rounds st.waiting cs ∧ Parts (off S H) cs st.tale
  sub : ∀ a ∈ own p A, a ∈ S
  dom : ∀ a ∈ S, ∃ o, H a = some o
  few : st.tale.length ≤ 900
theorem Ls.mono {S : List Addr} {H H' : Hp} {p : Addr} {A : Ad} {st : EvS} (s : Same H H') (e : Ls S H p A st) : Ls S H' p A st := by
  obtain ⟨⟨cs, c, q⟩, sub, dom, few⟩ := e
  refine ⟨⟨cs, c.mono s, q.mono (off_mono s)⟩, sub, fun a ha => ?_, few⟩
  obtain ⟨o, h⟩ := dom a ha
  exact ⟨o, s _ _ h⟩
section
variable {P : Program} {w : World} {K : PySem.W.Frag} {mg : Str → Option Value} {base : Heap}
end
end Song

/-! ### Lw4: deeds done to the law's own state -/
namespace Song
open PySem L2
section
variable {P : Program} {w : World} {K : PySem.W.Frag} {mg : Str → Option Value} {base : Heap}
end
end Song

/-! ### Fr1: deeds, frames, the making of an evening -/
namespace Song
open PySem L2
def doDeed (st : EvS) : Deed → EvS
  | .wish ss => if st.rounds.length = 24 then st else st.wish ss
  | .sing => st.sing
  | .out n => if st.waiting = [] then st else st.out (st.waiting.getD (n % (st.waiting.length : Int)).toNat 0)
theorem EvS.sing_last (st : EvS) : st.sing.last = st.last := by
  unfold EvS.sing
  cases st.next <;> rfl
theorem doDeed_last (st : EvS) (d : Deed) : (doDeed st d).last.length = st.last.length := by
  cases d with
  | wish ss =>
    simp only [doDeed]
    split
    · rfl
    · exact setAll_len _ _ _
  | sing => rw [show doDeed st .sing = st.sing from rfl, EvS.sing_last]
  | out n =>
    simp only [doDeed]
    split <;> rfl
theorem doDeed_ok {st : EvS} {d : Deed} {m : Int} (h : EvOk st) (hd : DeedOk m d) : EvOk (doDeed st d) := by
  cases d with
  | wish ss =>
    simp only [doDeed]
    split
    · exact h
    · exact h.wish (by have := h.r24; omega) (areS_len hd).2.1
  | sing => exact h.sing
  | out n =>
    simp only [doDeed]
    split
    · exact h
    · exact h.out _
theorem sing_tale (st : EvS) : st.sing.tale.length = st.tale.length + 1 := by
  unfold EvS.sing
  cases st.next <;> simp
theorem doDeed_tale (st : EvS) (d : Deed) : (doDeed st d).tale.length ≤ st.tale.length + 1 := by
  cases d with
  | wish ss =>
    simp only [doDeed]
    split
    · omega
    · show (st.tale ++ [_]).length ≤ _
      simp
  | sing =>
    have := sing_tale st
    show st.sing.tale.length ≤ _
    omega
  | out n =>
    simp only [doDeed]
    split
    · omega
    · show (st.tale ++ [_]).length ≤ _
      simp
/-- two owners' cells stand apart -/
def Dj (p : Addr) (A : Ad) (d : Addr) (B : Ad) : Prop := ∀ a ∈ own d B, a ∉ own p A
theorem Dj.symm {p d : Addr} {A B : Ad} (h : Dj p A d B) : Dj d B p A := fun a h1 h2 => h a h2 h1
section
variable {K : PySem.W.Frag} {S S' X : List Addr} {H H' : Hp} {d : Addr} {B : Ad} {st : EvS}
theorem Ls.fra (ls : Ls S H d B st) (f : Fra X H H') (sub : ∀ a ∈ X, a ∈ S) (dom : ∀ a ∈ S, ∃ o, H' a = some o) (dj : ∀ a ∈ own d B, a ∉ X) : Ls S H' d B st := by
  obtain ⟨⟨cs, c, q⟩, sub2, _, few⟩ := ls
  obtain ⟨m1, m2, m3, m4, m5⟩ := memA d B
  exact ⟨⟨cs, ⟨f _ _ (dj _ m1) c.pp, f _ _ (dj _ m2) c.la, f _ _ (dj _ m3) c.ro, f _ _ (dj _ m4) c.wa, f _ _ (dj _ m5) c.ca, c.nd⟩, q.mono (Fra.off (f.mono sub))⟩, sub2, dom, few⟩
theorem Ev.fra (ev : Ev K S H d B st) (f : Fra X H H') (sub : ∀ a ∈ X, a ∈ S) (dom : ∀ a ∈ S, ∃ o, H' a = some o) (dj : ∀ a ∈ own d B, a ∉ X) : Ev K S H' d B st := by
  obtain ⟨⟨cs, c, q⟩, sub2, _, few⟩ := ev
  obtain ⟨m1, m2, m3, m4, m5⟩ := memA d B
  obtain ⟨dx, hp⟩ := c.pp
  exact ⟨⟨cs, ⟨⟨dx, f _ _ (dj _ m1) hp⟩, f _ _ (dj _ m2) c.la, f _ _ (dj _ m3) c.ro, f _ _ (dj _ m4) c.wa, f _ _ (dj _ m5) c.ca, c.nd⟩, q.mono (Fra.off (f.mono sub))⟩, sub2, dom, few⟩
theorem off_less (h : ∀ a ∈ S, a ∈ S') : Same (off S' H) (off S H) := fun b o e => by
  obtain ⟨n, e⟩ := off_some e
  rw [off_out (fun z => n (h _ z))]; exact e
theorem off_more (s : Same H H') (c : ∀ a ∈ S', a ∈ S ∨ H a = none) : Same (off S H) (off S' H') := fun b o e => by
  obtain ⟨n, e⟩ := off_some e
  rw [off_out (fun z => by
    rcases c b z with q | q
    · exact n q
    · rw [q] at e; cases e)]
  exact s _ _ e
theorem Ev.shrink (ev : Ev K S' H d B st) (h : ∀ a ∈ S, a ∈ S') (sub : ∀ a ∈ own d B, a ∈ S) : Ev K S H d B st := by
  obtain ⟨⟨cs, c, q⟩, _, dom, few⟩ := ev
  exact ⟨⟨cs, c, q.mono (off_less h)⟩, sub, fun a ha => dom a (h a ha), few⟩
theorem Ls.shrink (ev : Ls S' H d B st) (h : ∀ a ∈ S, a ∈ S') (sub : ∀ a ∈ own d B, a ∈ S) : Ls S H d B st := by
  obtain ⟨⟨cs, c, q⟩, _, dom, few⟩ := ev
  exact ⟨⟨cs, c, q.mono (off_less h)⟩, sub, fun a ha => dom a (h a ha), few⟩
theorem Ev.grow (ev : Ev K S H d B st) (s : Same H H') (h : ∀ a ∈ S, a ∈ S') (c : ∀ a ∈ S', a ∈ S ∨ H a = none) (dom : ∀ a ∈ S', ∃ o, H' a = some o) : Ev K S' H' d B st := by
  obtain ⟨⟨cs, c1, q⟩, sub, _, few⟩ := ev
  exact ⟨⟨cs, c1.mono s, q.mono (off_more s c)⟩, fun a ha => h a (sub a ha), dom, few⟩
theorem Ls.grow (ev : Ls S H d B st) (s : Same H H') (h : ∀ a ∈ S, a ∈ S') (c : ∀ a ∈ S', a ∈ S ∨ H a = none) (dom : ∀ a ∈ S', ∃ o, H' a = some o) : Ls S' H' d B st := by
  obtain ⟨⟨cs, c1, q⟩, sub, _, few⟩ := ev
  exact ⟨⟨cs, c1.mono s, q.mono (off_more s c)⟩, fun a ha => h a (sub a ha), dom, few⟩
end
theorem nS1 : decide (V.str "wish" = V.str "sing") = false := by decide +kernel
theorem nO1 : decide (V.str "wish" = V.str "out") = false := by decide +kernel
theorem nO2 : decide (V.str "sing" = V.str "out") = false := by decide +kernel
theorem nS2 : decide (V.str "out" = V.str "sing") = false := by decide +kernel
theorem Cells.domOwn {C : Addr} {H : Hp} {p : Addr} {A : Ad} {last : List Int} {going : Int} {rounds waiting : List Int} {cs : List V} (c : Cells C H p A last going rounds waiting cs) : ∀ a ∈ own p A, ∃ o, H a = some o := fun a q => by
  unfold own at q
  simp only [List.mem_cons, List.not_mem_nil, or_false] at q
  obtain ⟨dx, hp⟩ := c.pp
  rcases q with e | e | e | e | e
  · rw [e]; exact ⟨_, hp⟩
  · rw [e]; exact ⟨_, c.la⟩
  · rw [e]; exact ⟨_, c.ro⟩
  · rw [e]; exact ⟨_, c.wa⟩
  · rw [e]; exact ⟨_, c.ca⟩
theorem LC.domOwn {H : Hp} {p : Addr} {A : Ad} {last : List Int} {going : Int} {rounds waiting : List Int} {cs : List V} (c : LC H p A last going rounds waiting cs) : ∀ a ∈ own p A, ∃ o, H a = some o := fun a q => by
  unfold own at q
  simp only [List.mem_cons, List.not_mem_nil, or_false] at q
  rcases q with e | e | e | e | e
  · rw [e]; exact ⟨_, c.pp⟩
  · rw [e]; exact ⟨_, c.la⟩
  · rw [e]; exact ⟨_, c.ro⟩
  · rw [e]; exact ⟨_, c.wa⟩
  · rw [e]; exact ⟨_, c.ca⟩
/-- an evening just made -/
theorem Ev.made {K : PySem.W.Frag} {H : Hp} {p : Addr} {A : Ad} {n : Int} (c : Cells (He.ga K "Evening") H p A (List.replicate n.toNat 0) 1 [] [] []) : Ev K (own p A) H p A (evNew n) :=
  ⟨⟨[], c, trivial⟩, fun _ h => h, c.domOwn, by show 0 ≤ 900; decide⟩
/-- a part whose inner list is one's own: it may have grown -/
def MutP (H0 : Hp) (l2 : Addr) (n : Nat) (H : Hp) (v : V) : Prop :=
  (∃ (t b : Addr) (x y : V) (xs : List V), v = .ref t ∧ H t = some (.tup [.str "wish", .ref b, x, y]) ∧ H0 b = none ∧ b ≠ l2 ∧ H b = some (.lst xs) ∧ xs.length ≤ 3 + n) ∨
  (∃ (t : Addr) (s : Str) (x : V), v = .ref t ∧ H t = some (.tup [.str s, x]) ∧ decide (V.str s = V.str "wish") = false)
theorem MutP.mono {H0 : Hp} {l2 : Addr} {n : Nat} {H H' : Hp} {v : V} (s : Same H H') (h : MutP H0 l2 n H v) : MutP H0 l2 n H' v := by
  rcases h with ⟨t, b, x, y, xs, h1, h2, h3, h4, h5, h6⟩ | ⟨t, z, x, h1, h2, h3⟩
  · exact .inl ⟨t, b, x, y, xs, h1, s _ _ h2, h3, h4, s _ _ h5, h6⟩
  · exact .inr ⟨t, z, x, h1, s _ _ h2, h3⟩
theorem MutP.up {H0 : Hp} {l2 : Addr} {n : Nat} {H : Hp} {v : V} (h : MutP H0 l2 n H v) : MutP H0 l2 (n + 1) H v := by
  rcases h with ⟨t, b, x, y, xs, h1, h2, h3, h4, h5, h6⟩ | h
  · exact .inl ⟨t, b, x, y, xs, h1, h2, h3, h4, h5, by omega⟩
  · exact .inr h
theorem MutP.put {H0 : Hp} {l2 : Addr} {n : Nat} {H : Hp} {v : V} {c : Addr} {xs : List V} (hc : H c = some (.lst xs)) (hl : xs.length ≤ 3 + n) (y0 : V) (h : MutP H0 l2 n H v) : MutP H0 l2 (n + 1) (upd H c (.lst (xs ++ [y0]))) v := by
  rcases h with ⟨t, b, x, y, ys, h1, h2, h3, h4, h5, h6⟩ | ⟨t, z, x, h1, h2, h3⟩
  · have ntc : t ≠ c := ne_of h2 hc (by intro q; cases q)
    by_cases e : b = c
    · subst e
      exact .inl ⟨t, b, x, y, _, h1, by rw [upd_ne ntc]; exact h2, h3, h4, upd_same, by rw [List.length_append, List.length_singleton]; omega⟩
    · exact .inl ⟨t, b, x, y, ys, h1, by rw [upd_ne ntc]; exact h2, h3, h4, by rw [upd_ne e]; exact h5, by omega⟩
  · have ntc : t ≠ c := ne_of h2 hc (by intro q; cases q)
    exact .inr ⟨t, z, x, h1, by rw [upd_ne ntc]; exact h2, h3⟩
theorem PartN.mut {H0 H : Hp} {l2 : Addr} {v : V} {p : Part} (h : PartN H0 (off [l2] H) v p) (h3 : ∀ ss n r, p = .wish ss n r → ss.length ≤ 3) : MutP H0 l2 0 H v := by
  obtain ⟨pa, pn⟩ := h
  cases v with
  | ref t =>
    cases p with
    | wish ss n r =>
      obtain ⟨t', b, e, h1, h2, h4⟩ := pn ss n r rfl
      cases e
      obtain ⟨nb, hb⟩ := off_some h2
      exact .inl ⟨t, b, _, _, _, rfl, (off_some h1).2, h4, by simpa using nb, hb, by rw [List.length_map]; exact h3 ss n r rfl⟩
    | sing o => exact .inr ⟨t, _, _, rfl, (off_some pa).2, nW1⟩
    | out n => exact .inr ⟨t, _, _, rfl, (off_some pa).2, nW2⟩
  | _ => exact pa.elim
theorem eqv_tale (ps : List Part) : PyData.eqv (.list (ps.map Part.data)) (.list (ps.map Part.data)) = true := eqv_self (shp_tale ps)
section
variable {K : PySem.W.Frag}
theorem Ev.pp {S : List Addr} {H : Hp} {p : Addr} {A : Ad} {st : EvS} (e : Ev K S H p A st) : ∃ dx, H p = some (.ins (He.ga K "Evening") dx (evF A st.going)) := by
  obtain ⟨cs, c, _⟩ := e.cell
  exact c.pp
theorem Ls.tale {S : List Addr} {H : Hp} {p : Addr} {A : Ad} {st : EvS} (e : Ls S H p A st) : Dp K H (.ref A.ca) (.list (st.tale.map Part.data)) := by
  obtain ⟨cs, c, q⟩ := e.cell
  exact .lst (SqL.of c.ca) (q.mono (off_le S H)).dp
theorem told_dp {H0 H : Hp} {l : Addr} {cs : List V} {ps : List Part} (hl : H l = some (.lst cs)) (he : cs.length = ps.length) (h : ∀ (i : Nat) v, cs[i]? = some v → ∃ q, ps[i]? = some q ∧ PartN H0 (off [l] H) v q) :
    Dp K H (.ref l) (.list (ps.map Part.data)) :=
  .lst (SqL.of hl) (Parts.mono (off_le [l] H) (Parts.of he fun i v e => by
    obtain ⟨q, h1, h2⟩ := h i v e
    exact ⟨q, h1, h2.1⟩)).dp
end
end Song

/-! ### Pl3: a tale gone over, plainly -/
namespace Song
open PySem L2
/-- a part that can come now, done -/
def stepPart (st : EvS) : Part → Option EvS
  | .wish ss n r => if areSingers ss st.last.length = true ∧ st.rounds.length < 24 ∧ n = (st.rounds.length : Int) ∧ r = st.num ss then some (st.wish ss) else none
  | .sing o => if st.next = o then some st.sing else none
  | .out n => if n ∈ st.waiting then some (st.out n) else none
def firstFrom (st : EvS) (i : Int) : List Part → Int
  | [] => -1
  | p :: r => match stepPart st p with
    | none => i
    | some st' => firstFrom st' (i + 1) r
def firstWrong (many : Int) (tale : List Part) : Int := firstFrom (evNew many) 0 tale
theorem firstFrom_none {st : EvS} {i : Int} {p : Part} {r : List Part} (h : stepPart st p = none) : firstFrom st i (p :: r) = i := by
  show (match stepPart st p with | none => i | some st' => firstFrom st' (i + 1) r) = i
  rw [h]
theorem firstFrom_some {st st' : EvS} {i : Int} {p : Part} {r : List Part} (h : stepPart st p = some st') : firstFrom st i (p :: r) = firstFrom st' (i + 1) r := by
  show (match stepPart st p with | none => i | some st' => firstFrom st' (i + 1) r) = _
  rw [h]
theorem stepPart_ok {st st' : EvS} {p : Part} (h : stepPart st p = some st') (ok : EvOk st) : EvOk st' ∧ st'.last.length = st.last.length ∧ st'.tale.length = st.tale.length + 1 := by
  cases p with
  | wish ss n r =>
    simp only [stepPart] at h
    split at h
    · rename_i c
      cases h
      exact ⟨ok.wish c.2.1 (areS_len c.1).2.1, setAll_len _ _ _, by show (st.tale ++ [_]).length = _; simp⟩
    · cases h
  | sing o =>
    simp only [stepPart] at h
    split at h
    · cases h
      exact ⟨ok.sing, by rw [EvS.sing_last], sing_tale st⟩
    · cases h
  | out n =>
    simp only [stepPart] at h
    split at h
    · cases h
      exact ⟨ok.out n, rfl, by show (st.tale ++ [_]).length = _; simp⟩
    · cases h
theorem firstFrom_lo (st : EvS) : ∀ (r : List Part) (st : EvS) (i : Int), 0 ≤ i → firstFrom st i r = -1 ∨ (i ≤ firstFrom st i r ∧ firstFrom st i r < i + r.length)
  | [], _, _, _ => .inl rfl
  | p :: r, st, i, hi => by
    cases e : stepPart st p with
    | none => rw [firstFrom_none e]; exact .inr ⟨Int.le_refl _, by rw [List.length_cons]; omega⟩
    | some st' =>
      rw [firstFrom_some e]
      rcases firstFrom_lo st r st' (i + 1) (by omega) with h | h
      · exact .inl h
      · exact .inr ⟨by omega, by rw [List.length_cons]; omega⟩
theorem firstWrong_ge (many : Int) (tale : List Part) : firstWrong many tale = -1 ∨ (0 ≤ firstWrong many tale ∧ firstWrong many tale < tale.length) := by
  rcases firstFrom_lo (evNew many) tale (evNew many) 0 (by decide) with h | h
  · exact .inl h
  · refine .inr ⟨h.1, ?_⟩
    have := h.2
    unfold firstWrong
    omega
end Song

/-! ### Dc: dicts of whole numbers, plainly -/
namespace Song
open PySem L2
def getC (cn : List (Int × Int)) (k : Int) : Option Int := (cn.find? fun p => decide (p.1 = k)).map (·.2)
def putC (cn : List (Int × Int)) (k v : Int) : List (Int × Int) := if (cn.any fun p => decide (p.1 = k)) = true then cn.map (fun p => if p.1 = k then (p.1, v) else p) else cn ++ [(k, v)]
def toK (cn : List (Int × Int)) : List (Key × V) := cn.map fun p => (Sum.inl p.1, V.int p.2)
theorem inl_iff {a b : Int} : ((Sum.inl a : Key) = Sum.inl b) ↔ a = b := ⟨fun e => by injection e, fun e => by rw [e]⟩
theorem valV_toK (k : Int) : ∀ cn : List (Int × Int), valV (toK cn) (Sum.inl k) = (getC cn k).map V.int
  | [] => rfl
  | p :: r => by
    by_cases e : p.1 = k
    · have h1 : valV (toK (p :: r)) (Sum.inl k) = some (.int p.2) := valV_pos (p := (Sum.inl p.1, V.int p.2)) (inl_iff.mpr e)
      rw [h1]
      unfold getC
      rw [List.find?_cons_of_pos (by simpa using e)]; rfl
    · have h1 : valV (toK (p :: r)) (Sum.inl k) = valV (toK r) (Sum.inl k) := valV_neg (p := (Sum.inl p.1, V.int p.2)) (fun z => e (inl_iff.mp z))
      rw [h1, valV_toK k r]
      unfold getC
      rw [List.find?_cons_of_neg (by simpa using e)]
theorem any_toK (k : Int) (cn : List (Int × Int)) : ((toK cn).any fun kv => decide (kv.1 = Sum.inl k)) = cn.any fun p => decide (p.1 = k) := by
  unfold toK
  rw [List.any_map]
  congr 1
  funext p
  exact decide_eq_decide.mpr inl_iff
theorem putK_toK (k v : Int) (cn : List (Int × Int)) : putK (toK cn) (Sum.inl k) (.int v) = toK (putC cn k v) := by
  unfold putK putC
  rw [any_toK]
  split
  · unfold toK
    rw [List.map_map, List.map_map]
    refine List.map_congr_left fun p _ => ?_
    show (if (Sum.inl p.1 : Key) = Sum.inl k then _ else _) = ((fun p : Int × Int => ((Sum.inl p.1 : Key), V.int p.2)) (if p.1 = k then (p.1, v) else p))
    by_cases e : p.1 = k
    · rw [if_pos (inl_iff.mpr e), if_pos e]
    · rw [if_neg (fun z => e (inl_iff.mp z)), if_neg e]
  · unfold toK
    rw [List.map_append]; rfl
theorem toK_len (cn : List (Int × Int)) : (toK cn).length = cn.length := List.length_map _
theorem putC_len (cn : List (Int × Int)) (k v : Int) : (putC cn k v).length ≤ cn.length + 1 := by
  unfold putC
  split
  · rw [List.length_map]; omega
  · rw [List.length_append, List.length_singleton]; omega
theorem getC_putC (cn : List (Int × Int)) (k v s : Int) : getC (putC cn k v) s = if s = k then some v else getC cn s := by
  unfold putC
  by_cases h : (cn.any fun p => decide (p.1 = k)) = true
  · rw [if_pos h]
    induction cn with
    | nil => simp at h
    | cons p r ih =>
      unfold getC at ih ⊢
      rw [List.map_cons]
      by_cases e : p.1 = k
      · rw [if_pos e]
        by_cases e2 : s = k
        · rw [if_pos e2, List.find?_cons_of_pos (by simp [e, e2])]; rfl
        · rw [if_neg e2, List.find?_cons_of_neg (by simp [e]; exact fun z => e2 z.symm), List.find?_cons_of_neg (by simp [e]; exact fun z => e2 z.symm)]
          by_cases h2 : (r.any fun p => decide (p.1 = k)) = true
          · rw [ih h2, if_neg e2]
          · have e3 : r.map (fun p => if p.1 = k then (p.1, v) else p) = r := by
              refine (List.map_congr_left fun q hq => ?_).trans (List.map_id _)
              rw [if_neg (fun z => h2 (List.any_eq_true.mpr ⟨q, hq, decide_eq_true z⟩))]; rfl
            rw [e3]
      · rw [if_neg e]
        have h2 : (r.any fun p => decide (p.1 = k)) = true := by
          rw [List.any_cons, decide_eq_false e] at h; exact h
        by_cases e2 : p.1 = s
        · rw [List.find?_cons_of_pos (by simpa using e2), List.find?_cons_of_pos (by simpa using e2), if_neg (fun z => e (e2.trans z))]
        · rw [List.find?_cons_of_neg (by simpa using e2), List.find?_cons_of_neg (by simpa using e2)]
          exact ih h2
  · rw [if_neg h]
    unfold getC
    rw [List.find?_append]
    by_cases e2 : s = k
    · rw [if_pos e2]
      have n : cn.find? (fun p => decide (p.1 = s)) = none := List.find?_eq_none.mpr fun p hp z => h (List.any_eq_true.mpr ⟨p, hp, by rw [← e2]; exact z⟩)
      rw [n]
      simp [e2]
    · rw [if_neg e2]
      have n : [(k, v)].find? (fun p : Int × Int => decide (p.1 = s)) = none := by
        rw [List.find?_cons_of_neg (by simpa using fun z => e2 z.symm)]; rfl
      rw [n, Option.or_none]
theorem getC_get {H : Hp} {c : Addr} {cn : List (Int × Int)} {x v : Int} (h : H c = some (.dK (toK cn))) (g : getC cn x = some v) : DGet H c (.int x) (some (.int v)) := by
  have z := DGet.k (k := Sum.inl x) h
  rw [valV_toK, g] at z
  exact z
end Song

/-! ### Cut: a named state behind a statement, a named answer behind an expression -/
namespace Song
open PySem L2
def sCut (t : TS) : TS := fun D σ H => ∃ G : L2.St → Hp → Prop, t { D with nx := G } σ H ∧ ∀ σ' H', G σ' H' → D.nx σ' H'
theorem ps_cut {X : Cx} {st : Stmt} {t : TS} (h : PS X st t) : PS X st (sCut t) := by
  refine ⟨fun pins s σ H D I hw => ?_⟩
  obtain ⟨G, h1, h2⟩ := hw
  refine thn (h.run pins s σ H _ I h1) fun f s1 q => ?_
  cases f with
  | next => obtain ⟨σ', H', I2, z⟩ := q; exact ⟨σ', H', I2, h2 _ _ z⟩
  | brk => exact q
  | cont => exact q
  | ret v => exact q
def eCut (t : TE) : TE := fun σ H Q => ∃ G : V → Hp → Prop, t σ H G ∧ ∀ v H', G v H' → Q v H'
theorem pe_cut {X : Cx} {e : Expr} {t : TE} (h : PE X e t) : PE X e (eCut t) := by
  refine ⟨fun pins s σ H Q I hw => ?_⟩
  obtain ⟨G, h1, h2⟩ := hw
  refine thn (h.run pins s σ H _ I h1) fun v s1 ⟨x, H1, I1, r, q⟩ => ?_
  exact ⟨x, H1, I1, r, h2 _ _ q⟩
/-- one of two readings of an expression -/
def tAlt (t1 t2 : TE) : TE := fun σ H Q => t1 σ H Q ∨ t2 σ H Q
theorem pe_alt {X : Cx} {e : Expr} {t1 t2 : TE} (a : PE X e t1) (b : PE X e t2) : PE X e (tAlt t1 t2) :=
  ⟨fun pins s σ H Q I h => h.elim (fun h => a.run pins s σ H Q I h) (fun h => b.run pins s σ H Q I h)⟩
/-- an own instance's class, for isinstance -/
theorem ty_ins {K : PySem.W.Frag} {H : Hp} {a C dx : Addr} {fs : List (Str × V)} (h : H a = some (.ins C dx fs)) (cl : Cls K C) (c : IsC K C) : TyX K H (.ref a) (.ref C) := .base (.ins h cl c.cls c.spe c.tak c.mro)
/-- lists of numbers in the heap, none of them long -/
def IntL (K : PySem.W.Frag) (H : Hp) (vs : List V) : Prop := ∀ v ∈ vs, ∃ (b : Addr) (ns : List Int), v = .ref b ∧ SqL K H b (ns.map V.int) ∧ ns.length ≤ 100
theorem IntL.mono {K : PySem.W.Frag} {H H' : Hp} {vs : List V} (s : Same H H') (h : IntL K H vs) : IntL K H' vs := fun v hv => by
  obtain ⟨b, ns, e, q, l⟩ := h v hv
  exact ⟨b, ns, e, s.seq q, l⟩
theorem IntL.nil {K : PySem.W.Frag} {H : Hp} : IntL K H [] := fun v hv => by cases hv
theorem IntL.cons {K : PySem.W.Frag} {H : Hp} {b : Addr} {ns : List Int} {vs : List V} (h : SqL K H b (ns.map V.int)) (l : ns.length ≤ 100) (t : IntL K H vs) : IntL K H (.ref b :: vs) := fun v hv => by
  rcases List.mem_cons.mp hv with e | e
  · exact ⟨b, ns, e, h, l⟩
  · exact t v e
theorem IntL.app {K : PySem.W.Frag} {H : Hp} {vs ws : List V} (h : IntL K H vs) (g : IntL K H ws) : IntL K H (vs ++ ws) := fun v hv => by
  rcases List.mem_append.mp hv with e | e
  · exact h v e
  · exact g v e
theorem rep_intsN (n : Nat) (ns : List Int) : (List.replicate n (ns.map V.int)).flatten = ((List.replicate n ns).flatten).map V.int := by
  rw [List.map_flatten, List.map_replicate]
end Song

/-! ### Ev7: who can still come ahead; within, worst -/
namespace Song
open PySem L2
/-- singers of the lists that can still come ahead of a round -/
def moreA (last : List Int) (going most : Int) : Nat → List Int
  | 0 => []
  | n + 1 => moreA last going most n ++ List.replicate (max 0 (most - floorOf last going (n : Int))).toNat (n : Int)
def EvS.ahead (st : EvS) (song : Int) : List Int := (moreA st.last st.going (st.rounds.getD song.toNat 0) st.last.length).take (24 - st.rounds.length)
def EvS.within (st : EvS) (song : Int) : Int := (st.queue.idxOf song : Int) + 1 + (st.ahead song).length
/-- rounds are no greater than there are songs -/
structure EvB (st : EvS) : Prop where
  la : ∀ x ∈ st.last, 0 ≤ x ∧ x ≤ st.rounds.length
  go : 1 ≤ st.going ∧ st.going ≤ max 1 (st.rounds.length : Int)
  ro : ∀ r ∈ st.rounds, 1 ≤ r ∧ r ≤ st.rounds.length
theorem EvB.new (many : Int) : EvB (evNew many) := ⟨fun x hx => by
  have : x = 0 := (List.mem_replicate.mp hx).2
  rw [this]; show (0 : Int) ≤ 0 ∧ (0 : Int) ≤ ((0 : Nat) : Int); omega, ⟨Int.le_refl _, by show (1 : Int) ≤ max 1 _; omega⟩, fun r hr => by cases hr⟩
theorem mem_setAll {last : List Int} {n x : Int} : ∀ {ss : List Int} {last : List Int}, x ∈ setAll last ss n → x ∈ last ∨ x = n
  | [], _, h => .inl h
  | s :: r, last, h => by
    have h : x ∈ setAll (last.set s.toNat n) r n := h
    rcases mem_setAll (last := last) h with z | z
    · rcases List.mem_or_eq_of_mem_set z with y | y
      · exact .inl y
      · exact .inr y
    · exact .inr z
theorem EvB.num {st : EvS} (h : EvB st) {ss : List Int} (hi : InB st.last.length ss) (hn : ss ≠ []) : 1 ≤ st.num ss ∧ st.num ss ≤ (st.rounds.length : Int) + 1 := by
  unfold EvS.num roundFor
  have hm := foldl_max_mem
  have hne : ss.map (floorOf st.last st.going) ≠ [] := fun z => hn (List.map_eq_nil_iff.mp z)
  obtain ⟨s, hs, e⟩ : ∃ s ∈ ss, maxL (ss.map (floorOf st.last st.going)) = floorOf st.last st.going s := by
    cases hc : ss.map (floorOf st.last st.going) with
    | nil => exact absurd hc hne
    | cons a r =>
      have := foldl_max_mem r a
      rw [← hc] at this
      obtain ⟨s, hs, e⟩ := List.mem_map.mp this
      exact ⟨s, hs, e.symm⟩
  rw [e]
  unfold floorOf
  obtain ⟨s0, s1⟩ := hi s hs
  have hl : st.last.getD s.toNat 0 ∈ st.last := by
    rw [List.getD_eq_getElem?_getD, List.getElem?_eq_getElem (by omega)]
    exact List.getElem_mem _
  have h1 := h.la _ hl
  have h2 := h.go
  omega
theorem EvB.wish {st : EvS} (h : EvB st) {ss : List Int} (hi : InB st.last.length ss) (hn : ss ≠ []) : EvB (st.wish ss) := by
  have hnum := h.num hi hn
  have hl : ((st.wish ss).rounds.length : Int) = (st.rounds.length : Int) + 1 := by
    show (((st.rounds ++ [_]).length : Nat) : Int) = _
    rw [List.length_append, List.length_singleton]; omega
  refine ⟨fun x hx => ?_, ⟨h.go.1, ?_⟩, fun r hr => ?_⟩
  · rw [hl]
    rcases mem_setAll (last := st.last) hx with z | z
    · have := h.la x z; omega
    · rw [z]; omega
  · have := h.go.2
    show st.going ≤ _
    omega
  · rw [hl]
    rcases List.mem_append.mp hr with z | z
    · have := h.ro r z; omega
    · rw [List.mem_singleton.mp z]; omega
theorem EvB.sing {st : EvS} (h : EvB st) (ok : EvOk st) : EvB st.sing := by
  unfold EvS.sing
  cases e : st.next with
  | none => exact ⟨h.la, h.go, h.ro⟩
  | some s =>
    have hs := ok.inb s (EvS.next_mem e)
    have hm : st.rounds.getD s.toNat 0 ∈ st.rounds := by
      rw [List.getD_eq_getElem?_getD, List.getElem?_eq_getElem (by omega)]
      exact List.getElem_mem _
    have := h.ro _ hm
    exact ⟨h.la, ⟨this.1, by show st.rounds.getD _ _ ≤ max 1 (st.rounds.length : Int); omega⟩, h.ro⟩
theorem EvB.out {st : EvS} (h : EvB st) (n : Int) : EvB (st.out n) := ⟨h.la, h.go, h.ro⟩
theorem moreA_len {last : List Int} {going most : Int} (hg : 1 ≤ going) (hm : most ≤ 24) : ∀ n, (moreA last going most n).length ≤ 24 * n
  | 0 => Nat.le_refl _
  | n + 1 => by
    have ih := moreA_len (last := last) hg hm n
    show (moreA last going most n ++ _).length ≤ _
    rw [List.length_append, List.length_replicate]
    have : floorOf last going (n : Int) ≥ going := by unfold floorOf; omega
    omega
theorem moreA_in {last : List Int} {going most : Int} : ∀ {n : Nat} {x : Int}, x ∈ moreA last going most n → 0 ≤ x ∧ x < n
  | 0, _, h => by cases h
  | n + 1, x, h => by
    rcases List.mem_append.mp h with z | z
    · have := moreA_in z; omega
    · rw [(List.mem_replicate.mp z).2]; omega
theorem rowsIn {K : PySem.W.Frag} {H : Hp} {b : Addr} {x : Int} {n : Nat} (h : H b = some (.lst [V.int x])) : ∀ v ∈ List.replicate n (V.ref b), ∃ c, v = .ref c ∧ SqL K H c ([x].map V.int) := fun v hv => ⟨b, (List.mem_replicate.mp hv).2, SqL.of h⟩
/-- lists of one singer each, in the heap -/
def Ones (K : PySem.W.Frag) (H : Hp) (vs : List V) (xs : List Int) : Prop := vs.length = xs.length ∧ ∀ (i : Nat) v, vs[i]? = some v → ∃ c x, xs[i]? = some x ∧ v = .ref c ∧ SqL K H c ([x].map V.int)
theorem Ones.mono {K : PySem.W.Frag} {H H' : Hp} {vs : List V} {xs : List Int} (s : Same H H') (h : Ones K H vs xs) : Ones K H' vs xs := ⟨h.1, fun i v e => by
  obtain ⟨c, x, h1, h2, h3⟩ := h.2 i v e
  exact ⟨c, x, h1, h2, s.seq h3⟩⟩
theorem Ones.app {K : PySem.W.Frag} {H : Hp} {vs ws : List V} {ps qs : List Int} (h : Ones K H vs ps) (g : Ones K H ws qs) : Ones K H (vs ++ ws) (ps ++ qs) := by
  refine ⟨by rw [List.length_append, List.length_append, h.1, g.1], fun i v e => ?_⟩
  by_cases c : i < vs.length
  · rw [List.getElem?_append_left c] at e
    rw [List.getElem?_append_left (by rw [← h.1]; exact c)]
    exact h.2 i v e
  · rw [List.getElem?_append_right (by omega)] at e
    rw [List.getElem?_append_right (by rw [← h.1]; omega), ← h.1]
    exact g.2 _ v e
theorem Ones.rep {K : PySem.W.Frag} {H : Hp} {b : Addr} {x : Int} (n : Nat) (h : H b = some (.lst [V.int x])) : Ones K H (List.replicate n (V.ref b)) (List.replicate n x) := by
  refine ⟨by rw [List.length_replicate, List.length_replicate], fun i v e => ?_⟩
  have hi : i < n := by
    have := (List.getElem?_eq_some_iff.mp e).1
    rwa [List.length_replicate] at this
  rw [List.getElem?_replicate, if_pos hi] at e
  exact ⟨b, x, by rw [List.getElem?_replicate, if_pos hi], (Option.some.inj e).symm, SqL.of h⟩
theorem Ones.take {K : PySem.W.Frag} {H : Hp} {vs : List V} {ps : List Int} (n : Nat) (h : Ones K H vs ps) : Ones K H (vs.take n) (ps.take n) := by
  refine ⟨by rw [List.length_take, List.length_take, h.1], fun i v e => ?_⟩
  have hi : i < n := by
    have := (List.getElem?_eq_some_iff.mp e).1
    rw [List.length_take] at this; omega
  rw [List.getElem?_take_of_lt hi] at e
  rw [List.getElem?_take_of_lt hi]
  exact h.2 i v e
section
variable {P : Program} {w : World} {K : PySem.W.Frag} {mg : Str → Option Value} {base : Heap}
theorem sc_more_ahead : FnScope ["last", "going", "most", "wished", "found", "singer"] ["last", "going", "most", "wished"] (defScope s_more_ahead) := ⟨rfl, rfl, rfl, by decide +kernel, rfl, by decide +kernel, by decide +kernel⟩
def sp_more_ahead (K : PySem.W.Frag) : Sp := fun vs H Q _ => ∃ (a : Addr) (last : List Int) (going most : Int) (n : Nat), vs = [.ref a, .int going, .int most, .int n] ∧ SqL K H a (last.map V.int) ∧ last.length ≤ 6 ∧ 1 ≤ going ∧ most ≤ 24 ∧ n ≤ 24 ∧
  ∀ l H' cs, H l = none → Same H H' → H' l = some (.lst cs) → Ones K H' cs ((moreA last going most last.length).take (24 - n)) → Q (.ref l) H'
theorem max_iteZ (j : Int) : (if j > 0 then j else 0) = max 0 j := by split <;> omega
theorem fn_more_ahead (T : Tx K mg) : Fn P w K mg base "more_ahead" 2 (sp_more_ahead K) := by
  obtain ⟨fd, F⟩ := T.d_more_ahead
  refine ⟨_, fd, _, F.ok (CX := CX0) sc_more_ahead (fun vs H Q E h => ?_) (fun cdv A outer s H vs Q E hr h => ?_), T.g_more_ahead, F.kp, F.bindsN fun _ _ _ _ _ _ us hl => match us, hl with | [_, _, _, _], _ => rfl⟩
  · obtain ⟨a, last, going, most, n, rfl, _⟩ := h; rfl
  · obtain ⟨a, last, going, most, n, rfl, ha, l6, gg1, m24, n24, q⟩ := h
    refine ⟨_, PSs.nox (pss_cons (ps_set (i := 4) sc_more_ahead.nd rfl (by first | exact Or.inl rfl | exact Or.inr rfl) (pe_lst pa_nil))
      (pss_cons (ps_for PassesOwn.never rfl (pi_range1 (by rfl) T.range (pa_cons (pe_callB (show CallR _ _ (rLenQ K) from call_len_seq) (by rfl) T.len (by decide +kernel) (pa_cons (pv 0) pa_nil)) pa_nil)) (pg_name (i := 5) sc_more_ahead.nd rfl (by first | exact Or.inl rfl | exact Or.inr rfl))
      (pss_one (ps_expr (show PE _ _ (tBM K _ _ _ _) from pe_bm PySem.F.plainAttrs_list PySem.F.slot_list_extend PySem.F.type_list_extend mt_extend (pv 4) (pa_cons (pe_op op_rep (pe_lst (pa_cons (pe_lst (pa_cons (pv 5) pa_nil)) pa_nil)) (pe_callB (call_max2 (by rfl)) (by rfl) T.max (by decide +kernel) (pa_cons pe_int (pa_cons (pe_op op_sub (pv 2) (pe_fn (fn_floor_of T) (hr.mono (by first | decide | omega)) (by rfl) (pa_cons (pv 0) (pa_cons (pv 1) (pa_cons (pv 5) pa_nil))))) pa_nil)))) pa_nil)))))
      (pss_one (ps_ret (pe_slice (show SlR _ (rSlL K) from sl_list) (pv 4) po_none (po_some (pe_op op_sub (pe_gi T.c_MOST_SONGS (by rfl)) (pv 3)))))))), ?_⟩
    refine ⟨Nat.zero_le _, fun l nl => ?_⟩
    refine to_new nl fun H1 s1 hl => ?_
    refine ⟨_, rfl, a, _, rfl, .inl (s1.seq ha), _, rfl, by rw [List.length_map]; omega, by rw [List.length_map]; omega, ?_⟩
    rw [List.length_map, show ((last.length : Int)).toNat = last.length by omega]
    refine for_range (lo := 0) (fun i σ H' => ∃ (x5 : Option V) (cs : List V), σ = [some (.ref a), some (.int going), some (.int most), some (.int n), some (.ref l), x5] ∧ Same H H' ∧ H' l = some (.lst cs) ∧ Ones K (off [l] H') cs (moreA last going most i)) ?_ ?_ ?_
    · exact ⟨_, [], rfl, s1, hl, rfl, fun i v e => by simp at e⟩
    · rintro i σ G hi ⟨x5, cs, rfl, g, hlG, hO⟩
      refine ⟨_, rfl, .inl ⟨rfl, _, SqL.of hlG⟩, _, rfl, by show 1 ≤ sizeLine; decide, fun b nb => ?_⟩
      refine to_new nb fun G1 g1 hb => ?_
      refine ⟨by show 1 ≤ sizeLine; decide, fun c nc => ?_⟩
      refine to_new nc fun G2 g2 hc => ?_
      have g02 := g.trans (g1.trans g2)
      refine ⟨_, rfl, _, rfl, _, rfl, _, rfl, a, last, going, _, rfl, g02.seq ha, by omega, by omega, ?_⟩
      rw [show (0 + (i : Int)) = (i : Int) by omega]
      refine ⟨_, _, rfl, rfl, _, _, rfl, ?_⟩
      rw [max_iteZ]
      have fl : floorOf last going (i : Int) ≥ going := by unfold floorOf; omega
      refine ⟨c, _, _, rfl, rfl, hc, by omega, by omega, ?_, fun d nd => ?_⟩
      · show 1 * _ ≤ sizeLine
        have := lt_line (n := (max 0 (most - floorOf last going (i : Int))).toNat) (by omega)
        omega
      have erep : (List.replicate (max 0 (most - floorOf last going (i : Int))).toNat [V.ref b]).flatten = List.replicate (max 0 (most - floorOf last going (i : Int))).toNat (V.ref b) := by
        generalize (max 0 (most - floorOf last going (i : Int))).toNat = k
        induction k with
        | zero => rfl
        | succ k ih => rw [List.replicate_succ, List.flatten_cons, ih]; rfl
      rw [erep]
      refine to_new nd fun G3 g3 hd => ?_
      have ml := moreA_len (last := last) gg1 m24 i
      have hlG3 := (g1.trans (g2.trans g3)) _ _ hlG
      refine ⟨l, d, _, _, rfl, rfl, hlG3, hd, ?_, ?_⟩
      · rw [hO.1, List.length_replicate]
        have := lt_line (n := (moreA last going most i).length + (max 0 (most - floorOf last going (i : Int))).toNat) (by omega)
        omega
      refine to_put fun G4 f4 h4 => ?_
      have nbl : b ≠ l := (ne_of_none hlG nb).symm
      have hb3 : (off [l] G3) b = some (.lst [V.int (0 + (i : Int))]) := by
        rw [off_out (by simpa using nbl)]
        exact (g2.trans g3) _ _ hb
      rw [show (0 + (i : Int)) = (i : Int) by omega] at hb3
      refine ⟨_, _, rfl, f4.back (g02.trans g3) (fun x hx => by rw [List.mem_singleton.mp hx]; exact nl), h4, ?_⟩
      exact ((hO.mono (off_mono (g1.trans (g2.trans g3)))).app (Ones.rep _ hb3)).mono (Fra.off f4)
    · rintro σ G ⟨x5, cs, rfl, g, hlG, hO⟩
      have e : (24 : Int) - (n : Int) = ((24 - n : Nat) : Int) := by omega
      refine ⟨_, rfl, _, rfl, _, _, rfl, rfl, ((24 - n : Nat) : Int), congrArg V.int e, l, _, rfl, SqL.of hlG, fun p np => ?_⟩
      rw [cut_head]
      refine to_new np fun G1 g1 hp => ?_
      exact q p G1 _ (g.free np) (g.trans g1) hp (((hO.mono (off_le _ _)).mono g1).take _)
theorem sc_Evening_ahead_of : FnScope ["self", "song"] ["self", "song"] (defScope s_Evening_ahead_of) := ⟨rfl, rfl, rfl, by decide +kernel, rfl, by decide +kernel, by decide +kernel⟩
def sp_ahead_of (K : PySem.W.Frag) : Sp := fun vs H Q _ => ∃ (S : List Addr) (p : Addr) (A : Ad) (st : EvS) (n : Int), vs = [.ref p, .int n] ∧ Ev K S H p A st ∧ EvOk st ∧ EvB st ∧ n ∈ st.waiting ∧
  ∀ l H' cs, H l = none → Same H H' → H' l = some (.lst cs) → Ones K H' cs (st.ahead n) → Q (.ref l) H'
theorem EvB.round {st : EvS} (h : EvB st) (ok : EvOk st) {n : Int} (hn : n ∈ st.waiting) : 1 ≤ st.rounds.getD n.toNat 0 ∧ st.rounds.getD n.toNat 0 ≤ 24 := by
  obtain ⟨n0, n1⟩ := ok.inb n hn
  have hm : st.rounds.getD n.toNat 0 ∈ st.rounds := by
    rw [List.getD_eq_getElem?_getD, List.getElem?_eq_getElem (by omega)]
    exact List.getElem_mem _
  have := h.ro _ hm
  have := ok.r24
  omega
theorem me_Evening_ahead_of (T : Tx K mg) : Me P w K mg base (He.ga K "Evening") "ahead_of" 3 (sp_ahead_of K) := by
  obtain ⟨fd, F⟩ := T.d_Evening_ahead_of
  refine ⟨_, fd, _, F.ok (CX := CX0) sc_Evening_ahead_of (fun vs H Q E h => ?_) (fun cdv A outer s H vs Q E hr h => ?_), T.cls_Evening, T.me_Evening_ahead_of, F.bindsN fun _ _ _ _ _ _ us hl => match us, hl with | [_, _], _ => rfl⟩
  · obtain ⟨S, p, A, st, n, rfl, _⟩ := h; rfl
  · obtain ⟨S, p, A', st, n, rfl, ev, ok, eb, hn, q⟩ := h
    obtain ⟨⟨cs, c, hq⟩, sub, dom, few⟩ := ev
    obtain ⟨dx, hp⟩ := c.pp
    refine ⟨_, PSs.nox (pss_one (ps_ret (pe_fn (fn_more_ahead T) (hr.mono (by first | decide | omega)) (by rfl) (pa_cons (show PE _ _ (tFld K _ _) from pe_fld (pv 0) rfl) (pa_cons (show PE _ _ (tFld K _ _) from pe_fld (pv 0) rfl) (pa_cons (pe_ix (show IxR _ (rIxL K) from ix_list) (show PE _ _ (tFld K _ _) from pe_fld (pv 0) rfl) (pv 1) (fun _ _ => rfl)) (pa_cons (pe_callB (show CallR _ _ (rLenQ K) from call_len_seq) (by rfl) T.len (by decide +kernel) (pa_cons (show PE _ _ (tFld K _ _) from pe_fld (pv 0) rfl) pa_nil)) pa_nil))))))), ?_⟩
    obtain ⟨n0, n1⟩ := ok.inb n hn
    have hr := eb.round ok hn
    have r24 := ok.r24
    refine ⟨_, rfl, p, _, dx, _, _, rfl, hp, T.cls_Evening, T.na_Evening_last, evF_last _ _, _, rfl, p, _, dx, _, _, rfl, hp, T.cls_Evening, T.na_Evening_going, evF_going _ _,
      _, rfl, p, _, dx, _, _, rfl, hp, T.cls_Evening, T.na_Evening_rounds, evF_rounds _ _, _, rfl, A'.ro, _, _, _, rfl, rfl, SqL.of c.ro, at_int n0 n1,
      _, rfl, p, _, dx, _, _, rfl, hp, T.cls_Evening, T.na_Evening_rounds, evF_rounds _ _, A'.ro, _, rfl, .inl (SqL.of c.ro), A'.la, st.last, st.going, st.rounds.getD n.toNat 0, st.rounds.length, ?_, SqL.of c.la, ok.six, eb.go.1, hr.2, r24, fun l H1 cs1 nl s1 hl hO => q l H1 cs1 nl s1 hl hO⟩
    rw [List.length_map]; rfl
theorem sc_Evening_within : FnScope ["self", "song"] ["self", "song"] (defScope s_Evening_within) := ⟨rfl, rfl, rfl, by decide +kernel, rfl, by decide +kernel, by decide +kernel⟩
def sp_within (K : PySem.W.Frag) : Sp := fun vs H Q _ => ∃ (S : List Addr) (p : Addr) (A : Ad) (st : EvS) (n : Int), vs = [.ref p, .int n] ∧ Ev K S H p A st ∧ EvOk st ∧ EvB st ∧ n ∈ st.waiting ∧ ∀ H', Same H H' → Q (.int (st.within n)) H'
theorem idx_at : ∀ {xs : List Int} {n : Int}, n ∈ xs → ∃ z : V, (xs.map V.int)[xs.idxOf n]? = some z ∧ eqV z (.int n) = true ∧ ∀ (m : Nat) (z' : V), m < xs.idxOf n → (xs.map V.int)[m]? = some z' → eqV z' (.int n) = false
  | x :: xs, n, h => by
    by_cases e : x = n
    · subst e
      rw [List.idxOf_cons_self]
      refine ⟨.int x, rfl, ?_, fun m z' hm => by omega⟩
      show (x == x) = true
      exact beq_self_eq_true x
    · have hm : n ∈ xs := (List.mem_cons.mp h).resolve_left (fun z => e z.symm)
      obtain ⟨z, h1, h2, h3⟩ := idx_at hm
      have ei : (x :: xs).idxOf n = xs.idxOf n + 1 := by
        rw [List.idxOf_cons, show (x == n) = false from beq_eq_false_iff_ne.mpr e]; rfl
      rw [ei]
      refine ⟨z, by simpa using h1, h2, fun m z' hm hz => ?_⟩
      cases m with
      | zero =>
        have hz : V.int x = z' := by simpa using hz
        rw [← hz]
        show (x == n) = false
        exact beq_eq_false_iff_ne.mpr e
      | succ m => exact h3 m z' (by omega) (by simpa using hz)
theorem queue_mem {st : EvS} {n : Int} : n ∈ st.queue ↔ n ∈ st.waiting := (inTurn_perm _ _).mem_iff
theorem me_Evening_within (T : Tx K mg) : Me P w K mg base (He.ga K "Evening") "within" 4 (sp_within K) := by
  obtain ⟨fd, F⟩ := T.d_Evening_within
  refine ⟨_, fd, _, F.ok (CX := CX0) sc_Evening_within (fun vs H Q E h => ?_) (fun cdv A outer s H vs Q E hr h => ?_), T.cls_Evening, T.me_Evening_within, F.bindsN fun _ _ _ _ _ _ us hl => match us, hl with | [_, _], _ => rfl⟩
  · obtain ⟨S, p, A, st, n, rfl, _⟩ := h; rfl
  · obtain ⟨S, p, A', st, n, rfl, ev, ok, eb, hn, q⟩ := h
    obtain ⟨dx, hp⟩ := ev.pp
    refine ⟨_, PSs.nox (pss_cons (ps_expr (pe_me (me_Evening_look_at T) (hr.mono (by first | decide | omega)) (pv 0) (pa_cons (pv 1) pa_nil)))
      (pss_one (ps_ret (pe_op op_add (pe_op op_add (show PE _ _ (tBM K _ _ _ _) from pe_bm PySem.F.plainAttrs_list PySem.F.slot_list_index PySem.F.type_list_index (show MtR _ _ (rIndex K) from mt_index) (pe_me0 (me_Evening_waits T) (hr.mono (by first | decide | omega)) (pv 0)) (pa_cons (pv 1) pa_nil)) pe_int) (pe_callB (show CallR _ _ (rLenQ K) from call_len_seq) (by rfl) T.len (by decide +kernel) (pa_cons (pe_me (me_Evening_ahead_of T) (hr.mono (by first | decide | omega)) (pv 0) (pa_cons (pv 1) pa_nil)) pa_nil)))))), ?_⟩
    refine ⟨_, rfl, p, dx, _, rfl, hp, evF_no _ _ (by decide +kernel), _, rfl, S, p, A', st, n, rfl, ev, hn, ?_⟩
    refine ⟨_, rfl, p, dx, _, rfl, hp, evF_no _ _ (by decide +kernel), S, p, A', st, rfl, ev, ok, fun l H1 nl s1 hl => ?_⟩
    obtain ⟨z, h1, h2, h3⟩ := idx_at (xs := st.queue) (queue_mem.mpr hn)
    refine ⟨.inl ⟨rfl, _, SqL.of hl⟩, _, rfl, l, _, _, _, z, rfl, rfl, SqL.of hl, rfl, flat_ints _, h1, h2, h3, _, _, rfl, rfl, ?_⟩
    have hp1 := s1 _ _ hp
    refine ⟨_, rfl, p, dx, _, rfl, hp1, evF_no _ _ (by decide +kernel), _, rfl, S, p, A', st, n, rfl, ev.mono s1, ok, eb, hn, fun l2 H2 cs nl2 s2 hl2 hO => ?_⟩
    refine ⟨l2, _, rfl, .inl (SqL.of hl2), _, _, rfl, rfl, ?_⟩
    rw [hO.1]
    exact q _ (s1.trans s2)
theorem sc_Evening_worst : FnScope ["self", "song", "singers"] ["self", "song"] (defScope s_Evening_worst) := ⟨rfl, rfl, rfl, by decide +kernel, rfl, by decide +kernel, by decide +kernel⟩
def sp_worst (K : PySem.W.Frag) : Sp := fun vs H Q _ => ∃ (S : List Addr) (p : Addr) (A : Ad) (st : EvS) (n : Int), vs = [.ref p, .int n] ∧ Ev K S H p A st ∧ EvOk st ∧ EvB st ∧ n ∈ st.waiting ∧
  ∀ l H' cs, H l = none → Same H H' → H' l = some (.lst cs) → cs.length = (st.ahead n).length → (∀ (i : Nat) v, cs[i]? = some v → ∃ b x, (st.ahead n)[i]? = some x ∧ v = .ref b ∧ off [l] H' b = some (.lst ([x].map V.int)) ∧ H b = none) → Q (.ref l) H'
theorem ahead_len (st : EvS) (n : Int) : (st.ahead n).length ≤ 24 := by
  unfold EvS.ahead
  rw [List.length_take]; omega
theorem me_Evening_worst (T : Tx K mg) : Me P w K mg base (He.ga K "Evening") "worst" 4 (sp_worst K) := by
  obtain ⟨fd, F⟩ := T.d_Evening_worst
  refine ⟨_, fd, _, F.ok (CX := CX0) sc_Evening_worst (fun vs H Q E h => ?_) (fun cdv A outer s H vs Q E hr h => ?_), T.cls_Evening, T.me_Evening_worst, F.bindsN fun _ _ _ _ _ _ us hl => match us, hl with | [_, _], _ => rfl⟩
  · obtain ⟨S, p, A, st, n, rfl, _⟩ := h; rfl
  · obtain ⟨S, p, A', st, n, rfl, ev, ok, eb, hn, q⟩ := h
    obtain ⟨dx, hp⟩ := ev.pp
    refine ⟨_, PSs.nox (pss_cons (ps_expr (pe_me (me_Evening_look_at T) (hr.mono (by first | decide | omega)) (pv 0) (pa_cons (pv 1) pa_nil)))
      (pss_one (ps_ret (pe_lc (own := [("singers", 2)]) (g := (gName 2)) (tt := tYes) (by rfl) sc_Evening_worst.nd (show PI _ _ _ (iList K _) from pi_list (pe_me (me_Evening_ahead_of T) (hr.mono (by first | decide | omega)) (pv 0) (pa_cons (pv 1) pa_nil))) (blkOk_by (by kernel_rfl)) (fun _ _ _ _ _ => (pg_name (i := 2) sc_Evening_worst.nd rfl (by first | exact Or.inl rfl | exact Or.inr rfl))) (fun _ _ _ _ _ => pts_nil) (fun _ _ _ _ _ => (pe_callTy (show CallR _ _ (rListO K) from call_list_of) (by rfl) T.list (by decide +kernel) (pa_cons (pv 2) pa_nil))))))), ?_⟩
    refine ⟨_, rfl, p, dx, _, rfl, hp, evF_no _ _ (by decide +kernel), _, rfl, S, p, A', st, n, rfl, ev, hn, ?_⟩
    refine ⟨_, rfl, p, dx, _, rfl, hp, evF_no _ _ (by decide +kernel), _, rfl, S, p, A', st, n, rfl, ev, ok, eb, hn, fun l H1 cs nl s1 hl hO => ?_⟩
    have al := ahead_len st n
    refine ⟨l, rfl, ⟨_, SqL.of hl⟩, fun D nD => lc_all walk_list sqL_mono (SqL.of hl) (fun i H' y => ∃ b x, (st.ahead n)[i]? = some x ∧ y = .ref b ∧ H' b = some (.lst ([x].map V.int)) ∧ H b = none) ?_ nD (by rw [hO.1]; omega) ?_ ?_ gname_mono⟩
    · rintro i X1 X2 y s ⟨b, x, h1, h2, h3, h4⟩
      exact ⟨b, x, h1, h2, s _ _ h3, h4⟩
    · rintro k x G1 G2 acc hk g1 hD ⟨rfl, hx⟩ kk hkk
      obtain ⟨c, y, hy, rfl, hc⟩ := hO.2 k x hx
      refine ⟨rfl, _, rfl, c, _, rfl, .inl (g1.seq hc), fun u nu => hkk _ _ (Same.new nu) ⟨u, y, hy, rfl, ?_, (s1.trans g1).free nu⟩⟩
      rw [off_out (by simp; exact (ne_of_none hD nu).symm)]
      exact upd_same
    · intro ys H2 s2 hD hyl hys
      exact q D H2 ys (s1.free nD) (s1.trans s2) hD (by rw [hyl, hO.1]) fun i v e => hys i v e
end
end Song

/-! ### Rf: what an evening refuses -/
namespace Song
open PySem L2
/-- no count of singers -/
def NoMany (K : PySem.W.Frag) (H : Hp) (v : V) : Prop := (∃ t, Kd K H v t ∧ t ≠ "int") ∨ ∃ n : Int, v = .int n ∧ ¬ (1 ≤ n ∧ n ≤ 6)
theorem NoMany.mono {K : PySem.W.Frag} {H H' : Hp} {v : V} (s : Same H H') (h : NoMany K H v) : NoMany K H' v := by
  rcases h with ⟨t, h, n⟩ | h
  · exact .inl ⟨t, kd_mono s h, n⟩
  · exact .inr h
/-- no singers, so many -/
def NoSing (K : PySem.W.Frag) (H : Hp) (many : Int) (v : V) : Prop := (∃ t, Kd K H v t ∧ t ≠ "list") ∨ (∃ (a : Addr) (xs : List V), v = .ref a ∧ SqL K H a xs ∧ xs.length ≤ 1000 ∧ (∀ x ∈ xs, ∃ t, Kd K H x t) ∧ xs.all isInt = false) ∨
  ∃ (a : Addr) (ns : List Int), v = .ref a ∧ SqL K H a (ns.map V.int) ∧ ns.length ≤ 1000 ∧ areSingers ns many = false
theorem NoSing.mono {K : PySem.W.Frag} {H H' : Hp} {many : Int} {v : V} (s : Same H H') (h : NoSing K H many v) : NoSing K H' many v := by
  rcases h with ⟨t, h, n⟩ | ⟨a, xs, e, h, l, k, q⟩ | ⟨a, ns, e, h, l, q⟩
  · exact .inl ⟨t, kd_mono s h, n⟩
  · exact .inr (.inl ⟨a, xs, e, s.seq h, l, fun x hx => let ⟨t, z⟩ := k x hx; ⟨t, kd_mono s z⟩, q⟩)
  · exact .inr (.inr ⟨a, ns, e, s.seq h, l, q⟩)
/-- no song that waits -/
def NoSong (K : PySem.W.Frag) (H : Hp) (ws : List Int) (v : V) : Prop := (∃ t, Kd K H v t ∧ t ≠ "int") ∨ ∃ n : Int, v = .int n ∧ n ∉ ws
theorem NoSong.mono {K : PySem.W.Frag} {H H' : Hp} {ws : List Int} {v : V} (s : Same H H') (h : NoSong K H ws v) : NoSong K H' ws v := by
  rcases h with ⟨t, h, n⟩ | h
  · exact .inl ⟨t, kd_mono s h, n⟩
  · exact .inr h
theorem kd_not {K : PySem.W.Frag} {H : Hp} {v : V} {t : String} (h : Kd K H v t) (n : t ≠ "int") : isInt v = false := by
  rw [kd_isInt h]; exact beq_eq_false_iff_ne.mpr n
section
variable {P : Program} {w : World} {K : PySem.W.Frag} {mg : Str → Option Value} {base : Heap}
def sp_check_manyX (K : PySem.W.Frag) : Sp := fun vs H _ E => ∃ v, vs = [v] ∧ NoMany K H v ∧ E (.ref (He.ga K "BadMany")) none H
theorem fnx_check_many (T : Tx K mg) : FnX P w K mg base "check_many" 2 (sp_check_manyX K) := by
  obtain ⟨fd, F⟩ := T.d_check_many
  refine ⟨_, fd, _, F.ok (CX := L2.CX P w) sc_check_many (fun vs H Q E h => ?_) (fun cdv A outer s H vs Q E hr h => ?_), T.g_check_many, F.kp, F.bindsN fun _ _ _ _ _ _ us hl => match us, hl with | [_], _ => rfl⟩
  · obtain ⟨v, rfl, _⟩ := h; rfl
  · obtain ⟨v, rfl, hv, q⟩ := h
    refine ⟨_, (pss_one (ps_if (PW.pt (pw_or (pt_not (pt_val (pe_fn (fn_is_whole T) (hr.mono (by first | decide | omega)) (by rfl) (pa_cons (pv 0) pa_nil)))) (pw_or1 (pt_not (pt_chain op_le op_le pe_int (pv 0) (pe_gi T.c_MOST_SINGERS (by rfl))))))) (pss_one (ps_rz rfl tkF T.x_BadMany (by rfl))) pss_nil)), ?_⟩
    rcases hv with ⟨t, ht, hn⟩ | ⟨n, rfl, hn⟩
    · refine ⟨_, rfl, _, _, rfl, ht, _, rfl, ?_⟩
      rw [kd_not ht hn]
      exact iteT q
    · refine ⟨_, rfl, _, _, rfl, kd_int n, _, rfl, iteF ?_⟩
      refine ⟨_, rfl, _, _, rfl, rfl, _, rfl, ?_⟩
      by_cases h1 : (1 : Int) ≤ n
      · rw [decide_eq_true h1]
        refine iteT ⟨_, _, rfl, rfl, _, rfl, ?_⟩
        rw [decide_eq_false (by omega)]
        exact iteT q
      · rw [decide_eq_false h1]
        exact iteF ⟨_, rfl, iteT q⟩
def sp_are_singersN (K : PySem.W.Frag) : Sp := fun vs H Q _ => ∃ (v : V) (many : Int), vs = [v, .int many] ∧ ((∃ t, Kd K H v t ∧ t ≠ "list") ∨ (∃ (a : Addr) (xs : List V), v = .ref a ∧ SqL K H a xs ∧ xs.length ≤ 1000 ∧ (∀ x ∈ xs, ∃ t, Kd K H x t) ∧ xs.all isInt = false)) ∧ ∀ H', Same H H' → Q (.bl false) H'
theorem fnn_are_singers (T : Tx K mg) : Fn P w K mg base "are_singers" 3 (sp_are_singersN K) := by
  obtain ⟨fd, F⟩ := T.d_are_singers
  refine ⟨_, fd, _, F.ok (CX := CX0) sc_are_singers (fun vs H Q E h => ?_) (fun cdv A outer s H vs Q E hr h => ?_), T.g_are_singers, F.kp, F.bindsN fun _ _ _ _ _ _ us hl => match us, hl with | [_, _], _ => rfl⟩
  · obtain ⟨v, many, rfl, _⟩ := h; rfl
  · obtain ⟨v, many, rfl, hv, q⟩ := h
    refine ⟨_, PSs.nox (pss_cons (ps_if (PW.pt (pw_or (pt_not (pt_val (pe_fn (fn_are_numbers T) (hr.mono (by first | decide | omega)) (by rfl) (pa_cons (pv 0) pa_nil)))) (pw_or1 (pt_not (pt_chain op_le op_le pe_int (pe_callB (show CallR _ _ (rLenQ K) from call_len_seq) (by rfl) T.len (by decide +kernel) (pa_cons (pv 0) pa_nil)) (pe_gi T.c_MOST_OF_SONG (by rfl))))))) (pss_one (ps_ret pe_bl)) pss_nil)
      (pss_cons (ps_if (pt_not (pt_val (pe_callB (show CallR _ _ (rAll K) from cr_all (by rfl)) (by rfl) T.all (by decide +kernel) (pa_cons (pe_lc (own := [("one", 2)]) (g := (gName 2)) (tt := tYes) (by rfl) sc_are_singers.nd (show PI _ _ _ (iList K _) from pi_list (pv 0)) (blkOk_by (by kernel_rfl)) (fun _ _ _ _ _ => (pg_name (i := 2) sc_are_singers.nd rfl (by first | exact Or.inl rfl | exact Or.inr rfl))) (fun _ _ _ _ _ => pts_nil) (fun _ _ _ _ _ => (pe_chain op_le op_lt pe_int (pv 2) (pv 1)))) pa_nil)))) (pss_one (ps_ret pe_bl)) pss_nil)
      (pss_one (ps_ret (pe_callB (show CallR _ _ (rAll K) from cr_all (by rfl)) (by rfl) T.all (by decide +kernel) (pa_cons (pe_lc (own := [("one", 2), ("other", 3)]) (g := (gTup K 2 (gCons (gName 2) (gCons (gName 3) gNil)))) (tt := tYes) (by rfl) sc_are_singers.nd (show PI _ _ _ (iZip K _) from pi_zip (by rfl) T.zip (pa_cons (pv 0) (pa_cons (pe_slice (show SlR _ (rSlL K) from sl_list) (pv 0) (po_some pe_int) po_none) pa_nil))) (blkOk_by (by kernel_rfl)) (fun _ _ _ _ _ => (show PG _ _ (gTup K _ _) from pg_tup rfl (pgs_cons (pg_name (i := 2) sc_are_singers.nd rfl (by first | exact Or.inl rfl | exact Or.inr rfl)) (pgs_cons (pg_name (i := 3) sc_are_singers.nd rfl (by first | exact Or.inl rfl | exact Or.inr rfl)) pgs_nil)))) (fun _ _ _ _ _ => pts_nil) (fun _ _ _ _ _ => (pe_cmpR op_lt (pv 2) (pv 3) (nomark _)))) pa_nil)))))), ?_⟩
    rcases hv with ⟨t, ht, hn⟩ | ⟨a, xs, rfl, hs, hl, hk, hx⟩
    · exact ⟨_, rfl, v, rfl, .inr ⟨t, ht, hn, _, rfl, iteT (q _ (Same.refl _))⟩⟩
    · refine ⟨_, rfl, _, rfl, .inl ⟨a, xs, rfl, hs, hl, hk, fun H1 s1 => ?_⟩⟩
      rw [hx]
      exact ⟨_, rfl, iteT (q _ s1)⟩
/-- are_singers of what are none, by one of its two contracts -/
theorem singN {H : Hp} {many : Int} {v : V} {Q : VK} (h : NoSing K H many v) (q : ∀ H', Same H H' → Q (.bl false) H') : sp_are_singers K [v, .int many] H Q E0 ∨ sp_are_singersN K [v, .int many] H Q E0 := by
  rcases h with h | h | ⟨a, ns, rfl, hs, hl, hx⟩
  · exact .inr ⟨v, many, rfl, .inl h, q⟩
  · exact .inr ⟨v, many, rfl, .inr h, q⟩
  · exact .inl ⟨a, ns, many, rfl, hs, hl, by rw [hx]; exact q⟩
/-! #### Evening(many), judged(many, ..) -/
def sp_ev_initX (K : PySem.W.Frag) : Sp := fun vs H _ E => ∃ (p : Addr) (v : V), vs = [.ref p, v] ∧ NoMany K H v ∧ E (.ref (He.ga K "BadMany")) none H
theorem mkx_Evening (T : Tx K mg) : MkeX P w K mg base "Evening" (He.ga K "Evening") 3 (sp_ev_initX K) := by
  obtain ⟨fd, F⟩ := T.d_Evening___init__
  refine ⟨_, fd, _, F.ok (CX := L2.CX P w) sc_Evening___init__ (fun vs H Q E h => ?_) (fun cdv A outer s H vs Q E hr h => ?_), T.mk_Evening, T.g_Evening, F.bindsN fun _ _ _ _ _ _ us hl => match us, hl with | [_, _], _ => rfl⟩
  · obtain ⟨p, v, rfl, _⟩ := h; rfl
  · obtain ⟨p, v, rfl, hv, q⟩ := h
    refine ⟨_, (pss_cons (ps_expr (pe_fnx (fnx_check_many T) (hr.mono (by first | decide | omega)) (by rfl) tkF (pa_cons (pv 1) pa_nil)))
      pss_never), ?_⟩
    exact ⟨_, rfl, v, rfl, hv, q⟩
theorem sc_judged : FnScope ["many", "tale", "part", "place"] ["many", "tale"] (defScope s_judged) := ⟨rfl, rfl, rfl, by decide +kernel, rfl, by decide +kernel, by decide +kernel⟩
def sp_judgedM (K : PySem.W.Frag) : Sp := fun vs H _ E => ∃ (v t : V), vs = [v, t] ∧ NoMany K H v ∧ E (.ref (He.ga K "BadMany")) none H
theorem fnx_judged (T : Tx K mg) : FnX P w K mg base "judged" 6 (sp_judgedM K) := by
  obtain ⟨fd, F⟩ := T.d_judged
  refine ⟨_, fd, _, F.ok (CX := L2.CX P w) sc_judged (fun vs H Q E h => ?_) (fun cdv A outer s H vs Q E hr h => ?_), T.g_judged, F.kp, F.bindsN fun _ _ _ _ _ _ us hl => match us, hl with | [_, _], _ => rfl⟩
  · obtain ⟨v, t, rfl, _⟩ := h; rfl
  · obtain ⟨v, t, rfl, hv, q⟩ := h
    refine ⟨_, (pss_cons (ps_expr (pe_fnx (fnx_check_many T) (hr.mono (by first | decide | omega)) (by rfl) tkF (pa_cons (pv 0) pa_nil)))
      pss_never), ?_⟩
    exact ⟨_, rfl, v, rfl, hv, q⟩
/-! #### wish -/
/-- refused at once, or because the evening is full -/
def sp_wishX (K : PySem.W.Frag) : Sp := fun vs H _ E => ∃ (S : List Addr) (p : Addr) (A : Ad) (st : EvS) (v : V), vs = [.ref p, v] ∧ Ev K S H p A st ∧
  ((NoSing K H st.last.length v ∧ ∀ H', Same H H' → E (.ref (He.ga K "BadSingers")) none H') ∨
    (∃ (a : Addr) (ss : List Int), v = .ref a ∧ SqL K H a (ss.map V.int) ∧ areSingers ss st.last.length = true ∧ st.rounds.length = 24 ∧ ∀ H', Same H H' → E (.ref (He.ga K "TooMany")) none H'))
theorem mex_Evening_wish (T : Tx K mg) : MeX P w K mg base (He.ga K "Evening") "wish" 4 (sp_wishX K) := by
  obtain ⟨fd, F⟩ := T.d_Evening_wish
  refine ⟨_, fd, _, F.ok (CX := L2.CX P w) sc_Evening_wish (fun vs H Q E h => ?_) (fun cdv A outer s H vs Q E hr h => ?_), T.cls_Evening, T.me_Evening_wish, F.bindsN fun _ _ _ _ _ _ us hl => match us, hl with | [_, _], _ => rfl⟩
  · obtain ⟨S, p, A, st, v, rfl, _⟩ := h; rfl
  · obtain ⟨S, p, A', st, v, rfl, ev, h⟩ := h
    obtain ⟨⟨cs, c, hq⟩, sub, dom, few⟩ := ev
    refine ⟨_, (pss_cons (ps_if (pt_not (pt_val (pe_alt (pe_fn (fn_are_singers T) (hr.mono (by first | decide | omega)) (by rfl) (pa_cons (pv 1) (pa_cons (pe_callB (show CallR _ _ (rLenQ K) from call_len_seq) (by rfl) T.len (by decide +kernel) (pa_cons (show PE _ _ (tFld K _ _) from pe_fld (pv 0) rfl) pa_nil)) pa_nil))) (pe_fn (fnn_are_singers T) (hr.mono (by first | decide | omega)) (by rfl) (pa_cons (pv 1) (pa_cons (pe_callB (show CallR _ _ (rLenQ K) from call_len_seq) (by rfl) T.len (by decide +kernel) (pa_cons (show PE _ _ (tFld K _ _) from pe_fld (pv 0) rfl) pa_nil)) pa_nil)))))) (pss_one (ps_rz rfl tkF T.x_BadSingers (by rfl))) pss_nil)
      (pss_cons (ps_if (pt_cmpR op_eq (pe_callB (show CallR _ _ (rLenQ K) from call_len_seq) (by rfl) T.len (by decide +kernel) (pa_cons (show PE _ _ (tFld K _ _) from pe_fld (pv 0) rfl) pa_nil)) (pe_gi T.c_MOST_SONGS (by rfl)) (nomark _)) (pss_one (ps_rz rfl tkF T.x_TooMany (by rfl))) pss_nil)
      pss_never)), ?_⟩
    obtain ⟨dx, hp⟩ := c.pp
    rcases h with ⟨hv, q⟩ | ⟨a, ss, rfl, hs, hA, h24, q⟩
    · rcases hv with hv | hv | ⟨a, ns, rfl, hs, hl, hx⟩
      · refine .inr ⟨_, rfl, _, rfl, p, _, dx, _, _, rfl, hp, T.cls_Evening, T.na_Evening_last, evF_last _ _, A'.la, _, rfl, .inl (SqL.of c.la), v, _, rfl, .inl hv, fun H1 t1 => ⟨_, rfl, iteT (q _ t1)⟩⟩
      · refine .inr ⟨_, rfl, _, rfl, p, _, dx, _, _, rfl, hp, T.cls_Evening, T.na_Evening_last, evF_last _ _, A'.la, _, rfl, .inl (SqL.of c.la), v, _, rfl, .inr hv, fun H1 t1 => ⟨_, rfl, iteT (q _ t1)⟩⟩
      · refine .inl ⟨_, rfl, _, rfl, p, _, dx, _, _, rfl, hp, T.cls_Evening, T.na_Evening_last, evF_last _ _, A'.la, _, rfl, .inl (SqL.of c.la), a, ns, _, rfl, hs, hl, fun H1 t1 => ?_⟩
        rw [List.length_map, hx]
        exact ⟨_, rfl, iteT (q _ t1)⟩
    · obtain ⟨s1, s3, sin, _⟩ := areS_len hA
      refine .inl ⟨_, rfl, _, rfl, p, _, dx, _, _, rfl, hp, T.cls_Evening, T.na_Evening_last, evF_last _ _, A'.la, _, rfl, .inl (SqL.of c.la), a, ss, _, rfl, hs, by omega, fun H1 t1 => ?_⟩
      rw [List.length_map, hA]
      refine ⟨_, rfl, iteF ?_⟩
      have c1 := c.mono t1
      have hp1 := t1 _ _ hp
      refine ⟨_, rfl, p, _, dx, _, _, rfl, hp1, T.cls_Evening, T.na_Evening_rounds, evF_rounds _ _, A'.ro, _, rfl, .inl (SqL.of c1.ro), rfl, _, rfl, ?_⟩
      rw [List.length_map, h24]
      exact iteT (q _ t1)
def sp_look_atX (K : PySem.W.Frag) : Sp := fun vs H _ E => ∃ (S : List Addr) (p : Addr) (A : Ad) (st : EvS) (v : V), vs = [.ref p, v] ∧ Ev K S H p A st ∧ NoSong K H st.waiting v ∧ E (.ref (He.ga K "BadSong")) none H
theorem mex_Evening_look_at (T : Tx K mg) : MeX P w K mg base (He.ga K "Evening") "look_at" 2 (sp_look_atX K) := by
  obtain ⟨fd, F⟩ := T.d_Evening_look_at
  refine ⟨_, fd, _, F.ok (CX := L2.CX P w) sc_Evening_look_at (fun vs H Q E h => ?_) (fun cdv A outer s H vs Q E hr h => ?_), T.cls_Evening, T.me_Evening_look_at, F.bindsN fun _ _ _ _ _ _ us hl => match us, hl with | [_, _], _ => rfl⟩
  · obtain ⟨S, p, A, st, v, rfl, _⟩ := h; rfl
  · obtain ⟨S, p, A', st, v, rfl, ev, hv, q⟩ := h
    obtain ⟨⟨cs, c, hq⟩, sub, dom, few⟩ := ev
    refine ⟨_, (pss_one (ps_if (PW.pt (pw_or (pt_not (pt_val (pe_fn (fn_is_whole T) (hr.mono (by first | decide | omega)) (by rfl) (pa_cons (pv 1) pa_nil)))) (pw_or1 (pt_cmpR (show OpR _ _ (rIn K true) from op_notIn_seq) (pv 1) (show PE _ _ (tFld K _ _) from pe_fld (pv 0) rfl) (by rfl))))) (pss_one (ps_rz rfl tkF T.x_BadSong (by rfl))) pss_nil)), ?_⟩
    obtain ⟨dx, hp⟩ := c.pp
    rcases hv with ⟨t, ht, hn⟩ | ⟨n, rfl, hn⟩
    · refine ⟨_, rfl, _, _, rfl, ht, _, rfl, ?_⟩
      rw [kd_not ht hn]
      exact iteT q
    · refine ⟨_, rfl, _, _, rfl, kd_int n, _, rfl, iteF ?_⟩
      refine ⟨_, rfl, _, rfl, p, _, dx, _, _, rfl, hp, T.cls_Evening, T.na_Evening_waiting, evF_waiting _ _, A'.wa, _, rfl, .inl (SqL.of c.wa), rfl, flat_ints _, _, rfl, ?_⟩
      rw [inV_ints, decide_eq_false hn]
      exact iteT q
def sp_songX (K : PySem.W.Frag) : Sp := sp_look_atX K
theorem mex_Evening_withdraw (T : Tx K mg) : MeX P w K mg base (He.ga K "Evening") "withdraw" 3 (sp_look_atX K) := by
  obtain ⟨fd, F⟩ := T.d_Evening_withdraw
  refine ⟨_, fd, _, F.ok (CX := L2.CX P w) sc_Evening_withdraw (fun vs H Q E h => ?_) (fun cdv A outer s H vs Q E hr h => ?_), T.cls_Evening, T.me_Evening_withdraw, F.bindsN fun _ _ _ _ _ _ us hl => match us, hl with | [_, _], _ => rfl⟩
  · obtain ⟨S, p, A, st, v, rfl, _⟩ := h; rfl
  · obtain ⟨S, p, A', st, v, rfl, ev, hv, q⟩ := h
    refine ⟨_, (pss_cons (ps_expr (pe_mex (mex_Evening_look_at T) (hr.mono (by first | decide | omega)) tkF (pv 0) (pa_cons (pv 1) pa_nil)))
      pss_never), ?_⟩
    obtain ⟨⟨cs, c, hq⟩, sub, dom, few⟩ := id ev
    obtain ⟨dx, hp⟩ := c.pp
    exact ⟨_, rfl, p, dx, _, rfl, hp, evF_no _ _ (by decide +kernel), _, rfl, S, p, A', st, v, rfl, ev, hv, q⟩
theorem mex_Evening_within (T : Tx K mg) : MeX P w K mg base (He.ga K "Evening") "within" 4 (sp_look_atX K) := by
  obtain ⟨fd, F⟩ := T.d_Evening_within
  refine ⟨_, fd, _, F.ok (CX := L2.CX P w) sc_Evening_within (fun vs H Q E h => ?_) (fun cdv A outer s H vs Q E hr h => ?_), T.cls_Evening, T.me_Evening_within, F.bindsN fun _ _ _ _ _ _ us hl => match us, hl with | [_, _], _ => rfl⟩
  · obtain ⟨S, p, A, st, v, rfl, _⟩ := h; rfl
  · obtain ⟨S, p, A', st, v, rfl, ev, hv, q⟩ := h
    refine ⟨_, (pss_cons (ps_expr (pe_mex (mex_Evening_look_at T) (hr.mono (by first | decide | omega)) tkF (pv 0) (pa_cons (pv 1) pa_nil)))
      pss_never), ?_⟩
    obtain ⟨⟨cs, c, hq⟩, sub, dom, few⟩ := id ev
    obtain ⟨dx, hp⟩ := c.pp
    exact ⟨_, rfl, p, dx, _, rfl, hp, evF_no _ _ (by decide +kernel), _, rfl, S, p, A', st, v, rfl, ev, hv, q⟩
theorem mex_Evening_worst (T : Tx K mg) : MeX P w K mg base (He.ga K "Evening") "worst" 4 (sp_look_atX K) := by
  obtain ⟨fd, F⟩ := T.d_Evening_worst
  refine ⟨_, fd, _, F.ok (CX := L2.CX P w) sc_Evening_worst (fun vs H Q E h => ?_) (fun cdv A outer s H vs Q E hr h => ?_), T.cls_Evening, T.me_Evening_worst, F.bindsN fun _ _ _ _ _ _ us hl => match us, hl with | [_, _], _ => rfl⟩
  · obtain ⟨S, p, A, st, v, rfl, _⟩ := h; rfl
  · obtain ⟨S, p, A', st, v, rfl, ev, hv, q⟩ := h
    refine ⟨_, (pss_cons (ps_expr (pe_mex (mex_Evening_look_at T) (hr.mono (by first | decide | omega)) tkF (pv 0) (pa_cons (pv 1) pa_nil)))
      pss_never), ?_⟩
    obtain ⟨⟨cs, c, hq⟩, sub, dom, few⟩ := id ev
    obtain ⟨dx, hp⟩ := c.pp
    exact ⟨_, rfl, p, dx, _, rfl, hp, evF_no _ _ (by decide +kernel), _, rfl, S, p, A', st, v, rfl, ev, hv, q⟩
end
end Song

/-! ### St: strange values; tables kept -/
namespace Song
open PySem L2
theorem sq_nt {K : PySem.W.Frag} {H : Hp} {a : Addr} {xs : List V} (h : SqL K H a xs) : SqL K (nt H) a xs := by
  rcases h with (h | ⟨o, h⟩) | h
  · exact .inl (.inl (nt_of h fun _ z => by cases z))
  · exact .inl (.inr ⟨o, nt_of h fun _ z => by cases z⟩)
  · exact .inr h
theorem sqT_nt {K : PySem.W.Frag} {H : Hp} {a : Addr} {xs : List V} (h : SqT K H a xs) : SqT K (nt H) a xs := by
  rcases h with (h | ⟨o, h⟩) | h
  · exact .inl (.inl (nt_of h fun _ z => by cases z))
  · exact .inl (.inr ⟨o, nt_of h fun _ z => by cases z⟩)
  · exact .inr h
theorem kd_nt {K : PySem.W.Frag} {H : Hp} {v : V} {t : String} (h : Kd K H v t) : Kd K (nt H) v t := by
  generalize e : Value.type t = u at h
  cases h with
  | base b =>
    cases b with
    | non => cases e; exact .base .non
    | bl x => cases e; exact .base (.bl x)
    | int x => cases e; exact .base (.int x)
    | str x => cases e; exact .base (.str x)
    | flt x => cases e; exact .base (.flt x)
    | lst h => cases e; exact .base (.lst (nt_of h fun _ z => by cases z))
    | frz h => cases e; exact .base (.frz (nt_of h fun _ z => by cases z))
    | tup h => cases e; exact .base (.tup (nt_of h fun _ z => by cases z))
    | dK h => cases e; exact .base (.dK (nt_of h fun _ z => by cases z))
    | dT h => cases e; exact .base (.dT (nt_of h fun _ z => by cases z))
  | byt b => cases e; exact .byt b
  | set h => cases e; exact .set (nt_of h fun _ z => by cases z)
  | kList h c => cases e; exact .kList h c
  | kTuple h c => cases e; exact .kTuple h c
  | kDict h c => cases e; exact .kDict h c
  | fTuple h => cases e; exact .fTuple (nt_of h fun _ z => by cases z)
  | fDict h => cases e; exact .fDict (nt_of h fun _ z => by cases z)
mutual
theorem dp_nt {K : PySem.W.Frag} {H : Hp} : ∀ {v : V} {d : PyData}, Dp K H v d → Dp K (nt H) v d
  | _, _, .non => .non
  | _, _, .bl b => .bl b
  | _, _, .int i => .int i
  | _, _, .str x => .str x
  | _, _, .lst s a => .lst (sq_nt s) (dpAll_nt a)
  | _, _, .tup s a => .tup (sqT_nt s) (dpAll_nt a)
theorem dpAll_nt {K : PySem.W.Frag} {H : Hp} : ∀ {vs : List V} {ds : List PyData}, DpAll K H vs ds → DpAll K (nt H) vs ds
  | _, _, .nil => .nil
  | _, _, .cons d a => .cons (dp_nt d) (dpAll_nt a)
end
/-- no tables in it -/
def NT (G : Hp) : Prop := ∀ b o, G b = some o → ∀ ps, o ≠ .tbl ps
theorem NT.nt (H : Hp) : NT (nt H) := fun _ _ h => (nt_some h).2
theorem same_ext {G H H' : Hp} (n : NT G) (s : Same G H) (e : LamX.ExtN H H') : Same G H' := fun b o h => e b o (s b o h) (n b o h)
/-- no number from 0 on -/
def Strg (K : PySem.W.Frag) (H : Hp) (v : V) : Prop := (∃ t, Kd K H v t ∧ t ≠ "int") ∨ ∃ n : Int, v = .int n ∧ n < 0
theorem Strg.mono {K : PySem.W.Frag} {H H' : Hp} {v : V} (s : Same H H') (h : Strg K H v) : Strg K H' v := by
  rcases h with ⟨t, h, n⟩ | h
  · exact .inl ⟨t, kd_mono s h, n⟩
  · exact .inr h
theorem Strg.nt {K : PySem.W.Frag} {H : Hp} {v : V} (h : Strg K H v) : Strg K (nt H) v := by
  rcases h with ⟨t, h, n⟩ | h
  · exact .inl ⟨t, kd_nt h, n⟩
  · exact .inr h
theorem Strg.kd {K : PySem.W.Frag} {H : Hp} {v : V} (h : Strg K H v) : ∃ t, Kd K H v t := by
  rcases h with ⟨t, h, _⟩ | ⟨n, rfl, _⟩
  · exact ⟨t, h⟩
  · exact ⟨_, kd_int n⟩
section
variable {P : Program} {w : World} {K : PySem.W.Frag} {mg : Str → Option Value} {base : Heap}
theorem sc__law_strange : FnScope ["_law_far"] ["_law_far"] (defScope s__law_strange) := ⟨rfl, rfl, rfl, by decide +kernel, rfl, by decide +kernel, by decide +kernel⟩
def sp_strange (K : PySem.W.Frag) : Sp := fun vs H Q _ => ∃ far : Int, vs = [.int far] ∧ 0 ≤ far ∧
  ∀ p H' xs, H p = none → Same H H' → H' p = some (.lst xs) → xs.length = 9 → (∀ v ∈ xs, Strg K H' v) → Q (.ref p) H'
theorem fn__law_strange (T : Tx K mg) : Fn P w K mg base "_law_strange" 1 (sp_strange K) := by
  obtain ⟨fd, F⟩ := T.d__law_strange
  refine ⟨_, fd, _, F.ok (CX := CX0) sc__law_strange (fun vs H Q E h => ?_) (fun cdv A outer s H vs Q E hr h => ?_), T.g__law_strange, F.kp, F.bindsN fun _ _ _ _ _ _ us hl => match us, hl with | [_], _ => rfl⟩
  · obtain ⟨far, rfl, _⟩ := h; rfl
  · obtain ⟨far, rfl, h0, q⟩ := h
    refine ⟨_, PSs.nox (pss_one (ps_ret (pe_lst (pa_cons pe_non (pa_cons pe_str (pa_cons pe_bl (pa_cons pe_bl (pa_cons (pe_lst (pa_cons pe_int pa_nil)) (pa_cons (pe_tup (pa_cons pe_int pa_nil)) (pa_cons pe_dnewK (pa_cons (pe_un un_neg pe_int) (pa_cons (pe_op op_sub (pe_un un_neg pe_int) (pv 0)) pa_nil)))))))))))), ?_⟩
    refine ⟨by show 1 ≤ sizeLine; decide, fun p1 n1 => ?_⟩
    refine to_new n1 fun H1 s1 h1 => ?_
    refine ⟨by show 1 ≤ sizeLine; decide, fun p2 n2 => ?_⟩
    refine to_new n2 fun H2 s2 h2 => fun p3 n3 => ?_
    refine to_new n3 fun H3 s3 h3 => ?_
    refine ⟨_, rfl, _, rfl, _, rfl, _, _, rfl, rfl, ?_⟩
    refine ⟨by show 9 ≤ sizeLine; decide, fun p4 n4 => ?_⟩
    refine to_new n4 fun H4 s4 h4 => ?_
    refine q p4 H4 _ (s1.free (s2.free (s3.free n4))) (((s1.trans s2).trans s3).trans s4) h4 rfl fun v hv => ?_
    simp only [List.mem_cons, List.not_mem_nil, or_false] at hv
    rcases hv with rfl | rfl | rfl | rfl | rfl | rfl | rfl | rfl | rfl
    · exact .inl ⟨_, .base .non, by decide⟩
    · exact .inl ⟨_, .base (.str _), by decide⟩
    · exact .inl ⟨_, .base (.bl _), by decide⟩
    · exact .inl ⟨_, .base (.bl _), by decide⟩
    · exact .inl ⟨_, .base (.lst (s4 _ _ (s3 _ _ (s2 _ _ h1)))), by decide⟩
    · exact .inl ⟨_, .base (.tup (s4 _ _ (s3 _ _ h2))), by decide⟩
    · exact .inl ⟨_, .base (.dK (s4 _ _ h3)), by decide⟩
    · exact .inr ⟨_, rfl, by decide⟩
    · exact .inr ⟨_, rfl, by show -1 - far < 0; omega⟩
end
end Song

/-! ### Ew: evenings by short words; tables beside them -/
namespace Song
open PySem L2
structure EvA (K : PySem.W.Frag) (H : Hp) (p : Addr) (A : Ad) (st : EvS) : Prop where
  ev : Ev K (own p A) H p A st
  ok : EvOk st
  eb : EvB st
theorem EvA.mono {K : PySem.W.Frag} {H H' : Hp} {p : Addr} {A : Ad} {st : EvS} (s : Same H H') (e : EvA K H p A st) : EvA K H' p A st := ⟨e.ev.mono s, e.ok, e.eb⟩
theorem EvA.out_of {K : PySem.W.Frag} {H : Hp} {p : Addr} {A : Ad} {st : EvS} {a : Addr} (e : EvA K H p A st) (n : H a = none) : a ∉ own p A := new_out e.ev.dom n
/-- an evening's own objects are instances and lists -/
theorem EvA.kind {K : PySem.W.Frag} {H : Hp} {p : Addr} {A : Ad} {st : EvS} (e : EvA K H p A st) : ∀ a ∈ own p A, (∃ xs, H a = some (.lst xs)) ∨ ∃ C dx fs, H a = some (.ins C dx fs) := fun a ha => by
  obtain ⟨⟨cs, c, _⟩, _⟩ := e.ev
  unfold own at ha
  simp only [List.mem_cons, List.not_mem_nil, or_false] at ha
  obtain ⟨dx, hp⟩ := c.pp
  rcases ha with e | e | e | e | e
  · rw [e]; exact .inr ⟨_, _, _, hp⟩
  · rw [e]; exact .inl ⟨_, c.la⟩
  · rw [e]; exact .inl ⟨_, c.ro⟩
  · rw [e]; exact .inl ⟨_, c.wa⟩
  · rw [e]; exact .inl ⟨_, c.ca⟩
theorem EvA.nt {K : PySem.W.Frag} {H : Hp} {p : Addr} {A : Ad} {st : EvS} (e : EvA K H p A st) : EvA K (nt H) p A st := by
  obtain ⟨⟨⟨cs, c, q⟩, sub, dom, few⟩, ok, eb⟩ := id e
  obtain ⟨⟨dx, h1⟩, h2, h3, h4, h5, nd⟩ := c
  have L : ∀ {b : Addr} {xs : List V}, H b = some (.lst xs) → Song.nt H b = some (.lst xs) := fun h => nt_of h fun _ z => by cases z
  refine ⟨⟨⟨cs, ⟨⟨dx, nt_of h1 fun _ z => by cases z⟩, L h2, L h3, L h4, L h5, nd⟩, ?_⟩, sub, fun a ha => ?_, few⟩, ok, eb⟩
  · have ex : ∀ (cs : List V) (ps : List Part), Parts (off (own p A) H) cs ps → Parts (off (own p A) (Song.nt H)) cs ps := by
      have key : ∀ b o, (∀ ps, o ≠ HO.tbl ps) → off (own p A) H b = some o → off (own p A) (Song.nt H) b = some o := fun b o n h => by
        obtain ⟨h1, h2⟩ := off_some h
        rw [off_out h1]; exact nt_of h2 n
      have one : ∀ (v : V) (pt : Part), PartAt (off (own p A) H) v pt → PartAt (off (own p A) (Song.nt H)) v pt := fun v pt h => by
        cases v with
        | ref t =>
          cases pt with
          | wish ss n r =>
            obtain ⟨b, k1, k2⟩ := h
            exact ⟨b, key _ _ (fun _ z => by cases z) k1, key _ _ (fun _ z => by cases z) k2⟩
          | sing o => exact key _ _ (fun _ z => by cases z) h
          | out n => exact key _ _ (fun _ z => by cases z) h
        | _ => exact h.elim
      intro cs
      induction cs with
      | nil => intro ps h; cases ps with
        | nil => trivial
        | cons _ _ => exact h.elim
      | cons v r ih => intro ps h; cases ps with
        | nil => exact h.elim
        | cons pt rs => exact ⟨one _ _ h.1, ih _ h.2⟩
    exact ex _ _ q
  · rcases e.kind a ha with ⟨xs, h⟩ | ⟨C, dx, fs, h⟩
    · exact ⟨_, L h⟩
    · exact ⟨_, nt_of h fun _ z => by cases z⟩
/-- tables lie outside of an evening -/
theorem tabs_fra {T : List (Addr × Str)} {K : PySem.W.Frag} {H H' : Hp} {p : Addr} {A : Ad} {st : EvS} (t : LamX.Tabs T H) (e : EvA K H p A st) (f : Fra (own p A) H H') : LamX.Tabs T H' := fun x hx => by
  obtain ⟨ps, h1, h2, h3⟩ := t x hx
  have o1 : x.1 ∉ own p A := fun z => by
    rcases e.kind _ z with ⟨xs, h⟩ | ⟨C, dx, fs, h⟩ <;> (rw [h1] at h; cases h)
  refine ⟨ps, f _ _ o1 h1, h2, fun pos cv hc => ?_⟩
  obtain ⟨c, e1, e2⟩ := h3 pos cv hc
  have o2 : c ∉ own p A := fun z => by
    rcases e.kind _ z with ⟨xs, h⟩ | ⟨C, dx, fs, h⟩ <;> (rw [e2] at h; cases h)
  exact ⟨c, e1, f _ _ o2 e2⟩
/-! #### calls whose readings are kept closed -/
@[irreducible] def iMake (C : Addr) (sp : Sp) (t : TA) : TE := tMake C sp [] E0 t
@[irreducible] def iMeth (C : Addr) (m : Str) (sp : Sp) (to : TE) (t : TA) : TE := tMeth C m sp [] E0 to t
@[irreducible] def iCall (sp : Sp) (t : TA) : TE := tCall sp [] E0 t
theorem iMake_of {C : Addr} {sp : Sp} {t : TA} {σ : L2.St} {H : Hp} {Q : VK} (h : tMake C sp [] E0 t σ H Q) : iMake C sp t σ H Q := by unfold iMake; exact h
theorem iMeth_of {C : Addr} {m : Str} {sp : Sp} {to : TE} {t : TA} {σ : L2.St} {H : Hp} {Q : VK} (h : tMeth C m sp [] E0 to t σ H Q) : iMeth C m sp to t σ H Q := by unfold iMeth; exact h
theorem iCall_of {sp : Sp} {t : TA} {σ : L2.St} {H : Hp} {Q : VK} (h : tCall sp [] E0 t σ H Q) : iCall sp t σ H Q := by unfold iCall; exact h
section
variable {X : Cx} {e : Expr} {C : Addr} {m : Str} {sp : Sp} {to : TE} {t : TA}
theorem pe_iMk (h : PE X e (tMake C sp [] E0 t)) : PE X e (iMake C sp t) := by unfold iMake; exact h
theorem pe_iMe (h : PE X e (tMeth C m sp [] E0 to t)) : PE X e (iMeth C m sp to t) := by unfold iMeth; exact h
theorem pe_iFn (h : PE X e (tCall sp [] E0 t)) : PE X e (iCall sp t) := by unfold iCall; exact h
end
section
variable {K : PySem.W.Frag} {H : Hp} {p : Addr} {A : Ad} {st : EvS} {σ : L2.St} {Q : VK} {i : Nat}
/-- Evening(n) -/
theorem rd_new {n : Int} {ta : TA} (h1 : 1 ≤ n) (h6 : n ≤ 6) (h : ∀ H' p A, Same H H' → EvA K H' p A (evNew n) → (∀ a ∈ own p A, H a = none) → Q (.ref p) H') (hta : ∀ (R : List V → Hp → Prop), R [.int n] H → ta σ H R := by exact fun _ h => h) :
    iMake (He.ga K "Evening") (sp_ev_init K) ta σ H Q := by
  refine iMake_of ?_
  refine hta _ fun x dx nx ndx ne => ?_
  refine ⟨x, dx, n, rfl, h1, h6, upd_same, fun H' A f c a1 a2 a3 a4 => ⟨rfl, ?_⟩⟩
  have fr : ∀ b, (upd (upd H dx (.own x)) x (.ins (He.ga K "Evening") dx [])) b = none → H b = none := fun b hb => by
    cases e : H b with
    | none => rfl
    | some o => rw [upd_ne (ne_of_none e nx), upd_ne (ne_of_none e ndx), e] at hb; cases hb
  refine h H' x A (made_same nx ndx f) ⟨Ev.made c, evNew_ok h1 h6, EvB.new n⟩ fun a ha => ?_
  unfold own at ha
  simp only [List.mem_cons, List.not_mem_nil, or_false] at ha
  rcases ha with e | e | e | e | e
  · rw [e]; exact nx
  all_goals (rw [e]; apply fr; assumption)
/-- p.wish([..]) -/
theorem rd_wishT {ss : List Int} {ta : TA} (e : EvA K H p A st) (hA : areSingers ss st.last.length = true) (h24 : st.rounds.length < 24) (ht : st.tale.length < 900)
    (h : ∀ H' t, Fra (own p A) H H' → EvA K H' p A (st.wish ss) → H t = none → H' t = some (.tup [.int st.rounds.length, .int (st.num ss)]) → Q (.ref t) H') (hta : ∀ (R : List V → Hp → Prop), R (ss.map V.int) H → ta σ H R := by exact fun _ h => h) :
    ∃ a dx fs, V.ref p = .ref a ∧ H a = some (.ins (He.ga K "Evening") dx fs) ∧ fs.lookup ("wish" : Str) = none ∧ (tCons (tLst ta) tNil) σ H fun vs H2 => sp_wish K (.ref p :: (vs ++ [])) H2 Q E0 := by
  obtain ⟨dx, hp⟩ := e.ev.pp
  obtain ⟨s1, s3, sin, _⟩ := areS_len hA
  refine ⟨p, dx, _, rfl, hp, evF_no _ _ (by decide +kernel), hta _ ⟨?_, fun l nl => ?_⟩⟩
  · rw [List.length_map]; exact Nat.le_of_lt (lt_line (by omega))
  · have nl' : l ∉ own p A := e.out_of nl
    refine ⟨own p A, p, l, A, st, ss, rfl, e.ev.mono (Same.new nl), e.ok, ht, .inl (.inl ?_), hA, h24, fun H' t f e' nt ht' => ?_⟩
    · rw [off_out nl']; exact upd_same
    · have f0 : Fra (own p A) H H' := (Fra.of (Same.new nl)).trans f
      refine h H' t f0 ⟨e', e.ok.wish h24 s3, e.eb.wish sin (fun z => by rw [z] at s1; simp at s1)⟩ ?_ ht'
      exact (Same.new nl).free nt
theorem rd_wish {ss : List Int} {ta : TA} (hσ : σ[i]? = some (some (.ref p))) (e : EvA K H p A st) (hA : areSingers ss st.last.length = true) (h24 : st.rounds.length < 24) (ht : st.tale.length < 900)
    (h : ∀ H' t, Fra (own p A) H H' → EvA K H' p A (st.wish ss) → H t = none → H' t = some (.tup [.int st.rounds.length, .int (st.num ss)]) → Q (.ref t) H') (hta : ∀ (R : List V → Hp → Prop), R (ss.map V.int) H → ta σ H R := by exact fun _ h => h) :
    iMeth (He.ga K "Evening") "wish" (sp_wish K) (tVar i) (tCons (tLst ta) tNil) σ H Q := iMeth_of ⟨_, hσ, rd_wishT e hA h24 ht h hta⟩
theorem rd_sing (hσ : σ[i]? = some (some (.ref p))) (e : EvA K H p A st) (ht : st.tale.length < 900) (h : ∀ H', Fra (own p A) H H' → EvA K H' p A st.sing → Q (optV st.next) H') :
    iMeth (He.ga K "Evening") "sing" (sp_sing K) (tVar i) tNil σ H Q := by
  refine iMeth_of ?_
  obtain ⟨dx, hp⟩ := e.ev.pp
  exact ⟨_, hσ, p, dx, _, rfl, hp, evF_no _ _ (by decide +kernel), own p A, p, A, st, rfl, e.ev, e.ok, ht, fun H' f e' => h H' f ⟨e', e.ok.sing, e.eb.sing e.ok⟩⟩
theorem rd_out {ta : TA} {n : Int} (hσ : σ[i]? = some (some (.ref p))) (e : EvA K H p A st) (hn : n ∈ st.waiting) (ht : st.tale.length < 900) (h : ∀ H', Fra (own p A) H H' → EvA K H' p A (st.out n) → Q (.int (st.out n).waiting.length) H') (hta : ∀ (R : List V → Hp → Prop), R [.int n] H → ta σ H R := by exact fun _ h => h) :
    iMeth (He.ga K "Evening") "withdraw" (sp_withdraw K) (tVar i) ta σ H Q := by
  refine iMeth_of ?_
  obtain ⟨dx, hp⟩ := e.ev.pp
  exact ⟨_, hσ, p, dx, _, rfl, hp, evF_no _ _ (by decide +kernel), hta _ ⟨own p A, p, A, st, n, rfl, e.ev, e.ok, ht, hn, fun H' f e' => h H' f ⟨e', e.ok.out n, e.eb.out n⟩⟩⟩
theorem rd_tale (hσ : σ[i]? = some (some (.ref p))) (e : EvA K H p A st) (h : ∀ l H' cs, H l = none → Same H H' → H' l = some (.lst cs) → cs.length = st.tale.length → (∀ (i : Nat) v, cs[i]? = some v → ∃ q, st.tale[i]? = some q ∧ PartN H (off [l] H') v q) → Q (.ref l) H') :
    iMeth (He.ga K "Evening") "tale" (sp_tale K) (tVar i) tNil σ H Q := by
  refine iMeth_of ?_
  obtain ⟨dx, hp⟩ := e.ev.pp
  exact ⟨_, hσ, p, dx, _, rfl, hp, evF_no _ _ (by decide +kernel), own p A, p, A, st, rfl, e.ev, h⟩
theorem rd_waits (hσ : σ[i]? = some (some (.ref p))) (e : EvA K H p A st) (h : ∀ l H', H l = none → Same H H' → H' l = some (.lst (st.queue.map V.int)) → Q (.ref l) H') :
    iMeth (He.ga K "Evening") "waits" (sp_waits K) (tVar i) tNil σ H Q := by
  refine iMeth_of ?_
  obtain ⟨dx, hp⟩ := e.ev.pp
  exact ⟨_, hσ, p, dx, _, rfl, hp, evF_no _ _ (by decide +kernel), own p A, p, A, st, rfl, e.ev, e.ok, h⟩
theorem rd_now (hσ : σ[i]? = some (some (.ref p))) (e : EvA K H p A st) (h : Q (.int st.going) H) :
    iMeth (He.ga K "Evening") "round_now" (sp_round_now K) (tVar i) tNil σ H Q := by
  refine iMeth_of ?_
  obtain ⟨dx, hp⟩ := e.ev.pp
  exact ⟨_, hσ, p, dx, _, rfl, hp, evF_no _ _ (by decide +kernel), own p A, p, A, st, rfl, e.ev, h⟩
theorem rd_within {ta : TA} {n : Int} (hσ : σ[i]? = some (some (.ref p))) (e : EvA K H p A st) (hn : n ∈ st.waiting) (h : ∀ H', Same H H' → Q (.int (st.within n)) H') (hta : ∀ (R : List V → Hp → Prop), R [.int n] H → ta σ H R := by exact fun _ h => h) :
    iMeth (He.ga K "Evening") "within" (sp_within K) (tVar i) ta σ H Q := by
  refine iMeth_of ?_
  obtain ⟨dx, hp⟩ := e.ev.pp
  exact ⟨_, hσ, p, dx, _, rfl, hp, evF_no _ _ (by decide +kernel), hta _ ⟨own p A, p, A, st, n, rfl, e.ev, e.ok, e.eb, hn, h⟩⟩
/-- refused -/
theorem rd_wishX {E : XK} {j : Nat} {v : V} (hσ : σ[i]? = some (some (.ref p))) (hj : σ[j]? = some (some v)) (e : EvA K H p A st) (hv : NoSing K H st.last.length v) (h : ∀ H', Same H H' → E (.ref (He.ga K "BadSingers")) none H') :
    tMeth (He.ga K "Evening") "wish" (sp_wishX K) [] E (tVar i) (tCons (tVar j) tNil) σ H Q := by
  obtain ⟨dx, hp⟩ := e.ev.pp
  exact ⟨_, hσ, p, dx, _, rfl, hp, evF_no _ _ (by decide +kernel), _, hj, own p A, p, A, st, v, rfl, e.ev, .inl ⟨hv, h⟩⟩
theorem rd_wishL {ss : List Int} {E : XK} {ta : TA} (hσ : σ[i]? = some (some (.ref p))) (e : EvA K H p A st) (hl : ss.length ≤ 1000)
    (h : (areSingers ss st.last.length = false ∧ ∀ H', Same H H' → E (.ref (He.ga K "BadSingers")) none H') ∨ (areSingers ss st.last.length = true ∧ st.rounds.length = 24 ∧ ∀ H', Same H H' → E (.ref (He.ga K "TooMany")) none H')) (hta : ∀ (R : List V → Hp → Prop), R (ss.map V.int) H → ta σ H R := by exact fun _ h => h) :
    tMeth (He.ga K "Evening") "wish" (sp_wishX K) [] E (tVar i) (tCons (tLst ta) tNil) σ H Q := by
  obtain ⟨dx, hp⟩ := e.ev.pp
  refine ⟨_, hσ, p, dx, _, rfl, hp, evF_no _ _ (by decide +kernel), hta _ ⟨?_, fun l nl => ?_⟩⟩
  · rw [List.length_map]; exact Nat.le_of_lt (lt_line (by omega))
  · refine ⟨own p A, p, A, st, _, rfl, e.ev.mono (Same.new nl), ?_⟩
    rcases h with ⟨h, q⟩ | ⟨h, h24, q⟩
    · exact .inl ⟨.inr (.inr ⟨l, ss, rfl, SqL.of upd_same, hl, h⟩), fun H' s => q H' ((Same.new nl).trans s)⟩
    · exact .inr ⟨l, ss, rfl, SqL.of upd_same, h, h24, fun H' s => q H' ((Same.new nl).trans s)⟩
theorem rd_songX {E : XK} {j : Nat} {v : V} {m : Str} (hm : m ∉ (["last", "going", "rounds", "waiting", "came"] : List Str)) (hσ : σ[i]? = some (some (.ref p))) (hj : σ[j]? = some (some v)) (e : EvA K H p A st) (hv : NoSong K H st.waiting v) (h : E (.ref (He.ga K "BadSong")) none H) :
    tMeth (He.ga K "Evening") m (sp_look_atX K) [] E (tVar i) (tCons (tVar j) tNil) σ H Q := by
  obtain ⟨dx, hp⟩ := e.ev.pp
  exact ⟨_, hσ, p, dx, _, rfl, hp, evF_no _ _ hm, _, hj, own p A, p, A, st, v, rfl, e.ev, hv, h⟩
end
end Song

/-! ### Lr10: _law_right of k10 -/
namespace Song
open PySem L2
abbrev TL (K : PySem.W.Frag) : List (Addr × Str) := TLof K tf
section
variable {P : Program} {w : World} {K : PySem.W.Frag} {mg : Str → Option Value} {base : Heap}
theorem Strg.noMany {H : Hp} {v : V} (h : Strg K H v) : NoMany K H v := by
  rcases h with h | ⟨n, e, l⟩
  · exact .inl h
  · exact .inr ⟨n, e, by omega⟩
theorem Strg.noSong {H : Hp} {v : V} {ws : List Int} (h : Strg K H v) (hw : ∀ x ∈ ws, 0 ≤ x) : NoSong K H ws v := by
  rcases h with h | ⟨n, e, l⟩
  · exact .inl h
  · exact .inr ⟨n, e, fun z => by have := hw n z; omega⟩
theorem Strg.noInt {H : Hp} {v : V} (h : Strg K H v) : isInt v = false ∨ ∃ n : Int, v = .int n ∧ n < 0 := by
  rcases h with ⟨t, h, n⟩ | h
  · exact .inl (kd_not h n)
  · exact .inr h
theorem NoMany.nt {H : Hp} {v : V} (h : NoMany K H v) : NoMany K (nt H) v := by
  rcases h with ⟨t, h, n⟩ | h
  · exact .inl ⟨t, kd_nt h, n⟩
  · exact .inr h
theorem NoSong.nt {H : Hp} {ws : List Int} {v : V} (h : NoSong K H ws v) : NoSong K (nt H) ws v := by
  rcases h with ⟨t, h, n⟩ | h
  · exact .inl ⟨t, kd_nt h, n⟩
  · exact .inr h
theorem NoSing.nt {H : Hp} {many : Int} {v : V} (h : NoSing K H many v) : NoSing K (nt H) many v := by
  rcases h with ⟨t, h, n⟩ | ⟨a, xs, e, h, l, k, q⟩ | ⟨a, ns, e, h, l, q⟩
  · exact .inl ⟨t, kd_nt h, n⟩
  · exact .inr (.inl ⟨a, xs, e, sq_nt h, l, fun x hx => let ⟨t, z⟩ := k x hx; ⟨t, kd_nt z⟩, q⟩)
  · exact .inr (.inr ⟨a, ns, e, sq_nt h, l, q⟩)
theorem noSing_one {H : Hp} {a : Addr} {x : V} (h : Strg K H x) (ha : H a = some (.lst [x])) : NoSing K H 4 (.ref a) := by
  rcases h.noInt with e | ⟨n, rfl, hn⟩
  · refine .inr (.inl ⟨a, [x], rfl, SqL.of ha, by show 1 ≤ 1000; decide, fun y hy => ?_, by simp [e]⟩)
    rw [List.mem_singleton.mp hy]; exact h.kd
  · refine .inr (.inr ⟨a, [n], rfl, SqL.of ha, by show 1 ≤ 1000; decide, ?_⟩)
    unfold areSingers
    simp
    intro z1 z2
    omega
theorem noSing_two {H : Hp} {a : Addr} {x : V} (h : Strg K H x) (ha : H a = some (.lst [.int 0, x])) : NoSing K H 4 (.ref a) := by
  rcases h.noInt with e | ⟨n, rfl, hn⟩
  · refine .inr (.inl ⟨a, [.int 0, x], rfl, SqL.of ha, by show 2 ≤ 1000; decide, fun y hy => ?_, by simp [e]⟩)
    rcases List.mem_cons.mp hy with e1 | e1
    · rw [e1]; exact ⟨_, kd_int 0⟩
    · rw [List.mem_singleton.mp e1]; exact h.kd
  · refine .inr (.inr ⟨a, [0, n], rfl, SqL.of ha, by show 2 ≤ 1000; decide, ?_⟩)
    unfold areSingers
    simp
    intro z1 z2
    omega
theorem noSing_ints {H : Hp} {a : Addr} {m : Int} (ns : List Int) (ha : H a = some (.lst (ns.map V.int))) (l : ns.length ≤ 1000) (e : areSingers ns m = false) : NoSing K H m (.ref a) := .inr (.inr ⟨a, ns, rfl, SqL.of ha, l, e⟩)
/-- the evening of _law_right -/
def evR : EvS := ((((((evNew 4).wish [0, 3]).wish [0]).wish [1]).sing).out 1)
theorem evR_queue : evR.queue = [2] := by decide +kernel
theorem evR_going : evR.going = 1 := by decide +kernel
theorem evR_waits : evR.waiting = [2] := by decide +kernel
theorem sc__law_right : FnScope ["_law_far", "_law_bad", "_law_evening", "_law_kept", "_law_singers", "_law_one", "_law_song", "_law_two"] ["_law_far"] (defScope s__law_right) := ⟨rfl, rfl, rfl, by decide +kernel, rfl, by decide +kernel, by decide +kernel⟩
def sp_right (K : PySem.W.Frag) : Sp := fun vs H Q _ => ∃ far : Int, vs = [.int far] ∧ 1 ≤ far ∧ LamX.Tabs (TL K) H ∧ ∀ H', LamX.ExtN H H' → LamX.Tabs (TL K) H' → Q (.bl true) H'
theorem fn__law_right (T : Tx K mg) (B : ∀ p ∈ tf, LamX.TabB base mg (He.cT K p).1 (He.cT K p).2) : Fn P w K mg base "_law_right" 9 (sp_right K) := by
  obtain ⟨fd, F⟩ := T.d__law_right
  refine ⟨_, fd, _, okC (at_ := ("_law_right", none)) F rfl (CX := CX0) sc__law_right (fun vs H Q E h => ?_) (fun cdv hcv A outer s H vs Q E hr h => ?_), T.g__law_right, F.kp, F.bindsN fun _ _ _ _ _ _ us hl => match us, hl with | [_], _ => rfl⟩
  · obtain ⟨far, rfl, _⟩ := h; rfl
  · obtain ⟨far, rfl, f1, tb, q⟩ := h
    refine ⟨_, PSs.nox (pss_cons (ps_for PassesOwn.never rfl (show PI _ _ _ (iList K _) from pi_list (pe_op op_cat (pe_fn (fn__law_strange T) (hr.mono (by first | decide | omega)) (by rfl) (pa_cons (pv 0) pa_nil)) (pe_lst (pa_cons pe_int (pa_cons pe_int (pa_cons (pe_op op_add pe_int (pv 0)) pa_nil)))))) (pg_name (i := 1) sc__law_right.nd rfl (by first | exact Or.inl rfl | exact Or.inr rfl))
      (pss_cons (ps_kin (by decide) (ps_if (pt_cmpR (show OpR _ _ (rNeD K) from op_neD hr.units) (pe_kinds (i := 0) (by decide) T (lamT T B (by decide)) rfl hcv hr (by rfl) (LamX.lamS_by (by kernel_rfl)) rfl (fun _ _ _ _ _ => rfl) (fun A outer s H E f c' hr => (pe_mkx (mkx_Evening T) (hr.mono (by first | decide | omega)) (by rfl) tkLam (pa_cons (pv 1) pa_nil)))) (pe_fn (fn__law_due_of T) (hr.mono (by first | decide | omega)) (by rfl) (pa_cons pe_int pa_nil)) (nomark _)) (pss_one (ps_ret pe_bl)) pss_nil))
      (pss_one (ps_kin (by decide) (ps_if (pt_cmpR (show OpR _ _ (rNeD K) from op_neD hr.units) (pe_kinds (i := 0) (by decide) T (lamT T B (by decide)) rfl hcv hr (by rfl) (LamX.lamS_by (by kernel_rfl)) rfl (fun _ _ _ _ _ => rfl) (fun A outer s H E f c' hr => (pe_fnx (fnx_judged T) (hr.mono (by first | decide | omega)) (by rfl) tkLam (pa_cons (pv 1) (pa_cons pe_non pa_nil))))) (pe_fn (fn__law_due_of T) (hr.mono (by first | decide | omega)) (by rfl) (pa_cons pe_int pa_nil)) (nomark _)) (pss_one (ps_ret pe_bl)) pss_nil)))))
      (pss_cons (ps_set (i := 2) sc__law_right.nd rfl (by first | exact Or.inl rfl | exact Or.inr rfl) (pe_iMk (pe_mk (mk_Evening T) (hr.mono (by first | decide | omega)) (by rfl) (pa_cons pe_int pa_nil))))
      (pss_cons (ps_expr (pe_iMe (pe_me (me_Evening_wish T) (hr.mono (by first | decide | omega)) (pv 2) (pa_cons (pe_lst (pa_cons pe_int (pa_cons pe_int pa_nil))) pa_nil))))
      (pss_cons (ps_expr (pe_iMe (pe_me (me_Evening_wish T) (hr.mono (by first | decide | omega)) (pv 2) (pa_cons (pe_lst (pa_cons pe_int pa_nil)) pa_nil))))
      (pss_cons (ps_expr (pe_iMe (pe_me (me_Evening_wish T) (hr.mono (by first | decide | omega)) (pv 2) (pa_cons (pe_lst (pa_cons pe_int pa_nil)) pa_nil))))
      (pss_cons (ps_expr (pe_iMe (pe_me0 (me_Evening_sing T) (hr.mono (by first | decide | omega)) (pv 2))))
      (pss_cons (ps_expr (pe_iMe (pe_me (me_Evening_withdraw T) (hr.mono (by first | decide | omega)) (pv 2) (pa_cons pe_int pa_nil))))
      (pss_cons (ps_set (i := 3) sc__law_right.nd rfl (by first | exact Or.inl rfl | exact Or.inr rfl) (pe_iMe (pe_me0 (me_Evening_tale T) (hr.mono (by first | decide | omega)) (pv 2))))
      (pss_cons (ps_set (i := 1) sc__law_right.nd rfl (by first | exact Or.inl rfl | exact Or.inr rfl) (pe_lst (pa_cons pe_non (pa_cons pe_int (pa_cons pe_str (pa_cons (pe_tup (pa_cons pe_int pa_nil)) (pa_cons pe_dnewK (pa_cons (pe_lst pa_nil) (pa_cons (pe_lst (pa_cons pe_int (pa_cons pe_int pa_nil))) (pa_cons (pe_lst (pa_cons pe_int (pa_cons pe_int pa_nil))) (pa_cons (pe_lst (pa_cons pe_int (pa_cons pe_int (pa_cons pe_int (pa_cons pe_int pa_nil))))) (pa_cons (pe_lst (pa_cons pe_int pa_nil)) (pa_cons (pe_lst (pa_cons pe_int (pa_cons (pe_op op_add pe_int (pv 0)) pa_nil))) (pa_cons (pe_lst (pa_cons pe_non (pa_cons pe_int pa_nil))) pa_nil))))))))))))))
      (pss_cons (ps_for PassesOwn.never rfl (show PI _ _ _ (iList K _) from pi_list (pe_op op_cat (pe_op op_cat (pv 1) (pe_lc (own := [("_law_one", 5)]) (g := (gName 5)) (tt := tYes) (by rfl) sc__law_right.nd (show PI _ _ _ (iList K _) from pi_list (pe_fn (fn__law_strange T) (hr.mono (by first | decide | omega)) (by rfl) (pa_cons (pv 0) pa_nil))) (blkOk_by (by kernel_rfl)) (fun _ _ _ _ _ => (pg_name (i := 5) sc__law_right.nd rfl (by first | exact Or.inl rfl | exact Or.inr rfl))) (fun _ _ _ _ _ => pts_nil) (fun _ _ _ _ _ => (pe_lst (pa_cons (pv 5) pa_nil))))) (pe_lc (own := [("_law_one", 5)]) (g := (gName 5)) (tt := tYes) (by rfl) sc__law_right.nd (show PI _ _ _ (iList K _) from pi_list (pe_fn (fn__law_strange T) (hr.mono (by first | decide | omega)) (by rfl) (pa_cons (pv 0) pa_nil))) (blkOk_by (by kernel_rfl)) (fun _ _ _ _ _ => (pg_name (i := 5) sc__law_right.nd rfl (by first | exact Or.inl rfl | exact Or.inr rfl))) (fun _ _ _ _ _ => pts_nil) (fun _ _ _ _ _ => (pe_lst (pa_cons pe_int (pa_cons (pv 5) pa_nil))))))) (pg_name (i := 4) sc__law_right.nd rfl (by first | exact Or.inl rfl | exact Or.inr rfl))
      (pss_one (ps_kin (by decide) (ps_if (pt_cmpR (show OpR _ _ (rNeD K) from op_neD hr.units) (pe_kinds (i := 1) (by decide) T (lamT T B (by decide)) rfl hcv hr (by rfl) (LamX.lamS_by (by kernel_rfl)) rfl (fun _ _ _ _ _ => rfl) (fun A outer s H E f c' hr => (pe_mex (mex_Evening_wish T) (hr.mono (by first | decide | omega)) tkLam (pv 2) (pa_cons (pv 4) pa_nil)))) (pe_fn (fn__law_due_of T) (hr.mono (by first | decide | omega)) (by rfl) (pa_cons pe_int pa_nil)) (nomark _)) (pss_one (ps_ret pe_bl)) pss_nil))))
      (pss_cons (ps_for PassesOwn.never rfl (show PI _ _ _ (iList K _) from pi_list (pe_op op_cat (pe_fn (fn__law_strange T) (hr.mono (by first | decide | omega)) (by rfl) (pa_cons (pv 0) pa_nil)) (pe_lst (pa_cons pe_int (pa_cons pe_int (pa_cons pe_int (pa_cons (pe_op op_add pe_int (pv 0)) pa_nil))))))) (pg_name (i := 6) sc__law_right.nd rfl (by first | exact Or.inl rfl | exact Or.inr rfl))
      (pss_cons (ps_kin (by decide) (ps_if (pt_cmpR (show OpR _ _ (rNeD K) from op_neD hr.units) (pe_kinds (i := 2) (by decide) T (lamT T B (by decide)) rfl hcv hr (by rfl) (LamX.lamS_by (by kernel_rfl)) rfl (fun _ _ _ _ _ => rfl) (fun A outer s H E f c' hr => (pe_mex (mex_Evening_withdraw T) (hr.mono (by first | decide | omega)) tkLam (pv 2) (pa_cons (pv 6) pa_nil)))) (pe_fn (fn__law_due_of T) (hr.mono (by first | decide | omega)) (by rfl) (pa_cons pe_int pa_nil)) (nomark _)) (pss_one (ps_ret pe_bl)) pss_nil))
      (pss_cons (ps_kin (by decide) (ps_if (pt_cmpR (show OpR _ _ (rNeD K) from op_neD hr.units) (pe_kinds (i := 2) (by decide) T (lamT T B (by decide)) rfl hcv hr (by rfl) (LamX.lamS_by (by kernel_rfl)) rfl (fun _ _ _ _ _ => rfl) (fun A outer s H E f c' hr => (pe_mex (mex_Evening_within T) (hr.mono (by first | decide | omega)) tkLam (pv 2) (pa_cons (pv 6) pa_nil)))) (pe_fn (fn__law_due_of T) (hr.mono (by first | decide | omega)) (by rfl) (pa_cons pe_int pa_nil)) (nomark _)) (pss_one (ps_ret pe_bl)) pss_nil))
      (pss_one (ps_kin (by decide) (ps_if (pt_cmpR (show OpR _ _ (rNeD K) from op_neD hr.units) (pe_kinds (i := 2) (by decide) T (lamT T B (by decide)) rfl hcv hr (by rfl) (LamX.lamS_by (by kernel_rfl)) rfl (fun _ _ _ _ _ => rfl) (fun A outer s H E f c' hr => (pe_mex (mex_Evening_worst T) (hr.mono (by first | decide | omega)) tkLam (pv 2) (pa_cons (pv 6) pa_nil)))) (pe_fn (fn__law_due_of T) (hr.mono (by first | decide | omega)) (by rfl) (pa_cons pe_int pa_nil)) (nomark _)) (pss_one (ps_ret pe_bl)) pss_nil))))))
      (pss_cons (ps_set (i := 7) sc__law_right.nd rfl (by first | exact Or.inl rfl | exact Or.inr rfl) (pe_iMk (pe_mk (mk_Evening T) (hr.mono (by first | decide | omega)) (by rfl) (pa_cons pe_int pa_nil))))
      (pss_cons (ps_expr (pe_iMe (pe_me (me_Evening_wish T) (hr.mono (by first | decide | omega)) (pv 7) (pa_cons (pe_lst (pa_cons pe_int pa_nil)) pa_nil))))
      (pss_cons (ps_expr (pe_iMe (pe_me (me_Evening_wish T) (hr.mono (by first | decide | omega)) (pv 7) (pa_cons (pe_lst (pa_cons pe_int pa_nil)) pa_nil))))
      (pss_cons (ps_for PassesOwn.never rfl (show PI _ _ _ (iTup K _) from pi_tup (pe_tup (pa_cons pe_bl (pa_cons pe_bl pa_nil)))) (pg_name (i := 6) sc__law_right.nd rfl (by first | exact Or.inl rfl | exact Or.inr rfl))
      (pss_cons (ps_kin (by decide) (ps_if (pt_cmpR (show OpR _ _ (rNeD K) from op_neD hr.units) (pe_kinds (i := 2) (by decide) T (lamT T B (by decide)) rfl hcv hr (by rfl) (LamX.lamS_by (by kernel_rfl)) rfl (fun _ _ _ _ _ => rfl) (fun A outer s H E f c' hr => (pe_mex (mex_Evening_withdraw T) (hr.mono (by first | decide | omega)) tkLam (pv 7) (pa_cons (pv 6) pa_nil)))) (pe_fn (fn__law_due_of T) (hr.mono (by first | decide | omega)) (by rfl) (pa_cons pe_int pa_nil)) (nomark _)) (pss_one (ps_ret pe_bl)) pss_nil))
      (pss_cons (ps_kin (by decide) (ps_if (pt_cmpR (show OpR _ _ (rNeD K) from op_neD hr.units) (pe_kinds (i := 2) (by decide) T (lamT T B (by decide)) rfl hcv hr (by rfl) (LamX.lamS_by (by kernel_rfl)) rfl (fun _ _ _ _ _ => rfl) (fun A outer s H E f c' hr => (pe_mex (mex_Evening_within T) (hr.mono (by first | decide | omega)) tkLam (pv 7) (pa_cons (pv 6) pa_nil)))) (pe_fn (fn__law_due_of T) (hr.mono (by first | decide | omega)) (by rfl) (pa_cons pe_int pa_nil)) (nomark _)) (pss_one (ps_ret pe_bl)) pss_nil))
      (pss_one (ps_kin (by decide) (ps_if (pt_cmpR (show OpR _ _ (rNeD K) from op_neD hr.units) (pe_kinds (i := 2) (by decide) T (lamT T B (by decide)) rfl hcv hr (by rfl) (LamX.lamS_by (by kernel_rfl)) rfl (fun _ _ _ _ _ => rfl) (fun A outer s H E f c' hr => (pe_mex (mex_Evening_worst T) (hr.mono (by first | decide | omega)) tkLam (pv 7) (pa_cons (pv 6) pa_nil)))) (pe_fn (fn__law_due_of T) (hr.mono (by first | decide | omega)) (by rfl) (pa_cons pe_int pa_nil)) (nomark _)) (pss_one (ps_ret pe_bl)) pss_nil))))))
      (pss_one (ps_ret (pe_and (pe_cmpR (show OpR _ _ (rEqD K) from op_eqD hr.units) (pe_iMe (pe_me0 (me_Evening_tale T) (hr.mono (by first | decide | omega)) (pv 2))) (pv 3) (nomark _)) (pe_and (pe_cmpR (show OpR _ _ (rEqD K) from op_eqD hr.units) (pe_iMe (pe_me0 (me_Evening_waits T) (hr.mono (by first | decide | omega)) (pv 2))) (pe_lst (pa_cons pe_int pa_nil)) (nomark _)) (pe_one (pe_cmpR op_eq (pe_iMe (pe_me0 (me_Evening_round_now T) (hr.mono (by first | decide | omega)) (pv 2))) pe_int (nomark _)))))))))))))))))))))), ?_⟩
    refine ⟨_, rfl, far, rfl, by omega, fun p1 H1 xs n1 s1 hp1 l1 hx => ?_⟩
    refine ⟨_, rfl, _, _, rfl, rfl, by show 3 ≤ sizeLine; decide, fun p2 n2 => ?_⟩
    refine to_new n2 fun H2 s2 hp2 => ?_
    refine ⟨p1, p2, _, _, rfl, rfl, s2 _ _ hp1, hp2, by rw [l1]; show 9 + 3 ≤ sizeLine; decide, fun p3 n3 => ?_⟩
    refine to_new n3 fun H3 s3 hp3 => ?_
    have s03 : Same H H3 := (s1.trans s2).trans s3
    have tb3 : LamX.Tabs (TL K) H3 := tb.ext s03
    have hb3 : ∀ v ∈ xs ++ [V.int 0, V.int 7, V.int (6 + far)], NoMany K (nt H3) v := fun v hv => by
      rcases List.mem_append.mp hv with h | h
      · exact ((hx v h).mono (s2.trans s3)).nt.noMany
      · simp only [List.mem_cons, List.not_mem_nil, or_false] at h
        rcases h with rfl | rfl | rfl
        · exact .inr ⟨_, rfl, by omega⟩
        · exact .inr ⟨_, rfl, by omega⟩
        · exact .inr ⟨_, rfl, by omega⟩
    refine ⟨p3, rfl, ⟨_, SqL.of hp3⟩, for_list (K := K) (a := p3) (xs := xs ++ [V.int 0, V.int 7, V.int (6 + far)]) (fun i σ H' => ∃ x1 : Option V, σ = [some (.int far), x1, none, none, none, none, none, none] ∧ LamX.ExtN H3 H' ∧ LamX.Tabs (TL K) H') ?_ ?_ ?_ ?_⟩
    · exact ⟨_, rfl, LamX.ExtN.refl _, tb3⟩
    · rintro i σ G _ ⟨x1, rfl, g, _⟩
      exact SqL.of (g _ _ hp3 fun _ z => by cases z)
    · rintro i v σ G hv ⟨x1, rfl, g, tG⟩
      have hv' := hb3 v (List.mem_of_getElem? hv)
      refine ⟨tG, fun G1 g1 t1 E Q' hE => ?_⟩
      refine ⟨_, rfl, fun x dx nx ndx ne => ?_⟩
      have sG1 : Same (nt H3) G1 := same_ext (NT.nt H3) (nt_le H3) (g.trans g1)
      refine to_made nx ndx fun G2 g2 _ => ?_
      refine ⟨x, v, rfl, (hv'.mono sG1).mono g2, hE _ fun G3 g3 => ?_⟩
      have t3 : LamX.Tabs (TL K) G3 := t1.ext (g2.trans g3)
      refine ⟨t3, fun G4 g4 t4 E Q' hE => ?_⟩
      have e4 : LamX.ExtN H3 G4 := (g.trans (g1.trans (LamX.ExtN.of (g2.trans g3)))).trans g4
      refine ⟨_, rfl, v, _, rfl, hv'.mono (same_ext (NT.nt H3) (nt_le H3) e4), hE _ fun G5 g5 => ?_⟩
      exact ⟨_, rfl, e4.trans (LamX.ExtN.of g5), t4.ext g5⟩
    rintro σ G ⟨x1, rfl, g, tG⟩
    refine rd_new (n := 4) (by decide) (by decide) fun G1 p A' g1 e1 new1 => ?_
    refine rd_wish (ss := [0, 3]) rfl e1 (by decide +kernel) (by decide +kernel) (by decide +kernel) fun G2 _ f2 e2 _ _ => ?_
    refine rd_wish (ss := [0]) rfl e2 (by decide +kernel) (by decide +kernel) (by decide +kernel) fun G3 _ f3 e3 _ _ => ?_
    refine rd_wish (ss := [1]) rfl e3 (by decide +kernel) (by decide +kernel) (by decide +kernel) fun G4 _ f4 e4 _ _ => ?_
    refine rd_sing rfl e4 (by decide +kernel) fun G5 f5 e5 => ?_
    refine rd_out (n := 1) rfl e5 (by decide +kernel) (by decide +kernel) fun G6 f6 e6 => ?_
    have fr6 : Fra (own p A') G1 G6 := (((f2.trans f3).trans f4).trans f5).trans f6
    have s6 : Same G G6 := Fra.back g1 fr6 new1
    have t6 : LamX.Tabs (TL K) G6 := tabs_fra (tabs_fra (tabs_fra (tabs_fra (tabs_fra (tG.ext g1) e1 f2) e2 f3) e3 f4) e4 f5) e5 f6
    have e6 : EvA K G6 p A' evR := e6
    refine rd_tale rfl e6 fun kl G7 cs nkl s7 hkl lcs hcs => ?_
    have dk : Dp K (nt G7) (.ref kl) (.list (evR.tale.map Part.data)) := dp_nt (told_dp hkl lcs hcs)
    have e7 := e6.mono s7
    refine ⟨by show 1 ≤ sizeLine; decide, fun b3 n3 => to_new n3 fun J1 j1 hb3 => ?_⟩
    intro b4 n4
    refine to_new n4 fun J2 j2 hb4 => ⟨Nat.zero_le _, fun b5 n5 => to_new n5 fun J3 j3 hb5 => ?_⟩
    refine ⟨by show 2 ≤ sizeLine; decide, fun b6 n6 => to_new n6 fun J4 j4 hb6 => ?_⟩
    refine ⟨by show 2 ≤ sizeLine; decide, fun b7 n7 => to_new n7 fun J5 j5 hb7 => ?_⟩
    refine ⟨by show 4 ≤ sizeLine; decide, fun b8 n8 => to_new n8 fun J6 j6 hb8 => ?_⟩
    refine ⟨by show 1 ≤ sizeLine; decide, fun b9 n9 => to_new n9 fun J7 j7 hb9 => ?_⟩
    refine ⟨_, rfl, _, _, rfl, rfl, by show 2 ≤ sizeLine; decide, fun b10 n10 => to_new n10 fun J8 j8 hb10 => ?_⟩
    refine ⟨by show 2 ≤ sizeLine; decide, fun b11 n11 => to_new n11 fun J9 j9 hb11 => ?_⟩
    refine ⟨by show 12 ≤ sizeLine; decide, fun bl nbl => to_new nbl fun J10 j10 hbl => ?_⟩
    have hbad : ∀ v ∈ [V.non, .int 1, .str "1", .ref b3, .ref b4, .ref b5, .ref b6, .ref b7, .ref b8, .ref b9, .ref b10, .ref b11], NoSing K J10 4 v := fun v hv => by
      simp only [List.mem_cons, List.not_mem_nil, or_false] at hv
      have k9 := j10
      have k8 := j9.trans k9
      have k7 := j8.trans k8
      have k6 := j7.trans k7
      have k5 := j6.trans k6
      have k4 := j5.trans k5
      have k3 := j4.trans k4
      have k2 := j3.trans k3
      have k1 := j2.trans k2
      rcases hv with rfl | rfl | rfl | rfl | rfl | rfl | rfl | rfl | rfl | rfl | rfl | rfl
      · exact .inl ⟨_, .base .non, by decide⟩
      · exact .inl ⟨_, kd_int _, by decide⟩
      · exact .inl ⟨_, .base (.str _), by decide⟩
      · exact .inl ⟨_, .base (.tup (k1 _ _ hb3)), by decide⟩
      · exact .inl ⟨_, .base (.dK (k2 _ _ hb4)), by decide⟩
      · exact noSing_ints [] (k3 _ _ hb5) (by decide) (by decide +kernel)
      · exact noSing_ints [0, 0] (k4 _ _ hb6) (by decide) (by decide +kernel)
      · exact noSing_ints [1, 0] (k5 _ _ hb7) (by decide) (by decide +kernel)
      · exact noSing_ints [0, 1, 2, 3] (k6 _ _ hb8) (by decide) (by decide +kernel)
      · exact noSing_ints [4] (k7 _ _ hb9) (by decide) (by decide +kernel)
      · refine noSing_ints [0, 3 + far] (k8 _ _ hb10) (by show 2 ≤ 1000; decide) ?_
        unfold areSingers
        simp
        intro z1 z2
        omega
      · refine .inr (.inl ⟨b11, _, rfl, SqL.of (k9 _ _ hb11), by show 2 ≤ 1000; decide, fun y hy => ?_, rfl⟩)
        simp only [List.mem_cons, List.not_mem_nil, or_false] at hy
        rcases hy with rfl | rfl
        · exact ⟨_, .base .non⟩
        · exact ⟨_, kd_int _⟩
    have j0 : Same G7 J10 := ((((((((j1.trans j2).trans j3).trans j4).trans j5).trans j6).trans j7).trans j8).trans j9).trans j10
    refine ⟨_, rfl, _, rfl, far, rfl, by omega, fun q1 M1 ys nq1 m1 hq1 ly hy => ?_⟩
    refine ⟨q1, rfl, ⟨_, SqL.of hq1⟩, fun D1 nD1 => lc_all walk_list sqL_mono (SqL.of hq1) (fun i H1 y => ∃ a x, ys[i]? = some x ∧ y = .ref a ∧ H1 a = some (.lst [x])) ?_ nD1 (by omega) ?_ ?_ gname_mono⟩
    · rintro i H1 H2 y s1 ⟨a, x, h1, h2, h3⟩
      exact ⟨a, x, h1, h2, s1 _ _ h3⟩
    · rintro i x M2 M3 acc hi sM hD ⟨rfl, hx'⟩ k hk
      refine ⟨rfl, _, rfl, by show 1 ≤ sizeLine; decide, fun a na => ?_⟩
      refine hk _ _ (Same.new na) ⟨a, x, hx', rfl, ?_⟩
      rw [off_out (by simp; exact (ne_of_none hD na).symm)]
      exact upd_same
    intro us1 M2 m2 hD1 lu1 hu1
    refine ⟨bl, D1, _, us1, rfl, rfl, m2 _ _ (m1 _ _ hbl), hD1, by rw [lu1, ly]; show 12 + 9 ≤ sizeLine; decide, fun c1 nc1 => to_new nc1 fun M3 m3 hc1 => ?_⟩
    refine ⟨_, rfl, far, rfl, by omega, fun q2 M4 zs nq2 m4 hq2 lz hz => ?_⟩
    refine ⟨q2, rfl, ⟨_, SqL.of hq2⟩, fun D2 nD2 => lc_all walk_list sqL_mono (SqL.of hq2) (fun i H1 y => ∃ a x, zs[i]? = some x ∧ y = .ref a ∧ H1 a = some (.lst [.int 0, x])) ?_ nD2 (by omega) ?_ ?_ gname_mono⟩
    · rintro i H1 H2 y s1 ⟨a, x, h1, h2, h3⟩
      exact ⟨a, x, h1, h2, s1 _ _ h3⟩
    · rintro i x M5 M6 acc hi sM hD ⟨rfl, hx'⟩ k hk
      refine ⟨rfl, _, rfl, by show 2 ≤ sizeLine; decide, fun a na => ?_⟩
      refine hk _ _ (Same.new na) ⟨a, x, hx', rfl, ?_⟩
      rw [off_out (by simp; exact (ne_of_none hD na).symm)]
      exact upd_same
    intro us2 M5 m5 hD2 lu2 hu2
    refine ⟨c1, D2, _, us2, rfl, rfl, m5 _ _ (m4 _ _ hc1), hD2, by rw [lu2, lz, List.length_append, lu1, ly]; show 12 + 9 + 9 ≤ sizeLine; decide, fun c2 nc2 => to_new nc2 fun M6 m6 hc2 => ?_⟩
    have mm : Same J10 M6 := ((((m1.trans m2).trans m3).trans m4).trans m5).trans m6
    have hL : ∀ v ∈ ([V.non, .int 1, .str "1", .ref b3, .ref b4, .ref b5, .ref b6, .ref b7, .ref b8, .ref b9, .ref b10, .ref b11] ++ us1) ++ us2, NoSing K (nt M6) 4 v := fun v hv => by
      rcases List.mem_append.mp hv with h | h
      · rcases List.mem_append.mp h with h | h
        · exact ((hbad v h).mono mm).nt
        · obtain ⟨i, hi, rfl⟩ := List.mem_iff_getElem.mp h
          obtain ⟨a, x, h1, h2, h3⟩ := hu1 i _ (List.getElem?_eq_getElem hi)
          rw [h2]
          have k := ((m3.trans m4).trans m5).trans m6
          exact (noSing_one ((hy x (List.mem_of_getElem? h1)).mono (m2.trans k)) (k _ _ (off_some h3).2)).nt
      · obtain ⟨i, hi, rfl⟩ := List.mem_iff_getElem.mp h
        obtain ⟨a, x, h1, h2, h3⟩ := hu2 i _ (List.getElem?_eq_getElem hi)
        rw [h2]
        exact (noSing_two ((hz x (List.mem_of_getElem? h1)).mono (m5.trans m6)) (m6 _ _ (off_some h3).2)).nt
    have evM : EvA K (nt M6) p A' evR := (e7.mono (j0.trans mm)).nt
    have tM : LamX.Tabs (TL K) M6 := t6.ext (s7.trans (j0.trans mm))
    have dkM : Dp K (nt M6) (.ref kl) (.list (evR.tale.map Part.data)) := dp_mono (nt_same (j0.trans mm)) dk
    have eM : LamX.ExtN H M6 := (LamX.ExtN.of s03).trans (g.trans (LamX.ExtN.of (s6.trans (s7.trans (j0.trans mm)))))
    refine ⟨c2, rfl, ⟨_, SqL.of hc2⟩, for_list (K := K) (a := c2) (xs := ([V.non, .int 1, .str "1", .ref b3, .ref b4, .ref b5, .ref b6, .ref b7, .ref b8, .ref b9, .ref b10, .ref b11] ++ us1) ++ us2) (fun i σ H' => ∃ x4 : Option V, σ = [some (.int far), some (.ref bl), some (.ref p), some (.ref kl), x4, none, none, none] ∧ LamX.ExtN M6 H' ∧ LamX.Tabs (TL K) H') ?_ ?_ ?_ ?_⟩
    · exact ⟨_, rfl, LamX.ExtN.refl _, tM⟩
    · rintro i σ G _ ⟨x1, rfl, g, _⟩
      exact SqL.of (g _ _ hc2 fun _ z => by cases z)
    · rintro i v σ U hv ⟨x1, rfl, u, tU⟩
      have hv' := hL v (List.mem_of_getElem? hv)
      refine ⟨tU, fun U1 u1 t1 E Q' hE => ?_⟩
      have sU1 : Same (nt M6) U1 := same_ext (NT.nt M6) (nt_le M6) (u.trans u1)
      refine rd_wishX rfl rfl (evM.mono sU1) (hv'.mono sU1) fun U2 u2 => hE _ fun U3 u3 => ?_
      exact ⟨_, rfl, (u.trans u1).trans (LamX.ExtN.of (u2.trans u3)), t1.ext (u2.trans u3)⟩
    rintro σ U ⟨x4, rfl, u, tU⟩
    have sU : Same (nt M6) U := same_ext (NT.nt M6) (nt_le M6) u
    refine ⟨_, rfl, far, rfl, by omega, fun q3 W1 xs3 nq3 w1 hq3 lx3 hx3 => ?_⟩
    refine ⟨_, rfl, _, _, rfl, rfl, by show 4 ≤ sizeLine; decide, fun q4 nq4 => to_new nq4 fun W2 w2 hq4 => ?_⟩
    refine ⟨q3, q4, _, _, rfl, rfl, w2 _ _ hq3, hq4, by rw [lx3]; show 9 + 4 ≤ sizeLine; decide, fun q5 nq5 => to_new nq5 fun W3 w3 hq5 => ?_⟩
    have ws : Same U W3 := (w1.trans w2).trans w3
    have tW : LamX.Tabs (TL K) W3 := tU.ext ws
    have eW : LamX.ExtN M6 W3 := u.trans (LamX.ExtN.of ws)
    have sMW : Same (nt M6) (nt W3) := nt_ext eW
    have hs3 : ∀ v ∈ xs3 ++ [V.int 0, V.int 1, V.int 3, V.int (2 + far)], NoSong K (nt W3) evR.waiting v := fun v hv => by
      rw [evR_waits]
      rcases List.mem_append.mp hv with h | h
      · exact ((hx3 v h).mono (w2.trans w3)).nt.noSong (fun x hx => by rw [List.mem_singleton.mp hx]; decide)
      · simp only [List.mem_cons, List.not_mem_nil, or_false] at h
        rcases h with rfl | rfl | rfl | rfl
        · exact .inr ⟨_, rfl, by decide⟩
        · exact .inr ⟨_, rfl, by decide⟩
        · exact .inr ⟨_, rfl, by decide⟩
        · exact .inr ⟨_, rfl, fun z => by have := List.mem_singleton.mp z; omega⟩
    refine ⟨q5, rfl, ⟨_, SqL.of hq5⟩, for_list (K := K) (a := q5) (xs := xs3 ++ [V.int 0, V.int 1, V.int 3, V.int (2 + far)]) (fun i σ H' => ∃ x6 : Option V, σ = [some (.int far), some (.ref bl), some (.ref p), some (.ref kl), x4, none, x6, none] ∧ LamX.ExtN W3 H' ∧ LamX.Tabs (TL K) H') ?_ ?_ ?_ ?_⟩
    · exact ⟨_, rfl, LamX.ExtN.refl _, tW⟩
    · rintro i σ G _ ⟨x1, rfl, g, _⟩
      exact SqL.of (g _ _ hq5 fun _ z => by cases z)
    · rintro i v σ Y0 hv ⟨x6, rfl, y0, tY⟩
      have hv' := hs3 v (List.mem_of_getElem? hv)
      have evW : EvA K (nt W3) p A' evR := evM.mono sMW
      refine ⟨tY, fun Y1 y1 t1 E Q' hE => ?_⟩
      have z1 : Same (nt W3) Y1 := same_ext (NT.nt W3) (nt_le W3) (y0.trans y1)
      refine rd_songX (by decide +kernel) rfl rfl (evW.mono z1) (hv'.mono z1) (hE _ fun Y2 y2 => ?_)
      refine ⟨t1.ext y2, fun Y3 y3 t3 E Q' hE => ?_⟩
      have x3' := ((y0.trans y1).trans (LamX.ExtN.of y2)).trans y3
      have z3 : Same (nt W3) Y3 := same_ext (NT.nt W3) (nt_le W3) x3'
      refine rd_songX (by decide +kernel) rfl rfl (evW.mono z3) (hv'.mono z3) (hE _ fun Y4 y4 => ?_)
      refine ⟨t3.ext y4, fun Y5 y5 t5 E Q' hE => ?_⟩
      have x5' := (x3'.trans (LamX.ExtN.of y4)).trans y5
      have z5 : Same (nt W3) Y5 := same_ext (NT.nt W3) (nt_le W3) x5'
      refine rd_songX (by decide +kernel) rfl rfl (evW.mono z5) (hv'.mono z5) (hE _ fun Y6 y6 => ?_)
      exact ⟨_, rfl, x5'.trans (LamX.ExtN.of y6), t5.ext y6⟩
    rintro σ Y ⟨x6, rfl, y, tY⟩
    refine rd_new (n := 2) (by decide) (by decide) fun N1 p2' A2 y1 d1 new2 => ?_
    refine rd_wish (ss := [0]) rfl d1 (by decide +kernel) (by decide +kernel) (by decide +kernel) fun N2 _ f2' d2 _ _ => ?_
    refine rd_wish (ss := [1]) rfl d2 (by decide +kernel) (by decide +kernel) (by decide +kernel) fun N3 _ f3' d3 _ _ => ?_
    have yN : Same Y N3 := Fra.back y1 (f2'.trans f3') new2
    have tN : LamX.Tabs (TL K) N3 := tabs_fra (tabs_fra (tY.ext y1) d1 f2') d2 f3'
    have eN : LamX.ExtN M6 N3 := eW.trans (y.trans (LamX.ExtN.of yN))
    refine ⟨by show 2 ≤ sizeLine; decide, fun tt ntt => to_new ntt fun N4 n4 htt => ?_⟩
    have evN : EvA K (nt N4) p A' evR := evM.mono (nt_ext (eN.trans (LamX.ExtN.of n4)))
    have d4 : EvA K (nt N4) p2' A2 (((evNew 2).wish [0]).wish [1]) := (d3.mono n4).nt
    refine ⟨tt, rfl, ⟨_, SqT.of htt⟩, for_tup (K := K) (a := tt) (xs := [V.bl true, V.bl false]) (fun i σ H' => ∃ x6 : Option V, σ = [some (.int far), some (.ref bl), some (.ref p), some (.ref kl), x4, none, x6, some (.ref p2')] ∧ LamX.ExtN N4 H' ∧ LamX.Tabs (TL K) H') ?_ ?_ ?_ ?_⟩
    · exact ⟨_, rfl, LamX.ExtN.refl _, tN.ext n4⟩
    · rintro i σ G _ ⟨x1, rfl, g, _⟩
      exact SqT.of (g _ _ htt fun _ z => by cases z)
    · rintro i v σ Y0 hv ⟨x6, rfl, y0, tY⟩
      have hv' : NoSong K (nt N4) (((evNew 2).wish [0]).wish [1]).waiting v := by
        have hm := List.mem_of_getElem? hv
        simp only [List.mem_cons, List.not_mem_nil, or_false] at hm
        rcases hm with rfl | rfl
        · exact .inl ⟨_, .base (.bl _), by decide⟩
        · exact .inl ⟨_, .base (.bl _), by decide⟩
      refine ⟨tY, fun Y1 y1 t1 E Q' hE => ?_⟩
      have z1 : Same (nt N4) Y1 := same_ext (NT.nt N4) (nt_le N4) (y0.trans y1)
      refine rd_songX (by decide +kernel) rfl rfl (d4.mono z1) (hv'.mono z1) (hE _ fun Y2 y2 => ?_)
      refine ⟨t1.ext y2, fun Y3 y3 t3 E Q' hE => ?_⟩
      have x3' := ((y0.trans y1).trans (LamX.ExtN.of y2)).trans y3
      have z3 : Same (nt N4) Y3 := same_ext (NT.nt N4) (nt_le N4) x3'
      refine rd_songX (by decide +kernel) rfl rfl (d4.mono z3) (hv'.mono z3) (hE _ fun Y4 y4 => ?_)
      refine ⟨t3.ext y4, fun Y5 y5 t5 E Q' hE => ?_⟩
      have x5' := (x3'.trans (LamX.ExtN.of y4)).trans y5
      have z5 : Same (nt N4) Y5 := same_ext (NT.nt N4) (nt_le N4) x5'
      refine rd_songX (by decide +kernel) rfl rfl (d4.mono z5) (hv'.mono z5) (hE _ fun Y6 y6 => ?_)
      exact ⟨_, rfl, x5'.trans (LamX.ExtN.of y6), t5.ext y6⟩
    rintro σ Z ⟨x7, rfl, z, tZ⟩
    have sZ : Same (nt N4) Z := same_ext (NT.nt N4) (nt_le N4) z
    have dkZ : Dp K Z (.ref kl) (.list (evR.tale.map Part.data)) := dp_mono sZ (dp_mono (nt_ext (eN.trans (LamX.ExtN.of n4))) dkM)
    refine rd_tale rfl (evN.mono sZ) fun kl2 Z1 cs2 nk2 z1 hk2 lc2 hc2' => ?_
    refine ⟨_, rfl, _, _, told_dp hk2 lc2 hc2', dp_mono z1 dkZ, (shp_tale _).ok, (shp_tale _).ok, _, rfl, ?_⟩
    rw [eqv_tale]
    refine iteT ?_
    refine rd_waits rfl ((evN.mono sZ).mono z1) fun l2 Z2 nl2 z2 hl2 => ?_
    rw [evR_queue] at hl2
    refine ⟨by show 1 ≤ sizeLine; decide, fun l3 nl3 => to_new nl3 fun Z3 z3 hl3 => ?_⟩
    refine ⟨_, _, dp_ints (SqL.of (z3 _ _ hl2)), dp_ints (ns := [2]) (SqL.of hl3), (shp_ints _).ok, (shp_ints _).ok, _, rfl, ?_⟩
    rw [show PyData.eqv (.list (([2] : List Int).map PyData.int)) (.list (([2] : List Int).map PyData.int)) = true from eqv_self (shp_ints _)]
    refine iteT ?_
    have zz : Same Z Z3 := (z1.trans z2).trans z3
    refine rd_now rfl ((evN.mono sZ).mono zz) ?_
    rw [evR_going]
    refine ⟨rfl, ?_⟩
    have fin := q Z3 (eM.trans (((eN.trans (LamX.ExtN.of n4)).trans z).trans (LamX.ExtN.of zz))) (tZ.ext zz)
    exact fin
end
end Song

/-! ### L10: the law k10 -/
namespace Song
open PySem L2
def spLawT (K : PySem.W.Frag) : Sp := fun vs H Q _ => ∃ (a : Addr) (ns : List Int), vs = [.ref a] ∧ SqL K H a (ns.map V.int) ∧ Scr ns ∧ LamX.Tabs (TL K) H ∧ ∀ H', Q (.bl true) H'
def fullS : Nat → EvS
  | 0 => evNew 1
  | n + 1 => (fullS n).wish [0]
theorem full_can : ∀ i, i < 24 → areSingers [0] (fullS i).last.length = true ∧ (fullS i).rounds.length < 24 ∧ (fullS i).tale.length < 900 := by decide +kernel
theorem full_end : (fullS 24).last.length = 1 ∧ (fullS 24).rounds.length = 24 ∧ (fullS 24).queue.length = 24 ∧ (23 : Int) ∈ (fullS 24).waiting ∧ (fullS 24).within 23 = 24 := by decide +kernel
def usedW (st : EvS) (i : Nat) : EvS := st.wish [(0 + (i : Int)) % 2]
def usedS : Nat → EvS
  | 0 => evNew 2
  | n + 1 => if n % 3 = 0 then (usedW (usedS n) n).sing else if n % 3 = 1 then (usedW (usedS n) n).out ((usedW (usedS n) n).queue.getLastD 0) else usedW (usedS n) n
theorem used_can : ∀ i : Nat, i < 24 → areSingers [(0 + (i : Int)) % 2] (usedS i).last.length = true ∧ (usedS i).rounds.length < 24 ∧ (usedS i).tale.length < 900 ∧ (usedW (usedS i) i).tale.length < 900 ∧ (i % 3 = 1 → (usedW (usedS i) i).queue ≠ [] ∧ (usedW (usedS i) i).queue.getLastD 0 ∈ (usedW (usedS i) i).waiting) := by decide +kernel
theorem used_end : (usedS 24).last.length = 2 ∧ (usedS 24).rounds.length = 24 ∧ (usedS 24).queue.length = 8 := by decide +kernel
theorem last_at {ns : List Int} (h : ns ≠ []) : atI (ns.map V.int) (-1) = some (.int (ns.getLastD 0)) := by
  have e : ns = ns.dropLast ++ [ns.getLastD 0] := by
    rw [List.getLastD_eq_getLast?, List.getLast?_eq_some_getLast h]; exact (List.dropLast_concat_getLast h).symm
  have e2 : ns.map V.int = ns.dropLast.map V.int ++ [V.int (ns.getLastD 0)] := by
    conv => lhs; rw [e]
    rw [List.map_append]; rfl
  rw [e2]
  exact atI_last _ _
section
variable {P : Program} {w : World} {K : PySem.W.Frag} {mg : Str → Option Value} {base : Heap}
theorem sc_law : FnScope ["_law_script", "_law_by", "_law_full", "_law_turn", "_law_used"] ["_law_script"] (defScope s_law) := ⟨rfl, rfl, rfl, by decide +kernel, rfl, by decide +kernel, by decide +kernel⟩
theorem ok_law0 {fd : FuncData} (T : Tx K mg) (B : ∀ p ∈ tf, LamX.TabB base mg (He.cT K p).1 (He.cT K p).2) (F : FnP K "law" "law" s_law (He.ga K "law") fd) : FnOk P w K mg base CX0 10 (He.ga K "law") fd ["_law_script"] (spLawT K) := by
  refine okC (at_ := ("law", none)) F rfl (CX := CX0) sc_law (fun vs H Q E h => ?_) (fun cdv hcv A outer s H vs Q E hr h => ?_)
  · obtain ⟨a, ns, rfl, _⟩ := h; rfl
  · obtain ⟨a, ns, rfl, hs, hb, tb, q⟩ := h
    refine ⟨_, PSs.nox (pss_cons (ps_set (i := 0) sc_law.nd rfl (by first | exact Or.inl rfl | exact Or.inr rfl) (pe_slice (show SlR _ (rSlL K) from sl_list) (pv 0) po_none (po_some pe_int)))
      (pss_cons (ps_for PassesOwn.never rfl (show PI _ _ _ (iTup K _) from pi_tup (pe_tup (pa_cons pe_int (pa_cons pe_int pa_nil)))) (pg_name (i := 1) sc_law.nd rfl (by first | exact Or.inl rfl | exact Or.inr rfl))
      (pss_one (ps_if (pt_not (pt_val (pe_fn (fn__law_right T B) (hr.mono (by first | decide | omega)) (by rfl) (pa_cons (pe_op op_add pe_int (pe_op op_mod (pe_fn (fn__law_value T) (hr.mono (by first | decide | omega)) (by rfl) (pa_cons (pe_fn (fn__law_cell_at T) (hr.mono (by first | decide | omega)) (by rfl) (pa_cons (pv 0) (pa_cons (pv 1) pa_nil))) (pa_cons pe_int pa_nil))) (pe_op op_pow pe_int pe_int))) pa_nil)))) (pss_one (ps_ret pe_bl)) pss_nil)))
      (pss_cons (ps_set (i := 2) sc_law.nd rfl (by first | exact Or.inl rfl | exact Or.inr rfl) (pe_iMk (pe_mk (mk_Evening T) (hr.mono (by first | decide | omega)) (by rfl) (pa_cons pe_int pa_nil))))
      (pss_cons (ps_for PassesOwn.never rfl (pi_range1 (by rfl) T.range (pa_cons pe_int pa_nil)) (pg_name (i := 3) sc_law.nd rfl (by first | exact Or.inl rfl | exact Or.inr rfl))
      (pss_one (ps_expr (pe_iMe (pe_me (me_Evening_wish T) (hr.mono (by first | decide | omega)) (pv 2) (pa_cons (pe_lst (pa_cons pe_int pa_nil)) pa_nil))))))
      (pss_cons (ps_kin (by decide) (ps_if (pt_cmpR (show OpR _ _ (rNeD K) from op_neD hr.units) (pe_kinds (i := 7) (by decide) T (lamT T B (by decide)) rfl hcv hr (by rfl) (LamX.lamS_by (by kernel_rfl)) rfl (fun _ _ _ _ _ => rfl) (fun A outer s H E f c' hr => (pe_mex (mex_Evening_wish T) (hr.mono (by first | decide | omega)) tkLam (pv 2) (pa_cons (pe_lst (pa_cons pe_int pa_nil)) pa_nil)))) (pe_fn (fn__law_due_of T) (hr.mono (by first | decide | omega)) (by rfl) (pa_cons pe_int pa_nil)) (nomark _)) (pss_one (ps_ret pe_bl)) pss_nil))
      (pss_cons (ps_kin (by decide) (ps_if (pt_cmpR (show OpR _ _ (rNeD K) from op_neD hr.units) (pe_kinds (i := 1) (by decide) T (lamT T B (by decide)) rfl hcv hr (by rfl) (LamX.lamS_by (by kernel_rfl)) rfl (fun _ _ _ _ _ => rfl) (fun A outer s H E f c' hr => (pe_mex (mex_Evening_wish T) (hr.mono (by first | decide | omega)) tkLam (pv 2) (pa_cons (pe_lst (pa_cons pe_int pa_nil)) pa_nil)))) (pe_fn (fn__law_due_of T) (hr.mono (by first | decide | omega)) (by rfl) (pa_cons pe_int pa_nil)) (nomark _)) (pss_one (ps_ret pe_bl)) pss_nil))
      (pss_cons (ps_set (i := 4) sc_law.nd rfl (by first | exact Or.inl rfl | exact Or.inr rfl) (pe_iMk (pe_mk (mk_Evening T) (hr.mono (by first | decide | omega)) (by rfl) (pa_cons pe_int pa_nil))))
      (pss_cons (ps_for PassesOwn.never rfl (pi_range1 (by rfl) T.range (pa_cons pe_int pa_nil)) (pg_name (i := 3) sc_law.nd rfl (by first | exact Or.inl rfl | exact Or.inr rfl))
      (pss_cons (ps_expr (pe_iMe (pe_me (me_Evening_wish T) (hr.mono (by first | decide | omega)) (pv 4) (pa_cons (pe_lst (pa_cons (pe_op op_mod (pv 3) pe_int) pa_nil)) pa_nil))))
      (pss_cons (ps_if (pt_cmpR op_eq (pe_op op_mod (pv 3) pe_int) pe_int (nomark _)) (pss_one (ps_expr (pe_iMe (pe_me0 (me_Evening_sing T) (hr.mono (by first | decide | omega)) (pv 4))))) pss_nil)
      (pss_one (ps_if (pt_cmpR op_eq (pe_op op_mod (pv 3) pe_int) pe_int (nomark _)) (pss_one (ps_expr (pe_iMe (pe_me (me_Evening_withdraw T) (hr.mono (by first | decide | omega)) (pv 4) (pa_cons (pe_ix (show IxR _ (rIxL K) from ix_list) (pe_iMe (pe_me0 (me_Evening_waits T) (hr.mono (by first | decide | omega)) (pv 4))) (pe_un un_neg pe_int) (fun _ _ => rfl)) pa_nil))))) pss_nil)))))
      (pss_cons (ps_if (PW.pt (pw_or (pt_cmpR (show OpR _ _ (rNeD K) from op_neD hr.units) (pe_kinds (i := 7) (by decide) T (lamT T B (by decide)) rfl hcv hr (by rfl) (LamX.lamS_by (by kernel_rfl)) rfl (fun _ _ _ _ _ => rfl) (fun A outer s H E f c' hr => (pe_mex (mex_Evening_wish T) (hr.mono (by first | decide | omega)) tkLam (pv 4) (pa_cons (pe_lst (pa_cons pe_int pa_nil)) pa_nil)))) (pe_fn (fn__law_due_of T) (hr.mono (by first | decide | omega)) (by rfl) (pa_cons pe_int pa_nil)) (nomark _)) (pw_or1 (pt_cmpR op_ne (pe_callB (show CallR _ _ (rLenQ K) from call_len_seq) (by rfl) T.len (by decide +kernel) (pa_cons (pe_iMe (pe_me0 (me_Evening_waits T) (hr.mono (by first | decide | omega)) (pv 4))) pa_nil)) pe_int (nomark _))))) (pss_one (ps_ret pe_bl)) pss_nil)
      (pss_one (ps_ret (pe_and (pe_cmpR op_eq (pe_callB (show CallR _ _ (rLenQ K) from call_len_seq) (by rfl) T.len (by decide +kernel) (pa_cons (pe_iMe (pe_me0 (me_Evening_waits T) (hr.mono (by first | decide | omega)) (pv 2))) pa_nil)) pe_int (nomark _)) (pe_and (pe_cmpR op_eq (pe_iMe (pe_me (me_Evening_within T) (hr.mono (by first | decide | omega)) (pv 2) (pa_cons pe_int pa_nil))) pe_int (nomark _)) (pe_one (pe_cmpR (show OpR _ _ (rEqD K) from op_eqD hr.units) (pe_iMe (pe_me (me_Evening_wish T) (hr.mono (by first | decide | omega)) (pe_iMk (pe_mk (mk_Evening T) (hr.mono (by first | decide | omega)) (by rfl) (pa_cons pe_int pa_nil))) (pa_cons (pe_lst (pa_cons pe_int (pa_cons pe_int (pa_cons pe_int pa_nil)))) pa_nil))) (pe_tup (pa_cons pe_int (pa_cons pe_int pa_nil))) (nomark _)))))))))))))))), ?_⟩
    refine ⟨_, rfl, _, rfl, a, _, rfl, hs, fun z nz => ?_⟩
    rw [cut63 hb.1]
    refine to_new nz fun H1 s1 hz => ?_
    refine ⟨by show 2 ≤ sizeLine; decide, fun tt ntt => to_new ntt fun H2 s2 htt => ?_⟩
    have cb : ∀ k : Int, Bits 1048600 (cellAt ns k) := fun k => (hb.cell k).mono (by decide)
    refine ⟨tt, rfl, ⟨_, SqT.of htt⟩, for_tup (K := K) (a := tt) (xs := [V.int 0, V.int 3]) (fun i σ H' => ∃ x1 : Option V, σ = [some (.ref z), x1, none, none, none] ∧ LamX.ExtN H2 H' ∧ LamX.Tabs (TL K) H') ?_ ?_ ?_ ?_⟩
    · exact ⟨_, rfl, LamX.ExtN.refl _, tb.ext (s1.trans s2)⟩
    · rintro i σ G _ ⟨x1, rfl, g, _⟩
      exact SqT.of (g _ _ htt fun _ z => by cases z)
    · rintro i v σ G hv ⟨x1, rfl, g, tG⟩
      obtain ⟨k, rfl, k0⟩ : ∃ k : Int, v = .int k ∧ 0 ≤ k := by
        have hm := List.mem_of_getElem? hv
        simp only [List.mem_cons, List.not_mem_nil, or_false] at hm
        rcases hm with rfl | rfl
        · exact ⟨0, rfl, by decide⟩
        · exact ⟨3, rfl, by decide⟩
      have hzG : SqL K G z (ns.map V.int) := SqL.of (g _ _ (s2 _ _ hz) fun _ z => by cases z)
      refine ⟨_, rfl, _, rfl, z, ns, k, rfl, hzG, k0, _, _, rfl, cb _, by decide, by decide, fun G1 g1 => ?_⟩
      refine ⟨_, _, rfl, rfl, ⟨by decide, by decide, by decide⟩, _, _, rfl, rfl, (show (0 : Int) < 10 ^ (20 : Int).toNat by decide), _, _, rfl, rfl, ?_⟩
      have f1 := Int.emod_nonneg (lawValue (cellAt ns k) 7) (b := (10 : Int) ^ (20 : Int).toNat) (by decide)
      refine ⟨_, rfl, by omega, tG.ext g1, fun G2 g2 t2 => ⟨_, rfl, iteF ?_⟩⟩
      exact ⟨_, rfl, (g.trans (LamX.ExtN.of g1)).trans g2, t2⟩
    rintro σ G ⟨x1, rfl, g, tG⟩
    refine rd_new (n := 1) (by decide) (by decide) fun G1 p A' g1 e1 new1 => ?_
    refine ⟨24, rfl, by decide, by decide, for_range (lo := 0) (fun i σ H' => ∃ x3 : Option V, σ = [some (.ref z), x1, some (.ref p), x3, none] ∧ Fra (own p A') G1 H' ∧ EvA K H' p A' (fullS i) ∧ LamX.Tabs (TL K) H') ?_ ?_ ?_⟩
    · exact ⟨_, rfl, Fra.refl _ _, e1, tG.ext g1⟩
    · rintro i σ G2 hi ⟨x3, rfl, f, e, t⟩
      obtain ⟨c1, c2, c3⟩ := full_can i hi
      refine rd_wish (ss := [0]) rfl e c1 c2 c3 fun G3 _ f3 e3 _ _ => ?_
      exact ⟨_, rfl, f.trans f3, e3, tabs_fra t e f3⟩
    rintro σ G2 ⟨x3, rfl, f2, e2, t2⟩
    have e2 : EvA K G2 p A' (fullS 24) := e2
    obtain ⟨fe1, fe2, fe3, fe4, fe5⟩ := full_end
    have eN := e2.nt
    refine ⟨t2, fun G3 g3 t3 E Q' hE => ?_⟩
    have z3 : Same (nt G2) G3 := same_ext (NT.nt G2) (nt_le G2) g3
    refine rd_wishL (ss := [0]) rfl (eN.mono z3) (by decide) (.inr ⟨by rw [fe1]; decide +kernel, fe2, fun G4 g4 => hE _ fun G5 g5 => ?_⟩)
    have s35 := g4.trans g5
    refine ⟨t3.ext s35, fun G6 g6 t6 E Q' hE => ?_⟩
    have x6 := (g3.trans (LamX.ExtN.of s35)).trans g6
    have z6 : Same (nt G2) G6 := same_ext (NT.nt G2) (nt_le G2) x6
    refine rd_wishL (ss := [1]) rfl (eN.mono z6) (by decide) (.inl ⟨by rw [fe1]; decide +kernel, fun G7 g7 => hE _ fun G8 g8 => ?_⟩)
    have s68 := g7.trans g8
    have x8 := x6.trans (LamX.ExtN.of s68)
    have t8 : LamX.Tabs (TL K) G8 := t6.ext s68
    refine rd_new (n := 2) (by decide) (by decide) fun W1 pu Au w1 u1 newu => ?_
    refine ⟨24, rfl, by decide, by decide, for_range (lo := 0) (fun i σ H' => ∃ x3 : Option V, σ = [some (.ref z), x1, some (.ref p), x3, some (.ref pu)] ∧ Fra (own pu Au) W1 H' ∧ EvA K H' pu Au (usedS i) ∧ LamX.Tabs (TL K) H') ?_ ?_ ?_⟩
    · exact ⟨_, rfl, Fra.refl _ _, u1, t8.ext w1⟩
    · rintro i σ W2 hi ⟨x3, rfl, f, e, t⟩
      obtain ⟨c1, c2, c3, c4, c5⟩ := used_can i hi
      refine rd_wish (ss := [(0 + (i : Int)) % 2]) rfl e c1 c2 c3 (fun W3 _ f3 e3 _ _ => ?_) (fun R h => ⟨_, rfl, _, _, rfl, rfl, (show (0 : Int) < 2 by decide), h⟩)
      have t3 := tabs_fra t e f3
      have e3 : EvA K W3 pu Au (usedW (usedS i) i) := e3
      have us : usedS (i + 1) = if i % 3 = 0 then (usedW (usedS i) i).sing else if i % 3 = 1 then (usedW (usedS i) i).out ((usedW (usedS i) i).queue.getLastD 0) else usedW (usedS i) i := rfl
      refine ⟨_, rfl, _, _, rfl, rfl, (show (0 : Int) < 3 by decide), rfl, _, rfl, ?_⟩
      by_cases h0 : i % 3 = 0
      · rw [show decide (V.int ((0 + (i : Int)) % 3) = V.int 0) = true from decide_eq_true (congrArg V.int (by omega))]
        refine iteT ?_
        refine rd_sing rfl e3 c4 fun W4 f4 e4 => ?_
        refine ⟨_, rfl, _, _, rfl, rfl, (show (0 : Int) < 3 by decide), rfl, _, rfl, ?_⟩
        rw [show decide (V.int ((0 + (i : Int)) % 3) = V.int 1) = false from decide_eq_false (fun z => by injection z with z; omega)]
        refine iteF ⟨_, rfl, (f.trans f3).trans f4, ?_, tabs_fra t3 e3 f4⟩
        rw [us, if_pos h0]
        exact e4
      · rw [show decide (V.int ((0 + (i : Int)) % 3) = V.int 0) = false from decide_eq_false (fun z => by injection z with z; omega)]
        refine iteF ?_
        refine ⟨_, rfl, _, _, rfl, rfl, (show (0 : Int) < 3 by decide), rfl, _, rfl, ?_⟩
        by_cases h1 : i % 3 = 1
        · rw [show decide (V.int ((0 + (i : Int)) % 3) = V.int 1) = true from decide_eq_true (congrArg V.int (by omega))]
          refine iteT ?_
          obtain ⟨d1, d2⟩ := c5 h1
          obtain ⟨dx, hp⟩ := e3.ev.pp
          refine iMeth_of ⟨_, rfl, pu, dx, _, rfl, hp, evF_no _ _ (by decide +kernel), ?_⟩
          refine rd_waits rfl e3 fun l W4 nl w4 hl => ?_
          refine ⟨_, rfl, l, _, _, _, rfl, rfl, SqL.of hl, last_at d1, ?_⟩
          have e4 := e3.mono w4
          refine ⟨own pu Au, pu, Au, _, _, rfl, e4.ev, e4.ok, c4, d2, fun W5 f5 e5 => ?_⟩
          refine ⟨_, rfl, ((f.trans f3).trans (Fra.of w4)).trans f5, ?_, tabs_fra (t3.ext w4) e4 f5⟩
          rw [us, if_neg h0, if_pos h1]
          exact ⟨e5, e4.ok.out _, e4.eb.out _⟩
        · rw [show decide (V.int ((0 + (i : Int)) % 3) = V.int 1) = false from decide_eq_false (fun z => by injection z with z; omega)]
          refine iteF ⟨_, rfl, f.trans f3, ?_, t3⟩
          rw [us, if_neg h0, if_neg h1]
          exact e3
    rintro σ W2 ⟨x3', rfl, fw, u2, tw⟩
    have u2 : EvA K W2 pu Au (usedS 24) := u2
    obtain ⟨ue1, ue2, ue3⟩ := used_end
    have s82 : Same G8 W2 := Fra.back w1 fw newu
    have uN := u2.nt
    have fN : EvA K (nt W2) p A' (fullS 24) := eN.mono (nt_ext (x8.trans (LamX.ExtN.of s82)))
    refine ⟨tw, fun W3 w3 t3' Q' => ?_⟩
    have zw : Same (nt W2) W3 := same_ext (NT.nt W2) (nt_le W2) w3
    refine rd_wishL (ss := [0]) rfl (uN.mono zw) (by decide) (.inr ⟨by rw [ue1]; decide +kernel, ue2, fun W4 w4 => ⟨rfl, rfl, fun k1 W5 w5 hk1 => ?_⟩⟩)
    refine ⟨7, rfl, by decide, fun k2 W6 n6 w6 hk2 => ?_⟩
    refine ⟨_, _, dp_due (w6 _ _ hk1), dp_due hk2, (due_eqv 7 (by decide)).2, (due_eqv 7 (by decide)).2, _, rfl, ?_⟩
    rw [(due_eqv 7 (by decide)).1]
    refine iteF ?_
    have zw6 : Same (nt W2) W6 := zw.trans ((w4.trans w5).trans w6)
    refine rd_waits rfl (uN.mono zw6) fun l7 W7 nl7 w7 hl7 => ?_
    refine ⟨l7, _, rfl, .inl (SqL.of hl7), rfl, _, rfl, ?_⟩
    rw [List.length_map, ue3]
    refine iteF ?_
    have f7 := fN.mono (zw6.trans w7)
    refine rd_waits rfl f7 fun l8 W8 nl8 w8 hl8 => ?_
    refine ⟨l8, _, rfl, .inl (SqL.of hl8), rfl, _, rfl, ?_⟩
    rw [List.length_map, fe3]
    refine iteT ?_
    refine rd_within (n := 23) rfl (f7.mono w8) fe4 fun W9 w9 => ?_
    rw [fe5]
    refine ⟨rfl, _, rfl, iteT ?_⟩
    refine iMeth_of ?_
    refine rd_new (n := 6) (by decide) (by decide) fun V1 p6 A6 v1 e6 new6 => ?_
    refine rd_wishT (ss := [3, 4, 5]) e6 (by decide +kernel) (by decide +kernel) (by decide +kernel) fun V2 t6 f6 e7 nt6 ht6 => ?_
    refine ⟨by show 2 ≤ sizeLine; decide, fun t7 nt7 => to_new nt7 fun V3 v3 ht7 => ?_⟩
    refine ⟨_, _, .tup (SqT.of (v3 _ _ ht6)) (.cons (.int _) (.cons (.int _) .nil)), .tup (SqT.of ht7) (.cons (.int _) (.cons (.int _) .nil)), by decide +kernel, by decide +kernel, ?_⟩
    rw [show PyData.eqv (.tuple [.int ((evNew 6).rounds.length : Int), .int ((evNew 6).num [3, 4, 5])]) (.tuple [.int 0, .int 1]) = true by decide +kernel]
    exact q V3
end
end Song

namespace Song
open PySem L2
def fn : List He.DefD := [d_is_whole, d_are_numbers, d_check_many, d_are_singers, d_floor_of, d_round_for, d_in_turn, d_more_ahead, d_Evening___init__, d_Evening_wish, d_Evening_sing, d_Evening_look_at, d_Evening_withdraw, d_Evening_round_now, d_Evening_waits, d_Evening_ahead_of, d_Evening_within, d_Evening_worst, d_Evening_tale, d_is_part, d_first_wrong, d_Wrong___init__, d_judged, d__law_cell_at, d__law_draw, d__law_value, d__law_kinds, d__law_due_of, d__law_strange, d__law_right, d_law]
def fa : List He.Fa := [.glo "TurnError", .exc "TurnError", .glo "BadMany", .exc "BadMany", .glo "BadSingers", .exc "BadSingers", .glo "BadSong", .exc "BadSong", .glo "BadTale", .exc "BadTale", .glo "BadSongs", .exc "BadSongs", .glo "BadGap", .exc "BadGap", .glo "BadOrder", .exc "BadOrder", .glo "TooMany", .exc "TooMany", .int "MOST_SINGERS" 6, .int "MOST_OF_SONG" 3, .int "MOST_SONGS" 24, .glo "is_whole", .glo "are_numbers", .glo "check_many", .glo "are_singers", .glo "floor_of", .glo "round_for", .glo "in_turn", .glo "more_ahead", .glo "Evening", .cls "Evening", .mkr "Evening", .meth "Evening" "wish", .meth "Evening" "sing", .meth "Evening" "look_at", .meth "Evening" "withdraw", .meth "Evening" "round_now", .meth "Evening" "waits", .meth "Evening" "ahead_of", .meth "Evening" "within", .meth "Evening" "worst", .meth "Evening" "tale", .noat "Evening" "came", .noat "Evening" "going", .noat "Evening" "last", .noat "Evening" "rounds", .noat "Evening" "waiting", .glo "is_part", .glo "first_wrong", .glo "Answer", .cls "Answer", .glo "Right", .cls "Right", .glo "Wrong", .cls "Wrong", .mkr "Wrong", .noat "Wrong" "place", .int "MOST_PARTS" 30, .glo "judged", .glo "_law_cell_at", .glo "_law_draw", .glo "_law_value", .glo "_law_kinds", .glo "_law_due_of", .glo "_law_strange", .glo "_law_right", .glo "law", .free "len", .free "isinstance", .free "all", .free "any", .free "range", .free "sorted", .free "set", .free "max", .free "min", .free "list", .free "enumerate", .free "zip", .free "int", .free "bool", .free "tuple", .free "str", .free "dict", .free "abs", .free "ValueError"]
abbrev R : PySem.W.OpenRow := PySem.W.OpenLaw.row PySem.Challenge.rw_songturns_k10_refused_evenings
def ex : List (PySem.W.Frag → Bool) := [fun K => mkB K (He.ga K "Answer"), fun K => mkB K (He.ga K "Right"), fun K => kmB K, fun K => decide ((tf.map fun p => (He.cT K p).2).Nodup)]
abbrev hk : PySem.W.Hook := He.hookX 4 fa fn [] tf (exOk ex)
def ob (s : PySem.W.SharedT) : He.AlX := He.obsX 4 fa fn [] tf (exOk ex) (HandSHeadRun.getT s)
theorem ob_eq (s : PySem.W.SharedT) : ob s = hk.obs s.abs := He.obsX_eq (HandSHeadRun.getT_eq s)
def loose0 : List Str := ["_wall", "__name__", "TurnError", "BadMany", "BadSingers", "BadSong", "BadTale", "BadSongs", "BadGap", "BadOrder", "TooMany", "MOST_SINGERS", "MOST_OF_SONG", "MOST_SONGS", "is_whole", "are_numbers", "check_many", "are_singers", "floor_of", "round_for", "in_turn", "more_ahead", "Evening", "is_part", "first_wrong", "Answer", "Right", "Wrong", "MOST_PARTS", "judged"]
def loose1 : List Str := ["_law_cell_at", "_law_draw", "_law_value", "_law_kinds", "_law_due_of", "_law_strange", "_law_right"]
def loose : List Str := loose0 ++ loose1
theorem tx_of {K : PySem.W.Frag} {h : Heap} {mg : Str → Option Value} (X : K.In h) (G : h.Ns mainGlobals mg) (c : He.SaysD fa fn K) (c2 : exOk ex K = true) : Tx K mg :=
  ⟨He.glo_ok X G (c.fact 0 (f := .glo "TurnError") rfl),
   exk_of (He.glo_ok X G (c.fact 0 (f := .glo "TurnError") rfl)) (He.exc_ok (c.fact 1 (f := .exc "TurnError") rfl)),
   He.glo_ok X G (c.fact 2 (f := .glo "BadMany") rfl),
   exk_of (He.glo_ok X G (c.fact 2 (f := .glo "BadMany") rfl)) (He.exc_ok (c.fact 3 (f := .exc "BadMany") rfl)),
   He.glo_ok X G (c.fact 4 (f := .glo "BadSingers") rfl),
   exk_of (He.glo_ok X G (c.fact 4 (f := .glo "BadSingers") rfl)) (He.exc_ok (c.fact 5 (f := .exc "BadSingers") rfl)),
   He.glo_ok X G (c.fact 6 (f := .glo "BadSong") rfl),
   exk_of (He.glo_ok X G (c.fact 6 (f := .glo "BadSong") rfl)) (He.exc_ok (c.fact 7 (f := .exc "BadSong") rfl)),
   He.glo_ok X G (c.fact 8 (f := .glo "BadTale") rfl),
   exk_of (He.glo_ok X G (c.fact 8 (f := .glo "BadTale") rfl)) (He.exc_ok (c.fact 9 (f := .exc "BadTale") rfl)),
   He.glo_ok X G (c.fact 10 (f := .glo "BadSongs") rfl),
   exk_of (He.glo_ok X G (c.fact 10 (f := .glo "BadSongs") rfl)) (He.exc_ok (c.fact 11 (f := .exc "BadSongs") rfl)),
   He.glo_ok X G (c.fact 12 (f := .glo "BadGap") rfl),
   exk_of (He.glo_ok X G (c.fact 12 (f := .glo "BadGap") rfl)) (He.exc_ok (c.fact 13 (f := .exc "BadGap") rfl)),
   He.glo_ok X G (c.fact 14 (f := .glo "BadOrder") rfl),
   exk_of (He.glo_ok X G (c.fact 14 (f := .glo "BadOrder") rfl)) (He.exc_ok (c.fact 15 (f := .exc "BadOrder") rfl)),
   He.glo_ok X G (c.fact 16 (f := .glo "TooMany") rfl),
   exk_of (He.glo_ok X G (c.fact 16 (f := .glo "TooMany") rfl)) (He.exc_ok (c.fact 17 (f := .exc "TooMany") rfl)),
   He.int_ok X G (c.fact 18 (f := .int "MOST_SINGERS" 6) rfl),
   He.int_ok X G (c.fact 19 (f := .int "MOST_OF_SONG" 3) rfl),
   He.int_ok X G (c.fact 20 (f := .int "MOST_SONGS" 24) rfl),
   He.glo_ok X G (c.fact 21 (f := .glo "is_whole") rfl),
   He.glo_ok X G (c.fact 22 (f := .glo "are_numbers") rfl),
   He.glo_ok X G (c.fact 23 (f := .glo "check_many") rfl),
   He.glo_ok X G (c.fact 24 (f := .glo "are_singers") rfl),
   He.glo_ok X G (c.fact 25 (f := .glo "floor_of") rfl),
   He.glo_ok X G (c.fact 26 (f := .glo "round_for") rfl),
   He.glo_ok X G (c.fact 27 (f := .glo "in_turn") rfl),
   He.glo_ok X G (c.fact 28 (f := .glo "more_ahead") rfl),
   He.glo_ok X G (c.fact 29 (f := .glo "Evening") rfl),
   He.cls_ok (c.fact 30 (f := .cls "Evening") rfl),
   He.mkr_ok (c.fact 31 (f := .mkr "Evening") rfl),
   He.meth_ok (c.fact 32 (f := .meth "Evening" "wish") rfl),
   He.meth_ok (c.fact 33 (f := .meth "Evening" "sing") rfl),
   He.meth_ok (c.fact 34 (f := .meth "Evening" "look_at") rfl),
   He.meth_ok (c.fact 35 (f := .meth "Evening" "withdraw") rfl),
   He.meth_ok (c.fact 36 (f := .meth "Evening" "round_now") rfl),
   He.meth_ok (c.fact 37 (f := .meth "Evening" "waits") rfl),
   He.meth_ok (c.fact 38 (f := .meth "Evening" "ahead_of") rfl),
   He.meth_ok (c.fact 39 (f := .meth "Evening" "within") rfl),
   He.meth_ok (c.fact 40 (f := .meth "Evening" "worst") rfl),
   He.meth_ok (c.fact 41 (f := .meth "Evening" "tale") rfl),
   He.noat_ok (c.fact 42 (f := .noat "Evening" "came") rfl),
   He.noat_ok (c.fact 43 (f := .noat "Evening" "going") rfl),
   He.noat_ok (c.fact 44 (f := .noat "Evening" "last") rfl),
   He.noat_ok (c.fact 45 (f := .noat "Evening" "rounds") rfl),
   He.noat_ok (c.fact 46 (f := .noat "Evening" "waiting") rfl),
   He.glo_ok X G (c.fact 47 (f := .glo "is_part") rfl),
   He.glo_ok X G (c.fact 48 (f := .glo "first_wrong") rfl),
   He.glo_ok X G (c.fact 49 (f := .glo "Answer") rfl),
   He.cls_ok (c.fact 50 (f := .cls "Answer") rfl),
   He.glo_ok X G (c.fact 51 (f := .glo "Right") rfl),
   He.cls_ok (c.fact 52 (f := .cls "Right") rfl),
   He.glo_ok X G (c.fact 53 (f := .glo "Wrong") rfl),
   He.cls_ok (c.fact 54 (f := .cls "Wrong") rfl),
   He.mkr_ok (c.fact 55 (f := .mkr "Wrong") rfl),
   He.noat_ok (c.fact 56 (f := .noat "Wrong" "place") rfl),
   He.int_ok X G (c.fact 57 (f := .int "MOST_PARTS" 30) rfl),
   He.glo_ok X G (c.fact 58 (f := .glo "judged") rfl),
   He.glo_ok X G (c.fact 59 (f := .glo "_law_cell_at") rfl),
   He.glo_ok X G (c.fact 60 (f := .glo "_law_draw") rfl),
   He.glo_ok X G (c.fact 61 (f := .glo "_law_value") rfl),
   He.glo_ok X G (c.fact 62 (f := .glo "_law_kinds") rfl),
   He.glo_ok X G (c.fact 63 (f := .glo "_law_due_of") rfl),
   He.glo_ok X G (c.fact 64 (f := .glo "_law_strange") rfl),
   He.glo_ok X G (c.fact 65 (f := .glo "_law_right") rfl),
   He.glo_ok X G (c.fact 66 (f := .glo "law") rfl),
   He.free_ok X G (c.fact 67 (f := .free "len") rfl),
   He.free_ok X G (c.fact 68 (f := .free "isinstance") rfl),
   He.free_ok X G (c.fact 69 (f := .free "all") rfl),
   He.free_ok X G (c.fact 70 (f := .free "any") rfl),
   He.free_ok X G (c.fact 71 (f := .free "range") rfl),
   He.free_ok X G (c.fact 72 (f := .free "sorted") rfl),
   He.free_ok X G (c.fact 73 (f := .free "set") rfl),
   He.free_ok X G (c.fact 74 (f := .free "max") rfl),
   He.free_ok X G (c.fact 75 (f := .free "min") rfl),
   He.free_ok X G (c.fact 76 (f := .free "list") rfl),
   He.free_ok X G (c.fact 77 (f := .free "enumerate") rfl),
   He.free_ok X G (c.fact 78 (f := .free "zip") rfl),
   He.free_ok X G (c.fact 79 (f := .free "int") rfl),
   He.free_ok X G (c.fact 80 (f := .free "bool") rfl),
   He.free_ok X G (c.fact 81 (f := .free "tuple") rfl),
   He.free_ok X G (c.fact 82 (f := .free "str") rfl),
   He.free_ok X G (c.fact 83 (f := .free "dict") rfl),
   He.free_ok X G (c.fact 84 (f := .free "abs") rfl),
   He.free_ok X G (c.fact 85 (f := .free "ValueError") rfl),
   c.def_ 0 (d := d_is_whole) rfl,
   c.def_ 1 (d := d_are_numbers) rfl,
   c.def_ 2 (d := d_check_many) rfl,
   c.def_ 3 (d := d_are_singers) rfl,
   c.def_ 4 (d := d_floor_of) rfl,
   c.def_ 5 (d := d_round_for) rfl,
   c.def_ 6 (d := d_in_turn) rfl,
   c.def_ 7 (d := d_more_ahead) rfl,
   c.def_ 8 (d := d_Evening___init__) rfl,
   c.def_ 9 (d := d_Evening_wish) rfl,
   c.def_ 10 (d := d_Evening_sing) rfl,
   c.def_ 11 (d := d_Evening_look_at) rfl,
   c.def_ 12 (d := d_Evening_withdraw) rfl,
   c.def_ 13 (d := d_Evening_round_now) rfl,
   c.def_ 14 (d := d_Evening_waits) rfl,
   c.def_ 15 (d := d_Evening_ahead_of) rfl,
   c.def_ 16 (d := d_Evening_within) rfl,
   c.def_ 17 (d := d_Evening_worst) rfl,
   c.def_ 18 (d := d_Evening_tale) rfl,
   c.def_ 19 (d := d_is_part) rfl,
   c.def_ 20 (d := d_first_wrong) rfl,
   c.def_ 21 (d := d_Wrong___init__) rfl,
   c.def_ 22 (d := d_judged) rfl,
   c.def_ 23 (d := d__law_cell_at) rfl,
   c.def_ 24 (d := d__law_draw) rfl,
   c.def_ 25 (d := d__law_value) rfl,
   c.def_ 26 (d := d__law_kinds) rfl,
   c.def_ 27 (d := d__law_due_of) rfl,
   c.def_ 28 (d := d__law_strange) rfl,
   c.def_ 29 (d := d__law_right) rfl,
   c.def_ 30 (d := d_law) rfl,
   mkB_ok (exAll 0 c2 rfl),
   mkB_ok (exAll 1 c2 rfl),
   km_ok (exAll 2 c2 rfl),
   of_decide_eq_true (exAll 3 c2 rfl)⟩
theorem run (w : World) : HandSHeadRun.RunEq R (PySem.W.view R.prog [44]) hk ob 6000 loose w := by
  intro os
  kernel_rfl
end Song

/-! ### EndT: the law's call with tables, the head -/
namespace Song
open PySem L2
theorem factsT {l : PySem.W.OpenLaw} {w : World} {K : PySem.W.Frag} {h : Heap} {mg : Str → Option Value} {f : Addr} (X : K.In h) (G : h.Ns mainGlobals mg) (hfa : mg ("law" : Str) = some (.ref f)) (c : He.SaysX fa fn [] tf (exOk ex) w h K) :
    LamX.LawAtS l w K CX0 10 63 "_law_script" mg f h := by
  have T := tx_of X G c.t.d c.more
  obtain ⟨fd, F⟩ := T.d_law
  have e : He.ga K "law" = f := by
    have z := T.g_law.symm.trans hfa
    injection z with z; injection z
  subst e
  have b := FunD.bindsA (ps := ["_law_script"]) F fun _ _ _ _ _ _ us hl => match us, hl with | [_], _ => rfl
  refine ⟨fd, tf.map (He.cT K), spLawT K, fun p hp => ?_, fun p hp => ?_, fun p hp => ?_, fun s v => b s [v] rfl, fun H a ns hl hz hT hS => ?_, fun base _ _ TB => ?_⟩
  · obtain ⟨q, hq, rfl⟩ := List.mem_map.mp hp
    exact c.empty q hq
  · obtain ⟨q, hq, rfl⟩ := List.mem_map.mp hp
    exact c.out q hq
  · obtain ⟨q, hq, rfl⟩ := List.mem_map.mp hp
    exact PySem.W.codeHd_of_K X (c.hd q hq)
  · refine ⟨a, ns, rfl, hS, ⟨hl, fun z hm => Bits.of_int (hz z hm)⟩, fun p hp => ?_, fun _ => rfl⟩
    obtain ⟨q, hq, rfl⟩ := List.mem_map.mp hp
    exact LamX.TabS.nil (hT _ (List.mem_map.mpr ⟨q, hq, rfl⟩))
  · exact ok_law0 (P := l.prog) (w := w) (base := base) T (fun p hp => TB _ (List.mem_map.mpr ⟨p, hp, rfl⟩)) F
end Song
open PySem PySem.W PySem.Calls PyProof.Rows
set_option maxHeartbeats 0 in
theorem PySem.Challenge.cw_songturns_k10_refused_evenings_holds : PySem.Challenge.rw_songturns_k10_refused_evenings.Holds := by
  w_on; o_law
  refine HandSHeadRun.head_any (r := OpenLaw.row PySem.Challenge.rw_songturns_k10_refused_evenings) (q := view (OpenLaw.row PySem.Challenge.rw_songturns_k10_refused_evenings).prog [44]) (H := Song.hk) (ob := Song.ob) (M := 6000) (loose := Song.loose) (d := HandSHeadRun.topDef (OpenLaw.row PySem.Challenge.rw_songturns_k10_refused_evenings).prog 44) (kwd := []) Song.ob_eq
    (by kernel_rfl) (fun s => by kernel_rfl) Song.run (by kernel_rfl) (by kernel_rfl) (by kernel_rfl) (by rfl) (by first | assumption | decide +kernel) (by decide +kernel) ⟨rfl, rfl, rfl, rfl, rfl, by decide +kernel⟩ ?hw ?hc
  case hw => w_witness2
  case hc =>
    refine LamX.walk_ofTsE (l := PySem.Challenge.rw_songturns_k10_refused_evenings) (n := 63) (k := 10) (x := "_law_script") (CX := fun _ => L2.CX0) rfl (by decide) (by kernel_rfl) ⟨rfl, by decide, by decide⟩ ?F (fun _ _ _ _ _ z => z)
    intro w mg fa h Y G hmg0
    obtain ⟨K, KX, c⟩ := Y
    have hmg : mg ("law" : PySem.Str) = some (.ref fa) := by
      have e : (HandSHeadRun.topDef (OpenLaw.row PySem.Challenge.rw_songturns_k10_refused_evenings).prog 44).name = ("law" : PySem.Str) := by kernel_rfl
      rw [← e]
      exact hmg0
    exact ⟨K, KX, Song.factsT (l := PySem.Challenge.rw_songturns_k10_refused_evenings) (w := w) KX G hmg c⟩
#print axioms PySem.Challenge.cw_songturns_k10_refused_evenings_holds
