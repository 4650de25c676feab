import PyProof.Rows.All
import Wide.All
import OpenK.AllK
import Wide.FinOn
import KE.KStateDown
import HandS.ForMost
import HandS.IsInst
import HandS.Defaults
import HandS.Wide
import HandS.SortInts
import HandS.SortRule
import HandS.Strs
import HandS.SetFor
import HandS.Style
import HandS.Conv
import HandS.More
import HandS.Walk
import HandS.Flow
import HandS.Head0
import HandS.Head1
import HandS.Head2
import HandS.HeadEnd
import HandS.HeadHook1
import HandS.HeadHook2
import HandS.EndBits
import HandS.WordsDict
import HandS.Small
import KE.KDictList
import HandS.Deep
import HandS.Exc
import HandS.ExcOwn
import HandS.ExcIs
import HandS.TryOnly
import HandS.WordsExc
import HandS.Lambda
import HandS.EndTab
import HandS.HeadHook4
import HandS.HeadWalk
import KE.KNestM
import PySem.Challenge.RW_songturns_k14_whole_handed
set_option Elab.async false
set_option linter.all false
set_option maxRecDepth 100000
set_option maxHeartbeats 4000000
/-! ### SetL: set(xs) of a list of int numbers, as a value -/
namespace Song
open PySem PySem.Spec PyProof.Rows L2
/-- a set just laid -/
abbrev set0 (w : World) : Obj := ⟨.type "set", none, .set #[] 0 (.fresh 0 0 (!w.params.followText "set-order")), #[]⟩
section
variable {P : Program} {w : World} {A : Around} {E : Value → Shared → Prop} {s : Shared}
set_option maxHeartbeats 8000000 in
theorem set_of_list {l : Addr} {its : Array Value} (ks : List Int) {Q : Value → Shared → Prop} (nh : A.handled = none) (isl : s.heap.IsList l its) (hint : IntsAre its.toList ks) (few : ks.length + 1 < scanBound)
    (q : ∀ (h2 : Heap) (tk c : Nat), SetR w h2 s.heap.objs.size (fun j => decide (j ∈ ks)) c → c ≤ ks.length → (∀ b o, s.heap.get? b = some o → h2.get? b = some o) → Q (.ref s.heap.objs.size) { s with heap := h2, toks := tk }) :
    wpAny (model P w) A (call (.type "set") [.ref l]) Q E s := by
  have lenI : its.size = ks.length := by have z := IntsAre.length hint; rw [Array.length_toList] at z; exact z
  obtain ⟨_, _, mroS⟩ := F.called_set.mro
  have madeS := F.called_set.made
  have subS := F.called_set.sub
  refine wpAny_call (codeAny_of_tree ?_)
  show wpAny _ _ (callAny (.type "set") _) _ _ _
  refine wpAny_pure ⟨Code.quiet_builtin _ (by decide +kernel), codeAny_builtin F.entry_type_call ?_⟩
  rw [Around.under_plain (weight_type_call_type "set" [.ref l] []) rfl]
  have n1 := F.called_set.notType
  have n2 := F.called_set.canCreate
  have n3 := F.typeCall_set_1 (.ref l)
  repeat (any_goals (first | assumption | wp_step))
  refine codeAny_mono (code_set_led1 (.ref l) (E := E) (Q₁ := fun ob s1 => ob = .ref s.heap.objs.size ∧ s1 = { s with heap := s.heap.push (set0 w) }) ⟨rfl, rfl⟩) fun res s1 hres => ?_
  cases res with
  | error e => exact hres
  | ok fl =>
    cases fl with
    | ret ob =>
      obtain ⟨rfl, rfl⟩ := hres
      have atS : (s.heap.push (set0 w)).get? s.heap.objs.size = some (set0 w) := Heap.get?_push_size _ rfl
      have tyS : Shared.TypeIs { s with heap := s.heap.push (set0 w) } (.ref s.heap.objs.size) "set" := ⟨_, atS, rfl⟩
      have i1 := F.called_set.init.lookup
      have i2 := F.called_set.init.bind (.ref s.heap.objs.size)
      repeat (any_goals (first | assumption | wp_step))
      refine codeAny_mono (codeAny_call_builtin (R := wants (fun r s2 => r = .none ∧ ∃ h2 tk c, s2 = { s with heap := h2, toks := tk } ∧ SetR w h2 s.heap.objs.size (fun j => decide (j ∈ ks)) c ∧ c ≤ ks.length ∧
        (∀ b o, s.heap.get? b = some o → h2.get? b = some o)) E) F.called_set.init.plain F.entry_set_init (check_set_init_1 tyS ?_)) fun r2 s2 hr2 => ?_
      · obtain ⟨⟨oc, od, odt, osl⟩, ho, c1, nl, c2⟩ := isl
        simp only at c1 c2
        subst c1; subst c2
        have ho1 : (s.heap.push (set0 w)).get? l = some ⟨.type "list", od, .seq its nl, osl⟩ := Heap.get?_push_of_some _ ho
        have u1 := F.sub_list_set
        have u2 := F.sub_list_frozenset
        have u3 : (Value.type "list" == Value.type "dict") = false := by decide
        have isl1 : (s.heap.push (set0 w)).IsList l its := ⟨_, ho1, rfl, nl, rfl⟩
        unfold Builtin.«set.__init__» noKeywords Builtin.Frozenset.updateFrom
        generalize keepI : pyIter = PI
        wp_walk
        subst keepI
        refine wpAny_pyIter_list isl1 ?_
        refine wpAny_bind (wpAny_runValue ?_)
        have lt : l < s.heap.objs.size := Heap.lt_size ho
        have nh3 : A.in1.in1.in1.handled = none := by simp [nh]
        have ne1 : l ≠ (s.heap.push (set0 w)).objs.size := by rw [Heap.size_push]; exact Nat.ne_of_lt (Nat.lt_succ_of_lt lt)
        have ne2 : s.heap.objs.size ∉ [(s.heap.push (set0 w)).objs.size, l] := by
          rw [Heap.size_push]
          simp only [List.mem_cons, List.not_mem_nil, or_false, not_or]
          exact And.intro (Nat.ne_of_lt (Nat.lt_succ_self _)) (Nat.ne_of_gt lt)
        have vals : ∀ (i : Nat) (v : Value), its[i]? = some v → ∃ k t, ks[i]? = some k ∧ v = .int k t := fun i v hv => by
          have lti : i < ks.length := by rw [← lenI]; exact (Array.getElem?_eq_some_iff.mp hv).1
          obtain ⟨t, e⟩ := PyProof.Rows.IntsAre.int_at hint i v (by rw [Array.getElem?_toList]; exact hv)
          refine ⟨ks[i], t, List.getElem?_eq_getElem lti, ?_⟩
          rw [e, List.getD_eq_getElem?_getD, List.getElem?_eq_getElem lti] <;> rfl
        refine set_update_ints ((Walks.list nh3 _ l ne1 its).toS) s.heap.objs.size ne2 ks lenI few vals (its.size - 0) 0 _ (by omega) (Nat.zero_le _)
          ⟨⟨_, Heap.get?_push_size _ rfl, rfl, rfl⟩, (isl1.push _)⟩ ⟨0, Nat.le_refl 0, setR_new_at (Heap.get?_push_of_some _ atS)⟩ ?_
        intro s3 c3 mv hc3 hS3
        obtain ⟨h3, g3, d3, t3, o3⟩ := s3
        have eg : g3 = s.gens := mv.gens
        have ed : d3 = s.drawn := mv.drawn
        have eo : o3 = s.os := mv.os
        subst eg; subst ed; subst eo
        show wpAny _ _ _ _ _ _
        refine wpAny_pure ?_
        show wpAny _ _ (ret Value.none) _ _ _
        rw [lenI] at hc3
        refine wpAny_pure ⟨rfl, h3, t3, c3, rfl, hS3, hc3, fun b o e => ?_⟩
        have b0 : b < s.heap.objs.size := Heap.lt_size e
        refine mv.heap b o ?_ (Heap.get?_push_of_some _ (Heap.get?_push_of_some _ e))
        rw [Heap.size_push]
        simp only [List.mem_cons, List.not_mem_nil, or_false, not_or]
        exact And.intro (Nat.ne_of_lt b0) (Nat.ne_of_lt (Nat.lt_succ_of_lt b0))
      · cases r2 with
        | error e => exact hr2
        | ok f2 =>
          cases f2 with
          | ret r =>
            obtain ⟨rfl, h2, tk, c, rfl, hS, hc, hk⟩ := hr2
            repeat (any_goals (first | assumption | wp_step))
            exact q _ _ _ hS hc hk
          | _ => exact hr2.elim
    | _ => exact hres.elim
end
/-- set(xs), xs a list of int numbers: who is in, and no more than there were -/
def rSetI (K : PySem.W.Frag) (w : World) : List V → Hp → VK → Prop := fun xs H Q => ∃ (l : Addr) (ks : List Int), xs = [V.ref l] ∧ SqL K H l (ks.map V.int) ∧ ks.length ≤ 1000 ∧
  ∀ (a : Addr) (c : Nat), c ≤ ks.length → H a = none → Q (.ref a) (upd H a (SetO w a (fun j => decide (j ∈ ks)) c))
theorem cr_setI {X : Cx} (hc : X.calm = true) : CallR X (.type "set") (rSetI X.K X.w) := by
  intro pins s σ H xs us Q I r h
  obtain ⟨l, ks, rfl, hs, hl, q⟩ := h
  obtain ⟨its, rv, ⟨o, n, ho, c1, c2, c3⟩, hlen⟩ := I.list hs
  have hint : IntsAre its ks := ints_of_vals rv
  have isl : s.heap.IsList l its.toArray := ⟨o, ho, c1, n, c3⟩
  rw [Vals.ref1 r]
  refine set_of_list ks (I.ok.hd hc) isl (by simpa using hint) (by unfold scanBound; omega) fun h2 tk c hS hcl hk => ?_
  have hn : H s.heap.objs.size = none := I.hok.fresh (Nat.le_refl _)
  obtain ⟨o2, es, ep, st, ho2, rest⟩ := id hS
  refine ⟨.ref s.heap.objs.size, _, I.laid (t' := tk) (fun b u e => hk b u e) (Nat.le_refl _) ?_, rfl, q _ c hcl hn⟩
  exact setO_new hS
end Song

/-! ### Lay: what every def's proof leans on (own layer over the hand layer) -/
namespace Song
open PySem L2

/-! #### heaps -/
theorem Same.new {H : Hp} {p : Addr} {o : HO} (n : H p = none) : Same H (upd H p o) := fun b o' e => by
  rw [upd_ne (ne_of_none e n)]
  exact e
/-- a new object: the heap behind it is only known to extend the one ahead -/
theorem new_all {H : Hp} {o : HO} {Q : Addr → Hp → Prop} (h : ∀ p H', H p = none → Same H H' → H' p = some o → Q p H') : ∀ p, H p = none → Q p (upd H p o) :=
  fun p n => h p _ n (Same.new n) upd_same
/-- behind a new object: the heap is only known to extend the one ahead -/
@[elab_as_elim] theorem to_new {H : Hp} {p : Addr} {o : HO} {Q : Hp → Prop} (n : H p = none) (h : ∀ H', Same H H' → H' p = some o → Q H') : Q (upd H p o) := h _ (Same.new n) upd_same
/-- a heap without some addresses -/
def off (S : List Addr) (H : Hp) : Hp := fun a => if a ∈ S then none else H a
theorem off_in {S : List Addr} {H : Hp} {a : Addr} (h : a ∈ S) : off S H a = none := by unfold off; rw [if_pos h]
theorem off_out {S : List Addr} {H : Hp} {a : Addr} (h : a ∉ S) : off S H a = H a := by unfold off; rw [if_neg h]
theorem off_some {S : List Addr} {H : Hp} {a : Addr} {o : HO} (h : off S H a = some o) : a ∉ S ∧ H a = some o := by
  by_cases q : a ∈ S
  · rw [off_in q] at h; cases h
  · rw [off_out q] at h; exact ⟨q, h⟩
theorem off_le (S : List Addr) (H : Hp) : Same (off S H) H := fun _ _ h => (off_some h).2
theorem off_mono {S : List Addr} {H H' : Hp} (s : Same H H') : Same (off S H) (off S H') := fun b o h => by
  obtain ⟨q, h⟩ := off_some h
  rw [off_out q]; exact s _ _ h
/-- all but the addresses S stays -/
def Fra (S : List Addr) (H H' : Hp) : Prop := ∀ a o, a ∉ S → H a = some o → H' a = some o
theorem Fra.refl (S : List Addr) (H : Hp) : Fra S H H := fun _ _ _ h => h
theorem Fra.of {S : List Addr} {H H' : Hp} (s : Same H H') : Fra S H H' := fun a o _ h => s a o h
theorem Fra.trans {S : List Addr} {H H1 H2 : Hp} (a : Fra S H H1) (b : Fra S H1 H2) : Fra S H H2 := fun c o n h => b c o n (a c o n h)
theorem Fra.mono {S S' : List Addr} {H H' : Hp} (f : Fra S H H') (h : ∀ a ∈ S, a ∈ S') : Fra S' H H' := fun a o n e => f a o (fun q => n (h a q)) e
theorem Fra.put {S : List Addr} {H : Hp} {a : Addr} {o : HO} (h : a ∈ S) : Fra S H (upd H a o) := fun b o' n e => by
  have q : b ≠ a := fun q => n (by rw [q]; exact h)
  rw [upd_ne q]; exact e
@[elab_as_elim] theorem to_put {H : Hp} {p : Addr} {o : HO} {Q : Hp → Prop} (h : ∀ H', Fra [p] H H' → H' p = some o → Q H') : Q (upd H p o) := h _ (Fra.put (by simp)) upd_same
theorem Fra.one {H H' : Hp} {p a : Addr} {o : HO} (f : Fra [p] H H') (n : a ≠ p) (h : H a = some o) : H' a = some o := f a o (by simpa using n) h
theorem Fra.off {S : List Addr} {H H' : Hp} (f : Fra S H H') : Same (off S H) (off S H') := fun b o h => by
  obtain ⟨q, h⟩ := off_some h
  rw [off_out q]; exact f _ _ q h
theorem Fra.same {H H' : Hp} (f : Fra [] H H') : Same H H' := fun b o h => f b o (by simp) h
/-- what is new to H stays outside of what H tells -/
theorem Fra.back {H0 H H' : Hp} {S : List Addr} (s : Same H0 H) (f : Fra S H H') (h : ∀ a ∈ S, H0 a = none) : Same H0 H' := fun b o e =>
  f b o (fun q => by rw [h b q] at e; cases e) (s b o e)
theorem Same.sqT {K : PySem.W.Frag} {H H' : Hp} {a : Addr} {xs : List V} (e : Same H H') (h : SqT K H a xs) : SqT K H' a xs := by
  rcases h with (h | ⟨o, h⟩) | h
  · exact .inl (.inl (e _ _ h))
  · exact .inl (.inr ⟨o, e _ _ h⟩)
  · exact .inr h
mutual
theorem dp_mono {K : PySem.W.Frag} {H H' : Hp} (e : Same H H') : ∀ {v : V} {d : PyData}, Dp K H v d → Dp K H' v d
  | _, _, .non => .non
  | _, _, .bl b => .bl b
  | _, _, .int i => .int i
  | _, _, .str x => .str x
  | _, _, .lst s a => .lst (e.seq s) (dpAll_mono e a)
  | _, _, .tup s a => .tup (Same.sqT e s) (dpAll_mono e a)
theorem dpAll_mono {K : PySem.W.Frag} {H H' : Hp} (e : Same H H') : ∀ {vs : List V} {ds : List PyData}, DpAll K H vs ds → DpAll K H' vs ds
  | _, _, .nil => .nil
  | _, _, .cons d a => .cons (dp_mono e d) (dpAll_mono e a)
end
theorem dpAll_app {K : PySem.W.Frag} {H : Hp} : ∀ {vs ws : List V} {ds es : List PyData}, DpAll K H vs ds → DpAll K H ws es → DpAll K H (vs ++ ws) (ds ++ es)
  | _, _, _, _, .nil, h => h
  | _, _, _, _, .cons d a, h => .cons d (dpAll_app a h)
theorem dpAll_len {K : PySem.W.Frag} {H : Hp} : ∀ {vs : List V} {ds : List PyData}, DpAll K H vs ds → vs.length = ds.length
  | _, _, .nil => rfl
  | _, _, .cons _ a => by simp [dpAll_len a]
theorem dpAll_get {K : PySem.W.Frag} {H : Hp} : ∀ {vs : List V} {ds : List PyData} {i : Nat} {v : V}, DpAll K H vs ds → vs[i]? = some v → ∃ d, ds[i]? = some d ∧ Dp K H v d
  | _, _, _, _, .nil, e => by simp at e
  | _, _, 0, _, .cons d a, e => by
    simp at e; subst e; exact ⟨_, rfl, d⟩
  | _, _, i + 1, v, .cons d a, e => by
    obtain ⟨d', h1, h2⟩ := dpAll_get (i := i) (v := v) a (by simpa using e)
    exact ⟨d', by simpa using h1, h2⟩
theorem dpAll_ints {K : PySem.W.Frag} {H : Hp} : ∀ (ns : List Int), DpAll K H (ns.map V.int) (ns.map PyData.int)
  | [] => .nil
  | n :: r => .cons (.int n) (dpAll_ints r)
theorem dp_ints {K : PySem.W.Frag} {H : Hp} {a : Addr} {ns : List Int} (h : SqL K H a (ns.map V.int)) : Dp K H (.ref a) (.list (ns.map PyData.int)) := .lst h (dpAll_ints ns)
theorem ints_inj : ∀ {ns ms : List Int}, ns.map V.int = ms.map V.int → ns = ms
  | [], [], _ => rfl
  | [], _ :: _, h => by cases h
  | _ :: _, [], h => by cases h
  | a :: r, b :: s, h => by
    simp only [List.map_cons, List.cons.injEq, V.int.injEq] at h
    rw [h.1, ints_inj h.2]

/-! #### calls of the program's own defs, by one word each -/
section
variable {P : Program} {w : World} {K : PySem.W.Frag} {mg : Str → Option Value} {base : Heap}
structure Fn (P : Program) (w : World) (K : PySem.W.Frag) (mg : Str → Option Value) (base : Heap) (x : Str) (k : Nat) (sp : Sp) : Prop where
  ex : ∃ (f : Addr) (fd : FuncData) (ps : List Str), FnOk P w K mg base CX0 k f fd ps sp ∧ mg x = some (.ref f) ∧ PySem.W.keepIn K (.ref f) = true ∧ Binds K fd ps []
structure Me (P : Program) (w : World) (K : PySem.W.Frag) (mg : Str → Option Value) (base : Heap) (C : Addr) (m : Str) (k : Nat) (sp : Sp) : Prop where
  ex : ∃ (f : Addr) (fd : FuncData) (ps : List Str), FnOk P w K mg base CX0 k f fd ps sp ∧ Cls K C ∧ Meth K C m f ∧ Binds K fd ps []
structure Mke (P : Program) (w : World) (K : PySem.W.Frag) (mg : Str → Option Value) (base : Heap) (x : Str) (C : Addr) (k : Nat) (sp : Sp) : Prop where
  ex : ∃ (f : Addr) (fd : FuncData) (ps : List Str), FnOk P w K mg base CX0 k f fd ps sp ∧ Mk K C f ∧ mg x = some (.ref C) ∧ Binds K fd ps []
abbrev FnP (K : PySem.W.Frag) (x q : Str) (st : Stmt) (f : Addr) (fd : FuncData) : Prop := FunD K x q (defArgs st) (defBody st) (defScope st) [] [] f fd
end
section
variable {X : Cx} {x m : Str} {k : Nat} {sp : Sp} {e o : Expr} {es : List Expr} {t : TA} {to : TE} {C : Addr} {p apos pos : Pos}
theorem pe_fn (F : Fn X.prog X.w X.K X.mg X.base x k sp) (hr : Room k X.A) (hg : Gl X x) (ha : PA X (e :: es) t)
    (hdb : (x == ("__debug__" : Str)) = false := by decide) (he : starEach (e :: es) X.env = (false, eval e X.env) :: starEach es X.env := by rfl) (hpl : (backTo pos (starEach es X.env)).any (·.1) = false := by rfl) :
    PE X (.Call (.Name x p) (e :: es) [] pos) (tCall sp [] E0 t) := by
  obtain ⟨f, fd, ps, h1, h2, h3, h4⟩ := F.ex
  exact pe_call h1 hr hg h2 h3 h4 .nil pass0 ha hdb he hpl
theorem pe_fn0 (F : Fn X.prog X.w X.K X.mg X.base x k sp) (hr : Room k X.A) (hg : Gl X x) (hdb : (x == ("__debug__" : Str)) = false := by decide) :
    PE X (.Call (.Name x p) [] [] pos) (tCall sp [] E0 tNil) := by
  obtain ⟨f, fd, ps, h1, h2, h3, h4⟩ := F.ex
  exact pe_call0 h1 hr hg h2 h3 h4 .nil pass0 hdb
theorem pe_me {pl : Sem Bool} (F : Me X.prog X.w X.K X.mg X.base C m k sp) (hr : Room k X.A) (ho : PE X o to) (ha : PA X (e :: es) t)
    (hst : starEach (e :: es) X.env = (false, eval e X.env) :: starEach es X.env := by rfl) (hpl : (backTo pos (starEach es X.env)).any (·.1) = false := by rfl)
    (ht : eval (.Call (.Attribute o m apos) (e :: es) [] pos) X.env = (do
      let ov ← eval o X.env
      standAt apos.atName
      let (f, first) ← holding [ov] (getMethod ov m pl)
      callWith pos f first (backTo pos (starEach (e :: es) X.env)) (backToKw pos (keywordEach [] X.env))) := by rfl) :
    PE X (.Call (.Attribute o m apos) (e :: es) [] pos) (tMeth C m sp [] E0 to t) := by
  obtain ⟨f, fd, ps, h1, h2, h3, h4⟩ := F.ex
  exact pe_meth ho h2 h3 h1 hr h4 .nil pass0 ha hst hpl ht
theorem pe_me0 {pl : Sem Bool} (F : Me X.prog X.w X.K X.mg X.base C m k sp) (hr : Room k X.A) (ho : PE X o to)
    (ht : eval (.Call (.Attribute o m apos) [] [] pos) X.env = (do
      let ov ← eval o X.env
      standAt apos.atName
      let (f, first) ← holding [ov] (getMethod ov m pl)
      callWith pos f first (backTo pos (starEach [] X.env)) (backToKw pos (keywordEach [] X.env))) := by rfl) :
    PE X (.Call (.Attribute o m apos) [] [] pos) (tMeth C m sp [] E0 to tNil) := by
  obtain ⟨f, fd, ps, h1, h2, h3, h4⟩ := F.ex
  exact pe_meth0 ho h2 h3 h1 hr h4 .nil pass0 ht
theorem pe_mk (F : Mke X.prog X.w X.K X.mg X.base x C k sp) (hr : Room (k + 1) X.A) (hg : Gl X x) (ha : PA X (e :: es) t)
    (hdb : (x == ("__debug__" : Str)) = false := by decide) (he : starEach (e :: es) X.env = (false, eval e X.env) :: starEach es X.env := by rfl) (hpl : (backTo pos (starEach es X.env)).any (·.1) = false := by rfl) :
    PE X (.Call (.Name x p) (e :: es) [] pos) (tMake C sp [] E0 t) := by
  obtain ⟨f, fd, ps, h1, h2, h3, h4⟩ := F.ex
  exact pe_make h2 h1 hr hg h3 h4 .nil pass0 ha hdb he hpl
theorem pe_gi {i : Int} (h : ∃ t, X.mg x = some (.int i t)) (hg : Gl X x) (hd : (x == ("__debug__" : Str)) = false := by decide) : PE X (.Name x pos) (tC (.int i)) := by
  obtain ⟨t, h⟩ := h
  exact pe_glob hg h ⟨t, rfl⟩ hd
theorem pe_gc (h : X.mg x = some (.ref C)) (hg : Gl X x) (hd : (x == ("__debug__" : Str)) = false := by decide) : PE X (.Name x pos) (tC (.ref C)) := pe_glob hg h rfl hd
theorem pe_gt {n : String} (h : X.mg x = none) (hg : Gl X x) (hv : bootBuiltins x = some (.type n)) (hn : x ≠ "__name__" := by decide) (hd : (x == ("__debug__" : Str)) = false := by decide) : PE X (.Name x pos) (tC (.ty n)) := pe_bltn hg h hv rfl hn hd
/-- * of ints, by what the model itself asks -/
theorem op_mulO : OpR X (binaryOp .Mult) (rI IntMulOk fun i j => .int (i * j)) := opI fun _ _ _ _ _ _ _ hc q => PyProof.Rows.mul_int q hc
end

/-- readings of rules that the kit states without a name -/
def rLenQ (K : PySem.W.Frag) : List V → Hp → VK → Prop := fun xs H Q => ∃ p ys, xs = [.ref p] ∧ (SqL K H p ys ∨ SqT K H p ys) ∧ Q (.int ys.length) H
def rListO (K : PySem.W.Frag) : List V → Hp → VK → Prop := fun xs H Q => ∃ p ys, xs = [.ref p] ∧ (SqL K H p ys ∨ SqT K H p ys) ∧ ∀ l, H l = none → Q (.ref l) (upd H l (.lst ys))
def rTupO (K : PySem.W.Frag) : List V → Hp → VK → Prop := fun xs H Q => ∃ p ys, xs = [.ref p] ∧ ((SqL K H p ys ∧ ∀ l, H l = none → Q (.ref l) (upd H l (.tup ys))) ∨ (SqT K H p ys ∧ Q (.ref p) H))
/-! #### comprehensions -/
section
variable {J : It} {n : Nat} {G : Hp → Prop} {Y : Nat → Hp → V → Hp → Prop} {g : TG} {tt : TT} {te : TE} {vs : List Nat} {σ : St} {H1 : Hp} {D : Addr} {Qd : Hp → Prop}
/-- what a comprehension over a walk asks -/
abbrev LcAsks (J : It) (g : TG) (tt : TT) (te : TE) (vs : List Nat) (σ : St) (H1 : Hp) (D : Addr) (Qd : Hp → Prop) : Prop :=
  ∃ W : Nat → Nat → Hp → Prop, (∃ m, W 0 m (upd H1 D (.lst []))) ∧ ∀ i m H, W i m H →
      (J.stop i H ∧ Qd H) ∨ (J.go i H ∧ ∃ Nx : Hp → Prop, (∀ H', Nx H' → ∃ m', m' < m ∧ W (i + 1) m' H') ∧ ∀ x H', J.yld i H x H' → g x (wipe σ vs) H' fun σ2 H2 => wipe σ2 vs = wipe σ vs ∧ tt σ2 H2 fun b H3 =>
        if b = true then te σ2 H3 fun y H4 => ∃ acc, H4 D = some (.lst acc) ∧ acc.length < sizeLine ∧ Nx (upd H4 D (.lst (acc ++ [y]))) else Nx H3)
theorem off_one {H : Hp} {D : Addr} {o : HO} : off [D] (upd H D o) = off [D] H := by
  funext b
  by_cases q : b ∈ [D]
  · rw [off_in q, off_in q]
  · rw [off_out q, off_out q, upd_ne (fun z => q (by simp [z]))]
theorem same_put {H1 H : Hp} {D : Addr} {o : HO} (n : H1 D = none) (s : Same H1 H) : Same H1 (upd H D o) := fun b o e => by
  rw [upd_ne (ne_of_none e n)]
  exact s _ _ e
theorem yes_of {te : TE} {σ : St} {H : Hp} {k : VK} {kn : Hp → Prop} (h : te σ H k) : tYes σ H (fun b H3 => if b = true then te σ H3 k else kn H3) := by
  unfold tYes
  dsimp only
  rw [if_pos rfl]
  exact h
/-- no test: each element's value is told by R (monotone), whatever else is laid meanwhile -/
theorem lc_all (w : Walk J n G Y) (hGm : ∀ H H', Same H H' → G H → G H') (hG : G H1) (R : Nat → Hp → V → Prop) (hR : ∀ i H H' y, Same H H' → R i H y → R i H' y) (nD : H1 D = none) (hlen : n ≤ 1000)
    (hs : ∀ (i : Nat) x H H' acc, i < n → Same H1 H → H D = some (.lst acc) → Y i H x H' → ∀ k : V → Hp → Prop, (∀ y H2, Same H H2 → R i (off [D] H2) y → k y H2) →
      g x (wipe σ vs) H' fun σ2 H2 => wipe σ2 vs = wipe σ vs ∧ te σ2 H2 k)
    (hd : ∀ ys H, Same H1 H → H D = some (.lst ys) → ys.length = n → (∀ (i : Nat) y, ys[i]? = some y → R i (off [D] H) y) → Qd H)
    (hg : ∀ x σ H Q Q', (∀ σ2 H2, Q σ2 H2 → Q' σ2 H2) → g x σ H Q → g x σ H Q') : LcAsks J g tYes te vs σ H1 D Qd := by
  refine lc_it w (fun i H => Same H1 H ∧ ∃ ys, H D = some (.lst ys) ∧ ys.length = i ∧ ∀ (j : Nat) y, ys[j]? = some y → R j (off [D] H) y) ?_ ?_ ?_ ?_
  · exact ⟨Same.new nD, [], upd_same, rfl, fun j y e => by simp at e⟩
  · intro i H _ h
    exact hGm _ _ h.1 hG
  · rintro i x H H' hi ⟨s, ys, hD, hl, hy⟩ hY
    refine hg _ _ _ _ _ (fun σ2 H2 h => ?_) (hs i x H H' ys hi s hD hY (fun y H4 => ∃ acc, H4 D = some (.lst acc) ∧ acc.length < sizeLine ∧ (Same H1 (upd H4 D (.lst (acc ++ [y]))) ∧ ∃ ys, (upd H4 D (.lst (acc ++ [y]))) D = some (.lst ys) ∧ ys.length = i + 1 ∧ ∀ (j : Nat) y', ys[j]? = some y' → R j (off [D] (upd H4 D (.lst (acc ++ [y])))) y')) ?_)
    · refine ⟨h.1, ?_⟩
      unfold tYes
      dsimp only
      rw [if_pos rfl]
      exact h.2
    · intro y H4 s4 r
      refine ⟨ys, s4 _ _ hD, Nat.lt_of_le_of_lt (show ys.length ≤ 1000 by omega) (by decide), same_put nD (s.trans s4), ys ++ [y], upd_same, by simp [hl], fun j y' e => ?_⟩
      rw [off_one]
      by_cases hj : j < ys.length
      · rw [List.getElem?_append_left hj] at e
        exact hR j _ _ _ (off_mono s4) (hy j y' e)
      · have ej : j = ys.length := by
          have := (List.getElem?_eq_some_iff.mp e).1
          simp at this; omega
        subst ej
        rw [List.getElem?_append_right (Nat.le_refl _)] at e
        simp at e
        subst e
        rw [hl]
        exact r
  · rintro H ⟨s, ys, hD, hl, hy⟩
    exact hd ys H s hD hl hy
/-- element and test are plain functions of the turn -/
theorem lc_pure (w : Walk J n G Y) (hGm : ∀ H H', Same H H' → G H → G H') (hG : G H1) (f : Nat → Option V) (nD : H1 D = none) (hlen : n ≤ 1000)
    (hs : ∀ (i : Nat) x H H', i < n → Same H1 H → Y i H x H' → ∀ (k : V → Hp → Prop) (kn : Hp → Prop), (∀ y H2, f i = some y → Same H H2 → k y H2) → (∀ H2, f i = none → Same H H2 → kn H2) →
      g x (wipe σ vs) H' fun σ2 H2 => wipe σ2 vs = wipe σ vs ∧ tt σ2 H2 fun b H3 => if b = true then te σ2 H3 k else kn H3)
    (hd : ∀ H, Same H1 H → H D = some (.lst ((List.range n).filterMap f)) → Qd H) : LcAsks J g tt te vs σ H1 D Qd := by
  refine lc_it w (fun i H => Same H1 H ∧ H D = some (.lst ((List.range i).filterMap f))) ?_ ?_ ?_ ?_
  · exact ⟨Same.new nD, upd_same⟩
  · intro i H _ h
    exact hGm _ _ h.1 hG
  · rintro i x H H' hi ⟨s, hD⟩ hY
    have hl : ((List.range i).filterMap f).length ≤ i := by
      have := List.length_filterMap_le f (List.range i)
      rwa [List.length_range] at this
    refine hs i x H H' hi s hY _ _ (fun y H4 e s4 => ?_) (fun H4 e s4 => ?_)
    · refine ⟨_, s4 _ _ hD, Nat.lt_of_le_of_lt (show _ ≤ 1000 by omega) (by decide), same_put nD (s.trans s4), ?_⟩
      rw [upd_same, List.range_succ, List.filterMap_append]
      simp [e]
    · refine ⟨s.trans s4, ?_⟩
      rw [s4 _ _ hD, List.range_succ, List.filterMap_append]
      simp [e]
  · rintro H ⟨s, hD⟩
    exact hd H s hD
theorem sqL_mono {K : PySem.W.Frag} {a : Addr} {xs : List V} (H H' : Hp) (s : Same H H') (h : SqL K H a xs) : SqL K H' a xs := s.seq h
theorem sqL2_mono {K : PySem.W.Frag} {a b : Addr} {xs ys : List V} (H H' : Hp) (s : Same H H') (h : SqL K H a xs ∧ SqL K H b ys) : SqL K H' a xs ∧ SqL K H' b ys := ⟨s.seq h.1, s.seq h.2⟩
theorem range_filterMap {α β : Type} (f : α → Option β) : ∀ (xs : List α), (List.range xs.length).filterMap (fun i => xs[i]?.bind f) = xs.filterMap f
  | [] => rfl
  | x :: xs => by
    have ih := range_filterMap f xs
    rw [List.length_cons, List.range_succ_eq_map, List.filterMap_cons, List.filterMap_map, List.filterMap_cons]
    have e : ((fun i => ((x :: xs)[i]?).bind f) ∘ Nat.succ) = fun i => (xs[i]?).bind f := by funext i; simp
    rw [e, ih]
    simp
theorem range_map {α β : Type} (f : α → β) (xs : List α) : (List.range xs.length).filterMap (fun i => xs[i]?.map f) = xs.map f := by
  have e : (fun (i : Nat) => xs[i]?.map f) = fun (i : Nat) => xs[i]?.bind fun x => some (f x) := by funext i; cases xs[i]? <;> rfl
  rw [e, range_filterMap, ← List.filterMap_eq_map]
  rfl
/-- over a list, no test, a plain function of the item -/
theorem lc_map {K : PySem.W.Frag} {a : Addr} {xs : List V} (f : V → V) (hSq : SqL K H1 a xs) (nD : H1 D = none) (hlen : xs.length ≤ 1000)
    (hs : ∀ (i : Nat) x H, xs[i]? = some x → Same H1 H → ∀ k : V → Hp → Prop, (∀ H', Same H H' → k (f x) H') → g x (wipe σ vs) H fun σ2 H2 => wipe σ2 vs = wipe σ vs ∧ te σ2 H2 k)
    (hd : ∀ H, Same H1 H → H D = some (.lst (xs.map f)) → Qd H)
    (hg : ∀ x σ H Q Q', (∀ σ2 H2, Q σ2 H2 → Q' σ2 H2) → g x σ H Q → g x σ H Q') : LcAsks (Itl K a) g tYes te vs σ H1 D Qd := by
  refine lc_pure walk_list sqL_mono hSq (fun i => xs[i]?.map f) nD hlen (fun i x H H' hi s hY k kn hk _ => ?_) (fun H s hD => hd H s (by rw [← range_map]; exact hD))
  obtain ⟨rfl, hx⟩ := hY
  refine hg _ _ _ _ _ (fun σ2 H2 h => ?_) (hs i x H' hx s k fun H2 s2 => hk _ H2 (by rw [hx]; rfl) s2)
  refine ⟨h.1, ?_⟩
  unfold tYes
  dsimp only
  rw [if_pos rfl]
  exact h.2
theorem eq_map_of {α β : Type} {f : α → β} : ∀ {xs : List α} {ys : List β}, ys.length = xs.length → (∀ (i : Nat) y, ys[i]? = some y → ∃ x, xs[i]? = some x ∧ y = f x) → ys = xs.map f
  | [], [], _, _ => rfl
  | [], _ :: _, h, _ => by cases h
  | _ :: _, [], h, _ => by cases h
  | x :: xs, y :: ys, h, r => by
    obtain ⟨x', e, ey⟩ := r 0 y rfl
    cases e
    rw [ey, eq_map_of (xs := xs) (ys := ys) (by simpa using h) fun i y' e => r (i + 1) y' (by simpa using e)]
    rfl
theorem gtup_mono {K : PySem.W.Frag} {i j : Nat} (x : V) (σ : St) (H : Hp) (Q Q' : St → Hp → Prop) (h : ∀ σ2 H2, Q σ2 H2 → Q' σ2 H2) (q : gTup K 2 (gCons (gName i) (gCons (gName j) gNil)) x σ H Q) : gTup K 2 (gCons (gName i) (gCons (gName j) gNil)) x σ H Q' := by
  obtain ⟨a, xs, e, hs, hl, v, r, er, v2, r2, er2, en, q⟩ := q
  exact ⟨a, xs, e, hs, hl, v, r, er, v2, r2, er2, en, h _ _ q⟩
theorem gname_mono {i : Nat} (x : V) (σ : St) (H : Hp) (Q Q' : St → Hp → Prop) (h : ∀ σ2 H2, Q σ2 H2 → Q' σ2 H2) (q : gName i x σ H Q) : gName i x σ H Q' := h _ _ q
end

/-! #### what sort a value is -/
def isInt : V → Bool
  | .int _ => true
  | _ => false
abbrev Kd (K : PySem.W.Frag) (H : Hp) (v : V) (t : String) : Prop := TyX K H v (.type t)
theorem kd_int {K : PySem.W.Frag} {H : Hp} (i : Int) : Kd K H (.int i) "int" := .base (.int i)
theorem kd_list {K : PySem.W.Frag} {H : Hp} {a : Addr} {xs : List V} (h : SqL K H a xs) : Kd K H (.ref a) "list" := by
  rcases h with (h | ⟨o, h⟩) | ⟨o, its, n, hk, hc, _⟩
  · exact .base (.lst h)
  · exact .base (.frz h)
  · exact .kList hk hc
theorem kd_tup {K : PySem.W.Frag} {H : Hp} {a : Addr} {xs : List V} (h : SqT K H a xs) : Kd K H (.ref a) "tuple" := by
  rcases h with (h | ⟨o, h⟩) | ⟨o, its, n, hk, hc, _⟩
  · exact .base (.tup h)
  · exact .fTuple h
  · exact .kTuple hk hc
theorem kd_isInt {K : PySem.W.Frag} {H : Hp} {v : V} {t : String} (h : Kd K H v t) : isInt v = (t == "int") := by
  generalize e : Value.type t = u at h
  cases h with
  | base b =>
    cases b <;> first | (cases e; rfl) | cases e
  | _ => cases e; rfl
theorem isi_of {K : PySem.W.Frag} {H : Hp} {v : V} {t n : String} {b : Bool} {Q : VK} (h : Kd K H v t) (e : PySem.W.kitOne K (.type t) (.type n) = some b) (q : Q (.bl b) H) : rIsi K [v, .ty n] H Q :=
  ⟨v, .ty n, .type t, .type n, b, rfl, .ty n, h, e, q⟩
/-- isinstance(v, int), (v, bool), (v, list), (v, tuple), (v, str) of a value of a known sort -/
theorem kit_kd {K : PySem.W.Frag} {H : Hp} {v : V} {t : String} (h : Kd K H v t) :
    PySem.W.kitOne K (.type t) (.type "int") = some (t == "int" || t == "bool") ∧ PySem.W.kitOne K (.type t) (.type "bool") = some (t == "bool") ∧
    PySem.W.kitOne K (.type t) (.type "list") = some (t == "list") ∧ PySem.W.kitOne K (.type t) (.type "tuple") = some (t == "tuple") ∧ PySem.W.kitOne K (.type t) (.type "str") = some (t == "str") := by
  generalize e : Value.type t = u at h
  cases h with
  | base b =>
    cases b <;> first | (cases e; exact ⟨kit_ty (by decide +kernel), kit_ty (by decide +kernel), kit_ty (by decide +kernel), kit_ty (by decide +kernel), kit_ty (by decide +kernel)⟩) | cases e
  | _ => cases e; exact ⟨kit_ty (by decide +kernel), kit_ty (by decide +kernel), kit_ty (by decide +kernel), kit_ty (by decide +kernel), kit_ty (by decide +kernel)⟩

/-! #### further facts of the top -/
def exOk (ex : List (PySem.W.Frag → Bool)) (K : PySem.W.Frag) : Bool := ex.all fun f => f K
theorem exAll {ex : List (PySem.W.Frag → Bool)} {K : PySem.W.Frag} (i : Nat) {f : PySem.W.Frag → Bool} (c : exOk ex K = true) (h : ex[i]? = some f) : f K = true := List.all_eq_true.mp c f (List.mem_of_getElem? h)
def obsYG (n : Nat) (fa : List He.Fa) (fn : List He.DefD) (ex : List (PySem.W.Frag → Bool)) (g : Addr → Option Obj) : Bool × He.AlD := (exOk ex (He.frG g (He.asD g n)), He.obsD fa fn (He.frG g (He.asD g n)))
def hookY (n : Nat) (fa : List He.Fa) (fn : List He.DefD) (ex : List (PySem.W.Frag → Bool)) : PySem.W.Hook where
  α := Bool × He.AlD
  obs := fun s => obsYG n fa fn ex s.heap.get?
  val := fun _ => (true, He.valD fn)
  says := fun _ h => ∃ K : PySem.W.Frag, K.In h ∧ He.SaysD fa fn K ∧ exOk ex K = true
  of := fun _ _ e => ⟨_, He.frG_in, congrArg Prod.snd e, congrArg Prod.fst e⟩
  keeps := fun _ _ _ ⟨K, hK, c⟩ k => ⟨K, PySem.W.Frag.In.keeps hK k, c⟩
theorem obsYG_eq {n : Nat} {fa : List He.Fa} {fn : List He.DefD} {ex : List (PySem.W.Frag → Bool)} {g : Addr → Option Obj} {s : Shared} (h : ∀ a, g a = s.heap.get? a) : obsYG n fa fn ex g = (hookY n fa fn ex).obs s := by
  have e : g = s.heap.get? := funext h
  rw [e]; rfl
/-- a class without an __init__ of its own -/
structure MkB (K : PySem.W.Frag) (C : Addr) : Prop where
  makes : PySem.W.makesIn K C = true
  init : PySem.W.findIn K (.ref C) "__init__" = some (some (.builtin "object.__init__"))
  kp : PySem.W.keepIn K (.ref C) = true
  top : PySem.W.mroIn K C (.type "object") = some true
def mkB (K : PySem.W.Frag) (C : Addr) : Bool := PySem.W.makesIn K C && (He.eqO (PySem.W.findIn K (.ref C) "__init__") (some (some (.builtin "object.__init__"))) && (PySem.W.keepIn K (.ref C) && decide (PySem.W.mroIn K C (.type "object") = some true)))
theorem mkB_ok {K : PySem.W.Frag} {C : Addr} (h : mkB K C = true) : MkB K C := by
  obtain ⟨h1, h⟩ := He.ba h
  obtain ⟨h2, h⟩ := He.ba h
  obtain ⟨h3, h4⟩ := He.ba h
  exact ⟨h1, He.eqO_ok h2, h3, of_decide_eq_true h4⟩
/-- what isinstance asks of an own class -/
structure IsC (K : PySem.W.Frag) (C : Addr) : Prop where
  cls : PySem.W.findIn K (.ref C) "__class__" = some (some (.builtin "object.__class__"))
  spe : PySem.W.specialIn K (.builtin "object.__class__") "__get__" = some (some (.builtin "getset_descriptor.__get__"))
  tak : PySem.W.takesIn K (.builtin "object.__class__") = some true
  mro : PySem.W.mroIn K C (.type "object") = some true
def isCB (K : PySem.W.Frag) (C : Addr) : Bool := He.eqO (PySem.W.findIn K (.ref C) "__class__") (some (some (.builtin "object.__class__"))) && (He.eqO (PySem.W.specialIn K (.builtin "object.__class__") "__get__") (some (some (.builtin "getset_descriptor.__get__"))) &&
  (decide (PySem.W.takesIn K (.builtin "object.__class__") = some true) && decide (PySem.W.mroIn K C (.type "object") = some true)))
theorem isCB_ok {K : PySem.W.Frag} {C : Addr} (h : isCB K C = true) : IsC K C := by
  obtain ⟨h1, h⟩ := He.ba h
  obtain ⟨h2, h⟩ := He.ba h
  obtain ⟨h3, h4⟩ := He.ba h
  exact ⟨He.eqO_ok h1, He.eqO_ok h2, of_decide_eq_true h3, of_decide_eq_true h4⟩
/-- C(), no __init__: a new instance without attributes -/
def tMkO (C : Addr) : TE := fun _ H Q => ∀ x dx, H x = none → H dx = none → dx ≠ x → Q (.ref x) (upd (upd H dx (.own x)) x (.ins C dx []))
theorem pe_mkO {X : Cx} {x : Str} {C : Addr} {p pos : Pos} (M : MkB X.K C) (hg : Gl X x) (hm : X.mg x = some (.ref C)) (hdb : (x == ("__debug__" : Str)) = false := by decide) : PE X (.Call (.Name x p) [] [] pos) (tMkO C) := by
  refine ⟨fun pins s σ H Q I h => ?_⟩
  refine wpAny_Call_Name_kw (ld_glob I hg hm ?_ hdb)
  refine PySem.W.callWith_K0 I.kIn M.kp ?_
  have hq := h (s.heap.objs.size + 1) s.heap.objs.size (I.hok.fresh (Nat.le_succ _)) (I.hok.fresh (Nat.le_refl _)) (Nat.ne_of_lt (Nat.lt_succ_self _))
  have I2 := Inv.made (C := C) I
  refine wpAny_call (make_map0 I.kIn M.makes M.init (fun self => PySem.W.Looks.of_pure (PySem.W.oi_bind self)) ?_)
  have hL : PySem.W.Looks (model X.prog X.w) ((s.heap.push PySem.W.emptyDict).push (PySem.W.instObj C s.heap.objs.size)) (isInstance (.ref (s.heap.objs.size + 1)) (.type "object")) true := by
    have e2 : ((s.heap.push PySem.W.emptyDict).push (PySem.W.instObj C s.heap.objs.size)).get? (s.heap.objs.size + 1) = some (PySem.W.instObj C s.heap.objs.size) := by
      have := Heap.get?_push_size (s.heap.push PySem.W.emptyDict) (o := PySem.W.instObj C s.heap.objs.size) rfl
      rwa [Heap.size_push] at this
    have t1 : PySem.W.Looks (model X.prog X.w) ((s.heap.push PySem.W.emptyDict).push (PySem.W.instObj C s.heap.objs.size)) (typeOf (.ref (s.heap.objs.size + 1))) (.ref C) := (PySem.W.Looks.ld e2).andThen .now
    exact t1.andThen (PySem.W.looks_mroIn I2.kIn M.top)
  refine codeAny_call_builtin PySem.W.oi_plain PySem.W.entry_oi (@PySem.W.check_slot (model X.prog X.w) _ _ _ "object.__init__" "object" "__init__" _ [] [] _ PySem.W.oi_kind PySem.W.oi_split hL (PySem.W.oi_args _) ?_)
  rw [PySem.W.oi_run]
  exact wpAny_pure (And.intro rfl ⟨V.ref (s.heap.objs.size + 1), _, I2, rfl, hq⟩)
end Song

/-! ### Pl1: plain lists: greatest ones, songs in turn (no program in sight) -/
namespace Song
def maxL : List Int → Int
  | [] => 0
  | n :: r => r.foldl max n
theorem foldl_max_le : ∀ (r : List Int) (n m : Int), n ≤ m → (∀ y ∈ r, y ≤ m) → r.foldl max n ≤ m
  | [], _, _, h, _ => h
  | y :: r, n, m, h, hr => foldl_max_le r (max n y) m (by have := hr y (by simp); omega) fun z hz => hr z (by simp [hz])
theorem le_foldl_max : ∀ (r : List Int) (n : Int), n ≤ r.foldl max n ∧ ∀ y ∈ r, y ≤ r.foldl max n
  | [], n => ⟨Int.le_refl _, fun y h => by cases h⟩
  | y :: r, n => by
    obtain ⟨h1, h2⟩ := le_foldl_max r (max n y)
    have e : (y :: r).foldl max n = r.foldl max (max n y) := rfl
    rw [e]
    refine ⟨by omega, fun z hz => ?_⟩
    rcases List.mem_cons.mp hz with q | q
    · omega
    · exact h2 z q
theorem foldl_max_mem : ∀ (r : List Int) (n : Int), r.foldl max n ∈ n :: r
  | [], n => by simp
  | y :: r, n => by
    have h := foldl_max_mem r (max n y)
    have e : (y :: r).foldl max n = r.foldl max (max n y) := rfl
    rw [e]
    rcases List.mem_cons.mp h with q | q
    · rw [q]
      by_cases c : n ≤ y
      · rw [Int.max_eq_right c]; simp
      · rw [Int.max_eq_left (by omega)]; simp
    · simp [q]
theorem maxL_ge {ns : List Int} {y : Int} (h : y ∈ ns) : y ≤ maxL ns := by
  cases ns with
  | nil => cases h
  | cons n r =>
    obtain ⟨h1, h2⟩ := le_foldl_max r n
    rcases List.mem_cons.mp h with q | q
    · rw [q]; exact h1
    · exact h2 y q
theorem maxL_mem {ns : List Int} (h : ns ≠ []) : maxL ns ∈ ns := by
  cases ns with
  | nil => exact absurd rfl h
  | cons n r => exact foldl_max_mem r n
theorem maxL_eq {ns : List Int} {m : Int} (h : m ∈ ns) (hm : ∀ y ∈ ns, y ≤ m) : m = maxL ns := by
  have h1 := maxL_ge h
  have h2 := hm _ (maxL_mem (fun e => by rw [e] at h; cases h))
  omega
/-- the least round that a singer's next song can have -/
def floorOf (last : List Int) (going s : Int) : Int := max going (last.getD s.toNat 0 + 1)
def roundFor (last : List Int) (going : Int) (ss : List Int) : Int := maxL (ss.map (floorOf last going))
/-- the law's own way to say it -/
theorem roundFor_law {last : List Int} {going : Int} {ss : List Int} (h : ss ≠ []) : maxL (going :: ss.map fun s => last.getD s.toNat 0 + 1) = roundFor last going ss := by
  have h1 : ∀ s ∈ ss, floorOf last going s ≤ roundFor last going ss := fun s hs => maxL_ge (List.mem_map.mpr ⟨s, hs, rfl⟩)
  have h2 : going ≤ maxL (going :: ss.map fun s => last.getD s.toNat 0 + 1) := maxL_ge (by simp)
  have h3 : ∀ s ∈ ss, last.getD s.toNat 0 + 1 ≤ maxL (going :: ss.map fun s => last.getD s.toNat 0 + 1) := fun s hs => maxL_ge (List.mem_cons_of_mem _ (List.mem_map.mpr ⟨s, hs, rfl⟩))
  have h4 := maxL_mem (ns := going :: ss.map fun s => last.getD s.toNat 0 + 1) (by simp)
  have h5 : roundFor last going ss ∈ ss.map (floorOf last going) := maxL_mem (by simpa using h)
  obtain ⟨s, hs, e⟩ := List.mem_map.mp h5
  obtain ⟨s0, hs0⟩ : ∃ s0, s0 ∈ ss := by
    cases ss with
    | nil => exact absurd rfl h
    | cons a r => exact ⟨a, by simp⟩
  have f0 := h1 s0 hs0
  have f1 := h3 s hs
  unfold floorOf at e f0
  rcases List.mem_cons.mp h4 with q | q
  · omega
  · obtain ⟨s1, hs1, e1⟩ := List.mem_map.mp q
    have f2 := h1 s1 hs1
    unfold floorOf at f2
    omega
/-! #### pairs in order -/
def ltPr (a b : Int × Int) : Bool := decide (a.1 < b.1) || (decide (a.1 = b.1) && decide (a.2 < b.2))
theorem ltPr_iff {a b : Int × Int} : ltPr a b = true ↔ a.1 < b.1 ∨ (a.1 = b.1 ∧ a.2 < b.2) := by
  unfold ltPr
  simp
theorem ltPr_false {a b : Int × Int} : ltPr a b = false ↔ ¬ (a.1 < b.1 ∨ (a.1 = b.1 ∧ a.2 < b.2)) := by
  rw [← ltPr_iff]; simp
theorem ltPr_anti {a b : Int × Int} (h1 : ltPr a b = false) (h2 : ltPr b a = false) : a = b := by
  rw [ltPr_false] at h1 h2
  obtain ⟨a1, a2⟩ := a
  obtain ⟨b1, b2⟩ := b
  simp only at h1 h2
  have e1 : a1 = b1 := by omega
  have e2 : a2 = b2 := by omega
  rw [e1, e2]
def SortedP (l : List (Int × Int)) : Prop := l.Pairwise fun x y => ltPr y x = false
theorem sortedP_unique : ∀ {l m : List (Int × Int)}, l.Perm m → SortedP l → SortedP m → l = m
  | [], m, p, _, _ => (List.nil_perm.mp p).symm ▸ rfl
  | x :: l, [], p, _, _ => absurd p.length_eq (by simp)
  | x :: l, y :: m, p, h1, h2 => by
    obtain ⟨a1, a2⟩ := List.pairwise_cons.mp h1
    obtain ⟨b1, b2⟩ := List.pairwise_cons.mp h2
    have e : x = y := by
      have hx : x ∈ y :: m := p.subset (by simp)
      have hy : y ∈ x :: l := p.symm.subset (by simp)
      rcases List.mem_cons.mp hx with q | q
      · exact q
      rcases List.mem_cons.mp hy with q' | q'
      · exact q'.symm
      exact ltPr_anti (b1 x q) (a1 y q')
    subst e
    rw [sortedP_unique (List.perm_cons x |>.mp p) a2 b2]
def insP (x : Int × Int) : List (Int × Int) → List (Int × Int)
  | [] => [x]
  | y :: r => if ltPr y x then y :: insP x r else x :: y :: r
def sortP : List (Int × Int) → List (Int × Int)
  | [] => []
  | x :: r => insP x (sortP r)
theorem insP_perm (x : Int × Int) : ∀ l, (insP x l).Perm (x :: l)
  | [] => List.Perm.refl _
  | y :: r => by
    unfold insP
    split
    · exact ((insP_perm x r).cons y).trans (List.Perm.swap x y r)
    · exact List.Perm.refl _
theorem sortP_perm : ∀ l, (sortP l).Perm l
  | [] => List.Perm.refl _
  | x :: r => (insP_perm x (sortP r)).trans ((sortP_perm r).cons x)
theorem insP_sorted (x : Int × Int) : ∀ l, SortedP l → SortedP (insP x l)
  | [], _ => by
    unfold insP SortedP
    exact List.pairwise_singleton _ _
  | y :: r, h => by
    obtain ⟨a1, a2⟩ := List.pairwise_cons.mp h
    unfold insP
    split
    · rename_i c
      refine List.pairwise_cons.mpr ⟨fun z hz => ?_, insP_sorted x r a2⟩
      rcases List.mem_cons.mp ((insP_perm x r).subset hz) with q | q
      · rw [q, ltPr_false]
        rw [ltPr_iff] at c
        omega
      · exact a1 z q
    · rename_i c
      have c : ltPr y x = false := by simpa using c
      refine List.pairwise_cons.mpr ⟨fun z hz => ?_, h⟩
      rcases List.mem_cons.mp hz with q | q
      · rw [q]; exact c
      · have := a1 z q
        rw [ltPr_false] at this c ⊢
        omega
theorem sortP_sorted : ∀ l, SortedP (sortP l)
  | [] => List.Pairwise.nil
  | x :: r => insP_sorted x _ (sortP_sorted r)
theorem sortP_eq {l m : List (Int × Int)} (p : l.Perm m) (h : SortedP l) : l = sortP m := sortedP_unique (p.trans (sortP_perm m).symm) h (sortP_sorted m)
/-- the songs that wait, in turn -/
def inTurn (rounds waits : List Int) : List Int := (sortP (waits.map fun s => (rounds.getD s.toNat 0, s))).map (·.2)
theorem inTurn_perm (rounds waits : List Int) : (inTurn rounds waits).Perm waits := by
  unfold inTurn
  have h := (sortP_perm (waits.map fun s => (rounds.getD s.toNat 0, s))).map (·.2)
  rw [List.map_map] at h
  have e : waits.map ((fun x : Int × Int => x.2) ∘ fun s => (rounds.getD s.toNat 0, s)) = waits := by
    rw [show ((fun x : Int × Int => x.2) ∘ fun s => (rounds.getD s.toNat 0, s)) = id from rfl, List.map_id]
  rw [e] at h
  exact h
end Song

/-! ### Exn: defs that raise, own error classes, tables of lambdas (own layer) -/
namespace Song
open PySem L2
/-! #### contracts that tell what is raised -/
structure FnX (P : Program) (w : World) (K : PySem.W.Frag) (mg : Str → Option Value) (base : Heap) (x : Str) (k : Nat) (sp : Sp) : Prop where
  ex : ∃ (f : Addr) (fd : FuncData) (ps : List Str), FnOk P w K mg base (L2.CX P w) k f fd ps sp ∧ mg x = some (.ref f) ∧ PySem.W.keepIn K (.ref f) = true ∧ Binds K fd ps []
structure MeX (P : Program) (w : World) (K : PySem.W.Frag) (mg : Str → Option Value) (base : Heap) (C : Addr) (m : Str) (k : Nat) (sp : Sp) : Prop where
  ex : ∃ (f : Addr) (fd : FuncData) (ps : List Str), FnOk P w K mg base (L2.CX P w) k f fd ps sp ∧ Cls K C ∧ Meth K C m f ∧ Binds K fd ps []
structure MkeX (P : Program) (w : World) (K : PySem.W.Frag) (mg : Str → Option Value) (base : Heap) (x : Str) (C : Addr) (k : Nat) (sp : Sp) : Prop where
  ex : ∃ (f : Addr) (fd : FuncData) (ps : List Str), FnOk P w K mg base (L2.CX P w) k f fd ps sp ∧ Mk K C f ∧ mg x = some (.ref C) ∧ Binds K fd ps []
/-- what may leave, whatever the slots are -/
abbrev TkE (X : Cx) (E : XK) : Prop := Takes X (fun cls d _ H => E cls d H)
section
variable {X : Cx} {x m : Str} {k : Nat} {sp : Sp} {e o : Expr} {es : List Expr} {t : TA} {to : TE} {C : Addr} {p apos pos : Pos} {E : XK}
theorem pe_fnx (F : FnX X.prog X.w X.K X.mg X.base x k sp) (hr : Room k X.A) (hg : Gl X x) (tk : TkE X E) (ha : PA X (e :: es) t)
    (hdb : (x == ("__debug__" : Str)) = false := by decide) (he : starEach (e :: es) X.env = (false, eval e X.env) :: starEach es X.env := by rfl) (hpl : (backTo pos (starEach es X.env)).any (·.1) = false := by rfl) :
    PE X (.Call (.Name x p) (e :: es) [] pos) (tCall sp [] E t) := by
  obtain ⟨f, fd, ps, h1, h2, h3, h4⟩ := F.ex
  exact pe_call h1 hr hg h2 h3 h4 .nil (passes_call tk fun _ _ _ _ h => h) ha hdb he hpl
theorem pe_mex {pl : Sem Bool} (F : MeX X.prog X.w X.K X.mg X.base C m k sp) (hr : Room k X.A) (tk : TkE X E) (ho : PE X o to) (ha : PA X (e :: es) t)
    (hst : starEach (e :: es) X.env = (false, eval e X.env) :: starEach es X.env := by rfl) (hpl : (backTo pos (starEach es X.env)).any (·.1) = false := by rfl)
    (ht : eval (.Call (.Attribute o m apos) (e :: es) [] pos) X.env = (do
      let ov ← eval o X.env
      standAt apos.atName
      let (f, first) ← holding [ov] (getMethod ov m pl)
      callWith pos f first (backTo pos (starEach (e :: es) X.env)) (backToKw pos (keywordEach [] X.env))) := by rfl) :
    PE X (.Call (.Attribute o m apos) (e :: es) [] pos) (tMeth C m sp [] E to t) := by
  obtain ⟨f, fd, ps, h1, h2, h3, h4⟩ := F.ex
  exact pe_meth ho h2 h3 h1 hr h4 .nil (passes_call tk fun _ _ _ _ h => h) ha hst hpl ht
theorem pe_mkx (F : MkeX X.prog X.w X.K X.mg X.base x C k sp) (hr : Room (k + 1) X.A) (hg : Gl X x) (tk : TkE X E) (ha : PA X (e :: es) t)
    (hdb : (x == ("__debug__" : Str)) = false := by decide) (he : starEach (e :: es) X.env = (false, eval e X.env) :: starEach es X.env := by rfl) (hpl : (backTo pos (starEach es X.env)).any (·.1) = false := by rfl) :
    PE X (.Call (.Name x p) (e :: es) [] pos) (tMake C sp [] E t) := by
  obtain ⟨f, fd, ps, h1, h2, h3, h4⟩ := F.ex
  exact pe_make h2 h1 hr hg h3 h4 .nil (passes_call tk fun _ _ _ _ h => h) ha hdb he hpl
end
/-! #### calls whose readings are kept closed -/
@[irreducible] def iMake (C : Addr) (sp : Sp) (t : TA) : TE := tMake C sp [] E0 t
@[irreducible] def iMeth (C : Addr) (m : Str) (sp : Sp) (to : TE) (t : TA) : TE := tMeth C m sp [] E0 to t
@[irreducible] def iCall (sp : Sp) (t : TA) : TE := tCall sp [] E0 t
theorem iMake_of {C : Addr} {sp : Sp} {t : TA} {σ : L2.St} {H : Hp} {Q : VK} (h : tMake C sp [] E0 t σ H Q) : iMake C sp t σ H Q := by unfold iMake; exact h
theorem iMeth_of {C : Addr} {m : Str} {sp : Sp} {to : TE} {t : TA} {σ : L2.St} {H : Hp} {Q : VK} (h : tMeth C m sp [] E0 to t σ H Q) : iMeth C m sp to t σ H Q := by unfold iMeth; exact h
theorem iCall_of {sp : Sp} {t : TA} {σ : L2.St} {H : Hp} {Q : VK} (h : tCall sp [] E0 t σ H Q) : iCall sp t σ H Q := by unfold iCall; exact h
section
variable {X : Cx} {e : Expr} {C : Addr} {m : Str} {sp : Sp} {to : TE} {t : TA}
theorem pe_iMk (h : PE X e (tMake C sp [] E0 t)) : PE X e (iMake C sp t) := by unfold iMake; exact h
theorem pe_iMe (h : PE X e (tMeth C m sp [] E0 to t)) : PE X e (iMeth C m sp to t) := by unfold iMeth; exact h
theorem pe_iFn (h : PE X e (tCall sp [] E0 t)) : PE X e (iCall sp t) := by unfold iCall; exact h
end
/-! #### own error classes -/
structure ExK (K : PySem.W.Frag) (mg : Str → Option Value) (x : Str) : Prop where
  g : mg x = some (.ref (He.ga K x))
  i : PySem.W.excIn K (He.ga K x) He.veBase "ValueError.__new__" = true
  k : PySem.W.keepIn K (.ref (He.ga K x)) = true
  s : PySem.W.subIn K (.ref (He.ga K x)) (.type "BaseException") = some true
  t : PySem.W.typeIn K (.ref (He.ga K x)) = some (.type "type")
theorem exk_of {K : PySem.W.Frag} {mg : Str → Option Value} {x : Str} (g : mg x = some (.ref (He.ga K x))) (c : PySem.W.excIn K (He.ga K x) He.veBase "ValueError.__new__" = true ∧ PySem.W.keepIn K (.ref (He.ga K x)) = true ∧ PySem.W.subIn K (.ref (He.ga K x)) (.type "BaseException") = some true ∧
    PySem.W.typeIn K (.ref (He.ga K x)) = some (.type "type")) : ExK K mg x := ⟨g, c.1, c.2.1, c.2.2.1, c.2.2.2⟩
/-- raise x('m') -/
theorem ps_rz {X : Cx} {E : XK} {x m : Str} {j : Nat} {p p2 pos pos' : Pos} (hc : X.calm = true) (tk : TkE X E) (c : ExK X.K X.mg x) (hg : Gl X x) (hdb : (x == ("__debug__" : Str)) = false := by decide) :
    PS X (.Raise (some (.Call (.Name x p) [.Constant (.str m) j p2] [] pos)) none pos') (fun _ _ H => E (.ref (He.ga X.K x)) none H) :=
  ps_raise hc tk (pmk_own PySem.F.excBase_ValueError c.i c.g c.k (raises_own c.s c.t) hg hdb)
/-- the names of the eight -/
def cn (i : Nat) : Str := (["BadMany", "BadSingers", "BadSong", "BadTale", "BadSongs", "BadGap", "BadOrder", "TooMany"] : List Str).getD i ""
structure KM (K : PySem.W.Frag) (i : Nat) : Prop where
  c : ExcC K (He.ga K (cn i))
  j : ∀ j, j < 8 → PySem.W.kitOne K (.ref (He.ga K (cn i))) (.ref (He.ga K (cn j))) = some (i == j)
  v : PySem.W.kitOne K (.ref (He.ga K (cn i))) (.type "ValueError") = some true
  m : PySem.W.exmOne K (.ref (He.ga K (cn i))) (.ref (He.ga K "TurnError")) = some true
def kmB1 (K : PySem.W.Frag) (D : Addr) (i : Nat) : Bool :=
  He.eqO (PySem.W.findIn K (.ref D) "__getattribute__") (some (some (.builtin "BaseException.__getattribute__"))) && (He.eqO (PySem.W.findIn K (.ref D) "__getattr__") (some none) && (decide (PySem.W.subIn K (.ref D) (.type "BaseException") = some true) && (PySem.W.hasDictIn K D &&
  (He.eqO (PySem.W.findIn K (.ref D) "__class__") (some (some (.builtin "object.__class__"))) && (He.eqO (PySem.W.specialIn K (.builtin "object.__class__") "__get__") (some (some (.builtin "getset_descriptor.__get__"))) &&
  (decide (PySem.W.takesIn K (.builtin "object.__class__") = some true) && (decide (PySem.W.mroIn K D (.type "object") = some true) &&
  ((List.range 8).all (fun j => decide (PySem.W.kitOne K (.ref D) (.ref (He.ga K (cn j))) = some (i == j))) &&
  (decide (PySem.W.kitOne K (.ref D) (.type "ValueError") = some true) && decide (PySem.W.exmOne K (.ref D) (.ref (He.ga K "TurnError")) = some true))))))))))
def kmB (K : PySem.W.Frag) : Bool := (List.range 8).all fun i => kmB1 K (He.ga K (cn i)) i
theorem km_ok {K : PySem.W.Frag} (h : kmB K = true) : ∀ i, i < 8 → KM K i := fun i hi => by
  have h := List.all_eq_true.mp h i (List.mem_range.mpr hi)
  obtain ⟨h1, h⟩ := He.ba h
  obtain ⟨h2, h⟩ := He.ba h
  obtain ⟨h3, h⟩ := He.ba h
  obtain ⟨h4, h⟩ := He.ba h
  obtain ⟨h5, h⟩ := He.ba h
  obtain ⟨h6, h⟩ := He.ba h
  obtain ⟨h7, h⟩ := He.ba h
  obtain ⟨h8, h⟩ := He.ba h
  obtain ⟨h9, h⟩ := He.ba h
  obtain ⟨h10, h11⟩ := He.ba h
  exact ⟨⟨He.eqO_ok h1, He.eqO_ok h2, of_decide_eq_true h3, h4, He.eqO_ok h5, He.eqO_ok h6, of_decide_eq_true h7, of_decide_eq_true h8⟩,
    fun j hj => of_decide_eq_true (List.all_eq_true.mp h9 j (List.mem_range.mpr hj)), of_decide_eq_true h10, of_decide_eq_true h11⟩
/-! #### defs that make lambdas -/
/-- as FunD.ok, the code object told -/
theorem okC {P : Program} {w : World} {K : PySem.W.Frag} {mg : Str → Option Value} {base : Heap} {x qual : Str} {params : Arguments} {body : List Stmt} {scope : Scope} {dvs : List V} {kws : List (Str × V)} {f : Addr} {fd : FuncData} {CX : CXT} {N ps : List Str} {k : Nat} {sp : Sp} {at_ : He.Defn}
    (F : FunD K x qual params body scope dvs kws f fd) (ef : f = He.fAd K at_) (S : FnScope N ps scope) (len : ∀ vs H Q E, sp vs H Q E → vs.length = ps.length)
    (hbody : ∀ (cdv : Value) (_ : cdv = .ref (He.cT K at_).1) (A : Around) (outer : List Env) (s : Shared) (H : Hp) (vs : List V) (Q : VK) (E : XK), Room k (A.deeper (PyProof.Rows.envOfC qual scope s.heap.objs.size f cdv)) → sp vs H Q E →
      ∃ t, PSs (cxOf CX P w K mg base N qual scope f cdv A outer s H E) body t ∧ t { nx := fun _ H' => Q .non H', rt := Q } (L2.start N vs) H) : FnOk P w K mg base CX (k + 1) f fd ps sp := by
  obtain ⟨oc, od, dV, kV, doc, pm, an, cdv, ct, osl, rfl, lk, hcd, _, _⟩ := F.ex
  obtain ⟨c, ec⟩ := He.codeIn_ref hcd
  have e1 : (He.cT K at_).1 = c := He.codeOf_eq (by rw [← ef]; exact lk) ec
  exact fn_of lk hcd S len fun A outer s H vs Q E hr hsp => hbody cdv (by rw [ec, e1]) A outer s H vs Q E hr hsp
/-- a table's name of a def -/
abbrev qOf (d : Str) : Str := d ++ ".<locals>." ++ "<lambda>"
abbrev TLof (K : PySem.W.Frag) (tf : List He.Defn) : List (Addr × Str) := tf.map fun p => ((He.cT K p).2, qOf p.1)
structure LamT (K : PySem.W.Frag) (mg : Str → Option Value) (base : Heap) (Tl : List (Addr × Str)) (d : Str) : Prop where
  tb : LamX.TabB base mg (He.cT K (d, none)).1 (He.cT K (d, none)).2
  mem : ((He.cT K (d, none)).2, qOf d) ∈ Tl
  uq : ∀ p ∈ Tl, p.1 = (He.cT K (d, none)).2 → p.2 = qOf d
theorem nodup_inj {α β : Type} {f : α → β} : ∀ {l : List α}, (l.map f).Nodup → ∀ {a b : α}, a ∈ l → b ∈ l → f a = f b → a = b
  | [], _, _, _, h, _, _ => by cases h
  | c :: r, nd, a, b, ha, hb, e => by
    rw [List.map_cons, List.nodup_cons] at nd
    rcases List.mem_cons.mp ha with e1 | h1
    · rcases List.mem_cons.mp hb with e2 | h2
      · rw [e1, e2]
      · exact absurd (by rw [← e1, e]; exact List.mem_map_of_mem h2) nd.1
    · rcases List.mem_cons.mp hb with e2 | h2
      · exact absurd (by rw [← e2, ← e]; exact List.mem_map_of_mem h1) nd.1
      · exact nodup_inj nd.2 h1 h2 e
theorem lamT_of {K : PySem.W.Frag} {mg : Str → Option Value} {base : Heap} {tf : List He.Defn} {d : Str} (B : ∀ p ∈ tf, LamX.TabB base mg (He.cT K p).1 (He.cT K p).2) (nd : (tf.map fun p => (He.cT K p).2).Nodup) (h : (d, none) ∈ tf) : LamT K mg base (TLof K tf) d :=
  ⟨B _ h, List.mem_map.mpr ⟨_, h, rfl⟩, fun p hp e => by
    obtain ⟨q, hq, rfl⟩ := List.mem_map.mp hp
    have := nodup_inj (f := fun p => (He.cT K p).2) nd hq h e
    rw [this]⟩
/-- a def's body: what leaves it -/
theorem tkF {P : Program} {w : World} {K : PySem.W.Frag} {mg : Str → Option Value} {base : Heap} {N : List Str} {qual : Str} {scope : Scope} {f : Addr} {cdv : Value} {A : Around} {outer : List Env} {s : Shared} {H : Hp} {E : XK} : TkE (cxOf (L2.CX P w) P w K mg base N qual scope f cdv A outer s H E) E :=
  takes_of (X := cxOf (L2.CX P w) P w K mg base N qual scope f cdv A outer s H E) (E := E) rfl rfl rfl rfl
/-- a lambda's body: what leaves it -/
theorem tkLam {X : Cx} {A : Around} {outer : List Env} {s : Shared} {H : Hp} {E : XK} {scope : Scope} {f c' : Addr} : TkE (LamX.lamCx X A outer s H E scope f c') E := takes_of (X := LamX.lamCx X A outer s H E scope f c') (E := E) rfl rfl rfl rfl
/-- the slots are as many as the names -/
theorem takes_len {X : Cx} {W : WX} (tk : Takes X W) : Takes X (fun cls d σ H => σ.length = X.N.length → W cls d σ H) := fun u s' x => by
  obtain ⟨a, B, sI, pins, σ, H, cls, d, h1, I, h2, h3, h4, h5, h6, h7, w⟩ := x
  exact tk u s' ⟨a, B, sI, pins, σ, H, cls, d, h1, I, h2, h3, h4, h5, h6, h7, w I.len⟩
/-- all but tables -/
def nt (H : Hp) : Hp := fun b => match H b with
  | some (.tbl _) => none
  | x => x
theorem nt_some {H : Hp} {b : Addr} {o : HO} (h : nt H b = some o) : H b = some o ∧ ∀ ps, o ≠ .tbl ps := by
  unfold nt at h
  split at h
  · cases h
  · rename_i z
    exact ⟨h, fun ps e => z ps (by rw [h, e])⟩
theorem nt_of {H : Hp} {b : Addr} {o : HO} (h : H b = some o) (n : ∀ ps, o ≠ .tbl ps) : nt H b = some o := by
  unfold nt
  split
  · rename_i z
    rw [h] at z
    exact absurd (Option.some.inj z) (n _)
  · exact h
theorem nt_le (H : Hp) : Same (nt H) H := fun _ _ h => (nt_some h).1
theorem nt_ext {H H' : Hp} (e : LamX.ExtN H H') : Same (nt H) (nt H') := fun b o h => by
  obtain ⟨h, n⟩ := nt_some h
  exact nt_of (e b o h n) n
theorem ext_of_nt {H H' : Hp} (e : Same (nt H) (nt H')) : LamX.ExtN H H' := fun b o h n => (nt_some (e b o (nt_of h n))).1
theorem nt_same {H H' : Hp} (e : Same H H') : Same (nt H) (nt H') := nt_ext (LamX.ExtN.of e)
theorem nt_fra {S : List Addr} {H H' : Hp} (f : Fra S H H') : Fra S (nt H) (nt H') := fun a o q h => by
  obtain ⟨h, n⟩ := nt_some h
  exact nt_of (f a o q h) n
theorem nt_none {H : Hp} {b : Addr} (h : H b = none) : nt H b = none := by
  unfold nt
  rw [h]
theorem tabs_same {T : List (Addr × Str)} {H H' : Hp} (t : LamX.Tabs T H) (e : Same H H') : LamX.Tabs T H' := t.ext e
end Song

namespace Song
open PySem L2
def top (i : Nat) : Stmt := PySem.Challenge.pw_songturns_k14_whole_handed.main.body.getD i (.Pass ⟨0, 0, 0, 0⟩)
def inC (st : Stmt) (i : Nat) : Stmt := match st with
  | .ClassDef _ _ _ b _ _ _ _ _ _ _ => b.getD i (.Pass ⟨0, 0, 0, 0⟩)
  | _ => .Pass ⟨0, 0, 0, 0⟩
abbrev s_counts_of : Stmt := top 2
def d_counts_of : He.DefD := ⟨("counts_of", none), "counts_of", "counts_of", defArgs s_counts_of, defBody s_counts_of, defScope s_counts_of, [], []⟩
abbrev s_bars : Stmt := top 3
def d_bars : He.DefD := ⟨("bars", none), "bars", "bars", defArgs s_bars, defBody s_bars, defScope s_bars, [], []⟩
abbrev s_barring : Stmt := top 4
def d_barring : He.DefD := ⟨("barring", none), "barring", "barring", defArgs s_barring, defBody s_barring, defScope s_barring, [], []⟩
abbrev s_least_between : Stmt := top 5
def d_least_between : He.DefD := ⟨("least_between", none), "least_between", "least_between", defArgs s_least_between, defBody s_least_between, defScope s_least_between, [], []⟩
abbrev s_keeps : Stmt := top 6
def d_keeps : He.DefD := ⟨("keeps", none), "keeps", "keeps", defArgs s_keeps, defBody s_keeps, defScope s_keeps, [], []⟩
abbrev s_turns_in : Stmt := top 7
def d_turns_in : He.DefD := ⟨("turns_in", none), "turns_in", "turns_in", defArgs s_turns_in, defBody s_turns_in, defScope s_turns_in, [], []⟩
abbrev s_order_for : Stmt := top 8
def d_order_for : He.DefD := ⟨("order_for", none), "order_for", "order_for", defArgs s_order_for, defBody s_order_for, defScope s_order_for, [], []⟩
abbrev s_is_whole : Stmt := top 24
def d_is_whole : He.DefD := ⟨("is_whole", none), "is_whole", "is_whole", defArgs s_is_whole, defBody s_is_whole, defScope s_is_whole, [], []⟩
abbrev s_are_numbers : Stmt := top 25
def d_are_numbers : He.DefD := ⟨("are_numbers", none), "are_numbers", "are_numbers", defArgs s_are_numbers, defBody s_are_numbers, defScope s_are_numbers, [], []⟩
abbrev s_check_many : Stmt := top 26
def d_check_many : He.DefD := ⟨("check_many", none), "check_many", "check_many", defArgs s_check_many, defBody s_check_many, defScope s_check_many, [], []⟩
abbrev s_are_singers : Stmt := top 27
def d_are_singers : He.DefD := ⟨("are_singers", none), "are_singers", "are_singers", defArgs s_are_singers, defBody s_are_singers, defScope s_are_singers, [], []⟩
abbrev s_check_songs : Stmt := top 28
def d_check_songs : He.DefD := ⟨("check_songs", none), "check_songs", "check_songs", defArgs s_check_songs, defBody s_check_songs, defScope s_check_songs, [], []⟩
abbrev s_check_groups : Stmt := top 29
def d_check_groups : He.DefD := ⟨("check_groups", none), "check_groups", "check_groups", defArgs s_check_groups, defBody s_check_groups, defScope s_check_groups, [], []⟩
abbrev s_floor_of : Stmt := top 31
def d_floor_of : He.DefD := ⟨("floor_of", none), "floor_of", "floor_of", defArgs s_floor_of, defBody s_floor_of, defScope s_floor_of, [], []⟩
abbrev s_round_for : Stmt := top 32
def d_round_for : He.DefD := ⟨("round_for", none), "round_for", "round_for", defArgs s_round_for, defBody s_round_for, defScope s_round_for, [], []⟩
abbrev s_in_turn : Stmt := top 33
def d_in_turn : He.DefD := ⟨("in_turn", none), "in_turn", "in_turn", defArgs s_in_turn, defBody s_in_turn, defScope s_in_turn, [], []⟩
abbrev s_Evening___init__ : Stmt := inC (top 35) 0
def d_Evening___init__ : He.DefD := ⟨("Evening", some "__init__"), "__init__", "Evening.__init__", defArgs s_Evening___init__, defBody s_Evening___init__, defScope s_Evening___init__, [], []⟩
abbrev s_Evening_wish : Stmt := inC (top 35) 1
def d_Evening_wish : He.DefD := ⟨("Evening", some "wish"), "wish", "Evening.wish", defArgs s_Evening_wish, defBody s_Evening_wish, defScope s_Evening_wish, [], []⟩
abbrev s_Evening_sing : Stmt := inC (top 35) 2
def d_Evening_sing : He.DefD := ⟨("Evening", some "sing"), "sing", "Evening.sing", defArgs s_Evening_sing, defBody s_Evening_sing, defScope s_Evening_sing, [], []⟩
abbrev s_Evening_look_at : Stmt := inC (top 35) 3
def d_Evening_look_at : He.DefD := ⟨("Evening", some "look_at"), "look_at", "Evening.look_at", defArgs s_Evening_look_at, defBody s_Evening_look_at, defScope s_Evening_look_at, [], []⟩
abbrev s_Evening_withdraw : Stmt := inC (top 35) 4
def d_Evening_withdraw : He.DefD := ⟨("Evening", some "withdraw"), "withdraw", "Evening.withdraw", defArgs s_Evening_withdraw, defBody s_Evening_withdraw, defScope s_Evening_withdraw, [], []⟩
abbrev s_Evening_waits : Stmt := inC (top 35) 6
def d_Evening_waits : He.DefD := ⟨("Evening", some "waits"), "waits", "Evening.waits", defArgs s_Evening_waits, defBody s_Evening_waits, defScope s_Evening_waits, [], []⟩
abbrev s_Evening_tale : Stmt := inC (top 35) 10
def d_Evening_tale : He.DefD := ⟨("Evening", some "tale"), "tale", "Evening.tale", defArgs s_Evening_tale, defBody s_Evening_tale, defScope s_Evening_tale, [], []⟩
abbrev s_is_part : Stmt := top 37
def d_is_part : He.DefD := ⟨("is_part", none), "is_part", "is_part", defArgs s_is_part, defBody s_is_part, defScope s_is_part, [], []⟩
abbrev s_first_wrong : Stmt := top 38
def d_first_wrong : He.DefD := ⟨("first_wrong", none), "first_wrong", "first_wrong", defArgs s_first_wrong, defBody s_first_wrong, defScope s_first_wrong, [], []⟩
abbrev s_Right_shows : Stmt := inC (top 41) 0
def d_Right_shows : He.DefD := ⟨("Right", some "shows"), "shows", "Right.shows", defArgs s_Right_shows, defBody s_Right_shows, defScope s_Right_shows, [], []⟩
abbrev s_Wrong___init__ : Stmt := inC (top 42) 0
def d_Wrong___init__ : He.DefD := ⟨("Wrong", some "__init__"), "__init__", "Wrong.__init__", defArgs s_Wrong___init__, defBody s_Wrong___init__, defScope s_Wrong___init__, [], []⟩
abbrev s_Wrong_shows : Stmt := inC (top 42) 1
def d_Wrong_shows : He.DefD := ⟨("Wrong", some "shows"), "shows", "Wrong.shows", defArgs s_Wrong_shows, defBody s_Wrong_shows, defScope s_Wrong_shows, [], []⟩
abbrev s_Spaced___init__ : Stmt := inC (top 43) 0
def d_Spaced___init__ : He.DefD := ⟨("Spaced", some "__init__"), "__init__", "Spaced.__init__", defArgs s_Spaced___init__, defBody s_Spaced___init__, defScope s_Spaced___init__, [], []⟩
abbrev s_Spaced_shows : Stmt := inC (top 43) 1
def d_Spaced_shows : He.DefD := ⟨("Spaced", some "shows"), "shows", "Spaced.shows", defArgs s_Spaced_shows, defBody s_Spaced_shows, defScope s_Spaced_shows, [], []⟩
abbrev s_Barred___init__ : Stmt := inC (top 44) 0
def d_Barred___init__ : He.DefD := ⟨("Barred", some "__init__"), "__init__", "Barred.__init__", defArgs s_Barred___init__, defBody s_Barred___init__, defScope s_Barred___init__, [], []⟩
abbrev s_Barred_shows : Stmt := inC (top 44) 1
def d_Barred_shows : He.DefD := ⟨("Barred", some "shows"), "shows", "Barred.shows", defArgs s_Barred_shows, defBody s_Barred_shows, defScope s_Barred_shows, [], []⟩
abbrev s_spaced : Stmt := top 46
def d_spaced : He.DefD := ⟨("spaced", none), "spaced", "spaced", defArgs s_spaced, defBody s_spaced, defScope s_spaced, [], []⟩
abbrev s_least_gap : Stmt := top 47
def d_least_gap : He.DefD := ⟨("least_gap", none), "least_gap", "least_gap", defArgs s_least_gap, defBody s_least_gap, defScope s_least_gap, [], []⟩
abbrev s_widest : Stmt := top 48
def d_widest : He.DefD := ⟨("widest", none), "widest", "widest", defArgs s_widest, defBody s_widest, defScope s_widest, [], []⟩
abbrev s_all_orders : Stmt := top 49
def d_all_orders : He.DefD := ⟨("all_orders", none), "all_orders", "all_orders", defArgs s_all_orders, defBody s_all_orders, defScope s_all_orders, [], []⟩
abbrev s_widest_few : Stmt := top 50
def d_widest_few : He.DefD := ⟨("widest_few", none), "widest_few", "widest_few", defArgs s_widest_few, defBody s_widest_few, defScope s_widest_few, [], []⟩
abbrev s_judged : Stmt := top 53
def d_judged : He.DefD := ⟨("judged", none), "judged", "judged", defArgs s_judged, defBody s_judged, defScope s_judged, [], []⟩
abbrev s__law_cell_at : Stmt := top 55
def d__law_cell_at : He.DefD := ⟨("_law_cell_at", none), "_law_cell_at", "_law_cell_at", defArgs s__law_cell_at, defBody s__law_cell_at, defScope s__law_cell_at, [], []⟩
abbrev s__law_copy : Stmt := top 56
def d__law_copy : He.DefD := ⟨("_law_copy", none), "_law_copy", "_law_copy", defArgs s__law_copy, defBody s__law_copy, defScope s__law_copy, [], []⟩
abbrev s__law_into : Stmt := top 57
def d__law_into : He.DefD := ⟨("_law_into", none), "_law_into", "_law_into", defArgs s__law_into, defBody s__law_into, defScope s__law_into, [], []⟩
abbrev s__law_spoil : Stmt := top 58
def d__law_spoil : He.DefD := ⟨("_law_spoil", none), "_law_spoil", "_law_spoil", defArgs s__law_spoil, defBody s__law_spoil, defScope s__law_spoil, [], []⟩
abbrev s__law_door_right : Stmt := top 59
def d__law_door_right : He.DefD := ⟨("_law_door_right", none), "_law_door_right", "_law_door_right", defArgs s__law_door_right, defBody s__law_door_right, defScope s__law_door_right, [], []⟩
abbrev s__law_spaced_twice : Stmt := top 60
def d__law_spaced_twice : He.DefD := ⟨("_law_spaced_twice", none), "_law_spaced_twice", "_law_spaced_twice", defArgs s__law_spaced_twice, defBody s__law_spaced_twice, defScope s__law_spaced_twice, [], []⟩
abbrev s__law_rows_one : Stmt := top 61
def d__law_rows_one : He.DefD := ⟨("_law_rows_one", none), "_law_rows_one", "_law_rows_one", defArgs s__law_rows_one, defBody s__law_rows_one, defScope s__law_rows_one, [], []⟩
abbrev s_law : Stmt := top 62
def d_law : He.DefD := ⟨("law", none), "law", "law", defArgs s_law, defBody s_law, defScope s_law, [], []⟩
def tf : List He.Defn := [("_law_rows_one", none)]
structure Tx (K : PySem.W.Frag) (mg : Str → Option Value) : Prop where
  g_counts_of : mg "counts_of" = some (.ref (He.ga K "counts_of"))
  g_bars : mg "bars" = some (.ref (He.ga K "bars"))
  g_barring : mg "barring" = some (.ref (He.ga K "barring"))
  g_least_between : mg "least_between" = some (.ref (He.ga K "least_between"))
  g_keeps : mg "keeps" = some (.ref (He.ga K "keeps"))
  g_turns_in : mg "turns_in" = some (.ref (He.ga K "turns_in"))
  g_order_for : mg "order_for" = some (.ref (He.ga K "order_for"))
  g_TurnError : mg "TurnError" = some (.ref (He.ga K "TurnError"))
  g_BadMany : mg "BadMany" = some (.ref (He.ga K "BadMany"))
  g_BadSingers : mg "BadSingers" = some (.ref (He.ga K "BadSingers"))
  g_BadSong : mg "BadSong" = some (.ref (He.ga K "BadSong"))
  g_BadTale : mg "BadTale" = some (.ref (He.ga K "BadTale"))
  g_BadSongs : mg "BadSongs" = some (.ref (He.ga K "BadSongs"))
  g_BadGap : mg "BadGap" = some (.ref (He.ga K "BadGap"))
  g_BadOrder : mg "BadOrder" = some (.ref (He.ga K "BadOrder"))
  g_TooMany : mg "TooMany" = some (.ref (He.ga K "TooMany"))
  c_MOST_SINGERS : ∃ t, mg "MOST_SINGERS" = some (.int 6 t)
  c_MOST_OF_SONG : ∃ t, mg "MOST_OF_SONG" = some (.int 3 t)
  c_MOST_SONGS : ∃ t, mg "MOST_SONGS" = some (.int 24 t)
  c_FEW : ∃ t, mg "FEW" = some (.int 5 t)
  g_is_whole : mg "is_whole" = some (.ref (He.ga K "is_whole"))
  g_are_numbers : mg "are_numbers" = some (.ref (He.ga K "are_numbers"))
  g_check_many : mg "check_many" = some (.ref (He.ga K "check_many"))
  g_are_singers : mg "are_singers" = some (.ref (He.ga K "are_singers"))
  g_check_songs : mg "check_songs" = some (.ref (He.ga K "check_songs"))
  g_check_groups : mg "check_groups" = some (.ref (He.ga K "check_groups"))
  g_floor_of : mg "floor_of" = some (.ref (He.ga K "floor_of"))
  g_round_for : mg "round_for" = some (.ref (He.ga K "round_for"))
  g_in_turn : mg "in_turn" = some (.ref (He.ga K "in_turn"))
  g_Evening : mg "Evening" = some (.ref (He.ga K "Evening"))
  cls_Evening : Cls K (He.ga K "Evening")
  mk_Evening : Mk K (He.ga K "Evening") (He.ma K (He.ga K "Evening") "__init__")
  me_Evening_wish : Meth K (He.ga K "Evening") "wish" (He.ma K (He.ga K "Evening") "wish")
  me_Evening_sing : Meth K (He.ga K "Evening") "sing" (He.ma K (He.ga K "Evening") "sing")
  me_Evening_look_at : Meth K (He.ga K "Evening") "look_at" (He.ma K (He.ga K "Evening") "look_at")
  me_Evening_withdraw : Meth K (He.ga K "Evening") "withdraw" (He.ma K (He.ga K "Evening") "withdraw")
  me_Evening_waits : Meth K (He.ga K "Evening") "waits" (He.ma K (He.ga K "Evening") "waits")
  me_Evening_tale : Meth K (He.ga K "Evening") "tale" (He.ma K (He.ga K "Evening") "tale")
  na_Evening_came : NoAttr K (He.ga K "Evening") "came"
  na_Evening_going : NoAttr K (He.ga K "Evening") "going"
  na_Evening_last : NoAttr K (He.ga K "Evening") "last"
  na_Evening_rounds : NoAttr K (He.ga K "Evening") "rounds"
  na_Evening_waiting : NoAttr K (He.ga K "Evening") "waiting"
  g_is_part : mg "is_part" = some (.ref (He.ga K "is_part"))
  g_first_wrong : mg "first_wrong" = some (.ref (He.ga K "first_wrong"))
  g_Answer : mg "Answer" = some (.ref (He.ga K "Answer"))
  cls_Answer : Cls K (He.ga K "Answer")
  g_Right : mg "Right" = some (.ref (He.ga K "Right"))
  cls_Right : Cls K (He.ga K "Right")
  me_Right_shows : Meth K (He.ga K "Right") "shows" (He.ma K (He.ga K "Right") "shows")
  g_Wrong : mg "Wrong" = some (.ref (He.ga K "Wrong"))
  cls_Wrong : Cls K (He.ga K "Wrong")
  mk_Wrong : Mk K (He.ga K "Wrong") (He.ma K (He.ga K "Wrong") "__init__")
  me_Wrong_shows : Meth K (He.ga K "Wrong") "shows" (He.ma K (He.ga K "Wrong") "shows")
  na_Wrong_place : NoAttr K (He.ga K "Wrong") "place"
  g_Spaced : mg "Spaced" = some (.ref (He.ga K "Spaced"))
  cls_Spaced : Cls K (He.ga K "Spaced")
  mk_Spaced : Mk K (He.ga K "Spaced") (He.ma K (He.ga K "Spaced") "__init__")
  me_Spaced_shows : Meth K (He.ga K "Spaced") "shows" (He.ma K (He.ga K "Spaced") "shows")
  na_Spaced_order : NoAttr K (He.ga K "Spaced") "order"
  g_Barred : mg "Barred" = some (.ref (He.ga K "Barred"))
  cls_Barred : Cls K (He.ga K "Barred")
  mk_Barred : Mk K (He.ga K "Barred") (He.ma K (He.ga K "Barred") "__init__")
  me_Barred_shows : Meth K (He.ga K "Barred") "shows" (He.ma K (He.ga K "Barred") "shows")
  na_Barred_singers : NoAttr K (He.ga K "Barred") "singers"
  g_spaced : mg "spaced" = some (.ref (He.ga K "spaced"))
  g_least_gap : mg "least_gap" = some (.ref (He.ga K "least_gap"))
  g_widest : mg "widest" = some (.ref (He.ga K "widest"))
  g_all_orders : mg "all_orders" = some (.ref (He.ga K "all_orders"))
  g_widest_few : mg "widest_few" = some (.ref (He.ga K "widest_few"))
  c_MOST_PARTS : ∃ t, mg "MOST_PARTS" = some (.int 30 t)
  g_judged : mg "judged" = some (.ref (He.ga K "judged"))
  g__law_cell_at : mg "_law_cell_at" = some (.ref (He.ga K "_law_cell_at"))
  g__law_copy : mg "_law_copy" = some (.ref (He.ga K "_law_copy"))
  g__law_into : mg "_law_into" = some (.ref (He.ga K "_law_into"))
  g__law_spoil : mg "_law_spoil" = some (.ref (He.ga K "_law_spoil"))
  g__law_door_right : mg "_law_door_right" = some (.ref (He.ga K "_law_door_right"))
  g__law_spaced_twice : mg "_law_spaced_twice" = some (.ref (He.ga K "_law_spaced_twice"))
  g__law_rows_one : mg "_law_rows_one" = some (.ref (He.ga K "_law_rows_one"))
  g_law : mg "law" = some (.ref (He.ga K "law"))
  len : mg "len" = none
  isinstance : mg "isinstance" = none
  all : mg "all" = none
  any : mg "any" = none
  range : mg "range" = none
  sorted : mg "sorted" = none
  set : mg "set" = none
  max : mg "max" = none
  min : mg "min" = none
  list : mg "list" = none
  enumerate : mg "enumerate" = none
  zip : mg "zip" = none
  int : mg "int" = none
  bool : mg "bool" = none
  tuple : mg "tuple" = none
  str : mg "str" = none
  dict : mg "dict" = none
  abs : mg "abs" = none
  d_counts_of : ∃ fd, FnP K "counts_of" "counts_of" s_counts_of (He.ga K "counts_of") fd
  d_bars : ∃ fd, FnP K "bars" "bars" s_bars (He.ga K "bars") fd
  d_barring : ∃ fd, FnP K "barring" "barring" s_barring (He.ga K "barring") fd
  d_least_between : ∃ fd, FnP K "least_between" "least_between" s_least_between (He.ga K "least_between") fd
  d_keeps : ∃ fd, FnP K "keeps" "keeps" s_keeps (He.ga K "keeps") fd
  d_turns_in : ∃ fd, FnP K "turns_in" "turns_in" s_turns_in (He.ga K "turns_in") fd
  d_order_for : ∃ fd, FnP K "order_for" "order_for" s_order_for (He.ga K "order_for") fd
  d_is_whole : ∃ fd, FnP K "is_whole" "is_whole" s_is_whole (He.ga K "is_whole") fd
  d_are_numbers : ∃ fd, FnP K "are_numbers" "are_numbers" s_are_numbers (He.ga K "are_numbers") fd
  d_check_many : ∃ fd, FnP K "check_many" "check_many" s_check_many (He.ga K "check_many") fd
  d_are_singers : ∃ fd, FnP K "are_singers" "are_singers" s_are_singers (He.ga K "are_singers") fd
  d_check_songs : ∃ fd, FnP K "check_songs" "check_songs" s_check_songs (He.ga K "check_songs") fd
  d_check_groups : ∃ fd, FnP K "check_groups" "check_groups" s_check_groups (He.ga K "check_groups") fd
  d_floor_of : ∃ fd, FnP K "floor_of" "floor_of" s_floor_of (He.ga K "floor_of") fd
  d_round_for : ∃ fd, FnP K "round_for" "round_for" s_round_for (He.ga K "round_for") fd
  d_in_turn : ∃ fd, FnP K "in_turn" "in_turn" s_in_turn (He.ga K "in_turn") fd
  d_Evening___init__ : ∃ fd, FnP K "__init__" "Evening.__init__" s_Evening___init__ (He.ma K (He.ga K "Evening") "__init__") fd
  d_Evening_wish : ∃ fd, FnP K "wish" "Evening.wish" s_Evening_wish (He.ma K (He.ga K "Evening") "wish") fd
  d_Evening_sing : ∃ fd, FnP K "sing" "Evening.sing" s_Evening_sing (He.ma K (He.ga K "Evening") "sing") fd
  d_Evening_look_at : ∃ fd, FnP K "look_at" "Evening.look_at" s_Evening_look_at (He.ma K (He.ga K "Evening") "look_at") fd
  d_Evening_withdraw : ∃ fd, FnP K "withdraw" "Evening.withdraw" s_Evening_withdraw (He.ma K (He.ga K "Evening") "withdraw") fd
  d_Evening_waits : ∃ fd, FnP K "waits" "Evening.waits" s_Evening_waits (He.ma K (He.ga K "Evening") "waits") fd
  d_Evening_tale : ∃ fd, FnP K "tale" "Evening.tale" s_Evening_tale (He.ma K (He.ga K "Evening") "tale") fd
  d_is_part : ∃ fd, FnP K "is_part" "is_part" s_is_part (He.ga K "is_part") fd
  d_first_wrong : ∃ fd, FnP K "first_wrong" "first_wrong" s_first_wrong (He.ga K "first_wrong") fd
  d_Right_shows : ∃ fd, FnP K "shows" "Right.shows" s_Right_shows (He.ma K (He.ga K "Right") "shows") fd
  d_Wrong___init__ : ∃ fd, FnP K "__init__" "Wrong.__init__" s_Wrong___init__ (He.ma K (He.ga K "Wrong") "__init__") fd
  d_Wrong_shows : ∃ fd, FnP K "shows" "Wrong.shows" s_Wrong_shows (He.ma K (He.ga K "Wrong") "shows") fd
  d_Spaced___init__ : ∃ fd, FnP K "__init__" "Spaced.__init__" s_Spaced___init__ (He.ma K (He.ga K "Spaced") "__init__") fd
  d_Spaced_shows : ∃ fd, FnP K "shows" "Spaced.shows" s_Spaced_shows (He.ma K (He.ga K "Spaced") "shows") fd
  d_Barred___init__ : ∃ fd, FnP K "__init__" "Barred.__init__" s_Barred___init__ (He.ma K (He.ga K "Barred") "__init__") fd
  d_Barred_shows : ∃ fd, FnP K "shows" "Barred.shows" s_Barred_shows (He.ma K (He.ga K "Barred") "shows") fd
  d_spaced : ∃ fd, FnP K "spaced" "spaced" s_spaced (He.ga K "spaced") fd
  d_least_gap : ∃ fd, FnP K "least_gap" "least_gap" s_least_gap (He.ga K "least_gap") fd
  d_widest : ∃ fd, FnP K "widest" "widest" s_widest (He.ga K "widest") fd
  d_all_orders : ∃ fd, FnP K "all_orders" "all_orders" s_all_orders (He.ga K "all_orders") fd
  d_widest_few : ∃ fd, FnP K "widest_few" "widest_few" s_widest_few (He.ga K "widest_few") fd
  d_judged : ∃ fd, FnP K "judged" "judged" s_judged (He.ga K "judged") fd
  d__law_cell_at : ∃ fd, FnP K "_law_cell_at" "_law_cell_at" s__law_cell_at (He.ga K "_law_cell_at") fd
  d__law_copy : ∃ fd, FnP K "_law_copy" "_law_copy" s__law_copy (He.ga K "_law_copy") fd
  d__law_into : ∃ fd, FnP K "_law_into" "_law_into" s__law_into (He.ga K "_law_into") fd
  d__law_spoil : ∃ fd, FnP K "_law_spoil" "_law_spoil" s__law_spoil (He.ga K "_law_spoil") fd
  d__law_door_right : ∃ fd, FnP K "_law_door_right" "_law_door_right" s__law_door_right (He.ga K "_law_door_right") fd
  d__law_spaced_twice : ∃ fd, FnP K "_law_spaced_twice" "_law_spaced_twice" s__law_spaced_twice (He.ga K "_law_spaced_twice") fd
  d__law_rows_one : ∃ fd, FnP K "_law_rows_one" "_law_rows_one" s__law_rows_one (He.ga K "_law_rows_one") fd
  d_law : ∃ fd, FnP K "law" "law" s_law (He.ga K "law") fd
  mkb_Answer : MkB K (He.ga K "Answer")
  mkb_Right : MkB K (He.ga K "Right")
  ic_Evening : IsC K (He.ga K "Evening")
  ki_Evening_Right : PySem.W.kitOne K (.ref (He.ga K "Evening")) (.ref (He.ga K "Right")) = some false
  ki_Evening_Spaced : PySem.W.kitOne K (.ref (He.ga K "Evening")) (.ref (He.ga K "Spaced")) = some false
  ic_Answer : IsC K (He.ga K "Answer")
  ki_Answer_Right : PySem.W.kitOne K (.ref (He.ga K "Answer")) (.ref (He.ga K "Right")) = some false
  ki_Answer_Spaced : PySem.W.kitOne K (.ref (He.ga K "Answer")) (.ref (He.ga K "Spaced")) = some false
  ic_Right : IsC K (He.ga K "Right")
  ki_Right_Right : PySem.W.kitOne K (.ref (He.ga K "Right")) (.ref (He.ga K "Right")) = some true
  ki_Right_Spaced : PySem.W.kitOne K (.ref (He.ga K "Right")) (.ref (He.ga K "Spaced")) = some false
  ic_Wrong : IsC K (He.ga K "Wrong")
  ki_Wrong_Right : PySem.W.kitOne K (.ref (He.ga K "Wrong")) (.ref (He.ga K "Right")) = some false
  ki_Wrong_Spaced : PySem.W.kitOne K (.ref (He.ga K "Wrong")) (.ref (He.ga K "Spaced")) = some false
  ic_Spaced : IsC K (He.ga K "Spaced")
  ki_Spaced_Right : PySem.W.kitOne K (.ref (He.ga K "Spaced")) (.ref (He.ga K "Right")) = some false
  ki_Spaced_Spaced : PySem.W.kitOne K (.ref (He.ga K "Spaced")) (.ref (He.ga K "Spaced")) = some true
  ic_Barred : IsC K (He.ga K "Barred")
  ki_Barred_Right : PySem.W.kitOne K (.ref (He.ga K "Barred")) (.ref (He.ga K "Right")) = some false
  ki_Barred_Spaced : PySem.W.kitOne K (.ref (He.ga K "Barred")) (.ref (He.ga K "Spaced")) = some false
  tne : (tf.map fun p => (He.cT K p).2).Nodup
end Song

/-! ### Ev1: small defs -/
namespace Song
open PySem L2
section
variable {P : Program} {w : World} {K : PySem.W.Frag} {mg : Str → Option Value} {base : Heap}
theorem sc_is_whole : FnScope ["thing"] ["thing"] (defScope s_is_whole) := ⟨rfl, rfl, rfl, by decide +kernel, rfl, by decide +kernel, by decide +kernel⟩
def sp_is_whole (K : PySem.W.Frag) : Sp := fun vs H Q _ => ∃ (v : V) (t : String), vs = [v] ∧ Kd K H v t ∧ Q (.bl (isInt v)) H
theorem fn_is_whole (T : Tx K mg) : Fn P w K mg base "is_whole" 1 (sp_is_whole K) := by
  obtain ⟨fd, F⟩ := T.d_is_whole
  refine ⟨_, fd, _, F.ok (CX := CX0) sc_is_whole (fun vs H Q E h => ?_) (fun cdv A outer s H vs Q E hr h => ?_), T.g_is_whole, F.kp, F.bindsN fun _ _ _ _ _ _ us hl => match us, hl with | [_], _ => rfl⟩
  · obtain ⟨v, t, rfl, _⟩ := h; rfl
  · obtain ⟨v, t, rfl, ht, q⟩ := h
    refine ⟨_, PSs.nox (pss_one (ps_ret (pe_and (pe_callB (show CallR _ _ (rIsi K) from call_isi) (by rfl) T.isinstance (by decide +kernel) (pa_cons (pv 0) (pa_cons (pe_gt (n := "int") T.int (by rfl) (by decide +kernel)) pa_nil))) (pe_one (pe_not (pe_callB (show CallR _ _ (rIsi K) from call_isi) (by rfl) T.isinstance (by decide +kernel) (pa_cons (pv 0) (pa_cons (pe_gt (n := "bool") T.bool (by rfl) (by decide +kernel)) pa_nil)))))))), ?_⟩
    obtain ⟨k1, k2, _⟩ := kit_kd ht
    refine ⟨_, rfl, _, _, _, _, _, rfl, .ty _, ht, k1, _, rfl, ?_⟩
    rw [kd_isInt ht] at q
    by_cases e : t = "int"
    · subst e
      exact iteT ⟨_, rfl, _, _, _, _, _, rfl, .ty _, ht, k2, _, rfl, q⟩
    · by_cases e2 : t = "bool"
      · subst e2
        exact iteT ⟨_, rfl, _, _, _, _, _, rfl, .ty _, ht, k2, _, rfl, q⟩
      · have f1 : (t == "int") = false := beq_eq_false_iff_ne.mpr e
        have f2 : (t == "bool") = false := beq_eq_false_iff_ne.mpr e2
        rw [f1] at q
        rw [f1, f2]
        exact iteF q
theorem sc_are_numbers : FnScope ["thing", "one"] ["thing"] (defScope s_are_numbers) := ⟨rfl, rfl, rfl, by decide +kernel, rfl, by decide +kernel, by decide +kernel⟩
def sp_are_numbers (K : PySem.W.Frag) : Sp := fun vs H Q _ => ∃ v : V, vs = [v] ∧
  ((∃ (a : Addr) (xs : List V), v = .ref a ∧ SqL K H a xs ∧ xs.length ≤ 1000 ∧ (∀ x ∈ xs, ∃ t, Kd K H x t) ∧ ∀ H', Same H H' → Q (.bl (xs.all isInt)) H') ∨ (∃ t, Kd K H v t ∧ t ≠ "list" ∧ Q (.bl false) H))
theorem kd_mono {K : PySem.W.Frag} {H H' : Hp} {v : V} {t : String} (s : Same H H') (h : Kd K H v t) : Kd K H' v t := by
  generalize e : Value.type t = u at h
  cases h with
  | base b =>
    cases b with
    | non => cases e; exact .base .non
    | bl x => cases e; exact .base (.bl x)
    | int x => cases e; exact .base (.int x)
    | str x => cases e; exact .base (.str x)
    | flt x => cases e; exact .base (.flt x)
    | lst h => cases e; exact .base (.lst (s _ _ h))
    | frz h => cases e; exact .base (.frz (s _ _ h))
    | tup h => cases e; exact .base (.tup (s _ _ h))
    | dK h => cases e; exact .base (.dK (s _ _ h))
    | dT h => cases e; exact .base (.dT (s _ _ h))
  | byt b => cases e; exact .byt b
  | set h => cases e; exact .set (s _ _ h)
  | kList h c => cases e; exact .kList h c
  | kTuple h c => cases e; exact .kTuple h c
  | kDict h c => cases e; exact .kDict h c
  | fTuple h => cases e; exact .fTuple (s _ _ h)
  | fDict h => cases e; exact .fDict (s _ _ h)
theorem bls_all (xs : List V) (f : V → Bool) : xs.map (fun x => V.bl (f x)) = (xs.map f).map V.bl := by rw [List.map_map]; rfl
theorem all_id (xs : List V) (f : V → Bool) : (xs.map f).all id = xs.all f := by rw [List.all_map]; rfl
theorem fn_are_numbers (T : Tx K mg) : Fn P w K mg base "are_numbers" 2 (sp_are_numbers K) := by
  obtain ⟨fd, F⟩ := T.d_are_numbers
  refine ⟨_, fd, _, F.ok (CX := CX0) sc_are_numbers (fun vs H Q E h => ?_) (fun cdv A outer s H vs Q E hr h => ?_), T.g_are_numbers, F.kp, F.bindsN fun _ _ _ _ _ _ us hl => match us, hl with | [_], _ => rfl⟩
  · obtain ⟨v, rfl, _⟩ := h; rfl
  · obtain ⟨v, rfl, h⟩ := h
    refine ⟨_, PSs.nox (pss_one (ps_ret (pe_and (pe_callB (show CallR _ _ (rIsi K) from call_isi) (by rfl) T.isinstance (by decide +kernel) (pa_cons (pv 0) (pa_cons (pe_gt (n := "list") T.list (by rfl) (by decide +kernel)) pa_nil))) (pe_one (pe_callB (show CallR _ _ (rAll K) from cr_all (by rfl)) (by rfl) T.all (by decide +kernel) (pa_cons (pe_lc (own := [("one", 1)]) (g := (gName 1)) (tt := tYes) (by rfl) sc_are_numbers.nd (show PI _ _ _ (iList K _) from pi_list (pv 0)) (blkOk_by (by kernel_rfl)) (fun _ _ _ _ _ => (pg_name (i := 1) sc_are_numbers.nd rfl (by first | exact Or.inl rfl | exact Or.inr rfl))) (fun _ _ _ _ _ => pts_nil) (fun _ _ _ _ _ => (pe_fn (fn_is_whole T) (hr.mono (by first | decide | omega)) (by rfl) (pa_cons (pv 1) pa_nil)))) pa_nil)))))), ?_⟩
    rcases h with ⟨a, xs, rfl, hs, hl, ht, q⟩ | ⟨t, ht, hn, q⟩
    · refine ⟨_, rfl, _, _, _, _, _, rfl, .ty _, kd_list hs, (kit_kd (kd_list hs)).2.2.1, _, rfl, iteT ?_⟩
      refine ⟨_, rfl, a, rfl, ⟨_, hs⟩, fun D nD => lc_map (fun x => .bl (isInt x)) hs nD hl ?_ ?_ gname_mono⟩
      · intro i x H1 hx s1 k hk
        refine ⟨rfl, _, rfl, ?_⟩
        obtain ⟨t, ht⟩ := ht x (List.mem_of_getElem? hx)
        exact ⟨x, t, rfl, kd_mono s1 ht, hk _ (Same.refl _)⟩
      · intro H1 s1 hD
        refine ⟨_, xs.map isInt, rfl, SqL.of (by rw [← bls_all]; exact hD), ?_⟩
        rw [all_id]
        exact q _ s1
    · refine ⟨_, rfl, _, _, _, _, _, rfl, .ty _, ht, (kit_kd ht).2.2.1, _, rfl, ?_⟩
      rw [show (t == "list") = false from beq_eq_false_iff_ne.mpr hn]
      exact iteF q
end
end Song

/-! ### Ev2: counts, singers, rounds, turns -/
namespace Song
open PySem L2
/-! #### plain functions -/
/-- rising, each below the next -/
def rising : List Int → Bool
  | [] => true
  | [_] => true
  | a :: b :: r => decide (a < b) && rising (b :: r)
def areSingers (ns : List Int) (many : Int) : Bool := decide (1 ≤ ns.length ∧ ns.length ≤ 3) && ns.all (fun n => decide (0 ≤ n ∧ n < many)) && rising ns
def zipLt (ns : List Int) : List Bool := (ns.zip (ns.drop 1)).map fun p => decide (p.1 < p.2)
theorem zipLt_all : ∀ ns : List Int, (zipLt ns).all id = rising ns
  | [] => rfl
  | [_] => rfl
  | a :: b :: r => by
    have ih := zipLt_all (b :: r)
    unfold zipLt at ih ⊢
    unfold rising
    simp only [List.drop_succ_cons, List.drop_zero, List.zip_cons_cons, List.map_cons, List.all_cons, id] at ih ⊢
    rw [ih]
/-- 0 <= x < many -/
def inR (many : Int) : V → Bool
  | .int n => decide (0 ≤ n) && decide (n < many)
  | _ => false
theorem inR_all (many : Int) (ns : List Int) : (ns.map V.int).all (inR many) = ns.all fun n => decide (0 ≤ n ∧ n < many) := by
  rw [List.all_map]
  congr 1
  funext n
  show (decide (0 ≤ n) && decide (n < many)) = _
  rw [Bool.decide_and]
theorem int_at {ns : List Int} {i : Nat} {x : V} (h : (ns.map V.int)[i]? = some x) : ∃ n, x = .int n ∧ ns[i]? = some n := by
  rw [List.getElem?_map] at h
  cases e : ns[i]? with
  | none => rw [e] at h; cases h
  | some n => rw [e] at h; exact ⟨n, (Option.some.inj h).symm, rfl⟩
theorem cut1 (ns : List Int) : cutV (ns.map V.int) (some 1) none = (ns.drop 1).map V.int := by
  unfold cutV
  cases ns with
  | nil => rfl
  | cons a r =>
    have e1 : HT.sIx ((a :: r).map V.int).length 0 (some 1) = 1 := by
      show HT.sIx _ 0 (some 1) = 1
      simp [HT.sIx]
    have e2 : HT.sIx ((a :: r).map V.int).length ((a :: r).map V.int).length none = ((a :: r).map V.int).length := rfl
    rw [e1, e2, List.take_of_length_le (by simp), ← List.map_drop]
theorem zip_vals (ns : List Int) : (List.range (min (ns.map V.int).length ((ns.drop 1).map V.int).length)).filterMap (fun i => ((ns.zip (ns.drop 1))[i]?).map fun p => V.bl (decide (p.1 < p.2))) = (zipLt ns).map V.bl := by
  have e : min (ns.map V.int).length ((ns.drop 1).map V.int).length = (ns.zip (ns.drop 1)).length := by simp
  rw [e, range_map]
  unfold zipLt
  rw [List.map_map]
  rfl
section
variable {P : Program} {w : World} {K : PySem.W.Frag} {mg : Str → Option Value} {base : Heap}
theorem sc_check_many : FnScope ["many"] ["many"] (defScope s_check_many) := ⟨rfl, rfl, rfl, by decide +kernel, rfl, by decide +kernel, by decide +kernel⟩
def sp_check_many : Sp := fun vs H Q _ => ∃ n : Int, vs = [.int n] ∧ 1 ≤ n ∧ n ≤ 6 ∧ Q .non H
theorem fn_check_many (T : Tx K mg) : Fn P w K mg base "check_many" 2 sp_check_many := by
  obtain ⟨fd, F⟩ := T.d_check_many
  refine ⟨_, fd, _, F.ok (CX := CX0) sc_check_many (fun vs H Q E h => ?_) (fun cdv A outer s H vs Q E hr h => ?_), T.g_check_many, F.kp, F.bindsN fun _ _ _ _ _ _ us hl => match us, hl with | [_], _ => rfl⟩
  · obtain ⟨n, rfl, _⟩ := h; rfl
  · obtain ⟨n, rfl, h1, h6, q⟩ := h
    refine ⟨_, PSs.nox (pss_one (ps_if (PW.pt (pw_or (pt_not (pt_val (pe_fn (fn_is_whole T) (hr.mono (by first | decide | omega)) (by rfl) (pa_cons (pv 0) pa_nil)))) (pw_or1 (pt_not (pt_chain op_le op_le pe_int (pv 0) (pe_gi T.c_MOST_SINGERS (by rfl))))))) (pss_one ps_never) pss_nil)), ?_⟩
    refine ⟨_, rfl, _, _, rfl, kd_int n, _, rfl, iteF ?_⟩
    refine ⟨_, rfl, _, _, rfl, rfl, _, rfl, ?_⟩
    rw [decide_eq_true h1]
    refine iteT ⟨_, _, rfl, rfl, _, rfl, ?_⟩
    rw [decide_eq_true h6]
    exact iteF q
theorem sc_are_singers : FnScope ["thing", "many", "one", "other"] ["thing", "many"] (defScope s_are_singers) := ⟨rfl, rfl, rfl, by decide +kernel, rfl, by decide +kernel, by decide +kernel⟩
def sp_are_singers (K : PySem.W.Frag) : Sp := fun vs H Q _ => ∃ (a : Addr) (ns : List Int) (many : Int), vs = [.ref a, .int many] ∧ SqL K H a (ns.map V.int) ∧ ns.length ≤ 1000 ∧ ∀ H', Same H H' → Q (.bl (areSingers ns many)) H'
theorem fn_are_singers (T : Tx K mg) : Fn P w K mg base "are_singers" 3 (sp_are_singers K) := by
  obtain ⟨fd, F⟩ := T.d_are_singers
  refine ⟨_, fd, _, F.ok (CX := CX0) sc_are_singers (fun vs H Q E h => ?_) (fun cdv A outer s H vs Q E hr h => ?_), T.g_are_singers, F.kp, F.bindsN fun _ _ _ _ _ _ us hl => match us, hl with | [_, _], _ => rfl⟩
  · obtain ⟨a, ns, many, rfl, _⟩ := h; rfl
  · obtain ⟨a, ns, many, rfl, hs, hl, q⟩ := h
    refine ⟨_, PSs.nox (pss_cons (ps_if (PW.pt (pw_or (pt_not (pt_val (pe_fn (fn_are_numbers T) (hr.mono (by first | decide | omega)) (by rfl) (pa_cons (pv 0) pa_nil)))) (pw_or1 (pt_not (pt_chain op_le op_le pe_int (pe_callB (show CallR _ _ (rLenQ K) from call_len_seq) (by rfl) T.len (by decide +kernel) (pa_cons (pv 0) pa_nil)) (pe_gi T.c_MOST_OF_SONG (by rfl))))))) (pss_one (ps_ret pe_bl)) pss_nil)
      (pss_cons (ps_if (pt_not (pt_val (pe_callB (show CallR _ _ (rAll K) from cr_all (by rfl)) (by rfl) T.all (by decide +kernel) (pa_cons (pe_lc (own := [("one", 2)]) (g := (gName 2)) (tt := tYes) (by rfl) sc_are_singers.nd (show PI _ _ _ (iList K _) from pi_list (pv 0)) (blkOk_by (by kernel_rfl)) (fun _ _ _ _ _ => (pg_name (i := 2) sc_are_singers.nd rfl (by first | exact Or.inl rfl | exact Or.inr rfl))) (fun _ _ _ _ _ => pts_nil) (fun _ _ _ _ _ => (pe_chain op_le op_lt pe_int (pv 2) (pv 1)))) pa_nil)))) (pss_one (ps_ret pe_bl)) pss_nil)
      (pss_one (ps_ret (pe_callB (show CallR _ _ (rAll K) from cr_all (by rfl)) (by rfl) T.all (by decide +kernel) (pa_cons (pe_lc (own := [("one", 2), ("other", 3)]) (g := (gTup K 2 (gCons (gName 2) (gCons (gName 3) gNil)))) (tt := tYes) (by rfl) sc_are_singers.nd (show PI _ _ _ (iZip K _) from pi_zip (by rfl) T.zip (pa_cons (pv 0) (pa_cons (pe_slice (show SlR _ (rSlL K) from sl_list) (pv 0) (po_some pe_int) po_none) pa_nil))) (blkOk_by (by kernel_rfl)) (fun _ _ _ _ _ => (show PG _ _ (gTup K _ _) from pg_tup rfl (pgs_cons (pg_name (i := 2) sc_are_singers.nd rfl (by first | exact Or.inl rfl | exact Or.inr rfl)) (pgs_cons (pg_name (i := 3) sc_are_singers.nd rfl (by first | exact Or.inl rfl | exact Or.inr rfl)) pgs_nil)))) (fun _ _ _ _ _ => pts_nil) (fun _ _ _ _ _ => (pe_cmpR op_lt (pv 2) (pv 3) (nomark _)))) pa_nil)))))), ?_⟩
    have hlV : (ns.map V.int).length ≤ 1000 := by rw [List.length_map]; exact hl
    have allI : (ns.map V.int).all isInt = true := by
      rw [List.all_map, List.all_eq_true]; intro x _; rfl
    refine ⟨_, rfl, _, rfl, .inl ⟨a, _, rfl, hs, hlV, fun x hx => ?_, fun H1 s1 => ?_⟩⟩
    · obtain ⟨i, _, rfl⟩ := List.mem_map.mp hx
      exact ⟨_, kd_int i⟩
    rw [allI]
    refine ⟨_, rfl, iteF ?_⟩
    refine ⟨_, rfl, a, _, rfl, .inl (s1.seq hs), _, _, rfl, rfl, _, rfl, ?_⟩
    rw [List.length_map]
    by_cases h1 : (1 : Int) ≤ (ns.length : Int)
    case neg =>
      have e0 : areSingers ns many = false := by
        unfold areSingers
        rw [decide_eq_false (by omega)]; rfl
      rw [decide_eq_false h1]
      refine iteF ⟨_, rfl, iteT ?_⟩
      rw [e0] at q
      exact q _ s1
    rw [decide_eq_true h1]
    refine iteT ⟨_, _, rfl, rfl, _, rfl, ?_⟩
    by_cases h3 : (ns.length : Int) ≤ 3
    case neg =>
      have e0 : areSingers ns many = false := by
        unfold areSingers
        rw [decide_eq_false (by omega)]; rfl
      rw [decide_eq_false h3]
      rw [e0] at q
      exact iteT (q _ s1)
    rw [decide_eq_true h3]
    refine iteF ?_
    refine ⟨_, rfl, a, rfl, ⟨_, s1.seq hs⟩, fun D nD => lc_map (fun x => .bl (inR many x)) (s1.seq hs) nD hlV ?_ ?_ gname_mono⟩
    · intro i x H2 hx s2 k hk
      obtain ⟨n, rfl, _⟩ := int_at hx
      refine ⟨rfl, _, rfl, _, _, rfl, rfl, _, rfl, ?_⟩
      have hk2 : k (.bl (decide (0 ≤ n) && decide (n < many))) H2 := hk H2 (Same.refl _)
      by_cases h0 : (0 : Int) ≤ n
      · rw [decide_eq_true h0] at hk2 ⊢
        exact iteT ⟨_, rfl, _, _, rfl, rfl, hk2⟩
      · rw [decide_eq_false h0] at hk2 ⊢
        exact iteF hk2
    intro H2 s2 hD
    refine ⟨_, (ns.map V.int).map (inR many), rfl, SqL.of (by rw [← bls_all]; exact hD), _, rfl, ?_⟩
    rw [all_id, inR_all]
    by_cases hA : (ns.all fun n => decide (0 ≤ n ∧ n < many)) = true
    case neg =>
      have e0 : areSingers ns many = false := by
        unfold areSingers
        rw [Bool.eq_false_iff.mpr hA, Bool.and_false]; rfl
      rw [Bool.eq_false_iff.mpr hA]
      rw [e0] at q
      exact iteT (q _ (s1.trans s2))
    rw [hA]
    refine iteF ?_
    have hs2 := (s1.trans s2).seq hs
    refine ⟨_, rfl, _, rfl, _, rfl, a, _, rfl, hs2, fun p np => ?_⟩
    refine to_new np fun H3 s3 hp => ?_
    rw [cut1] at hp
    refine ⟨a, p, _, _, rfl, s3.seq hs2, SqL.of hp, fun D nD => lc_pure (walk_zip rfl) sqL2_mono ⟨s3.seq hs2, SqL.of hp⟩ (fun i => ((ns.zip (ns.drop 1))[i]?).map fun p => V.bl (decide (p.1 < p.2))) nD (by simp; omega) ?_ ?_⟩
    · rintro i v H4 H5 hi s4 ⟨t, x, y, rfl, nt, rfl, hx, hy⟩ k kn hk _
      obtain ⟨n, rfl, hn⟩ := int_at hx
      obtain ⟨m, rfl, hm⟩ := int_at hy
      refine ⟨t, _, rfl, SqT.of upd_same, rfl, _, _, rfl, _, _, rfl, rfl, rfl, yes_of ?_⟩
      refine ⟨_, rfl, _, rfl, _, _, rfl, rfl, ?_⟩
      refine hk _ _ ?_ (Same.new nt)
      have e : (ns.zip (ns.drop 1))[i]? = some (n, m) := by rw [List.getElem?_zip_eq_some]; exact ⟨hn, hm⟩
      rw [e]
      rfl
    · intro H4 s4 hD4
      rw [zip_vals] at hD4
      refine ⟨_, zipLt ns, rfl, SqL.of hD4, ?_⟩
      rw [zipLt_all]
      have e : areSingers ns many = rising ns := by
        unfold areSingers
        rw [hA, decide_eq_true (by omega)]; rfl
      rw [← e]
      exact q _ (((s1.trans s2).trans s3).trans s4)
end
end Song

/-! ### Ut: small things used everywhere -/
namespace Song
open PySem L2
theorem at_int {ls : List Int} {s : Int} (h0 : 0 ≤ s) (h1 : s < ls.length) : atI (ls.map V.int) s = some (.int (ls.getD s.toNat 0)) := by
  obtain ⟨j, rfl⟩ := Int.eq_ofNat_of_zero_le h0
  have hj : j < ls.length := by omega
  refine atI_nat ?_
  rw [List.getElem?_map, List.getElem?_eq_getElem hj]
  simp [List.getD_eq_getElem?_getD, List.getElem?_eq_getElem hj]
theorem max_ite (i j : Int) : (if j > i then j else i) = max i j := by
  split <;> omega
/-- all of ss are places of a list so long -/
def InB (n : Nat) (ss : List Int) : Prop := ∀ s ∈ ss, 0 ≤ s ∧ s < (n : Int)
theorem off_put {S : List Addr} {H : Hp} {a : Addr} {o : HO} (h : a ∈ S) : off S (upd H a o) = off S H := by
  funext b
  by_cases q : b ∈ S
  · rw [off_in q, off_in q]
  · rw [off_out q, off_out q, upd_ne (fun z => q (by rw [z]; exact h))]
theorem new_out {S : List Addr} {H : Hp} {t : Addr} (dom : ∀ a ∈ S, ∃ o, H a = some o) (nt : H t = none) : t ∉ S := fun q => by
  obtain ⟨o, h⟩ := dom t q
  rw [nt] at h; cases h
theorem dom_put {S : List Addr} {H : Hp} {b : Addr} {o : HO} (dom : ∀ a ∈ S, ∃ o, H a = some o) : ∀ a ∈ S, ∃ o', upd H b o a = some o' := fun a ha => by
  by_cases e : a = b
  · rw [e]; exact ⟨o, upd_same⟩
  · rw [upd_ne e]; exact dom a ha
theorem dom_same {S : List Addr} {H H' : Hp} (s : Same H H') (dom : ∀ a ∈ S, ∃ o, H a = some o) : ∀ a ∈ S, ∃ o', H' a = some o' := fun a ha => by
  obtain ⟨o, h⟩ := dom a ha
  exact ⟨o, s _ _ h⟩
theorem rep_flat (n : Nat) : (List.replicate n [V.int 0]).flatten = List.replicate n (V.int 0) := by
  induction n with
  | zero => rfl
  | succ n ih => rw [List.replicate_succ, List.flatten_cons, ih]; rfl
theorem rep_ints (n : Nat) : (List.replicate n (V.int 0)) = (List.replicate n (0 : Int)).map V.int := by rw [List.map_replicate]
theorem Fra.le {S S' : List Addr} {H H' : Hp} (f : Fra S' H H') (sub : ∀ a ∈ S', a ∈ S) : Same (Song.off S H) H' := fun b o h => by
  obtain ⟨q, h⟩ := off_some h
  exact f b o (fun z => q (sub b z)) h
theorem ixN_of {n : Nat} {s : Int} (h0 : 0 ≤ s) (h1 : s < (n : Int)) : ixN n s = some s.toNat := by
  unfold ixN
  rw [if_pos h0, if_pos h1]
theorem areS_len {ss : List Int} {m : Int} (h : areSingers ss m = true) : 1 ≤ ss.length ∧ ss.length ≤ 3 ∧ (∀ s ∈ ss, 0 ≤ s ∧ s < m) ∧ rising ss = true := by
  unfold areSingers at h
  simp only [Bool.and_eq_true, decide_eq_true_eq, List.all_eq_true] at h
  exact ⟨h.1.1.1, h.1.1.2, h.1.2, h.2⟩
theorem snoc_ints (ns : List Int) (n : Int) : (ns ++ [n]).map V.int = ns.map V.int ++ [V.int n] := by rw [List.map_append]; rfl
theorem lt_line {n : Nat} (h : n ≤ 1000) : n < sizeLine := Nat.lt_of_le_of_lt h (by decide)
theorem nodup_len : ∀ {n : Nat} {ws : List Int}, InB n ws → ws.Nodup → ws.length ≤ n
  | 0, [], _, _ => Nat.le_refl _
  | 0, w :: r, h, _ => by have := h w (by simp); omega
  | n + 1, ws, h, nd => by
    have h1 : InB n (ws.erase (n : Int)) := fun s hs => by
      have h2 := h s (List.mem_of_mem_erase hs)
      have h3 : s ≠ (n : Int) := fun e => by
        rw [e] at hs
        exact (nd.not_mem_erase) hs
      omega
    have h2 := nodup_len h1 (nd.erase _)
    have h3 := List.length_erase (a := (n : Int)) (l := ws)
    split at h3 <;> omega
def optV : Option Int → V
  | none => .non
  | some n => .int n
def optD : Option Int → PyData
  | none => .none
  | some n => .int n
def Shp (k : Nat) (d : PyData) : Prop := d.canLay0 = true ∧ d.depth ≤ k
theorem shp_all {k : Nat} : ∀ {xs : List PyData}, (∀ x ∈ xs, Shp k x) → PyData.canLayAll0 xs = true ∧ PyData.depthAll xs ≤ k
  | [], _ => ⟨rfl, Nat.zero_le _⟩
  | x :: xs, h => by
    obtain ⟨h1, h2⟩ := h x (by simp)
    obtain ⟨h3, h4⟩ := shp_all (xs := xs) fun y hy => h y (by simp [hy])
    refine ⟨by rw [PyData.canLayAll0, h1, h3]; rfl, ?_⟩
    rw [PyData.depthAll]
    exact Nat.max_le.mpr ⟨h2, h4⟩
theorem shp_list {k : Nat} {xs : List PyData} (h : ∀ x ∈ xs, Shp k x) : Shp (k + 1) (.list xs) := by
  obtain ⟨h1, h2⟩ := shp_all h
  refine ⟨by rw [PyData.canLay0]; exact h1, ?_⟩
  rw [PyData.depth]
  omega
theorem shp_tuple {k : Nat} {xs : List PyData} (h : ∀ x ∈ xs, Shp k x) : Shp (k + 1) (.tuple xs) := by
  obtain ⟨h1, h2⟩ := shp_all h
  refine ⟨by rw [PyData.canLay0]; exact h1, ?_⟩
  rw [PyData.depth]
  omega
theorem shp_int {k : Nat} (i : Int) : Shp (k + 1) (.int i) := ⟨by rw [PyData.canLay0], by rw [PyData.depth] <;> omega⟩
theorem Shp.mono {k m : Nat} {d : PyData} (h : Shp k d) (hk : k ≤ m) : Shp m d := ⟨h.1, Nat.le_trans h.2 hk⟩
theorem Shp.ok {k : Nat} {d : PyData} (h : Shp k d) (hk : k ≤ 64 := by decide) : SeqAt.shaped d = true := by
  unfold SeqAt.shaped
  rw [h.1, decide_eq_true (Nat.le_trans h.2 hk)]; rfl
theorem shp_ints (ns : List Int) : Shp 2 (.list (ns.map PyData.int)) := shp_list fun x hx => by
  obtain ⟨i, _, rfl⟩ := List.mem_map.mp hx
  exact shp_int i
theorem shp_optD (o : Option Int) : Shp 1 (optD o) := by
  cases o with
  | none => exact ⟨by unfold optD; rw [PyData.canLay0], by unfold optD; rw [PyData.depth] <;> omega⟩
  | some n => exact shp_int n
theorem shp_word {x : Str} (h : PyData.canLay0 (.str x) = true) {k : Nat} : Shp (k + 1) (.str x) := ⟨h, by rw [PyData.depth] <;> omega⟩
theorem eqv_self {k : Nat} {d : PyData} (h : Shp k d) : PyData.eqv d d = true := PySem.SeqAt.eqv_refl d h.1
theorem eqv_nil (ns : List Int) : PyData.eqv (.list (ns.map PyData.int)) (.list []) = ns.isEmpty := by
  cases ns with
  | nil => rfl
  | cons a r => rfl
theorem shp_nil : Shp 1 (.list []) := shp_list (k := 0) fun x hx => by cases hx
theorem inV_ints (n : Int) (ns : List Int) : inV (.int n) (ns.map V.int) = decide (n ∈ ns) := by
  unfold inV
  rw [List.any_map]
  induction ns with
  | nil => rfl
  | cons a r ih =>
    rw [List.any_cons, ih]
    show ((a == n) || _) = _
    by_cases e : a = n
    · subst e; simp
    · have : n ≠ a := fun z => e z.symm
      simp [e, this]
theorem flat_ints (ns : List Int) : (ns.map V.int).all flatV = true := by
  rw [List.all_map, List.all_eq_true]; intro x _; rfl
theorem dp_opt {K : PySem.W.Frag} {H : Hp} (o : Option Int) : Dp K H (optV o) (optD o) := by
  cases o with
  | none => exact .non
  | some n => exact .int n
theorem cut63 {ns : List Int} (h : ns.length ≤ 63) : cutV (ns.map V.int) none (some 63) = ns.map V.int := by
  unfold cutV
  have e1 : HT.sIx (ns.map V.int).length 0 none = 0 := rfl
  have e2 : HT.sIx (ns.map V.int).length (ns.map V.int).length (some 63) = (ns.map V.int).length := by
    simp only [HT.sIx]
    rw [if_neg (by decide), List.length_map]
    have : (63 : Int).toNat = 63 := rfl
    omega
  rw [e1, e2]
  exact List.take_of_length_le (by simp)
/-- the making of an evening, seen from ahead of it -/
theorem made_same {H H' : Hp} {x dx : Addr} {o o' : HO} (nx : H x = none) (ndx : H dx = none) (f : Fra [x] (upd (upd H dx o) x o') H') : Same H H' := fun b o2 e => by
  have n1 : b ≠ x := ne_of_none e nx
  have n2 : b ≠ dx := ne_of_none e ndx
  refine f.one n1 ?_
  rw [upd_ne n1, upd_ne n2]
  exact e
theorem made_free {H : Hp} {x dx a : Addr} {o o' : HO} (h : upd (upd H dx o) x o' a = none) : H a = none := by
  have n1 : a ≠ x := fun e => by rw [e, upd_same] at h; cases h
  rw [upd_ne n1] at h
  have n2 : a ≠ dx := fun e => by rw [e, upd_same] at h; cases h
  rw [upd_ne n2] at h
  exact h
theorem sqT_mono {K : PySem.W.Frag} {a : Addr} {xs : List V} (H H' : Hp) (s : Same H H') (h : SqT K H a xs) : SqT K H' a xs := Same.sqT s h
/-- over a tuple -/
theorem lc_mapT {g : TG} {te : TE} {vs : List Nat} {σ : L2.St} {H1 : Hp} {D : Addr} {Qd : Hp → Prop} {K : PySem.W.Frag} {a : Addr} {xs : List V} (f : V → V) (hSq : SqT K H1 a xs) (nD : H1 D = none) (hlen : xs.length ≤ 1000)
    (hs : ∀ (i : Nat) x H, xs[i]? = some x → Same H1 H → ∀ k : V → Hp → Prop, (∀ H', Same H H' → k (f x) H') → g x (wipe σ vs) H fun σ2 H2 => wipe σ2 vs = wipe σ vs ∧ te σ2 H2 k)
    (hd : ∀ H, Same H1 H → H D = some (.lst (xs.map f)) → Qd H)
    (hg : ∀ x σ H Q Q', (∀ σ2 H2, Q σ2 H2 → Q' σ2 H2) → g x σ H Q → g x σ H Q') : LcAsks (Itt K a) g tYes te vs σ H1 D Qd := by
  refine lc_pure walk_tup sqT_mono hSq (fun i => xs[i]?.map f) nD hlen (fun i x H H' hi s hY k kn hk _ => ?_) (fun H s hD => hd H s (by rw [← range_map]; exact hD))
  obtain ⟨rfl, hx⟩ := hY
  refine hg _ _ _ _ _ (fun σ2 H2 h => ?_) (hs i x H' hx s k fun H2 s2 => hk _ H2 (by rw [hx]; rfl) s2)
  exact ⟨h.1, yes_of h.2⟩
theorem eqv_ints (ns : List Int) : PyData.eqv (.list (ns.map PyData.int)) (.list (ns.map PyData.int)) = true := eqv_self (shp_ints ns)
theorem eqvI_all : ∀ xs ys : List Int, PyData.eqvAll (xs.map PyData.int) (ys.map PyData.int) = decide (xs = ys)
  | [], [] => rfl
  | [], _ :: _ => rfl
  | _ :: _, [] => rfl
  | a :: r, b :: t => by
    show ((a == b) && PyData.eqvAll (r.map PyData.int) (t.map PyData.int)) = _
    rw [eqvI_all r t]
    by_cases h : a = b
    · subst h
      rw [beq_self_eq_true, Bool.true_and]
      exact decide_eq_decide.mpr ⟨fun e => by rw [e], fun e => by injection e⟩
    · rw [beq_eq_false_iff_ne.mpr h, Bool.false_and, decide_eq_false (fun e => h (by injection e))]
theorem eqv_intsD (xs ys : List Int) : PyData.eqv (.list (xs.map PyData.int)) (.list (ys.map PyData.int)) = decide (xs = ys) := eqvI_all xs ys
theorem rising_of : ∀ {ns : List Int}, ns.Pairwise (· < ·) → rising ns = true
  | [], _ => rfl
  | [_], _ => rfl
  | a :: b :: r, h => by
    obtain ⟨h1, h2⟩ := List.pairwise_cons.mp h
    unfold rising
    rw [decide_eq_true (h1 b (by simp)), rising_of h2]; rfl
theorem areS_of {ns : List Int} {m : Int} (h1 : 1 ≤ ns.length) (h3 : ns.length ≤ 3) (hi : ∀ s ∈ ns, 0 ≤ s ∧ s < m) (hr : rising ns = true) : areSingers ns m = true := by
  unfold areSingers
  rw [decide_eq_true (And.intro h1 h3), hr, List.all_eq_true.mpr fun s hs => decide_eq_true (hi s hs)]; rfl
theorem areS_take {ns : List Int} {m : Int} (h : areSingers ns m = true) : areSingers (ns.take 1) m = true := by
  obtain ⟨h1, h3, hi, hr⟩ := areS_len h
  cases ns with
  | nil => simp at h1
  | cons a r => exact areS_of (by simp) (by simp) (fun s hs => hi s (by simp at hs; simp [hs])) rfl
theorem cut_to1 (ns : List Int) : cutV (ns.map V.int) none (some 1) = (ns.take 1).map V.int := by
  unfold cutV
  cases ns with
  | nil => rfl
  | cons a r =>
    have e1 : HT.sIx ((a :: r).map V.int).length 0 none = 0 := rfl
    have e2 : HT.sIx ((a :: r).map V.int).length ((a :: r).map V.int).length (some 1) = 1 := by simp [HT.sIx]
    rw [e1, e2]; rfl
theorem cut_ints (ns : List Int) {b e : Int} (hb : 0 ≤ b) (he : 0 ≤ e) : ∃ ms : List Int, cutV (ns.map V.int) (some b) (some e) = ms.map V.int ∧ ms.length ≤ (e - b).toNat ∧ ∀ z ∈ ms, z ∈ ns := by
  unfold cutV
  refine ⟨(ns.drop (HT.sIx (ns.map V.int).length 0 (some b))).take (HT.sIx (ns.map V.int).length (ns.map V.int).length (some e) - HT.sIx (ns.map V.int).length 0 (some b)), ?_, ?_, ?_⟩
  · rw [← List.map_drop, ← List.map_take]
  · rw [List.length_take, List.length_drop]
    have e1 : ∀ (n d : Nat) (x : Int), 0 ≤ x → HT.sIx n d (some x) = min x.toNat n := fun n d x hx => by
      simp only [HT.sIx]
      rw [if_neg (by omega)]
    rw [e1 _ _ _ hb, e1 _ _ _ he, List.length_map]
    omega
  · intro z hz
    exact List.mem_of_mem_drop (List.mem_of_mem_take hz)
theorem eqv_pair (a b c d : Int) : PyData.eqv (.tuple [.int a, .int b]) (.tuple [.int c, .int d]) = decide (a = c ∧ b = d) := by
  show ((a == c) && ((b == d) && true)) = _
  by_cases h1 : a = c <;> by_cases h2 : b = d <;> simp [h1, h2]
theorem eqv_opt (o o' : Option Int) : PyData.eqv (optD o) (optD o') = decide (o = o') := by
  cases o with
  | none =>
    cases o' with
    | none => rfl
    | some n => rfl
  | some m =>
    cases o' with
    | none => rfl
    | some n =>
      show (m == n) = _
      by_cases h : m = n <;> simp [h]
theorem shp_pair (a b : Int) : Shp 2 (.tuple [.int a, .int b]) := shp_tuple fun x hx => by
  simp only [List.mem_cons, List.not_mem_nil, or_false] at hx
  rcases hx with rfl | rfl <;> exact shp_int _
theorem cut_head (vs : List V) (n : Nat) : cutV vs none (some (n : Int)) = vs.take n := by
  unfold cutV
  have e1 : HT.sIx vs.length 0 none = 0 := rfl
  have e2 : HT.sIx vs.length vs.length (some (n : Int)) = min n vs.length := by
    simp only [HT.sIx]
    rw [if_neg (by omega)]
    rfl
  rw [e1, e2, List.drop_zero]
  by_cases h : n ≤ vs.length
  · rw [Nat.min_eq_left h]; rfl
  · rw [Nat.min_eq_right (by omega), List.take_of_length_le (by omega), List.take_of_length_le (by omega)]
theorem cut_tail (vs : List V) (n : Nat) : cutV vs (some (n : Int)) none = vs.drop n := by
  unfold cutV
  have e1 : HT.sIx vs.length 0 (some (n : Int)) = min n vs.length := by
    simp only [HT.sIx]
    rw [if_neg (by omega)]
    rfl
  have e2 : HT.sIx vs.length vs.length none = vs.length := rfl
  rw [e1, e2]
  by_cases h : n ≤ vs.length
  · rw [Nat.min_eq_left h]
    exact List.take_of_length_le (by rw [List.length_drop]; omega)
  · rw [Nat.min_eq_right (by omega), List.drop_of_length_le (show vs.length ≤ n by omega), List.drop_length]
    exact List.take_nil
@[elab_as_elim] theorem to_made {H : Hp} {x dx : Addr} {o o' : HO} {Q : Hp → Prop} (nx : H x = none) (ndx : H dx = none) (h : ∀ H', Same H H' → H' x = some o' → Q H') : Q (upd (upd H dx o) x o') :=
  h _ (made_same (o := o) (o' := o') nx ndx (Fra.refl _ _)) upd_same
theorem pw_of : ∀ {ns : List Int}, rising ns = true → ns.Pairwise (· < ·)
  | [], _ => .nil
  | [_], _ => List.pairwise_singleton _ _
  | a :: b :: r, h => by
    unfold rising at h
    rw [Bool.and_eq_true] at h
    have h1 := of_decide_eq_true h.1
    have ih := pw_of h.2
    refine List.pairwise_cons.mpr ⟨fun x hx => ?_, ih⟩
    rcases List.mem_cons.mp hx with e | e
    · rw [e]; exact h1
    · exact Int.lt_trans h1 ((List.pairwise_cons.mp ih).1 x e)
/-- two rising lists of the same members are one -/
theorem pw_ext : ∀ {xs ys : List Int}, xs.Pairwise (· < ·) → ys.Pairwise (· < ·) → (∀ z, z ∈ xs ↔ z ∈ ys) → xs = ys
  | [], [], _, _, _ => rfl
  | [], b :: _, _, _, h => by have := (h b).mpr (by simp); cases this
  | a :: _, [], _, _, h => by have := (h a).mp (by simp); cases this
  | a :: r, b :: t, h1, h2, h => by
    obtain ⟨p1, q1⟩ := List.pairwise_cons.mp h1
    obtain ⟨p2, q2⟩ := List.pairwise_cons.mp h2
    have e : a = b := by
      have m1 := (h a).mp (by simp)
      have m2 := (h b).mpr (by simp)
      rcases List.mem_cons.mp m1 with e | e
      · exact e
      · rcases List.mem_cons.mp m2 with e2 | e2
        · exact e2.symm
        · have := p1 b e2; have := p2 a e; omega
    subst e
    rw [pw_ext q1 q2 fun z => ⟨fun m => ?_, fun m => ?_⟩]
    · rcases List.mem_cons.mp ((h z).mp (by simp [m])) with e | e
      · have := p1 z m; omega
      · exact e
    · rcases List.mem_cons.mp ((h z).mpr (by simp [m])) with e | e
      · have := p2 z m; omega
      · exact e
theorem off_free {S : List Addr} {H H' : Hp} (s : Same H H') (n : ∀ a ∈ S, H a = none) : Same H (off S H') := fun b o e => by
  rw [off_out (fun z => by rw [n b z] at e; cases e)]
  exact s _ _ e
theorem dom_fra {S X : List Addr} {H H' : Hp} (f : Fra X H H') (dom : ∀ a ∈ S, ∃ o, H a = some o) (domX : ∀ a ∈ X, ∃ o, H' a = some o) : ∀ a ∈ S, ∃ o, H' a = some o := fun a ha => by
  by_cases e : a ∈ X
  · exact domX a e
  · obtain ⟨o, h⟩ := dom a ha
    exact ⟨o, f a o e h⟩
theorem foldl_take {α β : Type} (f : β → α → β) (b : β) : ∀ (xs : List α) (i : Nat) (x : α), xs[i]? = some x → (xs.take (i + 1)).foldl f b = f ((xs.take i).foldl f b) x := fun xs i x h => by
  obtain ⟨hi, e⟩ := List.getElem?_eq_some_iff.mp h
  rw [List.take_succ_eq_append_getElem hi, List.foldl_append, e]; rfl
end Song

/-! ### Ev3: rounds and turns -/
namespace Song
open PySem L2
section
variable {P : Program} {w : World} {K : PySem.W.Frag} {mg : Str → Option Value} {base : Heap}
theorem sc_floor_of : FnScope ["last", "going", "singer"] ["last", "going", "singer"] (defScope s_floor_of) := ⟨rfl, rfl, rfl, by decide +kernel, rfl, by decide +kernel, by decide +kernel⟩
def sp_floor_of (K : PySem.W.Frag) : Sp := fun vs H Q _ => ∃ (a : Addr) (ls : List Int) (g s : Int), vs = [.ref a, .int g, .int s] ∧ SqL K H a (ls.map V.int) ∧ 0 ≤ s ∧ s < (ls.length : Int) ∧ Q (.int (floorOf ls g s)) H
theorem fn_floor_of (T : Tx K mg) : Fn P w K mg base "floor_of" 1 (sp_floor_of K) := by
  obtain ⟨fd, F⟩ := T.d_floor_of
  refine ⟨_, fd, _, F.ok (CX := CX0) sc_floor_of (fun vs H Q E h => ?_) (fun cdv A outer s H vs Q E hr h => ?_), T.g_floor_of, F.kp, F.bindsN fun _ _ _ _ _ _ us hl => match us, hl with | [_, _, _], _ => rfl⟩
  · obtain ⟨a, ls, g, s, rfl, _⟩ := h; rfl
  · obtain ⟨a, ls, g, s, rfl, hs, h0, h1, q⟩ := h
    refine ⟨_, PSs.nox (pss_one (ps_ret (pe_callB (call_max2 (by rfl)) (by rfl) T.max (by decide +kernel) (pa_cons (pv 1) (pa_cons (pe_op op_add (pe_ix (show IxR _ (rIxL K) from ix_list) (pv 0) (pv 2) (fun _ _ => rfl)) pe_int) pa_nil))))), ?_⟩
    refine ⟨_, rfl, _, rfl, _, rfl, a, _, _, _, rfl, rfl, hs, at_int h0 h1, _, _, rfl, rfl, _, _, rfl, ?_⟩
    rw [max_ite]
    exact q
theorem sc_round_for : FnScope ["last", "going", "singers", "singer"] ["last", "going", "singers"] (defScope s_round_for) := ⟨rfl, rfl, rfl, by decide +kernel, rfl, by decide +kernel, by decide +kernel⟩
def sp_round_for (K : PySem.W.Frag) : Sp := fun vs H Q _ => ∃ (a b : Addr) (ls ss : List Int) (g : Int), vs = [.ref a, .int g, .ref b] ∧ SqL K H a (ls.map V.int) ∧ SqL K H b (ss.map V.int) ∧ InB ls.length ss ∧ ss ≠ [] ∧ ss.length ≤ 1000 ∧
  ∀ H', Same H H' → Q (.int (roundFor ls g ss)) H'
theorem fn_round_for (T : Tx K mg) : Fn P w K mg base "round_for" 2 (sp_round_for K) := by
  obtain ⟨fd, F⟩ := T.d_round_for
  refine ⟨_, fd, _, F.ok (CX := CX0) sc_round_for (fun vs H Q E h => ?_) (fun cdv A outer s H vs Q E hr h => ?_), T.g_round_for, F.kp, F.bindsN fun _ _ _ _ _ _ us hl => match us, hl with | [_, _, _], _ => rfl⟩
  · obtain ⟨a, b, ls, ss, g, rfl, _⟩ := h; rfl
  · obtain ⟨a, b, ls, ss, g, rfl, ha, hb, hi, hn, hl, q⟩ := h
    refine ⟨_, PSs.nox (pss_one (ps_ret (pe_callB (show CallR _ _ (rMax K) from cr_max (by rfl)) (by rfl) T.max (by decide +kernel) (pa_cons (pe_lc (own := [("singer", 3)]) (g := (gName 3)) (tt := tYes) (by rfl) sc_round_for.nd (show PI _ _ _ (iList K _) from pi_list (pv 2)) (blkOk_by (by kernel_rfl)) (fun _ _ _ _ _ => (pg_name (i := 3) sc_round_for.nd rfl (by first | exact Or.inl rfl | exact Or.inr rfl))) (fun _ _ _ _ _ => pts_nil) (fun _ _ _ _ _ => (pe_fn (fn_floor_of T) (hr.mono (by first | decide | omega)) (by rfl) (pa_cons (pv 0) (pa_cons (pv 1) (pa_cons (pv 3) pa_nil)))))) pa_nil)))), ?_⟩
    refine ⟨_, rfl, b, rfl, ⟨_, hb⟩, fun D nD => lc_map (fun x => match x with | .int s => .int (floorOf ls g s) | _ => .non) hb nD (by rw [List.length_map]; exact hl) ?_ ?_ gname_mono⟩
    · intro i x H1 hx s1 k hk
      obtain ⟨s, rfl, hs⟩ := int_at hx
      obtain ⟨h0, h1⟩ := hi s (List.mem_of_getElem? hs)
      exact ⟨rfl, _, rfl, _, rfl, _, rfl, a, ls, g, s, rfl, s1.seq ha, h0, h1, hk _ (Same.refl _)⟩
    · intro H1 s1 hD
      rw [List.map_map] at hD
      refine ⟨_, ss.map (floorOf ls g), rfl, SqL.of (by rw [List.map_map]; exact hD), ?_, fun m hm hle => ?_⟩
      · rw [List.length_map]; exact List.length_pos_iff.mpr hn
      · rw [maxL_eq hm hle]
        exact q _ s1
theorem sc_in_turn : FnScope ["rounds", "waits", "number", "song"] ["rounds", "waits"] (defScope s_in_turn) := ⟨rfl, rfl, rfl, by decide +kernel, rfl, by decide +kernel, by decide +kernel⟩
def sp_in_turn (K : PySem.W.Frag) : Sp := fun vs H Q _ => ∃ (a b : Addr) (rs ws : List Int), vs = [.ref a, .ref b] ∧ SqL K H a (rs.map V.int) ∧ SqL K H b (ws.map V.int) ∧ InB rs.length ws ∧ ws.length ≤ 1000 ∧
  ∀ p H', H p = none → Same H H' → H' p = some (.lst ((inTurn rs ws).map V.int)) → Q (.ref p) H'
/-- what a pair of ints stands for -/
def prOf (H : Hp) : V → Int × Int
  | .ref t => match H t with
    | some (.tup [.int i, .int j]) => (i, j)
    | _ => (0, 0)
  | _ => (0, 0)
theorem prOf_at {H : Hp} {t : Addr} {i j : Int} (h : H t = some (.tup [.int i, .int j])) : prOf H (.ref t) = (i, j) := by
  show (match H t with
    | some (.tup [.int i, .int j]) => (i, j)
    | _ => (0, 0)) = (i, j)
  rw [h]
theorem lexB_ltPr {a b : Int × Int} : SrtO.lexB a b = ltPr a b := by
  cases h : ltPr a b with
  | true =>
    rw [SrtO.lexB_iff]
    rw [ltPr_iff] at h
    omega
  | false =>
    rw [SrtO.lexB_no]
    rw [ltPr_false] at h
    omega
theorem srt_pairs {rs ws : List Int} {H : Hp} {ys zs : List V} (hl : ys.length = ws.length)
    (hy : ∀ (i : Nat) y, ys[i]? = some y → ∃ (t : Addr) (s : Int), ws[i]? = some s ∧ y = .ref t ∧ H t = some (.tup [.int (rs.getD s.toNat 0), .int s]))
    (srt : SrtO.Srtd (ltP (prOf H)) zs) (stb : SrtO.Stb (ltP (prOf H)) zs ys) :
    zs.map (fun z => V.int (prOf H z).2) = (inTurn rs ws).map V.int ∧ ∀ z ∈ zs, ∃ (t : Addr) (i j : Int), z = .ref t ∧ H t = some (.tup [.int i, .int j]) ∧ prOf H z = (i, j) := by
  have e1 : ys.map (prOf H) = ws.map fun s => (rs.getD s.toNat 0, s) := by
    have h2 : (ys.map (prOf H)).length = ws.length := by rw [List.length_map]; exact hl
    refine eq_map_of h2 fun i y e => ?_
    rw [List.getElem?_map] at e
    cases q : ys[i]? with
    | none => rw [q] at e; cases e
    | some v =>
      rw [q] at e
      obtain ⟨t, s, h1, rfl, h3⟩ := hy i v q
      refine ⟨s, h1, ?_⟩
      rw [← Option.some.inj e]
      exact prOf_at h3
  have e2 : zs.map (prOf H) = sortP (ws.map fun s => (rs.getD s.toNat 0, s)) := by
    refine sortP_eq (by rw [← e1]; exact stb.perm.map _) ?_
    refine List.pairwise_map.mpr (srt.imp fun {a b} h => ?_)
    rw [← lexB_ltPr]
    exact h
  refine ⟨?_, fun z hz => ?_⟩
  · unfold inTurn
    rw [← e2, List.map_map, List.map_map]
    rfl
  · obtain ⟨i, hi, rfl⟩ := List.mem_iff_getElem.mp (stb.perm.subset hz)
    obtain ⟨t, s, h1, h2, h3⟩ := hy i _ (List.getElem?_eq_getElem hi)
    exact ⟨t, _, _, h2, h3, by rw [h2]; exact prOf_at h3⟩
theorem inTurn_len (rs ws : List Int) : (inTurn rs ws).length = ws.length := (inTurn_perm rs ws).length_eq
theorem fn_in_turn (T : Tx K mg) : Fn P w K mg base "in_turn" 1 (sp_in_turn K) := by
  obtain ⟨fd, F⟩ := T.d_in_turn
  refine ⟨_, fd, _, F.ok (CX := CX0) sc_in_turn (fun vs H Q E h => ?_) (fun cdv A outer s H vs Q E hr h => ?_), T.g_in_turn, F.kp, F.bindsN fun _ _ _ _ _ _ us hl => match us, hl with | [_, _], _ => rfl⟩
  · obtain ⟨a, b, rs, ws, rfl, _⟩ := h; rfl
  · obtain ⟨a, b, rs, ws, rfl, ha, hb, hi, hl, q⟩ := h
    refine ⟨_, PSs.nox (pss_one (ps_ret (pe_lc (own := [("number", 2), ("song", 3)]) (g := (gTup K 2 (gCons (gName 2) (gCons (gName 3) gNil)))) (tt := tYes) (by rfl) sc_in_turn.nd (show PI _ _ _ (iList K _) from pi_list (pe_callB (show CallR _ _ (rSortedPO K) from cr_sortedPO) (by rfl) T.sorted (by decide +kernel) (pa_cons (pe_lc (own := [("song", 3)]) (g := (gName 3)) (tt := tYes) (by rfl) sc_in_turn.nd (show PI _ _ _ (iList K _) from pi_list (pv 1)) (blkOk_by (by kernel_rfl)) (fun _ _ _ _ _ => (pg_name (i := 3) sc_in_turn.nd rfl (by first | exact Or.inl rfl | exact Or.inr rfl))) (fun _ _ _ _ _ => pts_nil) (fun _ _ _ _ _ => (pe_tup (pa_cons (pe_ix (show IxR _ (rIxL K) from ix_list) (pv 0) (pv 3) (fun _ _ => rfl)) (pa_cons (pv 3) pa_nil))))) pa_nil))) (blkOk_by (by kernel_rfl)) (fun _ _ _ _ _ => (show PG _ _ (gTup K _ _) from pg_tup rfl (pgs_cons (pg_name (i := 2) sc_in_turn.nd rfl (by first | exact Or.inl rfl | exact Or.inr rfl)) (pgs_cons (pg_name (i := 3) sc_in_turn.nd rfl (by first | exact Or.inl rfl | exact Or.inr rfl)) pgs_nil)))) (fun _ _ _ _ _ => pts_nil) (fun _ _ _ _ _ => (pv 3))))), ?_⟩
    refine ⟨_, rfl, b, rfl, ⟨_, hb⟩, fun D nD => lc_all walk_list sqL_mono hb (fun i H y => ∃ (t : Addr) (s : Int), ws[i]? = some s ∧ y = .ref t ∧ H t = some (.tup [.int (rs.getD s.toNat 0), .int s])) ?_ nD (by rw [List.length_map]; exact hl) ?_ ?_ gname_mono⟩
    · rintro i H1 H2 y s1 ⟨t, s, h1, h2, h3⟩
      exact ⟨t, s, h1, h2, s1 _ _ h3⟩
    · rintro i x H1 H2 acc hi1 s1 hD ⟨rfl, hx⟩ k hk
      obtain ⟨s, rfl, hs⟩ := int_at hx
      obtain ⟨h0, h1⟩ := hi s (List.mem_of_getElem? hs)
      refine ⟨rfl, _, rfl, _, rfl, a, _, _, _, rfl, rfl, s1.seq ha, at_int h0 h1, _, rfl, by show 2 ≤ sizeLine; decide, fun t nt => ?_⟩
      refine hk _ _ (Same.new nt) ⟨t, s, hs, rfl, ?_⟩
      rw [off_out (by simp; exact (ne_of_none hD nt).symm)]
      exact upd_same
    · intro ys H1 s1 hD hly hy
      have hy' : ∀ x ∈ ys, ∃ t, x = V.ref t ∧ H1 t = some (.tup [.int (prOf H1 x).1, .int (prOf H1 x).2]) := fun x hx => by
        obtain ⟨i, hi, rfl⟩ := List.mem_iff_getElem.mp hx
        obtain ⟨t, s, h1, h2, h3⟩ := hy i _ (List.getElem?_eq_getElem hi)
        have h4 := (off_some h3).2
        refine ⟨t, h2, ?_⟩
        rw [h2, prOf_at h4]
        exact h4
      refine ⟨D, ys, prOf H1, rfl, SqL.of hD, hy', fun zs p srt stb np => ?_⟩
      have hly : ys.length = ws.length := by rw [hly, List.length_map]
      obtain ⟨hz1, hz2⟩ := srt_pairs (rs := rs) (ws := ws) hly (fun i y e => by
        obtain ⟨t, s, h1, h2, h3⟩ := hy i y e
        exact ⟨t, s, h1, h2, (off_some h3).2⟩) srt stb
      refine to_new np fun H2 s2 hp => ?_
      refine ⟨p, rfl, ⟨_, SqL.of hp⟩, fun D2 nD2 => lc_map (fun z => V.int (prOf H1 z).2) (SqL.of hp) nD2 ?_ ?_ ?_ gtup_mono⟩
      · rw [stb.perm.length_eq]; omega
      · intro i z H3 hz s3 k hk
        obtain ⟨t, u, v, rfl, ht, ep⟩ := hz2 z (List.mem_of_getElem? hz)
        have hk2 := hk H3 (Same.refl _)
        rw [ep] at hk2
        exact ⟨t, _, rfl, SqT.of (s3 _ _ (s2 _ _ ht)), rfl, _, _, rfl, _, _, rfl, rfl, rfl, _, rfl, hk2⟩
      · intro H3 s3 hD3
        rw [hz1] at hD3
        exact q D2 H3 (s1.free (s2.free nD2)) ((s1.trans s2).trans s3) hD3
end
end Song

/-! ### Pl2: an evening's state and its parts, plainly -/
namespace Song
open PySem L2
inductive Part where
  | wish (ss : List Int) (n r : Int)
  | sing (o : Option Int)
  | out (n : Int)
  deriving DecidableEq
structure EvS where
  last : List Int
  going : Int
  rounds : List Int
  waiting : List Int
  tale : List Part
def evNew (many : Int) : EvS := ⟨List.replicate many.toNat 0, 1, [], [], []⟩
def setAll (last : List Int) (ss : List Int) (n : Int) : List Int := ss.foldl (fun l s => l.set s.toNat n) last
theorem setAll_len : ∀ (ss last : List Int) (n : Int), (setAll last ss n).length = last.length
  | [], _, _ => rfl
  | s :: r, last, n => by
    show (setAll (last.set s.toNat n) r n).length = last.length
    rw [setAll_len r, List.length_set]
theorem setAll_snoc (last ss : List Int) (s n : Int) : setAll last (ss ++ [s]) n = (setAll last ss n).set s.toNat n := by
  unfold setAll
  rw [List.foldl_append]
  rfl
def EvS.num (st : EvS) (ss : List Int) : Int := roundFor st.last st.going ss
def EvS.wish (st : EvS) (ss : List Int) : EvS :=
  ⟨setAll st.last ss (st.num ss), st.going, st.rounds ++ [st.num ss], st.waiting ++ [(st.rounds.length : Int)], st.tale ++ [.wish ss st.rounds.length (st.num ss)]⟩
def EvS.queue (st : EvS) : List Int := inTurn st.rounds st.waiting
def EvS.next (st : EvS) : Option Int := st.queue.head?
def EvS.sing (st : EvS) : EvS := match st.next with
  | none => { st with tale := st.tale ++ [.sing none] }
  | some s => { st with waiting := st.waiting.erase s, going := st.rounds.getD s.toNat 0, tale := st.tale ++ [.sing (some s)] }
def EvS.out (st : EvS) (n : Int) : EvS := { st with waiting := st.waiting.erase n, tale := st.tale ++ [.out n] }
/-- what holds of every evening's state -/
structure EvOk (st : EvS) : Prop where
  one : 1 ≤ st.last.length
  six : st.last.length ≤ 6
  inb : InB st.rounds.length st.waiting
  nd : st.waiting.Nodup
  r24 : st.rounds.length ≤ 24
  tw : ∀ ss n r, Part.wish ss n r ∈ st.tale → ss.length ≤ 3
theorem EvOk.w24 {st : EvS} (h : EvOk st) : st.waiting.length ≤ 24 := Nat.le_trans (nodup_len h.inb h.nd) h.r24
theorem evNew_ok {many : Int} (h1 : 1 ≤ many) (h6 : many ≤ 6) : EvOk (evNew many) :=
  ⟨by show 1 ≤ (List.replicate _ _).length; rw [List.length_replicate]; omega, by show (List.replicate _ _).length ≤ 6; rw [List.length_replicate]; omega,
   (fun s h => by cases h), List.nodup_nil, by show 0 ≤ 24; omega, (fun _ _ _ h => by cases h)⟩
theorem EvOk.wish {st : EvS} {ss : List Int} (h : EvOk st) (hr : st.rounds.length < 24) (h3 : ss.length ≤ 3) : EvOk (st.wish ss) where
  one := by show 1 ≤ (setAll _ _ _).length; rw [setAll_len]; exact h.one
  six := by show (setAll _ _ _).length ≤ 6; rw [setAll_len]; exact h.six
  inb := fun s hs => by
    show 0 ≤ s ∧ s < (((st.rounds ++ [_]).length : Nat) : Int)
    rw [List.length_append, List.length_singleton]
    rcases List.mem_append.mp hs with q | q
    · have := h.inb s q; omega
    · have := List.mem_singleton.mp q; omega
  nd := by
    show (st.waiting ++ [_]).Nodup
    refine List.nodup_append.mpr ⟨h.nd, by simp, fun a ha b hb e => ?_⟩
    have := List.mem_singleton.mp hb
    have := h.inb a ha
    omega
  r24 := by show (st.rounds ++ [_]).length ≤ 24; rw [List.length_append, List.length_singleton]; omega
  tw := fun ss' n r hm => by
    rcases List.mem_append.mp hm with q | q
    · exact h.tw ss' n r q
    · have := List.mem_singleton.mp q
      injection this with e _ _
      rw [e]; exact h3
theorem EvS.next_mem {st : EvS} {s : Int} (h : st.next = some s) : s ∈ st.waiting := (inTurn_perm _ _).subset (List.mem_of_mem_head? (by unfold next queue at h; rw [h]; rfl))
theorem EvS.next_none {st : EvS} (h : st.next = none) : st.waiting = [] := by
  unfold next queue at h
  have e := List.head?_eq_none_iff.mp h
  have l := inTurn_len st.rounds st.waiting
  rw [e] at l
  exact List.eq_nil_of_length_eq_zero l.symm
theorem EvOk.sing {st : EvS} (h : EvOk st) : EvOk st.sing := by
  unfold EvS.sing
  cases e : st.next with
  | none => exact ⟨h.one, h.six, h.inb, h.nd, h.r24, fun ss n r hm => h.tw ss n r (by simpa using hm)⟩
  | some s => exact ⟨h.one, h.six, fun x hx => h.inb x (List.mem_of_mem_erase hx), h.nd.erase _, h.r24, fun ss n r hm => h.tw ss n r (by simpa using hm)⟩
theorem EvOk.out {st : EvS} (h : EvOk st) (n : Int) : EvOk (st.out n) := ⟨h.one, h.six, fun x hx => h.inb x (List.mem_of_mem_erase hx), h.nd.erase _, h.r24, fun ss n r hm => h.tw ss n r (by simpa [EvS.out] using hm)⟩
theorem erase_at : ∀ {ns : List Int} {k : Int}, k ∈ ns → ∃ j : Nat, ns[j]? = some k ∧ (∀ m : Nat, m < j → ns[m]? ≠ some k) ∧ ns.eraseIdx j = ns.erase k
  | n :: r, k, h => by
    by_cases e : n = k
    · subst e
      exact ⟨0, rfl, fun m hm => by omega, by simp⟩
    · obtain ⟨j, h1, h2, h3⟩ := erase_at (ns := r) (k := k) ((List.mem_cons.mp h).resolve_left (fun z => e z.symm))
      refine ⟨j + 1, by simpa using h1, fun m hm => ?_, ?_⟩
      · cases m with
        | zero => simpa using e
        | succ m => simpa using h2 m (by omega)
      · rw [List.eraseIdx_cons_succ, h3, List.erase_cons_tail (by simpa using e)]
/-! #### the parts as data -/
def Part.data : Part → PyData
  | .wish ss n r => .tuple [.str "wish", .list (ss.map PyData.int), .int n, .int r]
  | .sing o => .tuple [.str "sing", optD o]
  | .out n => .tuple [.str "out", .int n]
/-- a part laid in the heap -/
def PartAt (H : Hp) : V → Part → Prop
  | .ref t, .wish ss n r => ∃ b, H t = some (.tup [.str "wish", .ref b, .int n, .int r]) ∧ H b = some (.lst (ss.map V.int))
  | .ref t, .sing o => H t = some (.tup [.str "sing", optV o])
  | .ref t, .out n => H t = some (.tup [.str "out", .int n])
  | _, _ => False
def Parts (H : Hp) : List V → List Part → Prop
  | [], [] => True
  | v :: vs, p :: ps => PartAt H v p ∧ Parts H vs ps
  | _, _ => False
theorem PartAt.mono {H H' : Hp} (s : Same H H') {v : V} {p : Part} (h : PartAt H v p) : PartAt H' v p := by
  cases v with
  | ref t =>
    cases p with
    | wish ss n r =>
      obtain ⟨b, h1, h2⟩ := h
      exact ⟨b, s _ _ h1, s _ _ h2⟩
    | sing o => exact s _ _ h
    | out n => exact s _ _ h
  | _ => exact h.elim
theorem Parts.mono {H H' : Hp} (s : Same H H') : ∀ {vs : List V} {ps : List Part}, Parts H vs ps → Parts H' vs ps
  | [], [], _ => trivial
  | _ :: _, _ :: _, h => ⟨h.1.mono s, Parts.mono s h.2⟩
  | [], _ :: _, h => h.elim
  | _ :: _, [], h => h.elim
theorem Parts.snoc {H : Hp} {v : V} {p : Part} (q : PartAt H v p) : ∀ {vs : List V} {ps : List Part}, Parts H vs ps → Parts H (vs ++ [v]) (ps ++ [p])
  | [], [], _ => ⟨q, trivial⟩
  | _ :: _, _ :: _, h => ⟨h.1, Parts.snoc q h.2⟩
  | [], _ :: _, h => h.elim
  | _ :: _, [], h => h.elim
theorem Parts.len {H : Hp} : ∀ {vs : List V} {ps : List Part}, Parts H vs ps → vs.length = ps.length
  | [], [], _ => rfl
  | _ :: _, _ :: _, h => by simp [Parts.len h.2]
  | [], _ :: _, h => h.elim
  | _ :: _, [], h => h.elim
theorem Parts.get {H : Hp} : ∀ {vs : List V} {ps : List Part} {i : Nat} {v : V}, Parts H vs ps → vs[i]? = some v → ∃ p, ps[i]? = some p ∧ PartAt H v p
  | [], [], _, _, _, e => by simp at e
  | _ :: _, _ :: _, 0, _, h, e => by
    simp at e; subst e; exact ⟨_, rfl, h.1⟩
  | _ :: _, _ :: _, i + 1, v, h, e => by
    obtain ⟨p, h1, h2⟩ := Parts.get (i := i) (v := v) h.2 (by simpa using e)
    exact ⟨p, by simpa using h1, h2⟩
  | [], _ :: _, _, _, h, _ => h.elim
  | _ :: _, [], _, _, h, _ => h.elim
theorem Parts.of {H : Hp} : ∀ {vs : List V} {ps : List Part}, vs.length = ps.length → (∀ (i : Nat) v, vs[i]? = some v → ∃ p, ps[i]? = some p ∧ PartAt H v p) → Parts H vs ps
  | [], [], _, _ => trivial
  | v :: vs, p :: ps, hl, h => by
    obtain ⟨p', e, q⟩ := h 0 v rfl
    cases e
    exact ⟨q, Parts.of (by simpa using hl) fun i v' e => h (i + 1) v' (by simpa using e)⟩
  | [], _ :: _, h, _ => by simp at h
  | _ :: _, [], h, _ => by simp at h
theorem PartAt.dp {K : PySem.W.Frag} {H : Hp} {v : V} {p : Part} (h : PartAt H v p) : Dp K H v p.data := by
  cases v with
  | ref t =>
    cases p with
    | wish ss n r =>
      obtain ⟨b, h1, h2⟩ := h
      exact .tup (SqT.of h1) (.cons (.str _) (.cons (dp_ints (SqL.of h2)) (.cons (.int _) (.cons (.int _) .nil))))
    | sing o =>
      refine .tup (SqT.of h) (.cons (.str _) (.cons ?_ .nil))
      cases o with
      | none => exact .non
      | some n => exact .int n
    | out n => exact .tup (SqT.of h) (.cons (.str _) (.cons (.int _) .nil))
  | _ => exact h.elim
theorem Parts.dp {K : PySem.W.Frag} {H : Hp} : ∀ {vs : List V} {ps : List Part}, Parts H vs ps → DpAll K H vs (ps.map Part.data)
  | [], [], _ => .nil
  | _ :: _, _ :: _, h => .cons h.1.dp (Parts.dp h.2)
  | [], _ :: _, h => h.elim
  | _ :: _, [], h => h.elim
/-! #### shapes -/
theorem shp_part (p : Part) : Shp 3 p.data := by
  cases p with
  | wish ss n r =>
    refine shp_tuple fun x hx => ?_
    simp only [List.mem_cons, List.not_mem_nil, or_false] at hx
    rcases hx with rfl | rfl | rfl | rfl
    · exact shp_word (by decide +kernel)
    · exact shp_ints ss
    · exact shp_int _
    · exact shp_int _
  | sing o =>
    refine shp_tuple fun x hx => ?_
    simp only [List.mem_cons, List.not_mem_nil, or_false] at hx
    rcases hx with rfl | rfl
    · exact shp_word (by decide +kernel)
    · exact (shp_optD o).mono (by decide)
  | out n =>
    refine shp_tuple fun x hx => ?_
    simp only [List.mem_cons, List.not_mem_nil, or_false] at hx
    rcases hx with rfl | rfl
    · exact shp_word (by decide +kernel)
    · exact shp_int _
theorem shp_tale (ps : List Part) : Shp 4 (.list (ps.map Part.data)) := shp_list fun x hx => by
  obtain ⟨p, _, rfl⟩ := List.mem_map.mp hx
  exact shp_part p
end Song

/-! ### Ev4: an evening in the heap, and its methods -/
namespace Song
open PySem L2
/-- where an evening's lists stand -/
structure Ad where
  la : Addr
  ro : Addr
  wa : Addr
  ca : Addr
def own (p : Addr) (A : Ad) : List Addr := [p, A.la, A.ro, A.wa, A.ca]
def evF (A : Ad) (g : Int) : List (Str × V) := [("last", .ref A.la), ("going", .int g), ("rounds", .ref A.ro), ("waiting", .ref A.wa), ("came", .ref A.ca)]
theorem evF_last (A : Ad) (g : Int) : (evF A g).lookup ("last" : Str) = some (.ref A.la) := by kernel_rfl
theorem evF_going (A : Ad) (g : Int) : (evF A g).lookup ("going" : Str) = some (.int g) := by kernel_rfl
theorem evF_rounds (A : Ad) (g : Int) : (evF A g).lookup ("rounds" : Str) = some (.ref A.ro) := by kernel_rfl
theorem evF_waiting (A : Ad) (g : Int) : (evF A g).lookup ("waiting" : Str) = some (.ref A.wa) := by kernel_rfl
theorem evF_came (A : Ad) (g : Int) : (evF A g).lookup ("came" : Str) = some (.ref A.ca) := by kernel_rfl
theorem evF_put (A : Ad) (g g' : Int) : putF "going" (.int g') (evF A g) = evF A g' := by kernel_rfl
theorem evF_no (A : Ad) (g : Int) {m : Str} (h : m ∉ (["last", "going", "rounds", "waiting", "came"] : List Str)) : (evF A g).lookup m = none := by
  simp only [List.mem_cons, List.not_mem_nil, or_false, not_or] at h
  obtain ⟨h1, h2, h3, h4, h5⟩ := h
  unfold evF
  have f : ∀ {x : Str}, ¬ m = x → (m == x) = false := fun h => beq_eq_false_iff_ne.mpr h
  simp only [List.lookup, f h1, f h2, f h3, f h4, f h5]
structure Cells (C : Addr) (H : Hp) (p : Addr) (A : Ad) (last : List Int) (going : Int) (rounds waiting : List Int) (cs : List V) : Prop where
  pp : ∃ dx, H p = some (.ins C dx (evF A going))
  la : H A.la = some (.lst (last.map V.int))
  ro : H A.ro = some (.lst (rounds.map V.int))
  wa : H A.wa = some (.lst (waiting.map V.int))
  ca : H A.ca = some (.lst cs)
  nd : (own p A).Nodup
section
variable {C : Addr} {H H' : Hp} {p : Addr} {A : Ad} {last : List Int} {going : Int} {rounds waiting : List Int} {cs : List V}
theorem Cells.mono (s : Same H H') (c : Cells C H p A last going rounds waiting cs) : Cells C H' p A last going rounds waiting cs := by
  obtain ⟨⟨dx, h1⟩, h2, h3, h4, h5, nd⟩ := c
  exact ⟨⟨dx, s _ _ h1⟩, s _ _ h2, s _ _ h3, s _ _ h4, s _ _ h5, nd⟩
theorem Cells.ne (c : Cells C H p A last going rounds waiting cs) : p ≠ A.la ∧ p ≠ A.ro ∧ p ≠ A.wa ∧ p ≠ A.ca ∧ A.la ≠ A.ro ∧ A.la ≠ A.wa ∧ A.la ≠ A.ca ∧ A.ro ≠ A.wa ∧ A.ro ≠ A.ca ∧ A.wa ≠ A.ca := by
  have h := c.nd
  unfold own at h
  simp only [List.nodup_cons, List.mem_cons, List.not_mem_nil, or_false, not_or] at h
  obtain ⟨⟨a1, a2, a3, a4⟩, ⟨b1, b2, b3⟩, ⟨c1, c2⟩, d1, _⟩ := h
  exact ⟨a1, a2, a3, a4, b1, b2, b3, c1, c2, d1⟩
theorem Cells.putLa (c : Cells C H p A last going rounds waiting cs) (l : List Int) : Cells C (upd H A.la (.lst (l.map V.int))) p A l going rounds waiting cs := by
  obtain ⟨a1, a2, a3, a4, b1, b2, b3, c1, c2, d1⟩ := c.ne
  obtain ⟨⟨dx, h1⟩, h2, h3, h4, h5, nd⟩ := c
  exact ⟨⟨dx, by rw [upd_ne a1]; exact h1⟩, upd_same, by rw [upd_ne b1.symm]; exact h3, by rw [upd_ne b2.symm]; exact h4, by rw [upd_ne b3.symm]; exact h5, nd⟩
theorem Cells.putRo (c : Cells C H p A last going rounds waiting cs) (l : List Int) : Cells C (upd H A.ro (.lst (l.map V.int))) p A last going l waiting cs := by
  obtain ⟨a1, a2, a3, a4, b1, b2, b3, c1, c2, d1⟩ := c.ne
  obtain ⟨⟨dx, h1⟩, h2, h3, h4, h5, nd⟩ := c
  exact ⟨⟨dx, by rw [upd_ne a2]; exact h1⟩, by rw [upd_ne b1]; exact h2, upd_same, by rw [upd_ne c1.symm]; exact h4, by rw [upd_ne c2.symm]; exact h5, nd⟩
theorem Cells.putWa (c : Cells C H p A last going rounds waiting cs) (l : List Int) : Cells C (upd H A.wa (.lst (l.map V.int))) p A last going rounds l cs := by
  obtain ⟨a1, a2, a3, a4, b1, b2, b3, c1, c2, d1⟩ := c.ne
  obtain ⟨⟨dx, h1⟩, h2, h3, h4, h5, nd⟩ := c
  exact ⟨⟨dx, by rw [upd_ne a3]; exact h1⟩, by rw [upd_ne b2]; exact h2, by rw [upd_ne c1]; exact h3, upd_same, by rw [upd_ne d1.symm]; exact h5, nd⟩
theorem Cells.putCa (c : Cells C H p A last going rounds waiting cs) (l : List V) : Cells C (upd H A.ca (.lst l)) p A last going rounds waiting l := by
  obtain ⟨a1, a2, a3, a4, b1, b2, b3, c1, c2, d1⟩ := c.ne
  obtain ⟨⟨dx, h1⟩, h2, h3, h4, h5, nd⟩ := c
  exact ⟨⟨dx, by rw [upd_ne a4]; exact h1⟩, by rw [upd_ne b3]; exact h2, by rw [upd_ne c2]; exact h3, by rw [upd_ne d1]; exact h4, upd_same, nd⟩
theorem Cells.putGo (c : Cells C H p A last going rounds waiting cs) {dx : Addr} (g : Int) : Cells C (upd H p (.ins C dx (evF A g))) p A last g rounds waiting cs := by
  obtain ⟨a1, a2, a3, a4, b1, b2, b3, c1, c2, d1⟩ := c.ne
  obtain ⟨_, h2, h3, h4, h5, nd⟩ := c
  exact ⟨⟨dx, upd_same⟩, by rw [upd_ne a1.symm]; exact h2, by rw [upd_ne a2.symm]; exact h3, by rw [upd_ne a3.symm]; exact h4, by rw [upd_ne a4.symm]; exact h5, nd⟩
end
/-- the evening at p tells st; its parts lie outside of S, all that may change -/
structure Ev (K : PySem.W.Frag) (S : List Addr) (H : Hp) (p : Addr) (A : Ad) (st : EvS) : Prop where
  cell : ∃ cs, Cells (He.ga K "Evening") H p A st.last st.going st.rounds st.waiting cs ∧ Parts (off S H) cs st.tale
  sub : ∀ a ∈ own p A, a ∈ S
  dom : ∀ a ∈ S, ∃ o, H a = some o
  few : st.tale.length ≤ 900
theorem Ev.mono {K : PySem.W.Frag} {S : List Addr} {H H' : Hp} {p : Addr} {A : Ad} {st : EvS} (s : Same H H') (e : Ev K S H p A st) : Ev K S H' p A st := by
  obtain ⟨⟨cs, c, q⟩, sub, dom, few⟩ := e
  refine ⟨⟨cs, c.mono s, q.mono (off_mono s)⟩, sub, fun a ha => ?_, few⟩
  obtain ⟨o, h⟩ := dom a ha
  exact ⟨o, s _ _ h⟩
theorem memA (p : Addr) (A : Ad) : p ∈ own p A ∧ A.la ∈ own p A ∧ A.ro ∈ own p A ∧ A.wa ∈ own p A ∧ A.ca ∈ own p A := by
  unfold own; simp
section
variable {P : Program} {w : World} {K : PySem.W.Frag} {mg : Str → Option Value} {base : Heap}
/-! #### Evening(many) -/
theorem sc_Evening___init__ : FnScope ["self", "many"] ["self", "many"] (defScope s_Evening___init__) := ⟨rfl, rfl, rfl, by decide +kernel, rfl, by decide +kernel, by decide +kernel⟩
def sp_ev_init (K : PySem.W.Frag) : Sp := fun vs H Q _ => ∃ (p dx : Addr) (n : Int), vs = [.ref p, .int n] ∧ 1 ≤ n ∧ n ≤ 6 ∧ H p = some (.ins (He.ga K "Evening") dx []) ∧
  ∀ H' A, Fra [p] H H' → Cells (He.ga K "Evening") H' p A (List.replicate n.toNat 0) 1 [] [] [] → H A.la = none → H A.ro = none → H A.wa = none → H A.ca = none → Q .non H'
theorem fra_free {H H' : Hp} {p b : Addr} {o : HO} (f : Fra [p] H H') (hp : H p = some o) (nb : H' b = none) : (H b = none ∨ b = p) := by
  by_cases e : b = p
  · exact .inr e
  · refine .inl ?_
    cases q : H b with
    | none => rfl
    | some o => rw [f.one e q] at nb; cases nb
theorem mk_Evening (T : Tx K mg) : Mke P w K mg base "Evening" (He.ga K "Evening") 3 (sp_ev_init K) := by
  obtain ⟨fd, F⟩ := T.d_Evening___init__
  refine ⟨_, fd, _, F.ok (CX := CX0) sc_Evening___init__ (fun vs H Q E h => ?_) (fun cdv A outer s H vs Q E hr h => ?_), T.mk_Evening, T.g_Evening, F.bindsN fun _ _ _ _ _ _ us hl => match us, hl with | [_, _], _ => rfl⟩
  · obtain ⟨p, dx, n, rfl, _⟩ := h; rfl
  · obtain ⟨p, dx, n, rfl, h1, h6, hp, q⟩ := h
    refine ⟨_, PSs.nox (pss_cons (ps_expr (pe_fn (fn_check_many T) (hr.mono (by first | decide | omega)) (by rfl) (pa_cons (pv 1) pa_nil)))
      (pss_cons (show PS _ _ (sFld K _ _ _) from ps_fld (pv 0) (pe_op op_rep (pe_lst (pa_cons pe_int pa_nil)) (pv 1)) rfl)
      (pss_cons (show PS _ _ (sFld K _ _ _) from ps_fld (pv 0) pe_int rfl)
      (pss_cons (show PS _ _ (sFld K _ _ _) from ps_fld (pv 0) (pe_lst pa_nil) rfl)
      (pss_cons (show PS _ _ (sFld K _ _ _) from ps_fld (pv 0) (pe_lst pa_nil) rfl)
      (pss_one (show PS _ _ (sFld K _ _ _) from ps_fld (pv 0) (pe_lst pa_nil) rfl))))))), ?_⟩
    refine ⟨_, rfl, n, rfl, h1, h6, ?_⟩
    refine ⟨by show 1 ≤ sizeLine; decide, fun z nz => ?_⟩
    refine to_new nz fun H1 s1 hz => ?_
    refine ⟨_, rfl, z, n, _, rfl, rfl, hz, by omega, by omega, ?_, fun a na => ?_⟩
    · show 1 * n.toNat ≤ sizeLine
      have : sizeLine = 16777216 := by decide
      omega
    rw [rep_flat]
    refine to_new na fun H2 s2 ha => ?_
    have hp2 := s2 _ _ (s1 _ _ hp)
    have npa : p ≠ a := ne_of_none (s1 _ _ hp) na
    refine ⟨_, rfl, p, _, dx, _, rfl, hp2, T.cls_Evening, T.na_Evening_last, by show 0 < 1000; decide, ?_⟩
    refine to_put fun H3 f3 hp3 => ?_
    have ha3 := f3.one npa.symm ha
    refine ⟨_, rfl, p, _, dx, _, rfl, hp3, T.cls_Evening, T.na_Evening_going, by show 1 < 1000; decide, ?_⟩
    refine to_put fun H4 f4 hp4 => ?_
    have ha4 := f4.one npa.symm ha3
    refine ⟨Nat.zero_le _, fun b nb => ?_⟩
    refine to_new nb fun H5 s5 hb => ?_
    have npb : p ≠ b := ne_of_none hp4 nb
    have nab : a ≠ b := ne_of_none ha4 nb
    refine ⟨_, rfl, p, _, dx, _, rfl, s5 _ _ hp4, T.cls_Evening, T.na_Evening_rounds, by show 2 < 1000; decide, ?_⟩
    refine to_put fun H6 f6 hp6 => ?_
    have ha6 := f6.one npa.symm (s5 _ _ ha4)
    have hb6 := f6.one npb.symm hb
    refine ⟨Nat.zero_le _, fun c nc => ?_⟩
    refine to_new nc fun H7 s7 hc => ?_
    have npc : p ≠ c := ne_of_none hp6 nc
    have nac : a ≠ c := ne_of_none ha6 nc
    have nbc : b ≠ c := ne_of_none hb6 nc
    refine ⟨_, rfl, p, _, dx, _, rfl, s7 _ _ hp6, T.cls_Evening, T.na_Evening_waiting, by show 3 < 1000; decide, ?_⟩
    refine to_put fun H8 f8 hp8 => ?_
    have ha8 := f8.one npa.symm (s7 _ _ ha6)
    have hb8 := f8.one npb.symm (s7 _ _ hb6)
    have hc8 := f8.one npc.symm hc
    refine ⟨Nat.zero_le _, fun d nd => ?_⟩
    refine to_new nd fun H9 s9 hd => ?_
    have npd : p ≠ d := ne_of_none hp8 nd
    have nad : a ≠ d := ne_of_none ha8 nd
    have nbd : b ≠ d := ne_of_none hb8 nd
    have ncd : c ≠ d := ne_of_none hc8 nd
    refine ⟨_, rfl, p, _, dx, _, rfl, s9 _ _ hp8, T.cls_Evening, T.na_Evening_came, by show 4 < 1000; decide, ?_⟩
    refine to_put fun H10 f10 hp10 => ?_
    have fr2 : Fra [p] H H2 := Fra.of (s1.trans s2)
    have fr4 : Fra [p] H H4 := (fr2.trans f3).trans f4
    have fr6 : Fra [p] H H6 := (fr4.trans (Fra.of s5)).trans f6
    have fr8 : Fra [p] H H8 := (fr6.trans (Fra.of s7)).trans f8
    have fr10 : Fra [p] H H10 := (fr8.trans (Fra.of s9)).trans f10
    refine q H10 ⟨a, b, c, d⟩ fr10 ⟨⟨dx, ?_⟩, ?_, ?_, ?_, ?_, ?_⟩ (s1.free na) ((fra_free fr4 hp nb).resolve_right npb.symm) ((fra_free fr6 hp nc).resolve_right npc.symm) ((fra_free fr8 hp nd).resolve_right npd.symm)
    · rw [hp10]; exact congrArg some (congrArg (HO.ins _ dx) (by kernel_rfl))
    · exact f10.one npa.symm (s9 _ _ (by rw [← rep_ints]; exact ha8))
    · exact f10.one npb.symm (s9 _ _ hb8)
    · exact f10.one npc.symm (s9 _ _ hc8)
    · exact f10.one npd.symm hd
    · show [p, a, b, c, d].Nodup
      simp only [List.nodup_cons, List.mem_cons, List.not_mem_nil, or_false, not_or]
      exact ⟨⟨npa, npb, npc, npd⟩, ⟨nab, nac, nad⟩, ⟨nbc, nbd⟩, ncd, not_false, List.nodup_nil⟩
end
end Song

/-! ### Ev5: wish, sing, withdraw and the rest -/
namespace Song
open PySem L2
section
variable {C : Addr} {H : Hp} {p : Addr} {A : Ad} {last : List Int} {going : Int} {rounds waiting : List Int} {cs : List V} {Q : Hp → Prop}
@[elab_as_elim] theorem to_la (c : Cells C H p A last going rounds waiting cs) (l : List Int) (h : ∀ H', Fra (own p A) H H' → Cells C H' p A l going rounds waiting cs → Q H') : Q (upd H A.la (.lst (l.map V.int))) :=
  h _ (Fra.put (memA p A).2.1) (c.putLa l)
@[elab_as_elim] theorem to_ro (c : Cells C H p A last going rounds waiting cs) (l : List Int) (h : ∀ H', Fra (own p A) H H' → Cells C H' p A last going l waiting cs → Q H') : Q (upd H A.ro (.lst (l.map V.int))) :=
  h _ (Fra.put (memA p A).2.2.1) (c.putRo l)
@[elab_as_elim] theorem to_wa (c : Cells C H p A last going rounds waiting cs) (l : List Int) (h : ∀ H', Fra (own p A) H H' → Cells C H' p A last going rounds l cs → Q H') : Q (upd H A.wa (.lst (l.map V.int))) :=
  h _ (Fra.put (memA p A).2.2.2.1) (c.putWa l)
@[elab_as_elim] theorem to_ca (c : Cells C H p A last going rounds waiting cs) (l : List V) (h : ∀ H', Fra (own p A) H H' → Cells C H' p A last going rounds waiting l → (∀ b o, b ≠ A.ca → H b = some o → H' b = some o) → Q H') : Q (upd H A.ca (.lst l)) :=
  h _ (Fra.put (memA p A).2.2.2.2) (c.putCa l) fun b o n e => by rw [upd_ne n]; exact e
@[elab_as_elim] theorem to_go (c : Cells C H p A last going rounds waiting cs) (dx : Addr) (g : Int) (h : ∀ H', Fra (own p A) H H' → Cells C H' p A last g rounds waiting cs → Q H') : Q (upd H p (.ins C dx (evF A g))) :=
  h _ (Fra.put (memA p A).1) (c.putGo g)
end
theorem Cells.dom {C : Addr} {H H' : Hp} {p : Addr} {A : Ad} {last : List Int} {going : Int} {rounds waiting : List Int} {cs : List V} {S : List Addr} (c : Cells C H' p A last going rounds waiting cs) (f : Fra (own p A) H H')
    (d : ∀ a ∈ S, ∃ o, H a = some o) : ∀ a ∈ S, ∃ o, H' a = some o := fun a ha => by
  by_cases q : a ∈ own p A
  · unfold own at q
    simp only [List.mem_cons, List.not_mem_nil, or_false] at q
    obtain ⟨dx, hp⟩ := c.pp
    rcases q with e | e | e | e | e
    · rw [e]; exact ⟨_, hp⟩
    · rw [e]; exact ⟨_, c.la⟩
    · rw [e]; exact ⟨_, c.ro⟩
    · rw [e]; exact ⟨_, c.wa⟩
    · rw [e]; exact ⟨_, c.ca⟩
  · obtain ⟨o, h⟩ := d a ha
    exact ⟨o, f a o q h⟩
section
variable {P : Program} {w : World} {K : PySem.W.Frag} {mg : Str → Option Value} {base : Heap}
theorem sc_Evening_wish : FnScope ["self", "singers", "song", "number", "singer"] ["self", "singers"] (defScope s_Evening_wish) := ⟨rfl, rfl, rfl, by decide +kernel, rfl, by decide +kernel, by decide +kernel⟩
def sp_wish (K : PySem.W.Frag) : Sp := fun vs H Q _ => ∃ (S : List Addr) (p a : Addr) (A : Ad) (st : EvS) (ss : List Int), vs = [.ref p, .ref a] ∧ Ev K S H p A st ∧ EvOk st ∧ st.tale.length < 900 ∧ SqL K (off (own p A) H) a (ss.map V.int) ∧
  areSingers ss st.last.length = true ∧ st.rounds.length < 24 ∧
  ∀ H' t, Fra (own p A) H H' → Ev K S H' p A (st.wish ss) → H t = none → H' t = some (.tup [.int st.rounds.length, .int (st.num ss)]) → Q (.ref t) H'
theorem me_Evening_wish (T : Tx K mg) : Me P w K mg base (He.ga K "Evening") "wish" 4 (sp_wish K) := by
  obtain ⟨fd, F⟩ := T.d_Evening_wish
  refine ⟨_, fd, _, F.ok (CX := CX0) sc_Evening_wish (fun vs H Q E h => ?_) (fun cdv A outer s H vs Q E hr h => ?_), T.cls_Evening, T.me_Evening_wish, F.bindsN fun _ _ _ _ _ _ us hl => match us, hl with | [_, _], _ => rfl⟩
  · obtain ⟨S, p, a, A, st, ss, rfl, _⟩ := h; rfl
  · obtain ⟨S, p, a, A', st, ss, rfl, ev, ok, hlt, hs, hA, h24, q⟩ := h
    obtain ⟨⟨cs, c, hq⟩, sub, dom, few⟩ := ev
    obtain ⟨s1, s3, sin, _⟩ := areS_len hA
    have hsH : SqL K H a (ss.map V.int) := (off_le _ H).seq hs
    have idS : ∀ x ∈ own p A', x ∈ own p A' := fun _ h => h
    refine ⟨_, PSs.nox (pss_cons (ps_if (pt_not (pt_val (pe_fn (fn_are_singers T) (hr.mono (by first | decide | omega)) (by rfl) (pa_cons (pv 1) (pa_cons (pe_callB (show CallR _ _ (rLenQ K) from call_len_seq) (by rfl) T.len (by decide +kernel) (pa_cons (show PE _ _ (tFld K _ _) from pe_fld (pv 0) rfl) pa_nil)) pa_nil))))) (pss_one ps_never) pss_nil)
      (pss_cons (ps_if (pt_cmpR op_eq (pe_callB (show CallR _ _ (rLenQ K) from call_len_seq) (by rfl) T.len (by decide +kernel) (pa_cons (show PE _ _ (tFld K _ _) from pe_fld (pv 0) rfl) pa_nil)) (pe_gi T.c_MOST_SONGS (by rfl)) (nomark _)) (pss_one ps_never) pss_nil)
      (pss_cons (ps_par (i := 2) (j := 3) (by rfl) sc_Evening_wish.nd rfl rfl (by decide) rfl rfl (pa_cons (pe_callB (show CallR _ _ (rLenQ K) from call_len_seq) (by rfl) T.len (by decide +kernel) (pa_cons (show PE _ _ (tFld K _ _) from pe_fld (pv 0) rfl) pa_nil)) (pa_cons (pe_fn (fn_round_for T) (hr.mono (by first | decide | omega)) (by rfl) (pa_cons (show PE _ _ (tFld K _ _) from pe_fld (pv 0) rfl) (pa_cons (show PE _ _ (tFld K _ _) from pe_fld (pv 0) rfl) (pa_cons (pv 1) pa_nil)))) pa_nil)) (by rfl))
      (pss_cons (ps_expr (show PE _ _ (tBM K _ _ _ _) from pe_bm PySem.F.plainAttrs_list PySem.F.slot_list_append PySem.F.type_list_append mt_append (show PE _ _ (tFld K _ _) from pe_fld (pv 0) rfl) (pa_cons (pv 3) pa_nil)))
      (pss_cons (ps_expr (show PE _ _ (tBM K _ _ _ _) from pe_bm PySem.F.plainAttrs_list PySem.F.slot_list_append PySem.F.type_list_append mt_append (show PE _ _ (tFld K _ _) from pe_fld (pv 0) rfl) (pa_cons (pv 2) pa_nil)))
      (pss_cons (ps_for PassesOwn.never rfl (show PI _ _ _ (iList K _) from pi_list (pv 1)) (pg_name (i := 4) sc_Evening_wish.nd rfl (by first | exact Or.inl rfl | exact Or.inr rfl))
      (pss_one (ps_asg (pv 3) (pg_sub (show PE _ _ (tFld K _ _) from pe_fld (pv 0) rfl) (pv 4) set_list))))
      (pss_cons (ps_expr (show PE _ _ (tBM K _ _ _ _) from pe_bm PySem.F.plainAttrs_list PySem.F.slot_list_append PySem.F.type_list_append mt_append (show PE _ _ (tFld K _ _) from pe_fld (pv 0) rfl) (pa_cons (pe_tup (pa_cons pe_str (pa_cons (pe_callTy (show CallR _ _ (rListO K) from call_list_of) (by rfl) T.list (by decide +kernel) (pa_cons (pv 1) pa_nil)) (pa_cons (pv 2) (pa_cons (pv 3) pa_nil))))) pa_nil)))
      (pss_one (ps_ret (pe_tup (pa_cons (pv 2) (pa_cons (pv 3) pa_nil)))))))))))), ?_⟩
    obtain ⟨dx, hp⟩ := c.pp
    refine ⟨_, rfl, _, rfl, p, _, dx, _, _, rfl, hp, T.cls_Evening, T.na_Evening_last, evF_last _ _, A'.la, _, rfl, .inl (SqL.of c.la), a, ss, _, rfl, hsH, by omega, fun H1 t1 => ?_⟩
    rw [List.length_map, hA]
    refine ⟨_, rfl, iteF ?_⟩
    have c1 := c.mono t1
    have hp1 := t1 _ _ hp
    refine ⟨_, rfl, p, _, dx, _, _, rfl, hp1, T.cls_Evening, T.na_Evening_rounds, evF_rounds _ _, A'.ro, _, rfl, .inl (SqL.of c1.ro), rfl, _, rfl, ?_⟩
    rw [List.length_map, decide_eq_false (by intro z; injection z; omega)]
    refine iteF ?_
    refine ⟨_, rfl, p, _, dx, _, _, rfl, hp1, T.cls_Evening, T.na_Evening_rounds, evF_rounds _ _, A'.ro, _, rfl, .inl (SqL.of c1.ro), ?_⟩
    rw [List.length_map]
    refine ⟨_, rfl, p, _, dx, _, _, rfl, hp1, T.cls_Evening, T.na_Evening_last, evF_last _ _, _, rfl, p, _, dx, _, _, rfl, hp1, T.cls_Evening, T.na_Evening_going, evF_going _ _, _, rfl,
      A'.la, a, st.last, ss, st.going, rfl, SqL.of c1.la, t1.seq hsH, sin, (fun e => by rw [e] at s1; simp at s1), by omega, fun H2 t2 => ?_⟩
    have c2 := c1.mono t2
    have t12 := t1.trans t2
    refine ⟨_, _, rfl, ?_⟩
    have hp2 := t2 _ _ hp1
    refine ⟨_, rfl, p, _, dx, _, _, rfl, hp2, T.cls_Evening, T.na_Evening_rounds, evF_rounds _ _, .inl ⟨rfl, _, SqL.of c2.ro⟩, _, rfl, A'.ro, _, _, rfl, rfl, c2.ro, lt_line (by rw [List.length_map]; omega), ?_⟩
    rw [← snoc_ints]
    refine to_ro c2 _ fun H3 f3 c3 => ?_
    obtain ⟨dx3, hp3⟩ := c3.pp
    refine ⟨_, rfl, p, _, dx3, _, _, rfl, hp3, T.cls_Evening, T.na_Evening_waiting, evF_waiting _ _, .inl ⟨rfl, _, SqL.of c3.wa⟩, _, rfl, A'.wa, _, _, rfl, rfl, c3.wa, lt_line (by rw [List.length_map]; have := ok.w24; omega), ?_⟩
    rw [← snoc_ints]
    refine to_wa c3 _ fun H4 f4 c4 => ?_
    have fr4 : Fra (own p A') H H4 := ((Fra.of t12).trans f3).trans f4
    refine ⟨_, rfl, a, rfl, ⟨_, (fr4.le idS).seq hs⟩, for_list (K := K) (a := a) (xs := ss.map V.int)
      (fun i σ H' => (∃ x, σ = [some (.ref p), some (.ref a), some (.int st.rounds.length), some (.int (st.num ss)), x]) ∧ Fra (own p A') H H' ∧
        Cells (He.ga K "Evening") H' p A' (setAll st.last (ss.take i) (st.num ss)) st.going (st.rounds ++ [st.num ss]) (st.waiting ++ [(st.rounds.length : Int)]) cs) ⟨⟨_, rfl⟩, fr4, c4⟩ ?_ ?_ ?_⟩
    · intro i σ H' _ h
      exact (h.2.1.le idS).seq hs
    · rintro i x σ H' hx ⟨⟨y, rfl⟩, fr, ci⟩
      obtain ⟨s, rfl, hsi⟩ := int_at hx
      obtain ⟨h0, h1⟩ := sin s (List.mem_of_getElem? hsi)
      obtain ⟨dxi, hpi⟩ := ci.pp
      refine ⟨_, rfl, _, rfl, p, _, dxi, _, _, rfl, hpi, T.cls_Evening, T.na_Evening_last, evF_last _ _, _, rfl, A'.la, _, _, _, rfl, rfl, ci.la, ixN_of h0 (by rw [List.length_map, setAll_len]; exact h1), ?_⟩
      rw [← List.map_set]
      refine to_la ci _ fun H5 f5 c5 => ?_
      refine ⟨⟨_, rfl⟩, fr.trans f5, ?_⟩
      rw [List.take_add_one, hsi]
      show Cells _ _ _ _ (setAll st.last (ss.take i ++ [s]) _) _ _ _ _
      rw [setAll_snoc]
      exact c5
    · rintro σ H5 ⟨⟨y, rfl⟩, fr5, c5⟩
      rw [List.length_map, List.take_length] at c5
      obtain ⟨dx5, hp5⟩ := c5.pp
      refine ⟨_, rfl, p, _, dx5, _, _, rfl, hp5, T.cls_Evening, T.na_Evening_came, evF_came _ _, .inl ⟨rfl, _, SqL.of c5.ca⟩, _, rfl, a, _, rfl, .inl ((fr5.le idS).seq hs), fun b nb => ?_⟩
      refine to_new nb fun H6 s6 hb => ?_
      refine ⟨_, rfl, _, rfl, by show 4 ≤ sizeLine; decide, fun t nt => ?_⟩
      refine to_new nt fun H7 s7 ht => ?_
      have c7 := c5.mono (s6.trans s7)
      have fr7 : Fra (own p A') H H7 := fr5.trans (Fra.of (s6.trans s7))
      refine ⟨A'.ca, _, _, rfl, rfl, c7.ca, lt_line (by rw [hq.len]; omega), ?_⟩
      refine to_ca c7 _ fun H8 f8 c8 kp => ?_
      have fr8 : Fra (own p A') H H8 := fr7.trans f8
      refine ⟨_, rfl, _, rfl, by show 2 ≤ sizeLine; decide, fun u nu => ?_⟩
      refine to_new nu fun H9 s9 hu => ?_
      have dom5 := c5.dom fr5 dom
      have dom6 := dom_same s6 dom5
      have bS : b ∉ S := new_out dom5 nb
      have tS : t ∉ S := new_out dom6 nt
      have fr9 : Fra (own p A') H H9 := fr8.trans (Fra.of s9)
      refine q H9 u fr9 ⟨⟨_, c8.mono s9, ?_⟩, sub, dom_same s9 (c8.dom fr8 dom), ?_⟩ ?_ hu
      · refine Parts.snoc ?_ (hq.mono (Fra.off (fr9.mono sub)))
        have nca : ∀ x : Addr, x ∉ S → x ≠ A'.ca := fun x hx e => hx (by rw [e]; exact sub _ (memA p A').2.2.2.2)
        exact ⟨b, by rw [off_out tS]; exact s9 _ _ (kp _ _ (nca t tS) ht), by rw [off_out bS]; exact s9 _ _ (kp _ _ (nca b bS) (s7 _ _ hb))⟩
      · show (st.tale ++ [_]).length ≤ 900
        rw [List.length_append, List.length_singleton]; omega
      · have uS : u ∉ S := new_out (c8.dom fr8 dom) nu
        cases e : H u with
        | none => rfl
        | some o => rw [fr8 u o (fun z => uS (sub u z)) e] at nu; cases nu
end
end Song

/-! ### Ev6: sing, withdraw, waits, tale -/
namespace Song
open PySem L2
theorem Ev.free {K : PySem.W.Frag} {S : List Addr} {H H' : Hp} {p : Addr} {A : Ad} {st : EvS} {u : Addr} (ev : Ev K S H p A st) (f : Fra (own p A) H H') (d : ∀ a ∈ S, ∃ o, H' a = some o) (nu : H' u = none) : H u = none := by
  have uS : u ∉ S := new_out d nu
  cases e : H u with
  | none => rfl
  | some o => rw [f u o (fun z => uS (ev.sub u z)) e] at nu; cases nu
section
variable {P : Program} {w : World} {K : PySem.W.Frag} {mg : Str → Option Value} {base : Heap}
theorem sc_Evening_sing : FnScope ["self", "turns", "song"] ["self"] (defScope s_Evening_sing) := ⟨rfl, rfl, rfl, by decide +kernel, rfl, by decide +kernel, by decide +kernel⟩
def sp_sing (K : PySem.W.Frag) : Sp := fun vs H Q _ => ∃ (S : List Addr) (p : Addr) (A : Ad) (st : EvS), vs = [.ref p] ∧ Ev K S H p A st ∧ EvOk st ∧ st.tale.length < 900 ∧
  ∀ H', Fra (own p A) H H' → Ev K S H' p A st.sing → Q (optV st.next) H'
theorem me_Evening_sing (T : Tx K mg) : Me P w K mg base (He.ga K "Evening") "sing" 2 (sp_sing K) := by
  obtain ⟨fd, F⟩ := T.d_Evening_sing
  refine ⟨_, fd, _, F.ok (CX := CX0) sc_Evening_sing (fun vs H Q E h => ?_) (fun cdv A outer s H vs Q E hr h => ?_), T.cls_Evening, T.me_Evening_sing, F.bindsN fun _ _ _ _ _ _ us hl => match us, hl with | [_], _ => rfl⟩
  · obtain ⟨S, p, A, st, rfl, _⟩ := h; rfl
  · obtain ⟨S, p, A', st, rfl, ev, ok, hlt, q⟩ := h
    obtain ⟨⟨cs, c, hq⟩, sub, dom, few⟩ := id ev
    refine ⟨_, PSs.nox (pss_cons (ps_set (i := 1) sc_Evening_sing.nd rfl (by first | exact Or.inl rfl | exact Or.inr rfl) (pe_fn (fn_in_turn T) (hr.mono (by first | decide | omega)) (by rfl) (pa_cons (show PE _ _ (tFld K _ _) from pe_fld (pv 0) rfl) (pa_cons (show PE _ _ (tFld K _ _) from pe_fld (pv 0) rfl) pa_nil))))
      (pss_cons (ps_set (i := 2) sc_Evening_sing.nd rfl (by first | exact Or.inl rfl | exact Or.inr rfl) (pe_ifExp (pt_cmpR (show OpR _ _ (rNeD K) from op_neD hr.units) (pv 1) (pe_lst pa_nil) (nomark _)) (pe_ix (show IxR _ (rIxL K) from ix_list) (pv 1) pe_int (fun _ _ => rfl)) pe_non))
      (pss_cons (ps_if (pt_cmpR op_notN (pv 2) pe_non (nomark _)) (pss_cons (ps_expr (show PE _ _ (tBM K _ _ _ _) from pe_bm PySem.F.plainAttrs_list PySem.F.slot_list_remove PySem.F.type_list_remove mt_remove (show PE _ _ (tFld K _ _) from pe_fld (pv 0) rfl) (pa_cons (pv 2) pa_nil)))
      (pss_one (show PS _ _ (sFld K _ _ _) from ps_fld (pv 0) (pe_ix (show IxR _ (rIxL K) from ix_list) (show PE _ _ (tFld K _ _) from pe_fld (pv 0) rfl) (pv 2) (fun _ _ => rfl)) rfl))) pss_nil)
      (pss_cons (ps_expr (show PE _ _ (tBM K _ _ _ _) from pe_bm PySem.F.plainAttrs_list PySem.F.slot_list_append PySem.F.type_list_append mt_append (show PE _ _ (tFld K _ _) from pe_fld (pv 0) rfl) (pa_cons (pe_tup (pa_cons pe_str (pa_cons (pv 2) pa_nil))) pa_nil)))
      (pss_one (ps_ret (pv 2))))))), ?_⟩
    obtain ⟨dx, hp⟩ := c.pp
    refine ⟨_, rfl, p, _, dx, _, _, rfl, hp, T.cls_Evening, T.na_Evening_rounds, evF_rounds _ _, _, rfl, p, _, dx, _, _, rfl, hp, T.cls_Evening, T.na_Evening_waiting, evF_waiting _ _,
      A'.ro, A'.wa, st.rounds, st.waiting, rfl, SqL.of c.ro, SqL.of c.wa, ok.inb, by have := ok.w24; omega, fun l H1 nl s1 hl => ?_⟩
    have e0 : inTurn st.rounds st.waiting = st.queue := rfl
    rw [e0] at hl
    refine ⟨_, rfl, Nat.zero_le _, fun l2 nl2 => ?_⟩
    refine to_new nl2 fun H2 s2 hl2 => ?_
    refine ⟨_, _, dp_ints (SqL.of (s2 _ _ hl)), .lst (SqL.of hl2) .nil, (shp_ints _).ok, shp_nil.ok, _, rfl, ?_⟩
    rw [eqv_nil]
    have c2 := c.mono (s1.trans s2)
    have fr2 : Fra (own p A') H H2 := Fra.of (s1.trans s2)
    obtain ⟨dx2, hp2⟩ := c2.pp
    cases e : st.queue with
    | nil =>
      have en : st.next = none := by unfold EvS.next; rw [e]; rfl
      have es : st.sing = { st with tale := st.tale ++ [.sing none] } := by unfold EvS.sing; rw [en]
      refine iteF ⟨_, rfl, rfl, _, rfl, iteF ?_⟩
      refine ⟨_, rfl, p, _, dx2, _, _, rfl, hp2, T.cls_Evening, T.na_Evening_came, evF_came _ _, .inl ⟨rfl, _, SqL.of c2.ca⟩, _, rfl, by show 2 ≤ sizeLine; decide, fun t nt => ?_⟩
      refine to_new nt fun H3 s3 ht => ?_
      have c3 := c2.mono s3
      refine ⟨A'.ca, _, _, rfl, rfl, c3.ca, lt_line (by rw [hq.len]; omega), ?_⟩
      refine to_ca c3 _ fun H4 f4 c4 kp => ?_
      have fr4 : Fra (own p A') H H4 := (fr2.trans (Fra.of s3)).trans f4
      refine ⟨_, rfl, ?_⟩
      have tS : t ∉ S := new_out (c2.dom fr2 dom) nt
      rw [en, es] at q
      refine q H4 fr4 ⟨⟨_, c4, Parts.snoc ?_ (hq.mono (Fra.off (fr4.mono sub)))⟩, sub, c4.dom fr4 dom, ?_⟩
      · show off S H4 t = _
        rw [off_out tS]
        exact kp _ _ (fun z => tS (by rw [z]; exact sub _ (memA p A').2.2.2.2)) ht
      · show (st.tale ++ [_]).length ≤ 900
        rw [List.length_append, List.length_singleton]; omega
    | cons x r =>
      have en : st.next = some x := by unfold EvS.next; rw [e]; rfl
      have hx := EvS.next_mem en
      obtain ⟨h0, h1⟩ := ok.inb x hx
      obtain ⟨j, j1, j2, j3⟩ := erase_at hx
      rw [e] at hl
      refine iteT ⟨_, rfl, l, _, _, _, rfl, rfl, SqL.of (s2 _ _ hl), atI_nat (j := 0) rfl, ?_⟩
      refine ⟨_, rfl, rfl, _, rfl, iteT ?_⟩
      refine ⟨_, rfl, p, _, dx2, _, _, rfl, hp2, T.cls_Evening, T.na_Evening_waiting, evF_waiting _ _, .inl ⟨rfl, _, SqL.of c2.wa⟩, _, rfl, A'.wa, _, _, j, rfl, rfl, c2.wa, j1, j2, ?_⟩
      rw [j3]
      refine to_wa c2 _ fun H3 f3 c3 => ?_
      obtain ⟨dx3, hp3⟩ := c3.pp
      refine ⟨_, rfl, p, _, dx3, _, _, rfl, hp3, T.cls_Evening, T.na_Evening_rounds, evF_rounds _ _, _, rfl, A'.ro, _, _, _, rfl, rfl, SqL.of c3.ro, at_int h0 h1,
        _, rfl, p, _, dx3, _, rfl, hp3, T.cls_Evening, T.na_Evening_going, by show 5 < 1000; decide, ?_⟩
      rw [evF_put]
      refine to_go c3 dx3 _ fun H4 f4 c4 => ?_
      obtain ⟨dx4, hp4⟩ := c4.pp
      have fr4 : Fra (own p A') H H4 := (fr2.trans f3).trans f4
      refine ⟨_, rfl, p, _, dx4, _, _, rfl, hp4, T.cls_Evening, T.na_Evening_came, evF_came _ _, .inl ⟨rfl, _, SqL.of c4.ca⟩, _, rfl, by show 2 ≤ sizeLine; decide, fun t nt => ?_⟩
      refine to_new nt fun H5 s5 ht => ?_
      have c5 := c4.mono s5
      refine ⟨A'.ca, _, _, rfl, rfl, c5.ca, lt_line (by rw [hq.len]; omega), ?_⟩
      refine to_ca c5 _ fun H6 f6 c6 kp => ?_
      have fr6 : Fra (own p A') H H6 := (fr4.trans (Fra.of s5)).trans f6
      refine ⟨_, rfl, ?_⟩
      have tS : t ∉ S := new_out (c4.dom fr4 dom) nt
      have es : st.sing = { st with waiting := st.waiting.erase x, going := st.rounds.getD x.toNat 0, tale := st.tale ++ [.sing (some x)] } := by unfold EvS.sing; rw [en]
      rw [en, es] at q
      refine q H6 fr6 ⟨⟨_, c6, Parts.snoc ?_ (hq.mono (Fra.off (fr6.mono sub)))⟩, sub, c6.dom fr6 dom, ?_⟩
      · show off S H6 t = _
        rw [off_out tS]
        exact kp _ _ (fun z => tS (by rw [z]; exact sub _ (memA p A').2.2.2.2)) ht
      · show (st.tale ++ [_]).length ≤ 900
        rw [List.length_append, List.length_singleton]; omega
theorem sc_Evening_look_at : FnScope ["self", "song"] ["self", "song"] (defScope s_Evening_look_at) := ⟨rfl, rfl, rfl, by decide +kernel, rfl, by decide +kernel, by decide +kernel⟩
def sp_look_at (K : PySem.W.Frag) : Sp := fun vs H Q _ => ∃ (S : List Addr) (p : Addr) (A : Ad) (st : EvS) (n : Int), vs = [.ref p, .int n] ∧ Ev K S H p A st ∧ n ∈ st.waiting ∧ Q .non H
theorem me_Evening_look_at (T : Tx K mg) : Me P w K mg base (He.ga K "Evening") "look_at" 2 (sp_look_at K) := by
  obtain ⟨fd, F⟩ := T.d_Evening_look_at
  refine ⟨_, fd, _, F.ok (CX := CX0) sc_Evening_look_at (fun vs H Q E h => ?_) (fun cdv A outer s H vs Q E hr h => ?_), T.cls_Evening, T.me_Evening_look_at, F.bindsN fun _ _ _ _ _ _ us hl => match us, hl with | [_, _], _ => rfl⟩
  · obtain ⟨S, p, A, st, n, rfl, _⟩ := h; rfl
  · obtain ⟨S, p, A', st, n, rfl, ev, hn, q⟩ := h
    obtain ⟨⟨cs, c, hq⟩, sub, dom, few⟩ := ev
    refine ⟨_, PSs.nox (pss_one (ps_if (PW.pt (pw_or (pt_not (pt_val (pe_fn (fn_is_whole T) (hr.mono (by first | decide | omega)) (by rfl) (pa_cons (pv 1) pa_nil)))) (pw_or1 (pt_cmpR (show OpR _ _ (rIn K true) from op_notIn_seq) (pv 1) (show PE _ _ (tFld K _ _) from pe_fld (pv 0) rfl) (by rfl))))) (pss_one ps_never) pss_nil)), ?_⟩
    obtain ⟨dx, hp⟩ := c.pp
    refine ⟨_, rfl, _, _, rfl, kd_int n, _, rfl, iteF ?_⟩
    refine ⟨_, rfl, _, rfl, p, _, dx, _, _, rfl, hp, T.cls_Evening, T.na_Evening_waiting, evF_waiting _ _, A'.wa, _, rfl, .inl (SqL.of c.wa), rfl, flat_ints _, _, rfl, ?_⟩
    rw [inV_ints, decide_eq_true hn]
    exact iteF q
theorem sc_Evening_withdraw : FnScope ["self", "song"] ["self", "song"] (defScope s_Evening_withdraw) := ⟨rfl, rfl, rfl, by decide +kernel, rfl, by decide +kernel, by decide +kernel⟩
def sp_withdraw (K : PySem.W.Frag) : Sp := fun vs H Q _ => ∃ (S : List Addr) (p : Addr) (A : Ad) (st : EvS) (n : Int), vs = [.ref p, .int n] ∧ Ev K S H p A st ∧ EvOk st ∧ st.tale.length < 900 ∧ n ∈ st.waiting ∧
  ∀ H', Fra (own p A) H H' → Ev K S H' p A (st.out n) → Q (.int (st.out n).waiting.length) H'
theorem me_Evening_withdraw (T : Tx K mg) : Me P w K mg base (He.ga K "Evening") "withdraw" 3 (sp_withdraw K) := by
  obtain ⟨fd, F⟩ := T.d_Evening_withdraw
  refine ⟨_, fd, _, F.ok (CX := CX0) sc_Evening_withdraw (fun vs H Q E h => ?_) (fun cdv A outer s H vs Q E hr h => ?_), T.cls_Evening, T.me_Evening_withdraw, F.bindsN fun _ _ _ _ _ _ us hl => match us, hl with | [_, _], _ => rfl⟩
  · obtain ⟨S, p, A, st, n, rfl, _⟩ := h; rfl
  · obtain ⟨S, p, A', st, n, rfl, ev, ok, hlt, hn, q⟩ := h
    obtain ⟨⟨cs, c, hq⟩, sub, dom, few⟩ := id ev
    refine ⟨_, PSs.nox (pss_cons (ps_expr (pe_me (me_Evening_look_at T) (hr.mono (by first | decide | omega)) (pv 0) (pa_cons (pv 1) pa_nil)))
      (pss_cons (ps_expr (show PE _ _ (tBM K _ _ _ _) from pe_bm PySem.F.plainAttrs_list PySem.F.slot_list_remove PySem.F.type_list_remove mt_remove (show PE _ _ (tFld K _ _) from pe_fld (pv 0) rfl) (pa_cons (pv 1) pa_nil)))
      (pss_cons (ps_expr (show PE _ _ (tBM K _ _ _ _) from pe_bm PySem.F.plainAttrs_list PySem.F.slot_list_append PySem.F.type_list_append mt_append (show PE _ _ (tFld K _ _) from pe_fld (pv 0) rfl) (pa_cons (pe_tup (pa_cons pe_str (pa_cons (pv 1) pa_nil))) pa_nil)))
      (pss_one (ps_ret (pe_callB (show CallR _ _ (rLenQ K) from call_len_seq) (by rfl) T.len (by decide +kernel) (pa_cons (show PE _ _ (tFld K _ _) from pe_fld (pv 0) rfl) pa_nil))))))), ?_⟩
    obtain ⟨dx, hp⟩ := c.pp
    obtain ⟨j, j1, j2, j3⟩ := erase_at hn
    refine ⟨_, rfl, p, dx, _, rfl, hp, evF_no _ _ (by decide +kernel), _, rfl, S, p, A', st, n, rfl, ev, hn, ?_⟩
    refine ⟨_, rfl, p, _, dx, _, _, rfl, hp, T.cls_Evening, T.na_Evening_waiting, evF_waiting _ _, .inl ⟨rfl, _, SqL.of c.wa⟩, _, rfl, A'.wa, _, _, j, rfl, rfl, c.wa, j1, j2, ?_⟩
    rw [j3]
    refine to_wa c _ fun H3 f3 c3 => ?_
    obtain ⟨dx3, hp3⟩ := c3.pp
    refine ⟨_, rfl, p, _, dx3, _, _, rfl, hp3, T.cls_Evening, T.na_Evening_came, evF_came _ _, .inl ⟨rfl, _, SqL.of c3.ca⟩, _, rfl, by show 2 ≤ sizeLine; decide, fun t nt => ?_⟩
    refine to_new nt fun H5 s5 ht => ?_
    have c5 := c3.mono s5
    refine ⟨A'.ca, _, _, rfl, rfl, c5.ca, lt_line (by rw [hq.len]; omega), ?_⟩
    refine to_ca c5 _ fun H6 f6 c6 kp => ?_
    have fr6 : Fra (own p A') H H6 := (f3.trans (Fra.of s5)).trans f6
    obtain ⟨dx6, hp6⟩ := c6.pp
    refine ⟨_, rfl, p, _, dx6, _, _, rfl, hp6, T.cls_Evening, T.na_Evening_waiting, evF_waiting _ _, A'.wa, _, rfl, .inl (SqL.of c6.wa), ?_⟩
    rw [List.length_map]
    have tS : t ∉ S := new_out (c3.dom f3 dom) nt
    refine q H6 fr6 ⟨⟨_, c6, Parts.snoc ?_ (hq.mono (Fra.off (fr6.mono sub)))⟩, sub, c6.dom fr6 dom, ?_⟩
    · show off S H6 t = _
      rw [off_out tS]
      exact kp _ _ (fun z => tS (by rw [z]; exact sub _ (memA p A').2.2.2.2)) ht
    · show (st.tale ++ [_]).length ≤ 900
      rw [List.length_append, List.length_singleton]; omega
theorem sc_Evening_waits : FnScope ["self"] ["self"] (defScope s_Evening_waits) := ⟨rfl, rfl, rfl, by decide +kernel, rfl, by decide +kernel, by decide +kernel⟩
def sp_waits (K : PySem.W.Frag) : Sp := fun vs H Q _ => ∃ (S : List Addr) (p : Addr) (A : Ad) (st : EvS), vs = [.ref p] ∧ Ev K S H p A st ∧ EvOk st ∧
  ∀ l H', H l = none → Same H H' → H' l = some (.lst (st.queue.map V.int)) → Q (.ref l) H'
theorem me_Evening_waits (T : Tx K mg) : Me P w K mg base (He.ga K "Evening") "waits" 2 (sp_waits K) := by
  obtain ⟨fd, F⟩ := T.d_Evening_waits
  refine ⟨_, fd, _, F.ok (CX := CX0) sc_Evening_waits (fun vs H Q E h => ?_) (fun cdv A outer s H vs Q E hr h => ?_), T.cls_Evening, T.me_Evening_waits, F.bindsN fun _ _ _ _ _ _ us hl => match us, hl with | [_], _ => rfl⟩
  · obtain ⟨S, p, A, st, rfl, _⟩ := h; rfl
  · obtain ⟨S, p, A', st, rfl, ev, ok, q⟩ := h
    obtain ⟨⟨cs, c, hq⟩, sub, dom, few⟩ := ev
    obtain ⟨dx, hp⟩ := c.pp
    refine ⟨_, PSs.nox (pss_one (ps_ret (pe_fn (fn_in_turn T) (hr.mono (by first | decide | omega)) (by rfl) (pa_cons (show PE _ _ (tFld K _ _) from pe_fld (pv 0) rfl) (pa_cons (show PE _ _ (tFld K _ _) from pe_fld (pv 0) rfl) pa_nil))))), ?_⟩
    exact ⟨_, rfl, p, _, dx, _, _, rfl, hp, T.cls_Evening, T.na_Evening_rounds, evF_rounds _ _, _, rfl, p, _, dx, _, _, rfl, hp, T.cls_Evening, T.na_Evening_waiting, evF_waiting _ _,
      A'.ro, A'.wa, st.rounds, st.waiting, rfl, SqL.of c.ro, SqL.of c.wa, ok.inb, (by have := ok.w24; omega), q⟩
/-! #### tale() -/
/-- a part told anew: the list within a wish is new to H0 -/
def PartN (H0 H : Hp) (v : V) (p : Part) : Prop := PartAt H v p ∧ ∀ ss n r, p = .wish ss n r → ∃ t b, v = .ref t ∧ H t = some (.tup [.str "wish", .ref b, .int n, .int r]) ∧ H b = some (.lst (ss.map V.int)) ∧ H0 b = none
theorem PartN.mono {H0 H H' : Hp} (s : Same H H') {v : V} {p : Part} (h : PartN H0 H v p) : PartN H0 H' v p :=
  ⟨h.1.mono s, fun ss n r e => by
    obtain ⟨t, b, h1, h2, h3, h4⟩ := h.2 ss n r e
    exact ⟨t, b, h1, s _ _ h2, s _ _ h3, h4⟩⟩
theorem nW1 : decide (V.str "sing" = V.str "wish") = false := by decide +kernel
theorem nW2 : decide (V.str "out" = V.str "wish") = false := by decide +kernel
theorem sc_Evening_tale : FnScope ["self", "one"] ["self"] (defScope s_Evening_tale) := ⟨rfl, rfl, rfl, by decide +kernel, rfl, by decide +kernel, by decide +kernel⟩
def sp_tale (K : PySem.W.Frag) : Sp := fun vs H Q _ => ∃ (S : List Addr) (p : Addr) (A : Ad) (st : EvS), vs = [.ref p] ∧ Ev K S H p A st ∧
  ∀ l H' cs, H l = none → Same H H' → H' l = some (.lst cs) → cs.length = st.tale.length → (∀ (i : Nat) v, cs[i]? = some v → ∃ q, st.tale[i]? = some q ∧ PartN H (off [l] H') v q) → Q (.ref l) H'
theorem me_Evening_tale (T : Tx K mg) : Me P w K mg base (He.ga K "Evening") "tale" 1 (sp_tale K) := by
  obtain ⟨fd, F⟩ := T.d_Evening_tale
  refine ⟨_, fd, _, F.ok (CX := CX0) sc_Evening_tale (fun vs H Q E h => ?_) (fun cdv A outer s H vs Q E hr h => ?_), T.cls_Evening, T.me_Evening_tale, F.bindsN fun _ _ _ _ _ _ us hl => match us, hl with | [_], _ => rfl⟩
  · obtain ⟨S, p, A, st, rfl, _⟩ := h; rfl
  · obtain ⟨S, p, A', st, rfl, ev, q⟩ := h
    obtain ⟨⟨cs, c, hq⟩, sub, dom, few⟩ := ev
    obtain ⟨dx, hp⟩ := c.pp
    refine ⟨_, PSs.nox (pss_one (ps_ret (pe_lc (own := [("one", 1)]) (g := (gName 1)) (tt := tYes) (by rfl) sc_Evening_tale.nd (show PI _ _ _ (iList K _) from pi_list (show PE _ _ (tFld K _ _) from pe_fld (pv 0) rfl)) (blkOk_by (by kernel_rfl)) (fun _ _ _ _ _ => (pg_name (i := 1) sc_Evening_tale.nd rfl (by first | exact Or.inl rfl | exact Or.inr rfl))) (fun _ _ _ _ _ => pts_nil) (fun _ _ _ _ _ => (pe_ifExp (pt_cmpR op_eq (pe_ix (show IxR _ (rIxT K) from ix_tup) (pv 1) pe_int (fun _ _ => rfl)) pe_str (nomark _)) (pe_tup (pa_cons (pe_ix (show IxR _ (rIxT K) from ix_tup) (pv 1) pe_int (fun _ _ => rfl)) (pa_cons (pe_callTy (show CallR _ _ (rListO K) from call_list_of) (by rfl) T.list (by decide +kernel) (pa_cons (pe_ix (show IxR _ (rIxT K) from ix_tup) (pv 1) pe_int (fun _ _ => rfl)) pa_nil)) (pa_cons (pe_ix (show IxR _ (rIxT K) from ix_tup) (pv 1) pe_int (fun _ _ => rfl)) (pa_cons (pe_ix (show IxR _ (rIxT K) from ix_tup) (pv 1) pe_int (fun _ _ => rfl)) pa_nil))))) (pv 1)))))), ?_⟩
    have hqH : Parts H cs st.tale := hq.mono (off_le S H)
    refine ⟨_, rfl, p, _, dx, _, _, rfl, hp, T.cls_Evening, T.na_Evening_came, evF_came _ _, A'.ca, rfl, ⟨_, SqL.of c.ca⟩, fun D nD => lc_all walk_list sqL_mono (SqL.of c.ca) (fun i H1 y => ∃ q, st.tale[i]? = some q ∧ PartN H H1 y q) ?_ nD (by rw [hqH.len]; omega) ?_ ?_ gname_mono⟩
    · rintro i H1 H2 y s1 ⟨q, h1, h2⟩
      exact ⟨q, h1, h2.mono s1⟩
    · rintro i x H1 H2 acc hi1 s1 hD ⟨rfl, hx⟩ k hk
      obtain ⟨part, hpt, pa⟩ := hqH.get hx
      cases x with
      | ref t =>
        cases part with
        | wish ss n r =>
          obtain ⟨b, ht, hb⟩ := pa
          have ht2 := s1 _ _ ht
          have hb2 := s1 _ _ hb
          refine ⟨rfl, _, rfl, t, _, _, _, rfl, rfl, SqT.of ht2, atI_nat (j := 0) rfl, rfl, _, rfl, ?_⟩
          rw [decide_eq_true rfl]
          refine iteT ⟨_, rfl, t, _, _, _, rfl, rfl, SqT.of ht2, atI_nat (j := 0) rfl, _, rfl, t, _, _, _, rfl, rfl, SqT.of ht2, atI_nat (j := 1) rfl, b, _, rfl, .inl (SqL.of hb2), fun b' nb => ?_⟩
          refine to_new nb fun H3 s3 hb3 => ?_
          have ht3 := s3 _ _ ht2
          refine ⟨_, rfl, t, _, _, _, rfl, rfl, SqT.of ht3, atI_nat (j := 2) rfl, _, rfl, t, _, _, _, rfl, rfl, SqT.of ht3, atI_nat (j := 3) rfl, by show 4 ≤ sizeLine; decide, fun t' nt => ?_⟩
          have hb4 : upd H3 t' (.tup [.str "wish", .ref b', .int n, .int r]) b' = some (.lst (ss.map V.int)) := (Same.new nt) _ _ hb3
          have nbD : b' ≠ D := (ne_of_none hD nb).symm
          have ntD : t' ≠ D := (ne_of_none (s3 _ _ hD) nt).symm
          have o1 : off [D] (upd H3 t' (.tup [.str "wish", .ref b', .int n, .int r])) t' = some (.tup [.str "wish", .ref b', .int n, .int r]) := by rw [off_out (by simpa using ntD)]; exact upd_same
          have o2 : off [D] (upd H3 t' (.tup [.str "wish", .ref b', .int n, .int r])) b' = some (.lst (ss.map V.int)) := by rw [off_out (by simpa using nbD)]; exact hb4
          refine hk _ _ (s3.trans (Same.new nt)) ⟨_, hpt, ⟨b', o1, o2⟩, fun ss' n' r' e => ?_⟩
          injection e with e1 e2 e3
          subst e1; subst e2; subst e3
          exact ⟨t', b', rfl, o1, o2, s1.free nb⟩
        | sing o =>
          have ht2 := s1 _ _ pa
          refine ⟨rfl, _, rfl, t, _, _, _, rfl, rfl, SqT.of ht2, atI_nat (j := 0) rfl, rfl, _, rfl, ?_⟩
          rw [nW1]
          refine iteF ⟨_, rfl, hk _ _ (Same.refl _) ⟨_, hpt, ?_, fun ss' n' r' e => by cases e⟩⟩
          show off [D] H2 t = _
          rw [off_out (by simpa using ne_of ht2 hD (by intro z; cases z))]
          exact ht2
        | out n =>
          have ht2 := s1 _ _ pa
          refine ⟨rfl, _, rfl, t, _, _, _, rfl, rfl, SqT.of ht2, atI_nat (j := 0) rfl, rfl, _, rfl, ?_⟩
          rw [nW2]
          refine iteF ⟨_, rfl, hk _ _ (Same.refl _) ⟨_, hpt, ?_, fun ss' n' r' e => by cases e⟩⟩
          show off [D] H2 t = _
          rw [off_out (by simpa using ne_of ht2 hD (by intro z; cases z))]
          exact ht2
      | _ => exact pa.elim
    · intro ys H1 s1 hD hly hy
      exact q D H1 ys nD s1 hD (by rw [hly, hqH.len]) hy
end
end Song

/-! ### Lw1: a law's draws -/
namespace Song
open PySem L2
/-! #### sizes of numbers -/
def Bits (n : Nat) (c : Int) : Prop := c.natAbs < 2 ^ n
theorem Bits.of_int {n : Nat} {c : Int} (h : Builtin.Int.intBits c ≤ n) : Bits n c := by
  unfold Builtin.Int.intBits at h
  unfold Bits
  by_cases e : c = 0
  · subst e
    exact Nat.two_pow_pos n
  · rw [if_neg (by simpa using e)] at h
    exact (Nat.log2_lt (by omega)).mp (by omega)
theorem Bits.mono {n m : Nat} {c : Int} (h : Bits n c) (hm : n ≤ m) : Bits m c := Nat.lt_of_lt_of_le h (Nat.pow_le_pow_right (by decide) hm)
theorem Bits.small {c : Int} {n : Nat} (h : c.natAbs < 2 ^ 64) (hn : 64 ≤ n) : Bits n c := Bits.mono (n := 64) h hn
theorem Bits.add {n : Nat} {a b : Int} (ha : Bits n a) (hb : Bits n b) : Bits (n + 1) (a + b) := by
  unfold Bits at *
  rw [Nat.pow_succ]
  generalize 2 ^ n = m at *
  omega
theorem Bits.mulOk {n m : Nat} {a b : Int} (ha : Bits n a) (hb : Bits m b) (h : n + m ≤ 100000000) : IntMulOk a b := by
  have f : ∀ {x : Int} {k : Nat}, Bits k x → Builtin.Int.intBits x ≤ k := fun {x k} hx => by
    unfold Builtin.Int.intBits
    split
    · omega
    · rename_i e
      have : x.natAbs ≠ 0 := by
        have : x ≠ 0 := by simpa using e
        omega
      have := (Nat.log2_lt this).mpr hx
      omega
  have h1 := f ha
  have h2 := f hb
  unfold IntMulOk
  intro z
  rw [Bool.and_eq_true] at z
  have z3 := of_decide_eq_true (show decide ((((Builtin.Int.intBits a + Builtin.Int.intBits b : Nat) : Int)) > (bitsLine : Int)) = true from z.2)
  have e : bitsLine = 134217728 := by decide
  rw [e] at z3
  omega
theorem mulS {a b : Int} (h : a.natAbs < 2 ^ 64 ∨ b.natAbs < 2 ^ 64) : IntMulOk a b := by
  rcases h with h | h
  · exact IntMulOk.of_left (intBits_le_64 (by omega) (by omega))
  · exact IntMulOk.of_right (intBits_le_64 (by omega) (by omega))
/-! #### the draws, plainly -/
def cellAt (ns : List Int) (k : Int) : Int := ns.getD k.toNat 0
def primes : List Int := [1000003, 1000033, 1000037, 1000039, 1000081, 1000099, 1000117, 1000121, 1000133, 1000151, 1000159, 1000171, 1000183, 1000187, 1000193, 1000199]
theorem primes_pos : ∀ i : Nat, i < 16 → 0 < primes.getD i 0 := by decide
def lawDraw (c k m : Int) : Int := (c * 48271 + k * 69621) % primes.getD (k % 16).toNat 0 % m
theorem lawDraw_in {c k m : Int} (h : 0 < m) : 0 ≤ lawDraw c k m ∧ lawDraw c k m < m := ⟨Int.emod_nonneg _ (by omega), Int.emod_lt_of_pos _ h⟩
def p18 : Int := 10 ^ (18 : Int).toNat
theorem p18_eq : p18 = 1000000000000000000 := by decide
def lawValue (c t : Int) : Int :=
  if p18 ≤ c then (c - p18) / 2 ^ (3 * t).toNat
  else lawDraw ((c + 977 * t) * (c + 31 * t + 5)) (t % 9 + 1) 999983 * 1000003 + lawDraw ((c + 31 * t) * (c + 7) + 977 * t) (t % 7 + 2) 1000003
theorem lawValue_nn (c t : Int) : 0 ≤ lawValue c t := by
  unfold lawValue
  split
  · exact Int.ediv_nonneg (by omega) (two_pow_nn _)
  · have h1 := (lawDraw_in (c := (c + 977 * t) * (c + 31 * t + 5)) (k := t % 9 + 1) (m := 999983) (by decide)).1
    have h2 := (lawDraw_in (c := (c + 31 * t) * (c + 7) + 977 * t) (k := t % 7 + 2) (m := 1000003) (by decide)).1
    omega
section
variable {P : Program} {w : World} {K : PySem.W.Frag} {mg : Str → Option Value} {base : Heap}
theorem sc__law_cell_at : FnScope ["_law_script", "_law_k"] ["_law_script", "_law_k"] (defScope s__law_cell_at) := ⟨rfl, rfl, rfl, by decide +kernel, rfl, by decide +kernel, by decide +kernel⟩
def sp_cell_at (K : PySem.W.Frag) : Sp := fun vs H Q _ => ∃ (a : Addr) (ns : List Int) (k : Int), vs = [.ref a, .int k] ∧ SqL K H a (ns.map V.int) ∧ 0 ≤ k ∧ Q (.int (cellAt ns k)) H
theorem fn__law_cell_at (T : Tx K mg) : Fn P w K mg base "_law_cell_at" 1 (sp_cell_at K) := by
  obtain ⟨fd, F⟩ := T.d__law_cell_at
  refine ⟨_, fd, _, F.ok (CX := CX0) sc__law_cell_at (fun vs H Q E h => ?_) (fun cdv A outer s H vs Q E hr h => ?_), T.g__law_cell_at, F.kp, F.bindsN fun _ _ _ _ _ _ us hl => match us, hl with | [_, _], _ => rfl⟩
  · obtain ⟨a, ns, k, rfl, _⟩ := h; rfl
  · obtain ⟨a, ns, k, rfl, hs, h0, q⟩ := h
    refine ⟨_, PSs.nox (pss_cons (ps_if (pt_cmpR op_lt (pv 1) (pe_callB (show CallR _ _ (rLenQ K) from call_len_seq) (by rfl) T.len (by decide +kernel) (pa_cons (pv 0) pa_nil)) (nomark _)) (pss_one (ps_ret (pe_ix (show IxR _ (rIxL K) from ix_list) (pv 0) (pv 1) (fun _ _ => rfl)))) pss_nil)
      (pss_one (ps_ret pe_int))), ?_⟩
    refine ⟨_, rfl, _, rfl, a, _, rfl, .inl hs, _, _, rfl, rfl, _, rfl, ?_⟩
    rw [List.length_map]
    by_cases h1 : k < (ns.length : Int)
    · rw [decide_eq_true h1]
      exact iteT ⟨_, rfl, _, rfl, a, _, _, _, rfl, rfl, hs, at_int h0 h1, q⟩
    · rw [decide_eq_false h1]
      refine iteF ?_
      have e : cellAt ns k = 0 := by
        unfold cellAt
        rw [List.getD_eq_getElem?_getD, List.getElem?_eq_none (by omega)]; rfl
      rw [e] at q
      exact q
def lawMany (ns : List Int) : Int := 1 + lawValue (cellAt ns 0) 1 % 6
theorem lawMany_in (ns : List Int) : 1 ≤ lawMany ns ∧ lawMany ns ≤ 6 := by
  have h1 := Int.emod_nonneg (lawValue (cellAt ns 0) 1) (b := 6) (by decide)
  have h2 := Int.emod_lt_of_pos (lawValue (cellAt ns 0) 1) (b := 6) (by decide)
  unfold lawMany
  omega
/-- all the cells of a script -/
def Scr (ns : List Int) : Prop := ns.length ≤ 63 ∧ ∀ z ∈ ns, Bits 1048576 z
theorem Scr.cell {ns : List Int} (h : Scr ns) (k : Int) : Bits 1048576 (cellAt ns k) := by
  unfold cellAt
  rw [List.getD_eq_getElem?_getD]
  cases e : ns[k.toNat]? with
  | none => exact Nat.two_pow_pos _
  | some z => exact h.2 z (List.mem_of_getElem? e)
end
def spLaw (K : PySem.W.Frag) : Sp := fun vs H Q _ => ∃ (a : Addr) (ns : List Int), vs = [.ref a] ∧ SqL K H a (ns.map V.int) ∧ Scr ns ∧ ∀ H', Q (.bl true) H'
end Song

/-! ### Lw2: a law's deeds -/
namespace Song
open PySem L2
inductive Deed where
  | wish (ss : List Int)
  | sing
  | out (n : Int)
def DeedAt (H : Hp) : V → Deed → Prop
  | .ref t, .wish ss => ∃ b, H t = some (.tup [.str "wish", .ref b]) ∧ H b = some (.lst (ss.map V.int))
  | .ref t, .sing => H t = some (.tup [.str "sing", .int 0])
  | .ref t, .out n => H t = some (.tup [.str "out", .int n])
  | _, _ => False
theorem DeedAt.mono {H H' : Hp} (s : Same H H') {v : V} {d : Deed} (h : DeedAt H v d) : DeedAt H' v d := by
  cases v with
  | ref t =>
    cases d with
    | wish ss =>
      obtain ⟨b, h1, h2⟩ := h
      exact ⟨b, s _ _ h1, s _ _ h2⟩
    | sing => exact s _ _ h
    | out n => exact s _ _ h
  | _ => exact h.elim
def DeedOk (many : Int) : Deed → Prop
  | .wish ss => areSingers ss many = true
  | .sing => True
  | .out n => 0 ≤ n
/-- a list of good deeds in the heap -/
def Deeds (H : Hp) (many : Int) (vs : List V) : Prop := ∀ v ∈ vs, ∃ d, DeedAt H v d ∧ DeedOk many d
theorem Deeds.mono {H H' : Hp} {many : Int} {vs : List V} (s : Same H H') (h : Deeds H many vs) : Deeds H' many vs := fun v hv => by
  obtain ⟨d, h1, h2⟩ := h v hv
  exact ⟨d, h1.mono s, h2⟩
theorem Deeds.snoc {H : Hp} {many : Int} {vs : List V} {v : V} {d : Deed} (h : Deeds H many vs) (h1 : DeedAt H v d) (h2 : DeedOk many d) : Deeds H many (vs ++ [v]) := fun u hu => by
  rcases List.mem_append.mp hu with q | q
  · exact h u q
  · rw [List.mem_singleton.mp q]; exact ⟨d, h1, h2⟩
section
variable {P : Program} {w : World} {K : PySem.W.Frag} {mg : Str → Option Value} {base : Heap}
end
end Song

/-! ### Lw3: the law's own state of an evening, a dict -/
namespace Song
open PySem L2
def stD (A : Ad) (g : Int) : List (Key × V) := [(.inr "rounds", .ref A.ro), (.inr "last", .ref A.la), (.inr "going", .int g), (.inr "waits", .ref A.wa), (.inr "tale", .ref A.ca)]
theorem stD_last (A : Ad) (g : Int) : valV (stD A g) (.inr "last") = some (.ref A.la) := by kernel_rfl
theorem stD_going (A : Ad) (g : Int) : valV (stD A g) (.inr "going") = some (.int g) := by kernel_rfl
theorem stD_rounds (A : Ad) (g : Int) : valV (stD A g) (.inr "rounds") = some (.ref A.ro) := by kernel_rfl
theorem stD_waits (A : Ad) (g : Int) : valV (stD A g) (.inr "waits") = some (.ref A.wa) := by kernel_rfl
theorem stD_tale (A : Ad) (g : Int) : valV (stD A g) (.inr "tale") = some (.ref A.ca) := by kernel_rfl
theorem stD_put (A : Ad) (g g' : Int) : putK (stD A g) (.inr "going") (.int g') = stD A g' := by kernel_rfl
structure LC (H : Hp) (p : Addr) (A : Ad) (last : List Int) (going : Int) (rounds waiting : List Int) (cs : List V) : Prop where
  pp : H p = some (.dK (stD A going))
  la : H A.la = some (.lst (last.map V.int))
  ro : H A.ro = some (.lst (rounds.map V.int))
  wa : H A.wa = some (.lst (waiting.map V.int))
  ca : H A.ca = some (.lst cs)
  nd : (own p A).Nodup
section
variable {H H' : Hp} {p : Addr} {A : Ad} {last : List Int} {going : Int} {rounds waiting : List Int} {cs : List V}
theorem LC.gLast (c : LC H p A last going rounds waiting cs) : DGet H p (.str "last") (some (.ref A.la)) := by rw [← stD_last A going]; exact DGet.k (k := Sum.inr "last") c.pp
theorem LC.gGoing (c : LC H p A last going rounds waiting cs) : DGet H p (.str "going") (some (.int going)) := by rw [← stD_going A going]; exact DGet.k (k := Sum.inr "going") c.pp
theorem LC.gRounds (c : LC H p A last going rounds waiting cs) : DGet H p (.str "rounds") (some (.ref A.ro)) := by rw [← stD_rounds A going]; exact DGet.k (k := Sum.inr "rounds") c.pp
theorem LC.gWaits (c : LC H p A last going rounds waiting cs) : DGet H p (.str "waits") (some (.ref A.wa)) := by rw [← stD_waits A going]; exact DGet.k (k := Sum.inr "waits") c.pp
theorem LC.gTale (c : LC H p A last going rounds waiting cs) : DGet H p (.str "tale") (some (.ref A.ca)) := by rw [← stD_tale A going]; exact DGet.k (k := Sum.inr "tale") c.pp
theorem LC.mono (s : Same H H') (c : LC H p A last going rounds waiting cs) : LC H' p A last going rounds waiting cs := by
  obtain ⟨h1, h2, h3, h4, h5, nd⟩ := c
  exact ⟨s _ _ h1, s _ _ h2, s _ _ h3, s _ _ h4, s _ _ h5, nd⟩
theorem LC.ne (c : LC H p A last going rounds waiting cs) : p ≠ A.la ∧ p ≠ A.ro ∧ p ≠ A.wa ∧ p ≠ A.ca ∧ A.la ≠ A.ro ∧ A.la ≠ A.wa ∧ A.la ≠ A.ca ∧ A.ro ≠ A.wa ∧ A.ro ≠ A.ca ∧ A.wa ≠ A.ca := by
  have h := c.nd
  unfold own at h
  simp only [List.nodup_cons, List.mem_cons, List.not_mem_nil, or_false, not_or] at h
  obtain ⟨⟨a1, a2, a3, a4⟩, ⟨b1, b2, b3⟩, ⟨c1, c2⟩, d1, _⟩ := h
  exact ⟨a1, a2, a3, a4, b1, b2, b3, c1, c2, d1⟩
theorem LC.putLa (c : LC H p A last going rounds waiting cs) (l : List Int) : LC (upd H A.la (.lst (l.map V.int))) p A l going rounds waiting cs := by
  obtain ⟨a1, a2, a3, a4, b1, b2, b3, c1, c2, d1⟩ := c.ne
  obtain ⟨h1, h2, h3, h4, h5, nd⟩ := c
  exact ⟨by rw [upd_ne a1]; exact h1, upd_same, by rw [upd_ne b1.symm]; exact h3, by rw [upd_ne b2.symm]; exact h4, by rw [upd_ne b3.symm]; exact h5, nd⟩
theorem LC.putRo (c : LC H p A last going rounds waiting cs) (l : List Int) : LC (upd H A.ro (.lst (l.map V.int))) p A last going l waiting cs := by
  obtain ⟨a1, a2, a3, a4, b1, b2, b3, c1, c2, d1⟩ := c.ne
  obtain ⟨h1, h2, h3, h4, h5, nd⟩ := c
  exact ⟨by rw [upd_ne a2]; exact h1, by rw [upd_ne b1]; exact h2, upd_same, by rw [upd_ne c1.symm]; exact h4, by rw [upd_ne c2.symm]; exact h5, nd⟩
theorem LC.putWa (c : LC H p A last going rounds waiting cs) (l : List Int) : LC (upd H A.wa (.lst (l.map V.int))) p A last going rounds l cs := by
  obtain ⟨a1, a2, a3, a4, b1, b2, b3, c1, c2, d1⟩ := c.ne
  obtain ⟨h1, h2, h3, h4, h5, nd⟩ := c
  exact ⟨by rw [upd_ne a3]; exact h1, by rw [upd_ne b2]; exact h2, by rw [upd_ne c1]; exact h3, upd_same, by rw [upd_ne d1.symm]; exact h5, nd⟩
theorem LC.putCa (c : LC H p A last going rounds waiting cs) (l : List V) : LC (upd H A.ca (.lst l)) p A last going rounds waiting l := by
  obtain ⟨a1, a2, a3, a4, b1, b2, b3, c1, c2, d1⟩ := c.ne
  obtain ⟨h1, h2, h3, h4, h5, nd⟩ := c
  exact ⟨by rw [upd_ne a4]; exact h1, by rw [upd_ne b3]; exact h2, by rw [upd_ne c2]; exact h3, by rw [upd_ne d1]; exact h4, upd_same, nd⟩
theorem LC.putGo (c : LC H p A last going rounds waiting cs) (g : Int) : LC (upd H p (.dK (stD A g))) p A last g rounds waiting cs := by
  obtain ⟨a1, a2, a3, a4, b1, b2, b3, c1, c2, d1⟩ := c.ne
  obtain ⟨_, h2, h3, h4, h5, nd⟩ := c
  exact ⟨upd_same, by rw [upd_ne a1.symm]; exact h2, by rw [upd_ne a2.symm]; exact h3, by rw [upd_ne a3.symm]; exact h4, by rw [upd_ne a4.symm]; exact h5, nd⟩
end
section
variable {H : Hp} {p : Addr} {A : Ad} {last : List Int} {going : Int} {rounds waiting : List Int} {cs : List V} {Q : Hp → Prop}
@[elab_as_elim] theorem to_laL (c : LC H p A last going rounds waiting cs) (l : List Int) (h : ∀ H', Fra (own p A) H H' → LC H' p A l going rounds waiting cs → Q H') : Q (upd H A.la (.lst (l.map V.int))) :=
  h _ (Fra.put (memA p A).2.1) (c.putLa l)
@[elab_as_elim] theorem to_roL (c : LC H p A last going rounds waiting cs) (l : List Int) (h : ∀ H', Fra (own p A) H H' → LC H' p A last going l waiting cs → Q H') : Q (upd H A.ro (.lst (l.map V.int))) :=
  h _ (Fra.put (memA p A).2.2.1) (c.putRo l)
@[elab_as_elim] theorem to_waL (c : LC H p A last going rounds waiting cs) (l : List Int) (h : ∀ H', Fra (own p A) H H' → LC H' p A last going rounds l cs → Q H') : Q (upd H A.wa (.lst (l.map V.int))) :=
  h _ (Fra.put (memA p A).2.2.2.1) (c.putWa l)
@[elab_as_elim] theorem to_caL (c : LC H p A last going rounds waiting cs) (l : List V) (h : ∀ H', Fra (own p A) H H' → LC H' p A last going rounds waiting l → (∀ b o, b ≠ A.ca → H b = some o → H' b = some o) → Q H') : Q (upd H A.ca (.lst l)) :=
  h _ (Fra.put (memA p A).2.2.2.2) (c.putCa l) fun b o n e => by rw [upd_ne n]; exact e
@[elab_as_elim] theorem to_goL (c : LC H p A last going rounds waiting cs) (g : Int) (h : ∀ H', Fra (own p A) H H' → LC H' p A last g rounds waiting cs → Q H') : Q (upd H p (.dK (stD A g))) :=
  h _ (Fra.put (memA p A).1) (c.putGo g)
end
theorem LC.dom {H H' : Hp} {p : Addr} {A : Ad} {last : List Int} {going : Int} {rounds waiting : List Int} {cs : List V} {S : List Addr} (c : LC H' p A last going rounds waiting cs) (f : Fra (own p A) H H')
    (d : ∀ a ∈ S, ∃ o, H a = some o) : ∀ a ∈ S, ∃ o, H' a = some o := fun a ha => by
  by_cases q : a ∈ own p A
  · unfold own at q
    simp only [List.mem_cons, List.not_mem_nil, or_false] at q
    rcases q with e | e | e | e | e
    · rw [e]; exact ⟨_, c.pp⟩
    · rw [e]; exact ⟨_, c.la⟩
    · rw [e]; exact ⟨_, c.ro⟩
    · rw [e]; exact ⟨_, c.wa⟩
    · rw [e]; exact ⟨_, c.ca⟩
  · obtain ⟨o, h⟩ := d a ha
    exact ⟨o, f a o q h⟩
/-- the dict at p tells st -/
structure Ls (S : List Addr) (H : Hp) (p : Addr) (A : Ad) (st : EvS) : Prop where
  cell : ∃ cs, LC H p A st.last st.going st.rounds st.waiting cs ∧ Parts (off S H) cs st.tale
  sub : ∀ a ∈ own p A, a ∈ S
  dom : ∀ a ∈ S, ∃ o, H a = some o
  few : st.tale.length ≤ 900
theorem Ls.mono {S : List Addr} {H H' : Hp} {p : Addr} {A : Ad} {st : EvS} (s : Same H H') (e : Ls S H p A st) : Ls S H' p A st := by
  obtain ⟨⟨cs, c, q⟩, sub, dom, few⟩ := e
  refine ⟨⟨cs, c.mono s, q.mono (off_mono s)⟩, sub, fun a ha => ?_, few⟩
  obtain ⟨o, h⟩ := dom a ha
  exact ⟨o, s _ _ h⟩
section
variable {P : Program} {w : World} {K : PySem.W.Frag} {mg : Str → Option Value} {base : Heap}
end
end Song

/-! ### Lw4: deeds done to the law's own state -/
namespace Song
open PySem L2
section
variable {P : Program} {w : World} {K : PySem.W.Frag} {mg : Str → Option Value} {base : Heap}
end
end Song

/-! ### Fr1: deeds, frames, the making of an evening -/
namespace Song
open PySem L2
def doDeed (st : EvS) : Deed → EvS
  | .wish ss => if st.rounds.length = 24 then st else st.wish ss
  | .sing => st.sing
  | .out n => if st.waiting = [] then st else st.out (st.waiting.getD (n % (st.waiting.length : Int)).toNat 0)
theorem EvS.sing_last (st : EvS) : st.sing.last = st.last := by
  unfold EvS.sing
  cases st.next <;> rfl
theorem doDeed_last (st : EvS) (d : Deed) : (doDeed st d).last.length = st.last.length := by
  cases d with
  | wish ss =>
    simp only [doDeed]
    split
    · rfl
    · exact setAll_len _ _ _
  | sing => rw [show doDeed st .sing = st.sing from rfl, EvS.sing_last]
  | out n =>
    simp only [doDeed]
    split <;> rfl
theorem doDeed_ok {st : EvS} {d : Deed} {m : Int} (h : EvOk st) (hd : DeedOk m d) : EvOk (doDeed st d) := by
  cases d with
  | wish ss =>
    simp only [doDeed]
    split
    · exact h
    · exact h.wish (by have := h.r24; omega) (areS_len hd).2.1
  | sing => exact h.sing
  | out n =>
    simp only [doDeed]
    split
    · exact h
    · exact h.out _
theorem sing_tale (st : EvS) : st.sing.tale.length = st.tale.length + 1 := by
  unfold EvS.sing
  cases st.next <;> simp
theorem doDeed_tale (st : EvS) (d : Deed) : (doDeed st d).tale.length ≤ st.tale.length + 1 := by
  cases d with
  | wish ss =>
    simp only [doDeed]
    split
    · omega
    · show (st.tale ++ [_]).length ≤ _
      simp
  | sing =>
    have := sing_tale st
    show st.sing.tale.length ≤ _
    omega
  | out n =>
    simp only [doDeed]
    split
    · omega
    · show (st.tale ++ [_]).length ≤ _
      simp
/-- two owners' cells stand apart -/
def Dj (p : Addr) (A : Ad) (d : Addr) (B : Ad) : Prop := ∀ a ∈ own d B, a ∉ own p A
theorem Dj.symm {p d : Addr} {A B : Ad} (h : Dj p A d B) : Dj d B p A := fun a h1 h2 => h a h2 h1
section
variable {K : PySem.W.Frag} {S S' X : List Addr} {H H' : Hp} {d : Addr} {B : Ad} {st : EvS}
theorem Ls.fra (ls : Ls S H d B st) (f : Fra X H H') (sub : ∀ a ∈ X, a ∈ S) (dom : ∀ a ∈ S, ∃ o, H' a = some o) (dj : ∀ a ∈ own d B, a ∉ X) : Ls S H' d B st := by
  obtain ⟨⟨cs, c, q⟩, sub2, _, few⟩ := ls
  obtain ⟨m1, m2, m3, m4, m5⟩ := memA d B
  exact ⟨⟨cs, ⟨f _ _ (dj _ m1) c.pp, f _ _ (dj _ m2) c.la, f _ _ (dj _ m3) c.ro, f _ _ (dj _ m4) c.wa, f _ _ (dj _ m5) c.ca, c.nd⟩, q.mono (Fra.off (f.mono sub))⟩, sub2, dom, few⟩
theorem Ev.fra (ev : Ev K S H d B st) (f : Fra X H H') (sub : ∀ a ∈ X, a ∈ S) (dom : ∀ a ∈ S, ∃ o, H' a = some o) (dj : ∀ a ∈ own d B, a ∉ X) : Ev K S H' d B st := by
  obtain ⟨⟨cs, c, q⟩, sub2, _, few⟩ := ev
  obtain ⟨m1, m2, m3, m4, m5⟩ := memA d B
  obtain ⟨dx, hp⟩ := c.pp
  exact ⟨⟨cs, ⟨⟨dx, f _ _ (dj _ m1) hp⟩, f _ _ (dj _ m2) c.la, f _ _ (dj _ m3) c.ro, f _ _ (dj _ m4) c.wa, f _ _ (dj _ m5) c.ca, c.nd⟩, q.mono (Fra.off (f.mono sub))⟩, sub2, dom, few⟩
theorem off_less (h : ∀ a ∈ S, a ∈ S') : Same (off S' H) (off S H) := fun b o e => by
  obtain ⟨n, e⟩ := off_some e
  rw [off_out (fun z => n (h _ z))]; exact e
theorem off_more (s : Same H H') (c : ∀ a ∈ S', a ∈ S ∨ H a = none) : Same (off S H) (off S' H') := fun b o e => by
  obtain ⟨n, e⟩ := off_some e
  rw [off_out (fun z => by
    rcases c b z with q | q
    · exact n q
    · rw [q] at e; cases e)]
  exact s _ _ e
theorem Ev.shrink (ev : Ev K S' H d B st) (h : ∀ a ∈ S, a ∈ S') (sub : ∀ a ∈ own d B, a ∈ S) : Ev K S H d B st := by
  obtain ⟨⟨cs, c, q⟩, _, dom, few⟩ := ev
  exact ⟨⟨cs, c, q.mono (off_less h)⟩, sub, fun a ha => dom a (h a ha), few⟩
theorem Ls.shrink (ev : Ls S' H d B st) (h : ∀ a ∈ S, a ∈ S') (sub : ∀ a ∈ own d B, a ∈ S) : Ls S H d B st := by
  obtain ⟨⟨cs, c, q⟩, _, dom, few⟩ := ev
  exact ⟨⟨cs, c, q.mono (off_less h)⟩, sub, fun a ha => dom a (h a ha), few⟩
theorem Ev.grow (ev : Ev K S H d B st) (s : Same H H') (h : ∀ a ∈ S, a ∈ S') (c : ∀ a ∈ S', a ∈ S ∨ H a = none) (dom : ∀ a ∈ S', ∃ o, H' a = some o) : Ev K S' H' d B st := by
  obtain ⟨⟨cs, c1, q⟩, sub, _, few⟩ := ev
  exact ⟨⟨cs, c1.mono s, q.mono (off_more s c)⟩, fun a ha => h a (sub a ha), dom, few⟩
theorem Ls.grow (ev : Ls S H d B st) (s : Same H H') (h : ∀ a ∈ S, a ∈ S') (c : ∀ a ∈ S', a ∈ S ∨ H a = none) (dom : ∀ a ∈ S', ∃ o, H' a = some o) : Ls S' H' d B st := by
  obtain ⟨⟨cs, c1, q⟩, sub, _, few⟩ := ev
  exact ⟨⟨cs, c1.mono s, q.mono (off_more s c)⟩, fun a ha => h a (sub a ha), dom, few⟩
end
theorem nS1 : decide (V.str "wish" = V.str "sing") = false := by decide +kernel
theorem nO1 : decide (V.str "wish" = V.str "out") = false := by decide +kernel
theorem nO2 : decide (V.str "sing" = V.str "out") = false := by decide +kernel
theorem nS2 : decide (V.str "out" = V.str "sing") = false := by decide +kernel
theorem Cells.domOwn {C : Addr} {H : Hp} {p : Addr} {A : Ad} {last : List Int} {going : Int} {rounds waiting : List Int} {cs : List V} (c : Cells C H p A last going rounds waiting cs) : ∀ a ∈ own p A, ∃ o, H a = some o := fun a q => by
  unfold own at q
  simp only [List.mem_cons, List.not_mem_nil, or_false] at q
  obtain ⟨dx, hp⟩ := c.pp
  rcases q with e | e | e | e | e
  · rw [e]; exact ⟨_, hp⟩
  · rw [e]; exact ⟨_, c.la⟩
  · rw [e]; exact ⟨_, c.ro⟩
  · rw [e]; exact ⟨_, c.wa⟩
  · rw [e]; exact ⟨_, c.ca⟩
theorem LC.domOwn {H : Hp} {p : Addr} {A : Ad} {last : List Int} {going : Int} {rounds waiting : List Int} {cs : List V} (c : LC H p A last going rounds waiting cs) : ∀ a ∈ own p A, ∃ o, H a = some o := fun a q => by
  unfold own at q
  simp only [List.mem_cons, List.not_mem_nil, or_false] at q
  rcases q with e | e | e | e | e
  · rw [e]; exact ⟨_, c.pp⟩
  · rw [e]; exact ⟨_, c.la⟩
  · rw [e]; exact ⟨_, c.ro⟩
  · rw [e]; exact ⟨_, c.wa⟩
  · rw [e]; exact ⟨_, c.ca⟩
/-- an evening just made -/
theorem Ev.made {K : PySem.W.Frag} {H : Hp} {p : Addr} {A : Ad} {n : Int} (c : Cells (He.ga K "Evening") H p A (List.replicate n.toNat 0) 1 [] [] []) : Ev K (own p A) H p A (evNew n) :=
  ⟨⟨[], c, trivial⟩, fun _ h => h, c.domOwn, by show 0 ≤ 900; decide⟩
/-- a part whose inner list is one's own: it may have grown -/
def MutP (H0 : Hp) (l2 : Addr) (n : Nat) (H : Hp) (v : V) : Prop :=
  (∃ (t b : Addr) (x y : V) (xs : List V), v = .ref t ∧ H t = some (.tup [.str "wish", .ref b, x, y]) ∧ H0 b = none ∧ b ≠ l2 ∧ H b = some (.lst xs) ∧ xs.length ≤ 3 + n) ∨
  (∃ (t : Addr) (s : Str) (x : V), v = .ref t ∧ H t = some (.tup [.str s, x]) ∧ decide (V.str s = V.str "wish") = false)
theorem MutP.mono {H0 : Hp} {l2 : Addr} {n : Nat} {H H' : Hp} {v : V} (s : Same H H') (h : MutP H0 l2 n H v) : MutP H0 l2 n H' v := by
  rcases h with ⟨t, b, x, y, xs, h1, h2, h3, h4, h5, h6⟩ | ⟨t, z, x, h1, h2, h3⟩
  · exact .inl ⟨t, b, x, y, xs, h1, s _ _ h2, h3, h4, s _ _ h5, h6⟩
  · exact .inr ⟨t, z, x, h1, s _ _ h2, h3⟩
theorem MutP.up {H0 : Hp} {l2 : Addr} {n : Nat} {H : Hp} {v : V} (h : MutP H0 l2 n H v) : MutP H0 l2 (n + 1) H v := by
  rcases h with ⟨t, b, x, y, xs, h1, h2, h3, h4, h5, h6⟩ | h
  · exact .inl ⟨t, b, x, y, xs, h1, h2, h3, h4, h5, by omega⟩
  · exact .inr h
theorem MutP.put {H0 : Hp} {l2 : Addr} {n : Nat} {H : Hp} {v : V} {c : Addr} {xs : List V} (hc : H c = some (.lst xs)) (hl : xs.length ≤ 3 + n) (y0 : V) (h : MutP H0 l2 n H v) : MutP H0 l2 (n + 1) (upd H c (.lst (xs ++ [y0]))) v := by
  rcases h with ⟨t, b, x, y, ys, h1, h2, h3, h4, h5, h6⟩ | ⟨t, z, x, h1, h2, h3⟩
  · have ntc : t ≠ c := ne_of h2 hc (by intro q; cases q)
    by_cases e : b = c
    · subst e
      exact .inl ⟨t, b, x, y, _, h1, by rw [upd_ne ntc]; exact h2, h3, h4, upd_same, by rw [List.length_append, List.length_singleton]; omega⟩
    · exact .inl ⟨t, b, x, y, ys, h1, by rw [upd_ne ntc]; exact h2, h3, h4, by rw [upd_ne e]; exact h5, by omega⟩
  · have ntc : t ≠ c := ne_of h2 hc (by intro q; cases q)
    exact .inr ⟨t, z, x, h1, by rw [upd_ne ntc]; exact h2, h3⟩
theorem PartN.mut {H0 H : Hp} {l2 : Addr} {v : V} {p : Part} (h : PartN H0 (off [l2] H) v p) (h3 : ∀ ss n r, p = .wish ss n r → ss.length ≤ 3) : MutP H0 l2 0 H v := by
  obtain ⟨pa, pn⟩ := h
  cases v with
  | ref t =>
    cases p with
    | wish ss n r =>
      obtain ⟨t', b, e, h1, h2, h4⟩ := pn ss n r rfl
      cases e
      obtain ⟨nb, hb⟩ := off_some h2
      exact .inl ⟨t, b, _, _, _, rfl, (off_some h1).2, h4, by simpa using nb, hb, by rw [List.length_map]; exact h3 ss n r rfl⟩
    | sing o => exact .inr ⟨t, _, _, rfl, (off_some pa).2, nW1⟩
    | out n => exact .inr ⟨t, _, _, rfl, (off_some pa).2, nW2⟩
  | _ => exact pa.elim
theorem eqv_tale (ps : List Part) : PyData.eqv (.list (ps.map Part.data)) (.list (ps.map Part.data)) = true := eqv_self (shp_tale ps)
section
variable {K : PySem.W.Frag}
theorem Ev.pp {S : List Addr} {H : Hp} {p : Addr} {A : Ad} {st : EvS} (e : Ev K S H p A st) : ∃ dx, H p = some (.ins (He.ga K "Evening") dx (evF A st.going)) := by
  obtain ⟨cs, c, _⟩ := e.cell
  exact c.pp
theorem Ls.tale {S : List Addr} {H : Hp} {p : Addr} {A : Ad} {st : EvS} (e : Ls S H p A st) : Dp K H (.ref A.ca) (.list (st.tale.map Part.data)) := by
  obtain ⟨cs, c, q⟩ := e.cell
  exact .lst (SqL.of c.ca) (q.mono (off_le S H)).dp
theorem told_dp {H0 H : Hp} {l : Addr} {cs : List V} {ps : List Part} (hl : H l = some (.lst cs)) (he : cs.length = ps.length) (h : ∀ (i : Nat) v, cs[i]? = some v → ∃ q, ps[i]? = some q ∧ PartN H0 (off [l] H) v q) :
    Dp K H (.ref l) (.list (ps.map Part.data)) :=
  .lst (SqL.of hl) (Parts.mono (off_le [l] H) (Parts.of he fun i v e => by
    obtain ⟨q, h1, h2⟩ := h i v e
    exact ⟨q, h1, h2.1⟩)).dp
end
end Song

/-! ### Pl3: a tale gone over, plainly -/
namespace Song
open PySem L2
/-- a part that can come now, done -/
def stepPart (st : EvS) : Part → Option EvS
  | .wish ss n r => if areSingers ss st.last.length = true ∧ st.rounds.length < 24 ∧ n = (st.rounds.length : Int) ∧ r = st.num ss then some (st.wish ss) else none
  | .sing o => if st.next = o then some st.sing else none
  | .out n => if n ∈ st.waiting then some (st.out n) else none
def firstFrom (st : EvS) (i : Int) : List Part → Int
  | [] => -1
  | p :: r => match stepPart st p with
    | none => i
    | some st' => firstFrom st' (i + 1) r
def firstWrong (many : Int) (tale : List Part) : Int := firstFrom (evNew many) 0 tale
theorem firstFrom_none {st : EvS} {i : Int} {p : Part} {r : List Part} (h : stepPart st p = none) : firstFrom st i (p :: r) = i := by
  show (match stepPart st p with | none => i | some st' => firstFrom st' (i + 1) r) = i
  rw [h]
theorem firstFrom_some {st st' : EvS} {i : Int} {p : Part} {r : List Part} (h : stepPart st p = some st') : firstFrom st i (p :: r) = firstFrom st' (i + 1) r := by
  show (match stepPart st p with | none => i | some st' => firstFrom st' (i + 1) r) = _
  rw [h]
theorem stepPart_ok {st st' : EvS} {p : Part} (h : stepPart st p = some st') (ok : EvOk st) : EvOk st' ∧ st'.last.length = st.last.length ∧ st'.tale.length = st.tale.length + 1 := by
  cases p with
  | wish ss n r =>
    simp only [stepPart] at h
    split at h
    · rename_i c
      cases h
      exact ⟨ok.wish c.2.1 (areS_len c.1).2.1, setAll_len _ _ _, by show (st.tale ++ [_]).length = _; simp⟩
    · cases h
  | sing o =>
    simp only [stepPart] at h
    split at h
    · cases h
      exact ⟨ok.sing, by rw [EvS.sing_last], sing_tale st⟩
    · cases h
  | out n =>
    simp only [stepPart] at h
    split at h
    · cases h
      exact ⟨ok.out n, rfl, by show (st.tale ++ [_]).length = _; simp⟩
    · cases h
theorem firstFrom_lo (st : EvS) : ∀ (r : List Part) (st : EvS) (i : Int), 0 ≤ i → firstFrom st i r = -1 ∨ (i ≤ firstFrom st i r ∧ firstFrom st i r < i + r.length)
  | [], _, _, _ => .inl rfl
  | p :: r, st, i, hi => by
    cases e : stepPart st p with
    | none => rw [firstFrom_none e]; exact .inr ⟨Int.le_refl _, by rw [List.length_cons]; omega⟩
    | some st' =>
      rw [firstFrom_some e]
      rcases firstFrom_lo st r st' (i + 1) (by omega) with h | h
      · exact .inl h
      · exact .inr ⟨by omega, by rw [List.length_cons]; omega⟩
theorem firstWrong_ge (many : Int) (tale : List Part) : firstWrong many tale = -1 ∨ (0 ≤ firstWrong many tale ∧ firstWrong many tale < tale.length) := by
  rcases firstFrom_lo (evNew many) tale (evNew many) 0 (by decide) with h | h
  · exact .inl h
  · refine .inr ⟨h.1, ?_⟩
    have := h.2
    unfold firstWrong
    omega
end Song

/-! ### An1: first_wrong, and the answers Right, Wrong -/
namespace Song
open PySem L2
section
variable {P : Program} {w : World} {K : PySem.W.Frag} {mg : Str → Option Value} {base : Heap}
theorem sc_first_wrong : FnScope ["many", "tale", "evening", "place", "part"] ["many", "tale"] (defScope s_first_wrong) := ⟨rfl, rfl, rfl, by decide +kernel, rfl, by decide +kernel, by decide +kernel⟩
/-- tales of wishes with no more than 300 singers each -/
def TaleOk (tale : List Part) : Prop := tale.length ≤ 300 ∧ ∀ ss n r, Part.wish ss n r ∈ tale → ss.length ≤ 1000
def sp_first_wrong (K : PySem.W.Frag) : Sp := fun vs H Q _ => ∃ (many : Int) (a : Addr) (cs : List V) (tale : List Part), vs = [.int many, .ref a] ∧ 1 ≤ many ∧ many ≤ 6 ∧ SqL K H a cs ∧ Parts H cs tale ∧ TaleOk tale ∧
  ∀ H', Same H H' → Q (.int (firstWrong many tale)) H'
theorem fn_first_wrong (T : Tx K mg) : Fn P w K mg base "first_wrong" 5 (sp_first_wrong K) := by
  obtain ⟨fd, F⟩ := T.d_first_wrong
  refine ⟨_, fd, _, F.ok (CX := CX0) sc_first_wrong (fun vs H Q E h => ?_) (fun cdv A outer s H vs Q E hr h => ?_), T.g_first_wrong, F.kp, F.bindsN fun _ _ _ _ _ _ us hl => match us, hl with | [_, _], _ => rfl⟩
  · obtain ⟨many, a, cs, tale, rfl, _⟩ := h; rfl
  · obtain ⟨many, a, cs, tale, rfl, m1, m6, hs, hP, tok, q⟩ := h
    refine ⟨_, PSs.nox (pss_cons (ps_set (i := 2) sc_first_wrong.nd rfl (by first | exact Or.inl rfl | exact Or.inr rfl) (pe_mk (mk_Evening T) (hr.mono (by first | decide | omega)) (by rfl) (pa_cons (pv 0) pa_nil)))
      (pss_cons (ps_for PassesOwn.never rfl (show PI _ _ _ (iEnum K _) from pi_enum (by rfl) T.enumerate (pa_cons (pv 1) pa_nil)) (show PG _ _ (gTup K _ _) from pg_tup rfl (pgs_cons (pg_name (i := 3) sc_first_wrong.nd rfl (by first | exact Or.inl rfl | exact Or.inr rfl)) (pgs_cons (pg_name (i := 4) sc_first_wrong.nd rfl (by first | exact Or.inl rfl | exact Or.inr rfl)) pgs_nil)))
      (pss_one (ps_if (pt_cmpR op_eq (pe_ix (show IxR _ (rIxT K) from ix_tup) (pv 4) pe_int (fun _ _ => rfl)) pe_str (nomark _)) (pss_cons (ps_if (PW.pt (pw_or (pt_not (pt_val (pe_fn (fn_are_singers T) (hr.mono (by first | decide | omega)) (by rfl) (pa_cons (pe_ix (show IxR _ (rIxT K) from ix_tup) (pv 4) pe_int (fun _ _ => rfl)) (pa_cons (pv 0) pa_nil))))) (pw_or1 (pt_cmpR op_eq (pe_callB (show CallR _ _ (rLenQ K) from call_len_seq) (by rfl) T.len (by decide +kernel) (pa_cons (show PE _ _ (tFld K _ _) from pe_fld (pv 2) rfl) pa_nil)) (pe_gi T.c_MOST_SONGS (by rfl)) (nomark _))))) (pss_one (ps_ret (pv 3))) pss_nil)
      (pss_one (ps_if (pt_cmpR (show OpR _ _ (rNeD K) from op_neD hr.units) (pe_me (me_Evening_wish T) (hr.mono (by first | decide | omega)) (pv 2) (pa_cons (pe_ix (show IxR _ (rIxT K) from ix_tup) (pv 4) pe_int (fun _ _ => rfl)) pa_nil)) (pe_tup (pa_cons (pe_ix (show IxR _ (rIxT K) from ix_tup) (pv 4) pe_int (fun _ _ => rfl)) (pa_cons (pe_ix (show IxR _ (rIxT K) from ix_tup) (pv 4) pe_int (fun _ _ => rfl)) pa_nil))) (nomark _)) (pss_one (ps_ret (pv 3))) pss_nil))) (pss_one (ps_if (pt_cmpR op_eq (pe_ix (show IxR _ (rIxT K) from ix_tup) (pv 4) pe_int (fun _ _ => rfl)) pe_str (nomark _)) (pss_one (ps_if (pt_cmpR (show OpR _ _ (rNeD K) from op_neD hr.units) (pe_me0 (me_Evening_sing T) (hr.mono (by first | decide | omega)) (pv 2)) (pe_ix (show IxR _ (rIxT K) from ix_tup) (pv 4) pe_int (fun _ _ => rfl)) (nomark _)) (pss_one (ps_ret (pv 3))) pss_nil)) (pss_cons (ps_if (pt_cmpR (show OpR _ _ (rIn K true) from op_notIn_seq) (pe_ix (show IxR _ (rIxT K) from ix_tup) (pv 4) pe_int (fun _ _ => rfl)) (show PE _ _ (tFld K _ _) from pe_fld (pv 2) rfl) (by rfl)) (pss_one (ps_ret (pv 3))) pss_nil)
      (pss_one (ps_expr (pe_me (me_Evening_withdraw T) (hr.mono (by first | decide | omega)) (pv 2) (pa_cons (pe_ix (show IxR _ (rIxT K) from ix_tup) (pv 4) pe_int (fun _ _ => rfl)) pa_nil))))))))))
      (pss_one (ps_ret (pe_un un_neg pe_int))))), ?_⟩
    refine ⟨_, rfl, fun p dx np ndx ned => ?_⟩
    refine ⟨p, dx, _, rfl, m1, m6, upd_same, fun H1 A' f1 c1 a1 a2 a3 a4 => ⟨rfl, ?_⟩⟩
    have s1 : Same H H1 := made_same np ndx f1
    have ev1 : Ev K (own p A') H1 p A' (evNew many) := Ev.made c1
    have nS : ∀ x ∈ own p A', H x = none := fun x hx => by
      unfold own at hx
      simp only [List.mem_cons, List.not_mem_nil, or_false] at hx
      rcases hx with e | e | e | e | e <;> rw [e]
      · exact np
      · exact made_free a1
      · exact made_free a2
      · exact made_free a3
      · exact made_free a4
    have so1 : Same H (off (own p A') H1) := off_free s1 nS
    have okN := evNew_ok m1 m6
    refine ⟨_, rfl, a, cs, rfl, s1.seq hs, for_it (walk_enum (xs := cs)) (fun i σ H' => ∃ (st : EvS) (x3 x4 : Option V), σ = [some (.int many), some (.ref a), some (.ref p), x3, x4] ∧
      EvOk st ∧ (st.last.length : Int) = many ∧ st.tale.length ≤ i ∧ Ev K (own p A') H' p A' st ∧ Same H (off (own p A') H') ∧ firstWrong many tale = firstFrom st i (tale.drop i)) ?_ ?_ ?_ ?_⟩
    · refine ⟨evNew many, _, _, rfl, okN, ?_, Nat.le_refl _, ev1, so1, rfl⟩
      show ((List.replicate many.toNat (0 : Int)).length : Int) = many
      rw [List.length_replicate]; omega
    · rintro i σ H' _ ⟨st, x3, x4, _, _, _, _, _, so, _⟩
      exact (so.trans (off_le _ _)).seq hs
    · rintro i v σ H2 H3 hi ⟨st, x3, x4, rfl, ok, hla, htl, ev, so, hfw⟩ ⟨t, x, y, rfl, nt, rfl, hx, hy⟩
      cases hx
      obtain ⟨part, hpt, hpa⟩ := hP.get hy
      have hcl := hP.len
      have hti : tale.length ≤ 300 := tok.1
      have hdr : tale.drop i = part :: tale.drop (i + 1) := by
        obtain ⟨hlt, e⟩ := List.getElem?_eq_some_iff.mp hpt
        rw [List.drop_eq_getElem_cons hlt, e]
      rw [hdr] at hfw
      refine ⟨t, _, rfl, SqT.of upd_same, rfl, _, _, rfl, _, _, rfl, rfl, ?_⟩
      refine to_new nt fun H3 s3 ht => ?_
      have ev3 := ev.mono s3
      have so3 : Same H (off (own p A') H3) := so.trans (off_mono s3)
      have hpa3 : PartAt (off (own p A') H3) y part := hpa.mono so3
      have fail : stepPart st part = none → ∀ H4, Same H H4 → Q (.int ((i : Nat) : Int)) H4 := fun e H4 s4 => by
        have z := q H4 s4
        rw [hfw, firstFrom_none e] at z
        exact z
      have next : ∀ (st' : EvS) (H4 : Hp), stepPart st part = some st' → Ev K (own p A') H4 p A' st' → Same H (off (own p A') H4) → ∀ z3 z4 : Option V,
          ∃ (st : EvS) (x3 x4 : Option V), [some (.int many), some (.ref a), some (.ref p), z3, z4] = [some (.int many), some (.ref a), some (.ref p), x3, x4] ∧
          EvOk st ∧ (st.last.length : Int) = many ∧ st.tale.length ≤ i + 1 ∧ Ev K (own p A') H4 p A' st ∧ Same H (off (own p A') H4) ∧ firstWrong many tale = firstFrom st ((i + 1 : Nat) : Int) (tale.drop (i + 1)) := fun st' H4 e ev4 so4 z3 z4 => by
        obtain ⟨k1, k2, k3⟩ := stepPart_ok e ok
        refine ⟨st', _, _, rfl, k1, by omega, by omega, ev4, so4, ?_⟩
        rw [hfw, firstFrom_some e]
        rfl
      obtain ⟨dx3, hp3⟩ := ev3.pp
      have back : ∀ {H4 : Hp}, Same H (off (own p A') H4) → Same H H4 := fun s4 => s4.trans (off_le _ _)
      cases y with
      | ref u =>
        cases part with
        | wish ss n r =>
          obtain ⟨b, hu, hb⟩ := hpa3
          have hu' := (off_some hu).2
          have hb' := (off_some hb).2
          have hsl : ss.length ≤ 1000 := tok.2 ss n r (List.mem_of_getElem? hpt)
          refine ⟨_, rfl, u, _, _, _, rfl, rfl, SqT.of hu', atI_nat (j := 0) rfl, rfl, _, rfl, ?_⟩
          rw [decide_eq_true rfl]
          refine iteT ⟨_, rfl, u, _, _, _, rfl, rfl, SqT.of hu', atI_nat (j := 1) rfl, _, rfl, b, ss, many, rfl, SqL.of hb', hsl, fun H4 s4 => ⟨_, rfl, ?_⟩⟩
          have so4 : Same H (off (own p A') H4) := so3.trans (off_mono s4)
          have ev4 := ev3.mono s4
          cases hA : areSingers ss many with
          | false =>
            refine iteT (iteT ⟨_, rfl, fail ?_ H4 (back so4)⟩)
            simp only [stepPart]
            rw [if_neg (fun z => by rw [hla, hA] at z; exact absurd z.1 (by decide))]
          | true =>
            obtain ⟨dx4, hp4⟩ := ev4.pp
            obtain ⟨cs4, c4, hq4⟩ := ev4.cell
            refine iteF ⟨_, rfl, p, _, dx4, _, _, rfl, hp4, T.cls_Evening, T.na_Evening_rounds, evF_rounds _ _, A'.ro, _, rfl, .inl (SqL.of c4.ro), rfl, _, rfl, ?_⟩
            rw [List.length_map]
            by_cases h24 : st.rounds.length = 24
            · rw [decide_eq_true (by rw [h24]; rfl)]
              refine iteT ⟨_, rfl, fail ?_ H4 (back so4)⟩
              simp only [stepPart]
              rw [if_neg (fun z => by omega)]
            · rw [decide_eq_false (by intro z; injection z; omega)]
              have hb4 : off (own p A') H4 b = some (.lst (ss.map V.int)) := (off_mono s4) _ _ hb
              have hu4 := s4 _ _ hu'
              refine iteF ⟨_, rfl, p, dx4, _, rfl, hp4, evF_no _ _ (by decide +kernel), _, rfl, u, _, _, _, rfl, rfl, SqT.of hu4, atI_nat (j := 1) rfl,
                own p A', p, b, A', st, ss, rfl, ev4, ok, by omega, SqL.of hb4, by rw [hla]; exact hA, (by have := ok.r24; omega), fun H5 v f5 ev5 nv hv => ?_⟩
              have so5 : Same H (off (own p A') H5) := so4.trans (Fra.off f5)
              have hu5 : H5 u = some (.tup [.str "wish", .ref b, .int n, .int r]) := f5 _ _ (off_some hu).1 hu4
              refine ⟨_, rfl, u, _, _, _, rfl, rfl, SqT.of hu5, atI_nat (j := 2) rfl, _, rfl, u, _, _, _, rfl, rfl, SqT.of hu5, atI_nat (j := 3) rfl, by show 2 ≤ sizeLine; decide, fun e ne => ?_⟩
              refine to_new ne fun H6 s6 he => ?_
              refine ⟨_, _, .tup (SqT.of (s6 _ _ hv)) (.cons (.int _) (.cons (.int _) .nil)), .tup (SqT.of he) (.cons (.int _) (.cons (.int _) .nil)), (shp_pair _ _).ok, (shp_pair _ _).ok, _, rfl, ?_⟩
              rw [eqv_pair]
              have so6 : Same H (off (own p A') H6) := so5.trans (off_mono s6)
              by_cases hE : (st.rounds.length : Int) = n ∧ st.num ss = r
              · rw [decide_eq_true hE]
                refine iteF (next (st.wish ss) H6 ?_ (ev5.mono s6) so6 _ _)
                simp only [stepPart]
                rw [if_pos ⟨by rw [hla]; exact hA, by have := ok.r24; omega, hE.1.symm, hE.2.symm⟩]
              · rw [decide_eq_false hE]
                refine iteT ⟨_, rfl, fail ?_ H6 (back so6)⟩
                simp only [stepPart]
                rw [if_neg (fun z => hE ⟨z.2.2.1.symm, z.2.2.2.symm⟩)]
        | sing o =>
          have hu' := (off_some hpa3).2
          refine ⟨_, rfl, u, _, _, _, rfl, rfl, SqT.of hu', atI_nat (j := 0) rfl, rfl, _, rfl, ?_⟩
          rw [nW1]
          refine iteF ⟨_, rfl, u, _, _, _, rfl, rfl, SqT.of hu', atI_nat (j := 0) rfl, rfl, _, rfl, ?_⟩
          rw [decide_eq_true rfl]
          refine iteT ⟨_, rfl, p, dx3, _, rfl, hp3, evF_no _ _ (by decide +kernel), own p A', p, A', st, rfl, ev3, ok, by omega, fun H5 f5 ev5 => ?_⟩
          have so5 : Same H (off (own p A') H5) := so3.trans (Fra.off f5)
          have hu5 : H5 u = some (.tup [.str "sing", optV o]) := f5 _ _ (off_some hpa3).1 hu'
          refine ⟨_, rfl, u, _, _, _, rfl, rfl, SqT.of hu5, atI_nat (j := 1) rfl, _, _, dp_opt _, dp_opt _, (shp_optD _).ok, (shp_optD _).ok, _, rfl, ?_⟩
          rw [eqv_opt]
          by_cases hE : st.next = o
          · rw [decide_eq_true hE]
            refine iteF (next st.sing H5 ?_ ev5 so5 _ _)
            simp only [stepPart]
            rw [if_pos hE]
          · rw [decide_eq_false hE]
            refine iteT ⟨_, rfl, fail ?_ H5 (back so5)⟩
            simp only [stepPart]
            rw [if_neg hE]
        | out n =>
          have hu' := (off_some hpa3).2
          refine ⟨_, rfl, u, _, _, _, rfl, rfl, SqT.of hu', atI_nat (j := 0) rfl, rfl, _, rfl, ?_⟩
          rw [nW2]
          refine iteF ⟨_, rfl, u, _, _, _, rfl, rfl, SqT.of hu', atI_nat (j := 0) rfl, rfl, _, rfl, ?_⟩
          rw [nS2]
          obtain ⟨cs3, c3, hq3⟩ := ev3.cell
          refine iteF ⟨_, rfl, u, _, _, _, rfl, rfl, SqT.of hu', atI_nat (j := 1) rfl, _, rfl, p, _, dx3, _, _, rfl, hp3, T.cls_Evening, T.na_Evening_waiting, evF_waiting _ _, A'.wa, _, rfl, .inl (SqL.of c3.wa), rfl, flat_ints _, _, rfl, ?_⟩
          rw [inV_ints]
          by_cases hE : n ∈ st.waiting
          · rw [decide_eq_true hE]
            refine iteF ⟨_, rfl, p, dx3, _, rfl, hp3, evF_no _ _ (by decide +kernel), _, rfl, u, _, _, _, rfl, rfl, SqT.of hu', atI_nat (j := 1) rfl, own p A', p, A', st, n, rfl, ev3, ok, by omega, hE, fun H5 f5 ev5 => ?_⟩
            refine next (st.out n) H5 ?_ ev5 (so3.trans (Fra.off f5)) _ _
            simp only [stepPart]
            rw [if_pos hE]
          · rw [decide_eq_false hE]
            refine iteT ⟨_, rfl, fail ?_ H3 (back so3)⟩
            simp only [stepPart]
            rw [if_neg hE]
      | _ => exact hpa.elim
    · rintro σ H2 ⟨st, x3, x4, rfl, ok, hla, htl, ev, so, hfw⟩
      have hcl := hP.len
      rw [hcl, List.drop_length] at hfw
      have z := q H2 (so.trans (off_le _ _))
      rw [hfw] at z
      exact ⟨_, rfl, z⟩
end
end Song

/-! ### An2: the answers Right and Wrong; what a law says of them -/
namespace Song
open PySem L2
section
variable {P : Program} {w : World} {K : PySem.W.Frag} {mg : Str → Option Value} {base : Heap}
/-- a tale handed in: its list, its parts -/
def TaleIn (K : PySem.W.Frag) (H : Hp) (a : Addr) (tale : List Part) : Prop := ∃ cs, SqL K H a cs ∧ Parts H cs tale ∧ TaleOk tale
theorem TaleIn.mono {H H' : Hp} {a : Addr} {tale : List Part} (s : Same H H') (h : TaleIn K H a tale) : TaleIn K H' a tale := by
  obtain ⟨cs, h1, h2, h3⟩ := h
  exact ⟨cs, s.seq h1, h2.mono s, h3⟩
theorem sc_Right_shows : FnScope ["self", "many", "tale"] ["self", "many", "tale"] (defScope s_Right_shows) := ⟨rfl, rfl, rfl, by decide +kernel, rfl, by decide +kernel, by decide +kernel⟩
def sp_right_shows (K : PySem.W.Frag) : Sp := fun vs H Q _ => ∃ (r a : Addr) (many : Int) (tale : List Part), vs = [.ref r, .int many, .ref a] ∧ 1 ≤ many ∧ many ≤ 6 ∧ TaleIn K H a tale ∧
  ∀ H', Same H H' → Q (.bl (decide (firstWrong many tale < 0))) H'
theorem me_Right_shows (T : Tx K mg) : Me P w K mg base (He.ga K "Right") "shows" 6 (sp_right_shows K) := by
  obtain ⟨fd, F⟩ := T.d_Right_shows
  refine ⟨_, fd, _, F.ok (CX := CX0) sc_Right_shows (fun vs H Q E h => ?_) (fun cdv A outer s H vs Q E hr h => ?_), T.cls_Right, T.me_Right_shows, F.bindsN fun _ _ _ _ _ _ us hl => match us, hl with | [_, _, _], _ => rfl⟩
  · obtain ⟨r, a, many, tale, rfl, _⟩ := h; rfl
  · obtain ⟨r, a, many, tale, rfl, m1, m6, ⟨cs, h1, h2, h3⟩, q⟩ := h
    refine ⟨_, PSs.nox (pss_one (ps_ret (pe_cmpR op_lt (pe_fn (fn_first_wrong T) (hr.mono (by first | decide | omega)) (by rfl) (pa_cons (pv 1) (pa_cons (pv 2) pa_nil))) pe_int (nomark _)))), ?_⟩
    exact ⟨_, rfl, _, rfl, many, a, cs, tale, rfl, m1, m6, h1, h2, h3, fun H1 s1 => ⟨_, _, rfl, rfl, q _ s1⟩⟩
def wrF (v : V) : List (Str × V) := [("place", v)]
theorem wrF_place (v : V) : (wrF v).lookup ("place" : Str) = some v := by kernel_rfl
theorem wrF_shows (v : V) : (wrF v).lookup ("shows" : Str) = none := by kernel_rfl
theorem wrF_put (v : V) : putF "place" v [] = wrF v := by kernel_rfl
theorem sc_Wrong___init__ : FnScope ["self", "place"] ["self", "place"] (defScope s_Wrong___init__) := ⟨rfl, rfl, rfl, by decide +kernel, rfl, by decide +kernel, by decide +kernel⟩
def sp_wrong_init (K : PySem.W.Frag) : Sp := fun vs H Q _ => ∃ (p dx : Addr) (v : V), vs = [.ref p, v] ∧ H p = some (.ins (He.ga K "Wrong") dx []) ∧ ∀ H', Fra [p] H H' → H' p = some (.ins (He.ga K "Wrong") dx (wrF v)) → Q .non H'
theorem mk_Wrong (T : Tx K mg) : Mke P w K mg base "Wrong" (He.ga K "Wrong") 1 (sp_wrong_init K) := by
  obtain ⟨fd, F⟩ := T.d_Wrong___init__
  refine ⟨_, fd, _, F.ok (CX := CX0) sc_Wrong___init__ (fun vs H Q E h => ?_) (fun cdv A outer s H vs Q E hr h => ?_), T.mk_Wrong, T.g_Wrong, F.bindsN fun _ _ _ _ _ _ us hl => match us, hl with | [_, _], _ => rfl⟩
  · obtain ⟨p, dx, v, rfl, _⟩ := h; rfl
  · obtain ⟨p, dx, v, rfl, hp, q⟩ := h
    refine ⟨_, PSs.nox (pss_one (show PS _ _ (sFld K _ _ _) from ps_fld (pv 0) (pv 1) rfl)), ?_⟩
    refine ⟨_, rfl, _, rfl, p, _, dx, _, rfl, hp, T.cls_Wrong, T.na_Wrong_place, by show 0 < 1000; decide, ?_⟩
    rw [wrF_put]
    exact to_put fun H1 f1 hp1 => q H1 f1 hp1
theorem sc_Wrong_shows : FnScope ["self", "many", "tale"] ["self", "many", "tale"] (defScope s_Wrong_shows) := ⟨rfl, rfl, rfl, by decide +kernel, rfl, by decide +kernel, by decide +kernel⟩
def sp_wrong_shows (K : PySem.W.Frag) : Sp := fun vs H Q _ => ∃ (p dx a : Addr) (many n : Int) (tale : List Part), vs = [.ref p, .int many, .ref a] ∧ H p = some (.ins (He.ga K "Wrong") dx (wrF (.int n))) ∧ 1 ≤ many ∧ many ≤ 6 ∧ TaleIn K H a tale ∧
  ∀ H', Same H H' → Q (.bl (decide (0 ≤ n ∧ firstWrong many tale = n))) H'
theorem me_Wrong_shows (T : Tx K mg) : Me P w K mg base (He.ga K "Wrong") "shows" 6 (sp_wrong_shows K) := by
  obtain ⟨fd, F⟩ := T.d_Wrong_shows
  refine ⟨_, fd, _, F.ok (CX := CX0) sc_Wrong_shows (fun vs H Q E h => ?_) (fun cdv A outer s H vs Q E hr h => ?_), T.cls_Wrong, T.me_Wrong_shows, F.bindsN fun _ _ _ _ _ _ us hl => match us, hl with | [_, _, _], _ => rfl⟩
  · obtain ⟨p, dx, a, many, n, tale, rfl, _⟩ := h; rfl
  · obtain ⟨p, dx, a, many, n, tale, rfl, hp, m1, m6, ⟨cs, h1, h2, h3⟩, q⟩ := h
    refine ⟨_, PSs.nox (pss_one (ps_ret (pe_and (pe_cmpR op_ge (show PE _ _ (tFld K _ _) from pe_fld (pv 0) rfl) pe_int (nomark _)) (pe_one (pe_cmpR op_eq (pe_fn (fn_first_wrong T) (hr.mono (by first | decide | omega)) (by rfl) (pa_cons (pv 1) (pa_cons (pv 2) pa_nil))) (show PE _ _ (tFld K _ _) from pe_fld (pv 0) rfl) (nomark _)))))), ?_⟩
    refine ⟨_, rfl, p, _, dx, _, _, rfl, hp, T.cls_Wrong, T.na_Wrong_place, wrF_place _, _, _, rfl, rfl, _, rfl, ?_⟩
    by_cases h0 : 0 ≤ n
    · rw [decide_eq_true h0]
      refine iteT ⟨_, rfl, _, rfl, many, a, cs, tale, rfl, m1, m6, h1, h2, h3, fun H1 s1 => ?_⟩
      refine ⟨_, rfl, p, _, dx, _, _, rfl, s1 _ _ hp, T.cls_Wrong, T.na_Wrong_place, wrF_place _, rfl, ?_⟩
      have e : decide (V.int (firstWrong many tale) = V.int n) = decide (0 ≤ n ∧ firstWrong many tale = n) := by
        by_cases z : firstWrong many tale = n
        · rw [decide_eq_true (congrArg V.int z), decide_eq_true ⟨h0, z⟩]
        · rw [decide_eq_false (fun y => z (by injection y)), decide_eq_false (fun y => z y.2)]
      rw [e]
      exact q _ s1
    · rw [decide_eq_false h0]
      have z := q H (Same.refl _)
      rw [decide_eq_false (fun y => h0 y.1)] at z
      exact iteF z
end
end Song

/-! ### Pl4: tales of deeds, plainly -/
namespace Song
open PySem L2
def TaleV (many : Int) (tale : List Part) : Prop := ∀ ss n r, Part.wish ss n r ∈ tale → areSingers ss many = true
theorem TaleV.wish {st : EvS} {ss : List Int} {m : Int} (h : TaleV m st.tale) (hs : areSingers ss m = true) : TaleV m (st.wish ss).tale := fun ss' n r hm => by
  rcases List.mem_append.mp hm with q | q
  · exact h ss' n r q
  · have := List.mem_singleton.mp q
    injection this with e _ _
    rw [e]; exact hs
theorem TaleV.sing {st : EvS} {m : Int} (h : TaleV m st.tale) : TaleV m st.sing.tale := fun ss n r hm => h ss n r (by
  unfold EvS.sing at hm
  cases e : st.next with
  | none => rw [e] at hm; simpa using hm
  | some s => rw [e] at hm; simpa using hm)
theorem TaleV.out {st : EvS} {m k : Int} (h : TaleV m st.tale) : TaleV m (st.out k).tale := fun ss n r hm => h ss n r (by simpa [EvS.out] using hm)
theorem TaleV.ok {m : Int} {tale : List Part} (h : TaleV m tale) (hl : tale.length ≤ 300) : TaleOk tale := ⟨hl, fun ss n r hm => by have := (areS_len (h ss n r hm)).2.1; omega⟩
theorem sing_rounds (st : EvS) : st.sing.rounds = st.rounds := by
  unfold EvS.sing
  cases st.next <;> rfl
theorem Parts.app {H : Hp} : ∀ {vs ws : List V} {ps qs : List Part}, Parts H vs ps → Parts H ws qs → Parts H (vs ++ ws) (ps ++ qs)
  | [], _, [], _, _, h => h
  | _ :: _, _, _ :: _, _, h, h2 => ⟨h.1, Parts.app h.2 h2⟩
  | [], _, _ :: _, _, h, _ => h.elim
  | _ :: _, _, [], _, h, _ => h.elim
theorem Parts.take {H : Hp} : ∀ {vs : List V} {ps : List Part} (n : Nat), Parts H vs ps → Parts H (vs.take n) (ps.take n)
  | _, _, 0, _ => trivial
  | [], [], _ + 1, _ => trivial
  | _ :: _, _ :: _, n + 1, h => ⟨h.1, Parts.take n h.2⟩
  | [], _ :: _, _, h => h.elim
  | _ :: _, [], _, h => h.elim
theorem Parts.drop {H : Hp} : ∀ {vs : List V} {ps : List Part} (n : Nat), Parts H vs ps → Parts H (vs.drop n) (ps.drop n)
  | _, _, 0, h => h
  | [], [], _ + 1, _ => trivial
  | _ :: _, _ :: _, n + 1, h => Parts.drop n h.2
  | [], _ :: _, _, h => h.elim
  | _ :: _, [], _, h => h.elim
end Song

/-! ### Dc: dicts of whole numbers, plainly -/
namespace Song
open PySem L2
def getC (cn : List (Int × Int)) (k : Int) : Option Int := (cn.find? fun p => decide (p.1 = k)).map (·.2)
def putC (cn : List (Int × Int)) (k v : Int) : List (Int × Int) := if (cn.any fun p => decide (p.1 = k)) = true then cn.map (fun p => if p.1 = k then (p.1, v) else p) else cn ++ [(k, v)]
def toK (cn : List (Int × Int)) : List (Key × V) := cn.map fun p => (Sum.inl p.1, V.int p.2)
theorem inl_iff {a b : Int} : ((Sum.inl a : Key) = Sum.inl b) ↔ a = b := ⟨fun e => by injection e, fun e => by rw [e]⟩
theorem valV_toK (k : Int) : ∀ cn : List (Int × Int), valV (toK cn) (Sum.inl k) = (getC cn k).map V.int
  | [] => rfl
  | p :: r => by
    by_cases e : p.1 = k
    · have h1 : valV (toK (p :: r)) (Sum.inl k) = some (.int p.2) := valV_pos (p := (Sum.inl p.1, V.int p.2)) (inl_iff.mpr e)
      rw [h1]
      unfold getC
      rw [List.find?_cons_of_pos (by simpa using e)]; rfl
    · have h1 : valV (toK (p :: r)) (Sum.inl k) = valV (toK r) (Sum.inl k) := valV_neg (p := (Sum.inl p.1, V.int p.2)) (fun z => e (inl_iff.mp z))
      rw [h1, valV_toK k r]
      unfold getC
      rw [List.find?_cons_of_neg (by simpa using e)]
theorem any_toK (k : Int) (cn : List (Int × Int)) : ((toK cn).any fun kv => decide (kv.1 = Sum.inl k)) = cn.any fun p => decide (p.1 = k) := by
  unfold toK
  rw [List.any_map]
  congr 1
  funext p
  exact decide_eq_decide.mpr inl_iff
theorem putK_toK (k v : Int) (cn : List (Int × Int)) : putK (toK cn) (Sum.inl k) (.int v) = toK (putC cn k v) := by
  unfold putK putC
  rw [any_toK]
  split
  · unfold toK
    rw [List.map_map, List.map_map]
    refine List.map_congr_left fun p _ => ?_
    show (if (Sum.inl p.1 : Key) = Sum.inl k then _ else _) = ((fun p : Int × Int => ((Sum.inl p.1 : Key), V.int p.2)) (if p.1 = k then (p.1, v) else p))
    by_cases e : p.1 = k
    · rw [if_pos (inl_iff.mpr e), if_pos e]
    · rw [if_neg (fun z => e (inl_iff.mp z)), if_neg e]
  · unfold toK
    rw [List.map_append]; rfl
theorem toK_len (cn : List (Int × Int)) : (toK cn).length = cn.length := List.length_map _
theorem putC_len (cn : List (Int × Int)) (k v : Int) : (putC cn k v).length ≤ cn.length + 1 := by
  unfold putC
  split
  · rw [List.length_map]; omega
  · rw [List.length_append, List.length_singleton]; omega
theorem getC_putC (cn : List (Int × Int)) (k v s : Int) : getC (putC cn k v) s = if s = k then some v else getC cn s := by
  unfold putC
  by_cases h : (cn.any fun p => decide (p.1 = k)) = true
  · rw [if_pos h]
    induction cn with
    | nil => simp at h
    | cons p r ih =>
      unfold getC at ih ⊢
      rw [List.map_cons]
      by_cases e : p.1 = k
      · rw [if_pos e]
        by_cases e2 : s = k
        · rw [if_pos e2, List.find?_cons_of_pos (by simp [e, e2])]; rfl
        · rw [if_neg e2, List.find?_cons_of_neg (by simp [e]; exact fun z => e2 z.symm), List.find?_cons_of_neg (by simp [e]; exact fun z => e2 z.symm)]
          by_cases h2 : (r.any fun p => decide (p.1 = k)) = true
          · rw [ih h2, if_neg e2]
          · have e3 : r.map (fun p => if p.1 = k then (p.1, v) else p) = r := by
              refine (List.map_congr_left fun q hq => ?_).trans (List.map_id _)
              rw [if_neg (fun z => h2 (List.any_eq_true.mpr ⟨q, hq, decide_eq_true z⟩))]; rfl
            rw [e3]
      · rw [if_neg e]
        have h2 : (r.any fun p => decide (p.1 = k)) = true := by
          rw [List.any_cons, decide_eq_false e] at h; exact h
        by_cases e2 : p.1 = s
        · rw [List.find?_cons_of_pos (by simpa using e2), List.find?_cons_of_pos (by simpa using e2), if_neg (fun z => e (e2.trans z))]
        · rw [List.find?_cons_of_neg (by simpa using e2), List.find?_cons_of_neg (by simpa using e2)]
          exact ih h2
  · rw [if_neg h]
    unfold getC
    rw [List.find?_append]
    by_cases e2 : s = k
    · rw [if_pos e2]
      have n : cn.find? (fun p => decide (p.1 = s)) = none := List.find?_eq_none.mpr fun p hp z => h (List.any_eq_true.mpr ⟨p, hp, by rw [← e2]; exact z⟩)
      rw [n]
      simp [e2]
    · rw [if_neg e2]
      have n : [(k, v)].find? (fun p : Int × Int => decide (p.1 = s)) = none := by
        rw [List.find?_cons_of_neg (by simpa using fun z => e2 z.symm)]; rfl
      rw [n, Option.or_none]
theorem getC_get {H : Hp} {c : Addr} {cn : List (Int × Int)} {x v : Int} (h : H c = some (.dK (toK cn))) (g : getC cn x = some v) : DGet H c (.int x) (some (.int v)) := by
  have z := DGet.k (k := Sum.inl x) h
  rw [valV_toK, g] at z
  exact z
end Song

/-! ### Cut: a named state behind a statement, a named answer behind an expression -/
namespace Song
open PySem L2
def sCut (t : TS) : TS := fun D σ H => ∃ G : L2.St → Hp → Prop, t { D with nx := G } σ H ∧ ∀ σ' H', G σ' H' → D.nx σ' H'
theorem ps_cut {X : Cx} {st : Stmt} {t : TS} (h : PS X st t) : PS X st (sCut t) := by
  refine ⟨fun pins s σ H D I hw => ?_⟩
  obtain ⟨G, h1, h2⟩ := hw
  refine thn (h.run pins s σ H _ I h1) fun f s1 q => ?_
  cases f with
  | next => obtain ⟨σ', H', I2, z⟩ := q; exact ⟨σ', H', I2, h2 _ _ z⟩
  | brk => exact q
  | cont => exact q
  | ret v => exact q
def eCut (t : TE) : TE := fun σ H Q => ∃ G : V → Hp → Prop, t σ H G ∧ ∀ v H', G v H' → Q v H'
theorem pe_cut {X : Cx} {e : Expr} {t : TE} (h : PE X e t) : PE X e (eCut t) := by
  refine ⟨fun pins s σ H Q I hw => ?_⟩
  obtain ⟨G, h1, h2⟩ := hw
  refine thn (h.run pins s σ H _ I h1) fun v s1 ⟨x, H1, I1, r, q⟩ => ?_
  exact ⟨x, H1, I1, r, h2 _ _ q⟩
/-- one of two readings of an expression -/
def tAlt (t1 t2 : TE) : TE := fun σ H Q => t1 σ H Q ∨ t2 σ H Q
theorem pe_alt {X : Cx} {e : Expr} {t1 t2 : TE} (a : PE X e t1) (b : PE X e t2) : PE X e (tAlt t1 t2) :=
  ⟨fun pins s σ H Q I h => h.elim (fun h => a.run pins s σ H Q I h) (fun h => b.run pins s σ H Q I h)⟩
/-- an own instance's class, for isinstance -/
theorem ty_ins {K : PySem.W.Frag} {H : Hp} {a C dx : Addr} {fs : List (Str × V)} (h : H a = some (.ins C dx fs)) (cl : Cls K C) (c : IsC K C) : TyX K H (.ref a) (.ref C) := .base (.ins h cl c.cls c.spe c.tak c.mro)
/-- lists of numbers in the heap, none of them long -/
def IntL (K : PySem.W.Frag) (H : Hp) (vs : List V) : Prop := ∀ v ∈ vs, ∃ (b : Addr) (ns : List Int), v = .ref b ∧ SqL K H b (ns.map V.int) ∧ ns.length ≤ 100
theorem IntL.mono {K : PySem.W.Frag} {H H' : Hp} {vs : List V} (s : Same H H') (h : IntL K H vs) : IntL K H' vs := fun v hv => by
  obtain ⟨b, ns, e, q, l⟩ := h v hv
  exact ⟨b, ns, e, s.seq q, l⟩
theorem IntL.nil {K : PySem.W.Frag} {H : Hp} : IntL K H [] := fun v hv => by cases hv
theorem IntL.cons {K : PySem.W.Frag} {H : Hp} {b : Addr} {ns : List Int} {vs : List V} (h : SqL K H b (ns.map V.int)) (l : ns.length ≤ 100) (t : IntL K H vs) : IntL K H (.ref b :: vs) := fun v hv => by
  rcases List.mem_cons.mp hv with e | e
  · exact ⟨b, ns, e, h, l⟩
  · exact t v e
theorem IntL.app {K : PySem.W.Frag} {H : Hp} {vs ws : List V} (h : IntL K H vs) (g : IntL K H ws) : IntL K H (vs ++ ws) := fun v hv => by
  rcases List.mem_append.mp hv with e | e
  · exact h v e
  · exact g v e
theorem rep_intsN (n : Nat) (ns : List Int) : (List.replicate n (ns.map V.int)).flatten = ((List.replicate n ns).flatten).map V.int := by
  rw [List.map_flatten, List.map_replicate]
end Song

/-! ### An3: is_part, judged -/
namespace Song
open PySem L2
section
variable {P : Program} {w : World} {K : PySem.W.Frag} {mg : Str → Option Value} {base : Heap}
/-- a Right or a Wrong -/
def AnsAt (K : PySem.W.Frag) (H : Hp) (r : Addr) (fw : Int) : Prop := (fw < 0 ∧ ∃ dx, H r = some (.ins (He.ga K "Right") dx [])) ∨ (0 ≤ fw ∧ ∃ dx, H r = some (.ins (He.ga K "Wrong") dx (wrF (.int fw))))
theorem AnsAt.mono {H H' : Hp} {r : Addr} {fw : Int} (s : Same H H') (h : AnsAt K H r fw) : AnsAt K H' r fw := by
  rcases h with ⟨h0, dx, h⟩ | ⟨h0, dx, h⟩
  · exact .inl ⟨h0, dx, s _ _ h⟩
  · exact .inr ⟨h0, dx, s _ _ h⟩
theorem sc_is_part : FnScope ["thing"] ["thing"] (defScope s_is_part) := ⟨rfl, rfl, rfl, by decide +kernel, rfl, by decide +kernel, by decide +kernel⟩
def sp_is_part (K : PySem.W.Frag) : Sp := fun vs H Q _ => ∃ (v : V) (p : Part), vs = [v] ∧ PartAt H v p ∧ (∀ ss n r, p = .wish ss n r → ss.length ≤ 1000) ∧ ∀ H', Same H H' → Q (.bl true) H'
theorem all_isInt (ns : List Int) : (ns.map V.int).all isInt = true := by rw [List.all_map]; exact List.all_eq_true.mpr fun _ _ => rfl
theorem fn_is_part (T : Tx K mg) : Fn P w K mg base "is_part" 3 (sp_is_part K) := by
  obtain ⟨fd, F⟩ := T.d_is_part
  refine ⟨_, fd, _, F.ok (CX := CX0) sc_is_part (fun vs H Q E h => ?_) (fun cdv A outer s H vs Q E hr h => ?_), T.g_is_part, F.kp, F.bindsN fun _ _ _ _ _ _ us hl => match us, hl with | [_], _ => rfl⟩
  · obtain ⟨v, p, rfl, _⟩ := h; rfl
  · obtain ⟨v, p, rfl, hp, hl, q⟩ := h
    refine ⟨_, PSs.nox (pss_cons (ps_if (PW.pt (pw_or (pt_not (pt_val (pe_callB (show CallR _ _ (rIsi K) from call_isi) (by rfl) T.isinstance (by decide +kernel) (pa_cons (pv 0) (pa_cons (pe_gt (n := "tuple") T.tuple (by rfl) (by decide +kernel)) pa_nil))))) (pw_or (pt_cmpR op_lt (pe_callB (show CallR _ _ (rLenQ K) from call_len_seq) (by rfl) T.len (by decide +kernel) (pa_cons (pv 0) pa_nil)) pe_int (nomark _)) (pw_or1 (pt_not (pt_val (pe_callB (show CallR _ _ (rIsi K) from call_isi) (by rfl) T.isinstance (by decide +kernel) (pa_cons (pe_ix (show IxR _ (rIxT K) from ix_tup) (pv 0) pe_int (fun _ _ => rfl)) (pa_cons (pe_gt (n := "str") T.str (by rfl) (by decide +kernel)) pa_nil))))))))) (pss_one (ps_ret pe_bl)) pss_nil)
      (pss_cons (ps_if (pt_cmpR op_eq (pe_ix (show IxR _ (rIxT K) from ix_tup) (pv 0) pe_int (fun _ _ => rfl)) pe_str (nomark _)) (pss_one (ps_ret (pe_and (pe_cmpR op_eq (pe_callB (show CallR _ _ (rLenQ K) from call_len_seq) (by rfl) T.len (by decide +kernel) (pa_cons (pv 0) pa_nil)) pe_int (nomark _)) (pe_and (pe_fn (fn_are_numbers T) (hr.mono (by first | decide | omega)) (by rfl) (pa_cons (pe_ix (show IxR _ (rIxT K) from ix_tup) (pv 0) pe_int (fun _ _ => rfl)) pa_nil)) (pe_and (pe_fn (fn_is_whole T) (hr.mono (by first | decide | omega)) (by rfl) (pa_cons (pe_ix (show IxR _ (rIxT K) from ix_tup) (pv 0) pe_int (fun _ _ => rfl)) pa_nil)) (pe_one (pe_fn (fn_is_whole T) (hr.mono (by first | decide | omega)) (by rfl) (pa_cons (pe_ix (show IxR _ (rIxT K) from ix_tup) (pv 0) pe_int (fun _ _ => rfl)) pa_nil)))))))) pss_nil)
      (pss_cons (ps_if (pt_cmpR op_eq (pe_ix (show IxR _ (rIxT K) from ix_tup) (pv 0) pe_int (fun _ _ => rfl)) pe_str (nomark _)) (pss_one (ps_ret (pe_and (pe_cmpR op_eq (pe_callB (show CallR _ _ (rLenQ K) from call_len_seq) (by rfl) T.len (by decide +kernel) (pa_cons (pv 0) pa_nil)) pe_int (nomark _)) (pe_one (pe_or (pe_cmpR op_isN (pe_ix (show IxR _ (rIxT K) from ix_tup) (pv 0) pe_int (fun _ _ => rfl)) pe_non (nomark _)) (pe_one (pe_fn (fn_is_whole T) (hr.mono (by first | decide | omega)) (by rfl) (pa_cons (pe_ix (show IxR _ (rIxT K) from ix_tup) (pv 0) pe_int (fun _ _ => rfl)) pa_nil)))))))) pss_nil)
      (pss_one (ps_ret (pe_and (pe_cmpR op_eq (pe_ix (show IxR _ (rIxT K) from ix_tup) (pv 0) pe_int (fun _ _ => rfl)) pe_str (nomark _)) (pe_and (pe_cmpR op_eq (pe_callB (show CallR _ _ (rLenQ K) from call_len_seq) (by rfl) T.len (by decide +kernel) (pa_cons (pv 0) pa_nil)) pe_int (nomark _)) (pe_one (pe_fn (fn_is_whole T) (hr.mono (by first | decide | omega)) (by rfl) (pa_cons (pe_ix (show IxR _ (rIxT K) from ix_tup) (pv 0) pe_int (fun _ _ => rfl)) pa_nil)))))))))), ?_⟩
    cases v with
    | ref t =>
      have str : ∀ (n : String), Kd K H (.str n) "str" := fun n => .base (.str n)
      cases p with
      | wish ss n r =>
        obtain ⟨b, ht, hb⟩ := hp
        have kt := kd_tup (SqT.of (K := K) ht)
        refine ⟨_, rfl, _, _, _, _, _, rfl, .ty _, kt, (kit_kd kt).2.2.2.1, _, rfl, iteF ?_⟩
        refine ⟨_, rfl, t, _, rfl, .inr (SqT.of ht), _, _, rfl, rfl, _, rfl, iteF ?_⟩
        refine ⟨_, rfl, t, _, _, _, rfl, rfl, SqT.of ht, atI_nat (j := 0) rfl, _, _, _, _, _, rfl, .ty _, str "wish", (kit_kd (str "wish")).2.2.2.2, _, rfl, iteF ?_⟩
        refine ⟨_, rfl, t, _, _, _, rfl, rfl, SqT.of ht, atI_nat (j := 0) rfl, rfl, _, rfl, ?_⟩
        rw [decide_eq_true rfl]
        refine iteT ⟨_, rfl, t, _, rfl, .inr (SqT.of ht), rfl, _, rfl, iteT ?_⟩
        refine ⟨_, rfl, t, _, _, _, rfl, rfl, SqT.of ht, atI_nat (j := 1) rfl, _, rfl, .inl ⟨b, _, rfl, SqL.of hb, by rw [List.length_map]; exact hl ss n r rfl, fun x hx => ?_, fun H1 s1 => ?_⟩⟩
        · obtain ⟨m, _, rfl⟩ := List.mem_map.mp hx
          exact ⟨_, kd_int m⟩
        rw [all_isInt]
        refine ⟨_, rfl, iteT ⟨_, rfl, t, _, _, _, rfl, rfl, SqT.of (s1 _ _ ht), atI_nat (j := 2) rfl, _, _, rfl, kd_int n, _, rfl, iteT ?_⟩⟩
        exact ⟨_, rfl, t, _, _, _, rfl, rfl, SqT.of (s1 _ _ ht), atI_nat (j := 3) rfl, _, _, rfl, kd_int r, q _ s1⟩
      | sing o =>
        have ht : H t = some (.tup [.str "sing", optV o]) := hp
        have kt := kd_tup (SqT.of (K := K) ht)
        refine ⟨_, rfl, _, _, _, _, _, rfl, .ty _, kt, (kit_kd kt).2.2.2.1, _, rfl, iteF ?_⟩
        refine ⟨_, rfl, t, _, rfl, .inr (SqT.of ht), _, _, rfl, rfl, _, rfl, iteF ?_⟩
        refine ⟨_, rfl, t, _, _, _, rfl, rfl, SqT.of ht, atI_nat (j := 0) rfl, _, _, _, _, _, rfl, .ty _, str "sing", (kit_kd (str "sing")).2.2.2.2, _, rfl, iteF ?_⟩
        refine ⟨_, rfl, t, _, _, _, rfl, rfl, SqT.of ht, atI_nat (j := 0) rfl, rfl, _, rfl, ?_⟩
        rw [nW1]
        refine iteF ⟨_, rfl, t, _, _, _, rfl, rfl, SqT.of ht, atI_nat (j := 0) rfl, rfl, _, rfl, ?_⟩
        rw [decide_eq_true rfl]
        refine iteT ⟨_, rfl, t, _, rfl, .inr (SqT.of ht), rfl, _, rfl, iteT ?_⟩
        refine ⟨_, rfl, t, _, _, _, rfl, rfl, SqT.of ht, atI_nat (j := 1) rfl, ?_⟩
        cases o with
        | none => exact ⟨rfl, _, rfl, iteT (q _ (Same.refl _))⟩
        | some n => exact ⟨rfl, _, rfl, iteF ⟨_, rfl, t, _, _, _, rfl, rfl, SqT.of ht, atI_nat (j := 1) rfl, _, _, rfl, kd_int n, q _ (Same.refl _)⟩⟩
      | out n =>
        have ht : H t = some (.tup [.str "out", .int n]) := hp
        have kt := kd_tup (SqT.of (K := K) ht)
        refine ⟨_, rfl, _, _, _, _, _, rfl, .ty _, kt, (kit_kd kt).2.2.2.1, _, rfl, iteF ?_⟩
        refine ⟨_, rfl, t, _, rfl, .inr (SqT.of ht), _, _, rfl, rfl, _, rfl, iteF ?_⟩
        refine ⟨_, rfl, t, _, _, _, rfl, rfl, SqT.of ht, atI_nat (j := 0) rfl, _, _, _, _, _, rfl, .ty _, str "out", (kit_kd (str "out")).2.2.2.2, _, rfl, iteF ?_⟩
        refine ⟨_, rfl, t, _, _, _, rfl, rfl, SqT.of ht, atI_nat (j := 0) rfl, rfl, _, rfl, ?_⟩
        rw [nW2]
        refine iteF ⟨_, rfl, t, _, _, _, rfl, rfl, SqT.of ht, atI_nat (j := 0) rfl, rfl, _, rfl, ?_⟩
        rw [nS2]
        refine iteF ⟨_, rfl, t, _, _, _, rfl, rfl, SqT.of ht, atI_nat (j := 0) rfl, rfl, _, rfl, iteT ?_⟩
        refine ⟨_, rfl, t, _, rfl, .inr (SqT.of ht), rfl, _, rfl, iteT ?_⟩
        exact ⟨_, rfl, t, _, _, _, rfl, rfl, SqT.of ht, atI_nat (j := 1) rfl, _, _, rfl, kd_int n, q _ (Same.refl _)⟩
    | _ => exact hp.elim
theorem sc_judged : FnScope ["many", "tale", "part", "place"] ["many", "tale"] (defScope s_judged) := ⟨rfl, rfl, rfl, by decide +kernel, rfl, by decide +kernel, by decide +kernel⟩
def sp_judged (K : PySem.W.Frag) : Sp := fun vs H Q _ => ∃ (many : Int) (a : Addr) (tale : List Part), vs = [.int many, .ref a] ∧ 1 ≤ many ∧ many ≤ 6 ∧ TaleIn K H a tale ∧ tale.length ≤ 30 ∧
  ∀ H' r, Same H H' → H r = none → AnsAt K H' r (firstWrong many tale) → Q (.ref r) H'
theorem fn_judged (T : Tx K mg) : Fn P w K mg base "judged" 6 (sp_judged K) := by
  obtain ⟨fd, F⟩ := T.d_judged
  refine ⟨_, fd, _, F.ok (CX := CX0) sc_judged (fun vs H Q E h => ?_) (fun cdv A outer s H vs Q E hr h => ?_), T.g_judged, F.kp, F.bindsN fun _ _ _ _ _ _ us hl => match us, hl with | [_, _], _ => rfl⟩
  · obtain ⟨many, a, tale, rfl, _⟩ := h; rfl
  · obtain ⟨many, a, tale, rfl, m1, m6, ⟨cs, hs, hP, tok⟩, t30, q⟩ := h
    refine ⟨_, PSs.nox (pss_cons (ps_expr (pe_fn (fn_check_many T) (hr.mono (by first | decide | omega)) (by rfl) (pa_cons (pv 0) pa_nil)))
      (pss_cons (ps_if (PW.pt (pw_or (pt_not (pt_val (pe_callB (show CallR _ _ (rIsi K) from call_isi) (by rfl) T.isinstance (by decide +kernel) (pa_cons (pv 1) (pa_cons (pe_gt (n := "list") T.list (by rfl) (by decide +kernel)) pa_nil))))) (pw_or (pt_cmpR op_gt (pe_callB (show CallR _ _ (rLenQ K) from call_len_seq) (by rfl) T.len (by decide +kernel) (pa_cons (pv 1) pa_nil)) (pe_gi T.c_MOST_PARTS (by rfl)) (nomark _)) (pw_or1 (pt_not (pt_val (pe_callB (show CallR _ _ (rAll K) from cr_all (by rfl)) (by rfl) T.all (by decide +kernel) (pa_cons (pe_lc (own := [("part", 2)]) (g := (gName 2)) (tt := tYes) (by rfl) sc_judged.nd (show PI _ _ _ (iList K _) from pi_list (pv 1)) (blkOk_by (by kernel_rfl)) (fun _ _ _ _ _ => (pg_name (i := 2) sc_judged.nd rfl (by first | exact Or.inl rfl | exact Or.inr rfl))) (fun _ _ _ _ _ => pts_nil) (fun _ _ _ _ _ => (pe_fn (fn_is_part T) (hr.mono (by first | decide | omega)) (by rfl) (pa_cons (pv 2) pa_nil)))) pa_nil)))))))) (pss_one ps_never) pss_nil)
      (pss_cons (ps_set (i := 3) sc_judged.nd rfl (by first | exact Or.inl rfl | exact Or.inr rfl) (pe_fn (fn_first_wrong T) (hr.mono (by first | decide | omega)) (by rfl) (pa_cons (pv 0) (pa_cons (pv 1) pa_nil))))
      (pss_one (ps_ret (pe_ifExp (pt_cmpR op_lt (pv 3) pe_int (nomark _)) (pe_mkO T.mkb_Right (by rfl) T.g_Right) (pe_mk (mk_Wrong T) (hr.mono (by first | decide | omega)) (by rfl) (pa_cons (pv 3) pa_nil)))))))), ?_⟩
    have hcl := hP.len
    refine ⟨_, rfl, many, rfl, m1, m6, ?_⟩
    have kl := kd_list hs
    refine ⟨_, rfl, _, _, _, _, _, rfl, .ty _, kl, (kit_kd kl).2.2.1, _, rfl, iteF ?_⟩
    refine ⟨_, rfl, a, _, rfl, .inl hs, _, _, rfl, rfl, _, rfl, ?_⟩
    rw [decide_eq_false (by omega)]
    refine iteF ⟨_, rfl, a, rfl, ⟨_, hs⟩, fun D nD => lc_map (fun _ => V.bl true) hs nD (by omega) (fun i x H1 hx s1 k hk => ?_) (fun H1 s1 hD => ?_) gname_mono⟩
    · obtain ⟨part, hpt, hpa⟩ := hP.get hx
      exact ⟨rfl, _, rfl, x, part, rfl, hpa.mono s1, fun ss n r e => tok.2 ss n r (by rw [← e]; exact List.mem_of_getElem? hpt), hk⟩
    · refine ⟨_, cs.map (fun _ => true), rfl, SqL.of (by rw [List.map_map]; exact hD), ?_⟩
      rw [show (cs.map (fun _ => true)).all id = true from by rw [List.all_map]; exact List.all_eq_true.mpr fun _ _ => rfl]
      refine ⟨_, rfl, iteF ?_⟩
      refine ⟨_, rfl, _, rfl, many, a, cs, tale, rfl, m1, m6, s1.seq hs, hP.mono s1, tok, fun H2 s2 => ?_⟩
      generalize firstWrong many tale = fw at *
      refine ⟨_, rfl, _, _, rfl, rfl, _, rfl, ?_⟩
      have s12 := s1.trans s2
      by_cases h0 : fw < 0
      · rw [decide_eq_true h0]
        refine iteT fun x dx nx ndx nex => ?_
        have nx0 := s12.free nx
        exact to_made nx ndx fun J j hx => q J x (s12.trans j) nx0 (.inl ⟨h0, dx, hx⟩)
      · rw [decide_eq_false h0]
        refine iteF ⟨_, rfl, fun x dx nx ndx nex => ⟨x, dx, .int fw, rfl, upd_same, fun G g hy => ⟨rfl, ?_⟩⟩⟩
        exact q G x (s12.trans (made_same nx ndx g)) (s12.free nx) (.inr ⟨by omega, dx, hy⟩)
end
end Song

/-! ### RgL: list(range(i, j, c)), c of any size; list(d.values()) -/
namespace Song
open PySem PySem.Spec PyProof.Rows L2
section
variable {P : Program} {w : World} {A : Around} {E : Value → Shared → Prop} {s : Shared}
theorem ext_long {R : Result → Shared → Prop} {g : Addr} {i j c : Int} {t u v : Tok} {n : Nat} (nh : A.handled = none) (hg : IsRange s.heap g i j c t u v) (big : Builtin.Range.small i j c = false)
    (hn : Builtin.Range.rangeSize i j c = n) (few : n ≤ 2 ^ 24) (L : Addr) (res : Value) (c₀ : Nat) (hL : s.heap.get? L = some { cls := .type "list", data := .seq #[] c₀ })
    (q : ∀ h2 tk acc c2, (∀ b o, b ≠ L → s.heap.get? b = some o → h2.get? b = some o) → h2.get? L = some { cls := .type "list", dict := none, data := .seq acc c2, slots := #[] } →
      ItemsOf (fun k v => ∃ t, v = .int (i + k * c) t) acc n → R (.ok (.ret res)) { s with heap := h2, toks := tk }) :
    wpAny (model P w) A.in1 (Builtin.List.listExtendWith (.ref L) (.ref g) res)
      (fun fin s2 => match fin with | .done f => R (.ok f) s2 | .again c2 => c2.quiet = true ∧ codeAny (model P w) A c2 R s2) (fun e s2 => R (.error e) s2) s := by
  have neG : L ≠ g := fun z => by rw [z, hg] at hL; simp at hL
  have ltL : L < s.heap.objs.size := Heap.lt_size hL
  have neI : L ≠ s.heap.objs.size := Nat.ne_of_lt ltL
  have nin : L ∉ [s.heap.objs.size] := fun z => neI (List.mem_singleton.mp z)
  have W := (Walks.longrange (prog := P) (w := w) (A := A.in1) nh s.heap.objs.size i c n).toS
  have loop : ∀ (h : Heap) (c₁ tk : Nat), IsLongIter h s.heap.objs.size (i + ((0 : Nat) : Int) * c) ((n : Int) - ((0 : Nat) : Int)) c → (∀ b o, b ≠ L → s.heap.get? b = some o → h.get? b = some o) →
      h.get? L = some { cls := .type "list", data := .seq #[] c₁ } → codeAny (model P w) A (.builtin "list.extend.loop" ⟨[.ref L, .ref s.heap.objs.size, res], []⟩) R { s with heap := h, toks := tk } := by
    intro h c₁ tk hit keep hL1
    refine codeAny_extend_loopS W (by rw [sizeLine_eq]; omega) L nin res n 0 _ #[] c₁ rfl (Nat.zero_le _) hit hL1 (ItemsOf.nil _) fun s2 acc c2 mv hL2 its => ?_
    rw [Moved.eq_with mv]
    refine q s2.heap s2.toks acc c2 (fun b o nb e => mv.heap b o (fun hm => ?_) (keep b o nb e)) hL2 its
    rcases List.mem_cons.mp hm with z | z
    · exact nb z
    · rw [List.mem_singleton] at z
      subst z
      exact absurd (Heap.lt_size e) (Nat.lt_irrefl _)
  unfold Builtin.List.listExtendWith
  refine wpAny_bind (wpAny_typeOf (T := "range") ⟨_, hg, rfl⟩ ?_)
  have k1 : Builtin.List.listSameRef (.ref L) (.ref g) = false := by simp [Builtin.List.listSameRef, neG]
  have k2 : (Value.type "range" == Value.type "list") = false := by decide
  have k3 : (Value.type "range" == Value.type "tuple") = false := by decide
  simp only [k1, k2, k3, Bool.or_false, Bool.false_eq_true, if_false]
  refine wpAny_bind (wpAny_pyIter_longrange hg big ?_)
  refine wpAny_bind (wpAny_holding (wpAny_hint_range (n := n) (Heap.get?_push_of_some _ hg) hn few ?_))
  have it1 : IsLongIter (s.heap.push { cls := .type "longrange_iterator", data := .fields #[rawInt i, rawInt (Builtin.Range.rangeSize i j c), rawInt c] }) s.heap.objs.size (i + ((0 : Nat) : Int) * c) ((n : Int) - ((0 : Nat) : Int)) c := by
    show IsLongIter _ _ _ _ _
    rw [hn]
    simpa using Heap.get?_push_size _ rfl
  have L1 := Heap.get?_push_of_some { cls := .type "longrange_iterator", data := .fields #[rawInt i, rawInt (Builtin.Range.rangeSize i j c), rawInt c] } hL
  refine wpAny_ite_split (fun _ => ?_) (fun _ => wpAny_pure ⟨plainId_quiet F.plain_extend_loop _, loop _ c₀ _ it1 (fun b o _ e => Heap.get?_push_of_some _ e) L1⟩)
  refine wpAny_bind (wpAny_rule ?_)
  refine wpAny_bind ?_
  show wpAny _ _ (updateSeq L (·.push .none) >>= fun _ => updateSeq L (·.pop)) _ _ _
  refine wpAny_bind (wpAny_updateSeq L1 rfl ?_)
  have L2 := Heap.get?_update_self (Obj.mapSeq (·.push Value.none)) L1 rfl
  refine wpAny_updateSeq (hz := by seq_fits) L2 rfl ?_
  have L3 := Heap.get?_update_self (Obj.mapSeq (·.pop)) L2 rfl
  refine wpAny_pure ⟨plainId_quiet F.plain_extend_loop _, loop _ _ _ ?_ (fun b o nb e => ?_) L3⟩
  · exact (Heap.get?_update_other _ _ neI).trans ((Heap.get?_update_other _ _ neI).trans it1)
  · exact (Heap.get?_update_other _ _ (Ne.symm nb)).trans ((Heap.get?_update_other _ _ (Ne.symm nb)).trans (Heap.get?_push_of_some _ e))
theorem init_long {R : Result → Shared → Prop} {g : Addr} {i j c : Int} {t u v : Tok} {n : Nat} (nh : A.handled = none) (hg : IsRange s.heap g i j c t u v) (big : Builtin.Range.small i j c = false)
    (hn : Builtin.Range.rangeSize i j c = n) (few : n ≤ 2 ^ 24) (L : Addr) (hL : s.heap.get? L = some { cls := .type "list", data := .seq #[] })
    (q : ∀ h2 tk acc c2, (∀ b o, b ≠ L → s.heap.get? b = some o → h2.get? b = some o) → h2.get? L = some { cls := .type "list", dict := none, data := .seq acc c2, slots := #[] } →
      ItemsOf (fun k v => ∃ t, v = .int (i + k * c) t) acc n → R (.ok (.ret .none)) { s with heap := h2, toks := tk }) :
    wpAny (model P w) A.in1 (Builtin.«list.__init__» ⟨[.ref L, .ref g], []⟩)
      (fun fin s2 => match fin with | .done f => R (.ok f) s2 | .again c2 => c2.quiet = true ∧ codeAny (model P w) A c2 R s2) (fun e s2 => R (.error e) s2) s := by
  have neG : L ≠ g := fun z => by rw [z, hg] at hL; simp at hL
  show wpAny _ _ (do let old ← Builtin.List.listItems (.ref L); Builtin.List.listUpdate (.ref L) (fun _ => #[]); letGo old.toList.reverse; Builtin.List.listExtendWith (.ref L) (.ref g) .none) _ _ s
  refine wpAny_bind ?_
  unfold Builtin.List.listItems
  refine wpAny_bind (wpAny_seqItems hL rfl (wpAny_pure ?_))
  show wpAny _ _ (updateSeq L (fun _ => #[]) >>= fun _ => letGo (#[] : Array Value).toList.reverse >>= fun _ => Builtin.List.listExtendWith (.ref L) (.ref g) .none) _ _ s
  refine wpAny_bind (wpAny_updateSeq hL rfl ?_)
  have L2 := Heap.get?_update_self (Obj.mapSeq (fun _ => (#[] : Array Value))) hL rfl
  have rem : ∀ b o, b ≠ L → s.heap.get? b = some o → (s.heap.update L (Obj.mapSeq (fun _ => (#[] : Array Value)))).get? b = some o :=
    fun b o nb e => (Heap.get?_update_other _ _ (Ne.symm nb)).trans e
  refine wpAny_bind (wpAny_letGo ?_)
  refine ext_long nh (rem g _ (Ne.symm neG) hg) big hn few L .none _ L2 fun h2 tk acc c2 keep hL2 its => ?_
  exact q h2 tk acc c2 (fun b o nb e => keep b o nb (rem b o nb e)) hL2 its
theorem list_range_any {Q : Value → Shared → Prop} {g : Addr} {i j c : Int} {t u v : Tok} {n : Nat} (nh : A.handled = none) (hg : IsRange s.heap g i j c t u v)
    (hn : Builtin.Range.rangeSize i j c = n) (few : n ≤ 2 ^ 24)
    (q : ∀ h2 tk acc c2, (∀ b o, s.heap.get? b = some o → h2.get? b = some o) →
      h2.get? s.heap.objs.size = some { cls := .type "list", dict := none, data := .seq acc c2, slots := #[] } → ItemsOf (fun k v => ∃ t, v = .int (i + k * c) t) acc n → Q (.ref s.heap.objs.size) { s with heap := h2, toks := tk }) :
    wpAny (model P w) A (call (.type "list") [.ref g]) Q E s := by
  cases hsm : Builtin.Range.small i j c with
  | true => exact call_list_range nh hg hsm hn few q
  | false =>
    refine callType_codes (Q₁ := fun ob s1 => ob = .ref s.heap.objs.size ∧ s1 = { s with heap := s.heap.push { cls := .type "list", data := .seq #[] } }) F.called_list (F.typeCall_list_1 _) F.entry_list_init (code_list_new _ ⟨rfl, rfl⟩) fun ob s1 z => ?_
    obtain ⟨rfl, rfl⟩ := z
    have hL : (s.heap.push { cls := .type "list", data := .seq #[] }).get? s.heap.objs.size = some { cls := .type "list", data := .seq #[] } := Heap.get?_push_size _ rfl
    refine ⟨⟨_, hL, rfl⟩, F.args_list_init_2 _ _, init_long (A := A.in1) nh (Heap.get?_push_of_some _ hg) hsm hn few _ hL fun h2 tk acc c2 keep hL2 its => ?_⟩
    exact ⟨rfl, q h2 tk acc c2 (fun b o e => keep b o (Nat.ne_of_lt (Heap.lt_size e)) (Heap.get?_push_of_some _ e)) hL2 its⟩
end
/-- the numbers i, i + c, .., n of them -/
def rgVc (i c : Int) (n : Nat) : List V := (List.range n).map fun k : Nat => V.int (i + (k : Int) * c)
theorem vals_rgc {i c : Int} {n : Nat} {acc : Array Value} (h : ItemsOf (fun k v => ∃ t, v = .int (i + k * c) t) acc n) : Vals (rgVc i c n) acc.toList := by
  have e : acc.toList.length = n := by rw [Array.length_toList]; exact h.1
  unfold rgVc
  rw [← e]
  refine vals_of_get acc.toList _ fun k u hk => ?_
  obtain ⟨t, rfl⟩ := h.2 k u (by rw [← hk, Array.getElem?_toList])
  exact ⟨t, rfl⟩
def tLstRg3 (ta : TA) : TE := fun σ H Q => ta σ H fun vs H1 => ∃ (i j c : Int) (n : Nat), vs = [.int i, .int j, .int c] ∧ c ≠ 0 ∧ Builtin.divisionGoesByPylong (j - i) c = false ∧ Builtin.Range.rangeSize i j c = n ∧ n ≤ 2 ^ 20 ∧ ∀ q, H1 q = none → Q (.ref q) (upd H1 q (.lst (rgVc i c n)))
theorem pe_listRg3 {X : Cx} {a b c : Expr} {ta : TA} {p pos p2 pos2 : Pos} (hc : X.calm = true) (hg : Gl X "list") (hm : X.mg "list" = none) (hg2 : Gl X "range") (hm2 : X.mg "range" = none) (ha : PA X [a, b, c] ta)
    (hs : starEach [a, b, c] X.env = (false, eval a X.env) :: starEach [b, c] X.env := by rfl) (hpl : (backTo pos2 (starEach [b, c] X.env)).any (·.1) = false := by rfl)
    (na : starEach [.Call (.Name "range" p2) [a, b, c] [] pos2] X.env = (false, eval (.Call (.Name "range" p2) [a, b, c] [] pos2) X.env) :: starEach [] X.env := by rfl) :
    PE X (.Call (.Name "list" p) [.Call (.Name "range" p2) [a, b, c] [] pos2] [] pos) (tLstRg3 ta) := by
  refine ⟨fun pins s σ H Q I h => ?_⟩
  refine Call_ (ld_blt I hg hm boot_list (callWith_type1 (args_cons (Call_ (ld_blt I hg2 hm2 boot_range (callWith_type1 (thn (ha.run pos2 pins s σ H _ I h) fun us s1 ⟨vs, H1, I1, r1, q1⟩ => ?_) hs hpl))) na) na))
  obtain ⟨i, j, k, n, e, c0, c1, c2, c3, q⟩ := q1
  subst e
  cases r1 with
  | cons r rr =>
    cases rr with
    | cons r' rr =>
      cases rr with
      | cons r'' rr =>
        cases rr
        obtain ⟨t, rfl⟩ := r
        obtain ⟨t', rfl⟩ := r'
        obtain ⟨t'', rfl⟩ := r''
        refine call_range_3 c0 (args_nil ?_) (.inl c1)
        have I2 : Inv X pins σ H1 { s1 with heap := s1.heap.push { cls := .type "range", data := .fields #[.int i t, .int j t', .int k t''] } } := I1.kept (t' := s1.toks) fun b o e => Heap.get?_push_of_some _ e
        refine list_range_any (n := n) (I2.ok.hd hc) (IsRange.new ..) c2 (by omega) fun h2 tk acc cc hk e2 hi => ?_
        refine ⟨.ref _, upd H1 _ (.lst (rgVc i k n)), I2.laid hk (Nat.le_refl _) (show ObjOk X.prog X.w _ _ _ (.lst (rgVc i k n)) from ⟨?_, acc.toList, cc, vals_rgc hi, ?_⟩), rfl, q _ (I2.hok.fresh (Nat.le_refl _))⟩
        · unfold rgVc
          rw [List.length_map, List.length_range, sizeLine_eq]; omega
        · rw [Array.toArray_toList]; exact e2
end Song

/-! ### LsV: list(d.values()) -/
namespace Song
open PySem PySem.Spec PyProof.Rows L2
def tLstVals (td : TE) : TE := fun σ H Q => td σ H fun x H1 => ∃ a kvs, x = V.ref a ∧ H1 a = some (.dK kvs) ∧ kvs.length ≤ 1000 ∧ ∀ q, H1 q = none → Q (.ref q) (upd H1 q (.lst (kvs.map (·.2))))
theorem vals_kv {kvs : List (Key × V)} {acc : List Value} {n : Nat} (hn : acc.length = n) (hk : kvs.length = n) (h : ∀ (i : Nat) (v : Value), acc[i]? = some v → ∃ k x, kvs[i]? = some (k, x) ∧ RelV x v) : Vals (kvs.map (·.2)) acc := by
  have e : kvs.map (·.2) = (List.range acc.length).map fun i => (kvs[i]?.map (·.2)).getD .non := by
    refine List.ext_getElem (by rw [List.length_map, List.length_map, List.length_range, hn, hk]) fun i h1 h2 => ?_
    rw [List.length_map] at h1
    rw [List.getElem_map, List.getElem_map, List.getElem_range, List.getElem?_eq_getElem h1]; rfl
  rw [e]
  refine vals_of_get acc _ fun j u hj => ?_
  obtain ⟨k, x, h1, h2⟩ := h j u hj
  rw [h1]
  exact h2
theorem pe_listVals {X : Cx} {o : Expr} {p pos apos mpos : Pos} {td : TE} (hc : X.calm = true) (hg : Gl X "list") (hm : X.mg "list" = none) (hd : PE X o td) (hbase : attributeBase o "values" X.env (eval o X.env) = eval o X.env := by rfl) (hline : (apos.endLine == mpos.line) = true := by rfl)
    (hse : starEach [Expr.Call (.Attribute o "values" apos) [] [] mpos] X.env = (false, eval (Expr.Call (.Attribute o "values" apos) [] [] mpos) X.env) :: starEach [] X.env := by rfl) :
    PE X (.Call (.Name "list" p) [.Call (.Attribute o "values" apos) [] [] mpos] [] pos) (tLstVals td) := by
  refine ⟨fun pins s σ H Q I h => ?_⟩
  refine Call_ (ld_blt I hg hm boot_list (callWith_type1 (args_cons (wpAny_Call_method0_late hbase hline (thn (hd.run pins s σ H _ I h) fun v s1 ⟨x, H1, I1, r1, a, kvs, ex, ha, hl, q⟩ => ?_)) hse) hse))
  subst ex
  obtain rfl : v = Value.ref a := r1
  obtain ⟨_, hsys, vs, rel, dof⟩ := dk_of I1.hok ha
  obtain ⟨ep, dat⟩ := dof.dictAt
  have dat2 := dat
  obtain ⟨ob, es, ho, ex, hdat, hko, hpr, hnd⟩ := dat2
  refine ⟨"dict", "dict.values", F.plainAttrs_dict, F.slot_dict_values, F.type_dict_values, ⟨ob, ho, ex.1⟩, fun b e => ?_, Calls.callWith_builtin rfl (PySem.evalArgs_none ?_)⟩
  · cases e
    exact ⟨ob, ho, ex.2.1⟩
  refine call_meetsIn F.slot_dict_values ⟨ob, ho, ex.1⟩ F.entry_dict_values (F.args_dict_values_1 _) (meets_dict_values (mixKind X.prog X.w) a hsys) ⟨⟨vs, dof⟩, ?_⟩
  have k1 : ∀ b u, s1.heap.get? b = some u → (s1.heap.push { cls := .type "dict_values", data := .fields #[.ref a] }).get? b = some u := fun b u e => Heap.get?_push_of_some _ e
  have hlv : vs.length = kvs.length := (KV.length rel).symm
  have I2 : Inv X pins σ H1 { s1 with heap := s1.heap.push { cls := .type "dict_values", data := .fields #[.ref a] } } := I1.kept (t' := s1.toks) k1
  refine args_nil (PySem.W.kdl_call (PySem.W.kdl_values (knd := mixKind X.prog X.w) (kvs := vs) (ep := ep)) (I.ok.hd hc) ⟨⟨_, Heap.get?_push_size _ rfl, rfl, rfl⟩, dat.keep k1⟩ (by rw [hlv, sizeLine_eq]; omega) fun h2 tk acc c2 keep hS its => ?_)
  have hvals : Vals (kvs.map (·.2)) acc.toList := by
    refine vals_kv (n := vs.length) (by rw [Array.length_toList]; exact its.1) hlv.symm fun i v e => ?_
    obtain ⟨k, hk⟩ := its.2 i v (by rw [← Array.getElem?_toList]; exact e)
    obtain ⟨x, h1, h2⟩ := KV.at' rel hk
    exact ⟨k, x, h1, h2⟩
  refine ⟨.ref _, upd H1 _ (.lst (kvs.map (·.2))), I2.laid keep (Nat.le_refl _) (show ObjOk X.prog X.w _ _ _ (.lst (kvs.map (·.2))) from ⟨?_, acc.toList, c2, hvals, ?_⟩), rfl, q _ (I2.hok.fresh (Nat.le_refl _))⟩
  · rw [List.length_map, sizeLine_eq]; omega
  · rw [Array.toArray_toList]; exact hS
end Song

/-! ### NiT: a list not in a tuple of lists; calls of oneself -/
namespace Song
open PySem PySem.Spec PyProof.Rows L2
theorem _root_.L2.Room.units65 {k : Nat} {A : Around} (r : Room k A) : A.units + 65 < cLine := by have := r.un; omega
def rNotInT (K : PySem.W.Frag) : R2 := fun x y H Q => ∃ d ds, Dp K H x d ∧ Dp K H y (.tuple ds) ∧ SeqAt.shaped d = true ∧ SeqAt.shaped (.tuple ds) = true ∧ Q (.bl (!ds.any fun z => PyData.eqv z d)) H
theorem op_notInT {X : Cx} (hu : X.A.units + 65 < cLine) : OpR X (compareOp .NotIn) (rNotInT X.K) := by
  intro pins s σ H x y v u Q I rx ry h
  obtain ⟨d, ds, hd, he, sd, se, q⟩ := h
  obtain ⟨as, r1⟩ := Dp.reads I d x v hd rx
  obtain ⟨bs, r2⟩ := Dp.reads I (.tuple ds) y u he ry
  exact SeqAt.notIn_tuple_reads r2 r1 (SeqAt.canLay_of_shaped se) (SeqAt.canLay_of_shaped sd) (room_in_shaped sd hu) ⟨.bl _, H, I, rfl, q⟩
/-- a call of oneself, with less left -/
def tRec (sp : Nat → Sp) (r : Nat) (t : TA) : TE := fun σ H Q => ∃ r', r' < r ∧ tCall (sp r') [] E0 t σ H Q
theorem pe_rec {X : Cx} {x : Str} {r : Nat} {sp : Nat → Sp} {e : Expr} {es : List Expr} {t : TA} {p pos : Pos} (ih : ∀ r', r' < r → Fn X.prog X.w X.K X.mg X.base x (r' + 2) (sp r')) (hr : Room (r + 1) X.A) (hg : Gl X x) (ha : PA X (e :: es) t)
    (hdb : (x == ("__debug__" : Str)) = false := by decide) (he : starEach (e :: es) X.env = (false, eval e X.env) :: starEach es X.env := by rfl) (hpl : (backTo pos (starEach es X.env)).any (·.1) = false := by rfl) :
    PE X (.Call (.Name x p) (e :: es) [] pos) (tRec sp r t) := by
  refine ⟨fun pins s σ H Q I h => ?_⟩
  obtain ⟨r', hlt, h⟩ := h
  exact (pe_fn (ih r' hlt) (hr.mono (by omega)) hg ha hdb he hpl).run pins s σ H Q I h
end Song

/-! ### Ev7: who can still come ahead; within, worst -/
namespace Song
open PySem L2
/-- singers of the lists that can still come ahead of a round -/
def moreA (last : List Int) (going most : Int) : Nat → List Int
  | 0 => []
  | n + 1 => moreA last going most n ++ List.replicate (max 0 (most - floorOf last going (n : Int))).toNat (n : Int)
def EvS.ahead (st : EvS) (song : Int) : List Int := (moreA st.last st.going (st.rounds.getD song.toNat 0) st.last.length).take (24 - st.rounds.length)
def EvS.within (st : EvS) (song : Int) : Int := (st.queue.idxOf song : Int) + 1 + (st.ahead song).length
/-- rounds are no greater than there are songs -/
structure EvB (st : EvS) : Prop where
  la : ∀ x ∈ st.last, 0 ≤ x ∧ x ≤ st.rounds.length
  go : 1 ≤ st.going ∧ st.going ≤ max 1 (st.rounds.length : Int)
  ro : ∀ r ∈ st.rounds, 1 ≤ r ∧ r ≤ st.rounds.length
theorem EvB.new (many : Int) : EvB (evNew many) := ⟨fun x hx => by
  have : x = 0 := (List.mem_replicate.mp hx).2
  rw [this]; show (0 : Int) ≤ 0 ∧ (0 : Int) ≤ ((0 : Nat) : Int); omega, ⟨Int.le_refl _, by show (1 : Int) ≤ max 1 _; omega⟩, fun r hr => by cases hr⟩
theorem mem_setAll {last : List Int} {n x : Int} : ∀ {ss : List Int} {last : List Int}, x ∈ setAll last ss n → x ∈ last ∨ x = n
  | [], _, h => .inl h
  | s :: r, last, h => by
    have h : x ∈ setAll (last.set s.toNat n) r n := h
    rcases mem_setAll (last := last) h with z | z
    · rcases List.mem_or_eq_of_mem_set z with y | y
      · exact .inl y
      · exact .inr y
    · exact .inr z
theorem EvB.num {st : EvS} (h : EvB st) {ss : List Int} (hi : InB st.last.length ss) (hn : ss ≠ []) : 1 ≤ st.num ss ∧ st.num ss ≤ (st.rounds.length : Int) + 1 := by
  unfold EvS.num roundFor
  have hm := foldl_max_mem
  have hne : ss.map (floorOf st.last st.going) ≠ [] := fun z => hn (List.map_eq_nil_iff.mp z)
  obtain ⟨s, hs, e⟩ : ∃ s ∈ ss, maxL (ss.map (floorOf st.last st.going)) = floorOf st.last st.going s := by
    cases hc : ss.map (floorOf st.last st.going) with
    | nil => exact absurd hc hne
    | cons a r =>
      have := foldl_max_mem r a
      rw [← hc] at this
      obtain ⟨s, hs, e⟩ := List.mem_map.mp this
      exact ⟨s, hs, e.symm⟩
  rw [e]
  unfold floorOf
  obtain ⟨s0, s1⟩ := hi s hs
  have hl : st.last.getD s.toNat 0 ∈ st.last := by
    rw [List.getD_eq_getElem?_getD, List.getElem?_eq_getElem (by omega)]
    exact List.getElem_mem _
  have h1 := h.la _ hl
  have h2 := h.go
  omega
theorem EvB.wish {st : EvS} (h : EvB st) {ss : List Int} (hi : InB st.last.length ss) (hn : ss ≠ []) : EvB (st.wish ss) := by
  have hnum := h.num hi hn
  have hl : ((st.wish ss).rounds.length : Int) = (st.rounds.length : Int) + 1 := by
    show (((st.rounds ++ [_]).length : Nat) : Int) = _
    rw [List.length_append, List.length_singleton]; omega
  refine ⟨fun x hx => ?_, ⟨h.go.1, ?_⟩, fun r hr => ?_⟩
  · rw [hl]
    rcases mem_setAll (last := st.last) hx with z | z
    · have := h.la x z; omega
    · rw [z]; omega
  · have := h.go.2
    show st.going ≤ _
    omega
  · rw [hl]
    rcases List.mem_append.mp hr with z | z
    · have := h.ro r z; omega
    · rw [List.mem_singleton.mp z]; omega
theorem EvB.sing {st : EvS} (h : EvB st) (ok : EvOk st) : EvB st.sing := by
  unfold EvS.sing
  cases e : st.next with
  | none => exact ⟨h.la, h.go, h.ro⟩
  | some s =>
    have hs := ok.inb s (EvS.next_mem e)
    have hm : st.rounds.getD s.toNat 0 ∈ st.rounds := by
      rw [List.getD_eq_getElem?_getD, List.getElem?_eq_getElem (by omega)]
      exact List.getElem_mem _
    have := h.ro _ hm
    exact ⟨h.la, ⟨this.1, by show st.rounds.getD _ _ ≤ max 1 (st.rounds.length : Int); omega⟩, h.ro⟩
theorem EvB.out {st : EvS} (h : EvB st) (n : Int) : EvB (st.out n) := ⟨h.la, h.go, h.ro⟩
theorem moreA_len {last : List Int} {going most : Int} (hg : 1 ≤ going) (hm : most ≤ 24) : ∀ n, (moreA last going most n).length ≤ 24 * n
  | 0 => Nat.le_refl _
  | n + 1 => by
    have ih := moreA_len (last := last) hg hm n
    show (moreA last going most n ++ _).length ≤ _
    rw [List.length_append, List.length_replicate]
    have : floorOf last going (n : Int) ≥ going := by unfold floorOf; omega
    omega
theorem moreA_in {last : List Int} {going most : Int} : ∀ {n : Nat} {x : Int}, x ∈ moreA last going most n → 0 ≤ x ∧ x < n
  | 0, _, h => by cases h
  | n + 1, x, h => by
    rcases List.mem_append.mp h with z | z
    · have := moreA_in z; omega
    · rw [(List.mem_replicate.mp z).2]; omega
theorem rowsIn {K : PySem.W.Frag} {H : Hp} {b : Addr} {x : Int} {n : Nat} (h : H b = some (.lst [V.int x])) : ∀ v ∈ List.replicate n (V.ref b), ∃ c, v = .ref c ∧ SqL K H c ([x].map V.int) := fun v hv => ⟨b, (List.mem_replicate.mp hv).2, SqL.of h⟩
/-- lists of one singer each, in the heap -/
def Ones (K : PySem.W.Frag) (H : Hp) (vs : List V) (xs : List Int) : Prop := vs.length = xs.length ∧ ∀ (i : Nat) v, vs[i]? = some v → ∃ c x, xs[i]? = some x ∧ v = .ref c ∧ SqL K H c ([x].map V.int)
theorem Ones.mono {K : PySem.W.Frag} {H H' : Hp} {vs : List V} {xs : List Int} (s : Same H H') (h : Ones K H vs xs) : Ones K H' vs xs := ⟨h.1, fun i v e => by
  obtain ⟨c, x, h1, h2, h3⟩ := h.2 i v e
  exact ⟨c, x, h1, h2, s.seq h3⟩⟩
theorem Ones.app {K : PySem.W.Frag} {H : Hp} {vs ws : List V} {ps qs : List Int} (h : Ones K H vs ps) (g : Ones K H ws qs) : Ones K H (vs ++ ws) (ps ++ qs) := by
  refine ⟨by rw [List.length_append, List.length_append, h.1, g.1], fun i v e => ?_⟩
  by_cases c : i < vs.length
  · rw [List.getElem?_append_left c] at e
    rw [List.getElem?_append_left (by rw [← h.1]; exact c)]
    exact h.2 i v e
  · rw [List.getElem?_append_right (by omega)] at e
    rw [List.getElem?_append_right (by rw [← h.1]; omega), ← h.1]
    exact g.2 _ v e
theorem Ones.rep {K : PySem.W.Frag} {H : Hp} {b : Addr} {x : Int} (n : Nat) (h : H b = some (.lst [V.int x])) : Ones K H (List.replicate n (V.ref b)) (List.replicate n x) := by
  refine ⟨by rw [List.length_replicate, List.length_replicate], fun i v e => ?_⟩
  have hi : i < n := by
    have := (List.getElem?_eq_some_iff.mp e).1
    rwa [List.length_replicate] at this
  rw [List.getElem?_replicate, if_pos hi] at e
  exact ⟨b, x, by rw [List.getElem?_replicate, if_pos hi], (Option.some.inj e).symm, SqL.of h⟩
theorem Ones.take {K : PySem.W.Frag} {H : Hp} {vs : List V} {ps : List Int} (n : Nat) (h : Ones K H vs ps) : Ones K H (vs.take n) (ps.take n) := by
  refine ⟨by rw [List.length_take, List.length_take, h.1], fun i v e => ?_⟩
  have hi : i < n := by
    have := (List.getElem?_eq_some_iff.mp e).1
    rw [List.length_take] at this; omega
  rw [List.getElem?_take_of_lt hi] at e
  rw [List.getElem?_take_of_lt hi]
  exact h.2 i v e
section
variable {P : Program} {w : World} {K : PySem.W.Frag} {mg : Str → Option Value} {base : Heap}
end
end Song

/-! ### Gp1: rows of singers: where each sings, least gaps (plain) -/
namespace Song
/-- the places of the rows with s -/
def spots (s : Int) (R : List (List Int)) : List Int := (List.range R.length).filterMap fun i => if s ∈ R.getD i [] then some (i : Int) else none
def diffs : List Int → List Int
  | a :: b :: r => (b - a - 1) :: diffs (b :: r)
  | _ => []
def minO : List Int → Option Int
  | [] => none
  | a :: r => some (r.foldl min a)
theorem foldl_min_le : ∀ (r : List Int) (a : Int), r.foldl min a ≤ a ∧ ∀ y ∈ r, r.foldl min a ≤ y
  | [], a => ⟨Int.le_refl _, fun y h => by cases h⟩
  | b :: r, a => by
    obtain ⟨h1, h2⟩ := foldl_min_le r (min a b)
    have e : (b :: r).foldl min a = r.foldl min (min a b) := rfl
    rw [e]
    refine ⟨by omega, fun y hy => ?_⟩
    rcases List.mem_cons.mp hy with q | q
    · omega
    · exact h2 y q
theorem foldl_min_mem : ∀ (r : List Int) (a : Int), r.foldl min a ∈ a :: r
  | [], a => by simp
  | b :: r, a => by
    have h := foldl_min_mem r (min a b)
    have e : (b :: r).foldl min a = r.foldl min (min a b) := rfl
    rw [e]
    rcases List.mem_cons.mp h with q | q
    · rw [q]
      by_cases c : a ≤ b
      · rw [Int.min_eq_left c]; simp
      · rw [Int.min_eq_right (by omega)]; simp
    · simp [q]
theorem minO_eq {ns : List Int} {m : Int} (h : m ∈ ns) (hl : ∀ y ∈ ns, m ≤ y) : minO ns = some m := by
  cases ns with
  | nil => cases h
  | cons a r =>
    obtain ⟨h1, h2⟩ := foldl_min_le r a
    have h3 := hl _ (foldl_min_mem r a)
    show some _ = some m
    congr 1
    rcases List.mem_cons.mp h with q | q
    · omega
    · have := h2 m q; omega
theorem minO_some {ns : List Int} {m : Int} (h : minO ns = some m) : m ∈ ns ∧ ∀ y ∈ ns, m ≤ y := by
  cases ns with
  | nil => cases h
  | cons a r =>
    obtain ⟨h1, h2⟩ := foldl_min_le r a
    have e : r.foldl min a = m := Option.some.inj h
    refine ⟨by rw [← e]; exact foldl_min_mem r a, fun y hy => ?_⟩
    rcases List.mem_cons.mp hy with q | q
    · omega
    · have := h2 y q; omega
theorem minO_none {ns : List Int} : minO ns = none ↔ ns = [] := by
  cases ns with
  | nil => exact ⟨fun _ => rfl, fun _ => rfl⟩
  | cons a r => exact ⟨fun h => (nomatch h), fun h => (nomatch h)⟩
theorem minO_congr {ns ms : List Int} (h : ∀ x, x ∈ ns ↔ x ∈ ms) : minO ns = minO ms := by
  cases e : minO ms with
  | none =>
    rw [minO_none] at e ⊢
    rw [e] at h
    exact List.eq_nil_iff_forall_not_mem.mpr fun x hx => by simpa using (h x).mp hx
  | some m =>
    obtain ⟨h1, h2⟩ := minO_some e
    exact minO_eq ((h m).mpr h1) fun y hy => h2 y ((h y).mp hy)
theorem range_filterMap_congr {β : Type} {n : Nat} {f g : Nat → Option β} (h : ∀ i, i < n → f i = g i) : (List.range n).filterMap f = (List.range n).filterMap g := by
  induction n with
  | zero => rfl
  | succ n ih =>
    rw [List.range_succ, List.filterMap_append, List.filterMap_append, ih fun i hi => h i (by omega)]
    congr 1
    simp only [List.filterMap_cons, List.filterMap_nil]
    rw [h n (by omega)]
theorem spots_nil (s : Int) : spots s [] = [] := rfl
theorem spots_snoc (s : Int) (R : List (List Int)) (r : List Int) : spots s (R ++ [r]) = spots s R ++ (if s ∈ r then [(R.length : Int)] else []) := by
  unfold spots
  rw [List.length_append, List.length_singleton, List.range_succ, List.filterMap_append]
  congr 1
  · refine range_filterMap_congr fun i hi => ?_
    rw [show (R ++ [r]).getD i [] = R.getD i [] by rw [List.getD_eq_getElem?_getD, List.getD_eq_getElem?_getD, List.getElem?_append_left hi]]
  · simp only [List.filterMap_cons, List.filterMap_nil]
    rw [show (R ++ [r]).getD R.length [] = r by rw [List.getD_eq_getElem?_getD, List.getElem?_append_right (Nat.le_refl _)]; simp]
    by_cases c : s ∈ r
    · rw [if_pos c, if_pos c]
    · rw [if_neg c, if_neg c]
theorem spots_mem {s : Int} {R : List (List Int)} {x : Int} : x ∈ spots s R ↔ ∃ i : Nat, i < R.length ∧ s ∈ R.getD i [] ∧ x = i := by
  unfold spots
  rw [List.mem_filterMap]
  constructor
  · rintro ⟨i, hi, h⟩
    rw [List.mem_range] at hi
    by_cases c : s ∈ R.getD i []
    · rw [if_pos c] at h
      exact ⟨i, hi, c, (Option.some.inj h).symm⟩
    · rw [if_neg c] at h; cases h
  · rintro ⟨i, hi, c, rfl⟩
    exact ⟨i, List.mem_range.mpr hi, by rw [if_pos c]⟩
theorem snoc_ind {α : Type} {P : List α → Prop} (h0 : P []) (hs : ∀ l a, P l → P (l ++ [a])) : ∀ l, P l := fun l => by
  have h : ∀ n (l : List α), l.length = n → P l := fun n => by
    induction n with
    | zero => intro l hl; rw [List.eq_nil_of_length_eq_zero hl]; exact h0
    | succ n ih =>
      intro l hl
      have hne : l ≠ [] := fun e => by rw [e] at hl; cases hl
      rw [← List.dropLast_concat_getLast hne]
      exact hs _ _ (ih _ (by rw [List.length_dropLast]; omega))
  exact h _ l rfl
theorem spots_sorted (s : Int) (R : List (List Int)) : (spots s R).Pairwise (· < ·) := by
  refine snoc_ind (P := fun R => (spots s R).Pairwise (· < ·)) List.Pairwise.nil (fun l a h => ?_) R
  rw [spots_snoc]
  refine List.pairwise_append.mpr ⟨h, by split <;> simp, fun x hx y hy => ?_⟩
  obtain ⟨i, hi, _, rfl⟩ := spots_mem.mp hx
  split at hy
  · rw [List.mem_singleton.mp hy]; omega
  · cases hy
theorem diffs_snoc : ∀ (l : List Int) (n : Int), diffs (l ++ [n]) = diffs l ++ (match l.getLast? with | some x => [n - x - 1] | none => [])
  | [], n => rfl
  | [a], n => rfl
  | a :: b :: r, n => by
    have ih := diffs_snoc (b :: r) n
    show (b - a - 1) :: diffs (b :: r ++ [n]) = (b - a - 1) :: (diffs (b :: r) ++ _)
    rw [ih, List.getLast?_cons_cons]
theorem diffs_range : ∀ l : List Int, (List.range (l.length - 1)).map (fun i => l.getD (i + 1) 0 - l.getD i 0 - 1) = diffs l
  | [] => rfl
  | [_] => rfl
  | a :: b :: r => by
    have ih := diffs_range (b :: r)
    show (List.range (r.length + 1)).map _ = (b - a - 1) :: diffs (b :: r)
    rw [← ih, List.range_succ_eq_map, List.map_cons, List.map_map]
    rfl
/-! #### the going over with a dict -/
def lbStep (n : Int) (st : List Int × List (Int × Int)) (s : Int) : List Int × List (Int × Int) := ((match getC st.2 s with | some l => st.1 ++ [n - l - 1] | none => st.1), putC st.2 s n)
def lbRow (st : List Int × List (Int × Int)) (n : Int) (row : List Int) : List Int × List (Int × Int) := row.foldl (lbStep n) st
def lbFrom : Nat → List Int × List (Int × Int) → List (List Int) → List Int × List (Int × Int)
  | _, st, [] => st
  | i, st, r :: R => lbFrom (i + 1) (lbRow st i r) R
def lb (R : List (List Int)) : List Int × List (Int × Int) := lbFrom 0 ([], []) R
def least (R : List (List Int)) : Option Int := minO (lb R).1
theorem lbFrom_snoc : ∀ (R : List (List Int)) (i : Nat) (st : List Int × List (Int × Int)) (r : List Int), lbFrom i st (R ++ [r]) = lbRow (lbFrom i st R) ((i + R.length : Nat) : Int) r
  | [], i, st, r => rfl
  | a :: R, i, st, r => by
    show lbFrom (i + 1) (lbRow st i a) (R ++ [r]) = lbRow (lbFrom (i + 1) (lbRow st i a) R) _ r
    rw [lbFrom_snoc R, show i + 1 + R.length = i + (a :: R).length by rw [List.length_cons]; omega]
theorem lb_snoc (R : List (List Int)) (r : List Int) : lb (R ++ [r]) = lbRow (lb R) (R.length : Int) r := by
  unfold lb
  rw [lbFrom_snoc, Nat.zero_add]
theorem lbRow_spec (n : Int) : ∀ (row : List Int) (st : List Int × List (Int × Int)), row.Nodup →
    (∀ s, getC (lbRow st n row).2 s = if s ∈ row then some n else getC st.2 s) ∧ ∀ x, x ∈ (lbRow st n row).1 ↔ x ∈ st.1 ∨ ∃ s ∈ row, ∃ l, getC st.2 s = some l ∧ x = n - l - 1
  | [], st, _ => ⟨fun s => by simp [lbRow], fun x => by simp [lbRow]⟩
  | a :: row, st, nd => by
    obtain ⟨n1, n2⟩ := List.nodup_cons.mp nd
    obtain ⟨h1, h2⟩ := lbRow_spec n row (lbStep n st a) n2
    have e : lbRow st n (a :: row) = lbRow (lbStep n st a) n row := rfl
    rw [e]
    have g : ∀ s, getC (lbStep n st a).2 s = if s = a then some n else getC st.2 s := fun s => getC_putC _ _ _ _
    refine ⟨fun s => ?_, fun x => ?_⟩
    · rw [h1, g]
      by_cases c : s ∈ row
      · rw [if_pos c, if_pos (by simp [c])]
      · rw [if_neg c]
        by_cases c2 : s = a
        · rw [if_pos c2, if_pos (by simp [c2])]
        · rw [if_neg c2, if_neg (by simp [c, c2])]
    · rw [h2]
      have m : x ∈ (lbStep n st a).1 ↔ x ∈ st.1 ∨ ∃ l, getC st.2 a = some l ∧ x = n - l - 1 := by
        unfold lbStep
        cases c : getC st.2 a with
        | none => simp
        | some l => simp
      rw [m]
      constructor
      · rintro ((h | ⟨l, hl, hx⟩) | ⟨s, hs, l, hl, hx⟩)
        · exact .inl h
        · exact .inr ⟨a, by simp, l, hl, hx⟩
        · rw [g, if_neg (fun z => n1 (by rw [← z]; exact hs))] at hl
          exact .inr ⟨s, by simp [hs], l, hl, hx⟩
      · rintro (h | ⟨s, hs, l, hl, hx⟩)
        · exact .inl (.inl h)
        · rcases List.mem_cons.mp hs with q | q
          · subst q
            exact .inl (.inr ⟨l, hl, hx⟩)
          · refine .inr ⟨s, q, l, ?_, hx⟩
            rw [g, if_neg (fun z => n1 (by rw [← z]; exact q))]
            exact hl
theorem lb_spec (R : List (List Int)) : (∀ r ∈ R, r.Nodup) → (∀ s, getC (lb R).2 s = (spots s R).getLast?) ∧ ∀ x, x ∈ (lb R).1 ↔ ∃ s, x ∈ diffs (spots s R) := by
  refine snoc_ind (P := fun R => (∀ r ∈ R, r.Nodup) → (∀ s, getC (lb R).2 s = (spots s R).getLast?) ∧ ∀ x, x ∈ (lb R).1 ↔ ∃ s, x ∈ diffs (spots s R)) ?_ ?_ R
  · intro _
    exact ⟨fun s => rfl, fun x => ⟨fun h => (nomatch h), fun ⟨s, h⟩ => (nomatch h)⟩⟩
  · intro R r ih nd
    obtain ⟨i1, i2⟩ := ih fun q hq => nd q (by simp [hq])
    obtain ⟨h1, h2⟩ := lbRow_spec (R.length : Int) r (lb R) (nd r (by simp))
    rw [lb_snoc]
    refine ⟨fun s => ?_, fun x => ?_⟩
    · rw [h1, spots_snoc, i1]
      by_cases c : s ∈ r
      · rw [if_pos c, if_pos c, List.getLast?_append]; rfl
      · rw [if_neg c, if_neg c, List.append_nil]
    · rw [h2, i2]
      constructor
      · rintro (⟨s, h⟩ | ⟨s, hs, l, hl, hx⟩)
        · refine ⟨s, ?_⟩
          rw [spots_snoc]
          by_cases c : s ∈ r
          · rw [if_pos c, diffs_snoc]; exact List.mem_append.mpr (.inl h)
          · rw [if_neg c, List.append_nil]; exact h
        · refine ⟨s, ?_⟩
          rw [spots_snoc, if_pos hs, diffs_snoc, ← i1, hl]
          exact List.mem_append.mpr (.inr (by simp [hx]))
      · rintro ⟨s, h⟩
        rw [spots_snoc] at h
        by_cases c : s ∈ r
        · rw [if_pos c, diffs_snoc, ← i1] at h
          rcases List.mem_append.mp h with q | q
          · exact .inl ⟨s, q⟩
          · cases e : getC (lb R).2 s with
            | none => rw [e] at q; cases q
            | some l =>
              rw [e] at q
              exact .inr ⟨s, c, l, e, List.mem_singleton.mp q⟩
        · rw [if_neg c, List.append_nil] at h
          exact .inl ⟨s, h⟩
/-! #### the law's own going over, singer by singer -/
def lawFound (R : List (List Int)) : Nat → List Int
  | 0 => []
  | n + 1 => lawFound R n ++ diffs (spots (n : Int) R)
theorem lawFound_mem (R : List (List Int)) (x : Int) : ∀ n, x ∈ lawFound R n ↔ ∃ s : Nat, s < n ∧ x ∈ diffs (spots (s : Int) R)
  | 0 => ⟨fun h => (nomatch h), fun ⟨s, h, _⟩ => absurd h (by omega)⟩
  | n + 1 => by
    show x ∈ lawFound R n ++ _ ↔ _
    rw [List.mem_append, lawFound_mem R x n]
    constructor
    · rintro (⟨s, h1, h2⟩ | h)
      · exact ⟨s, by omega, h2⟩
      · exact ⟨n, by omega, h⟩
    · rintro ⟨s, h1, h2⟩
      by_cases c : s = n
      · subst c; exact .inr h2
      · exact .inl ⟨s, by omega, h2⟩
/-- rows of singers 0 to 5, each once in a row -/
def RowsOk (R : List (List Int)) : Prop := ∀ r ∈ R, r.Nodup ∧ ∀ s ∈ r, 0 ≤ s ∧ s < 6
theorem getD_mem {R : List (List Int)} {i : Nat} (h : i < R.length) : R.getD i [] ∈ R := by
  rw [List.getD_eq_getElem?_getD, List.getElem?_eq_getElem h]
  exact List.getElem_mem h
theorem spots_out {R : List (List Int)} (h : RowsOk R) {s : Int} (hs : ¬ (0 ≤ s ∧ s < 6)) : spots s R = [] := List.eq_nil_iff_forall_not_mem.mpr fun x hx => by
  obtain ⟨i, hi, hm, _⟩ := spots_mem.mp hx
  exact hs ((h _ (getD_mem hi)).2 s hm)
theorem lawFound_least {R : List (List Int)} (h : RowsOk R) : minO (lawFound R 6) = least R := by
  refine minO_congr fun x => ?_
  rw [lawFound_mem, (lb_spec R fun r hr => (h r hr).1).2]
  constructor
  · rintro ⟨s, _, hx⟩; exact ⟨_, hx⟩
  · rintro ⟨s, hx⟩
    by_cases c : 0 ≤ s ∧ s < 6
    · exact ⟨s.toNat, by omega, by rw [show ((s.toNat : Nat) : Int) = s by omega]; exact hx⟩
    · rw [spots_out h c] at hx; cases hx
/-! #### when there is none -/
theorem spots_len (s : Int) (R : List (List Int)) : (spots s R).length = R.countP fun r => decide (s ∈ r) := by
  refine snoc_ind (P := fun R => (spots s R).length = R.countP fun r => decide (s ∈ r)) rfl (fun l a h => ?_) R
  rw [spots_snoc, List.length_append, h, List.countP_append, List.countP_singleton]
  congr 1
  by_cases c : s ∈ a
  · rw [if_pos c, if_pos (decide_eq_true c)]; rfl
  · rw [if_neg c, if_neg (by simpa using c)]; rfl
theorem diffs_nil : ∀ {l : List Int}, diffs l = [] ↔ l.length ≤ 1
  | [] => by simp [diffs]
  | [_] => by simp [diffs]
  | _ :: _ :: _ => by simp [diffs]
theorem least_none {R : List (List Int)} (nd : ∀ r ∈ R, r.Nodup) : least R = none ↔ ∀ s, R.countP (fun r => decide (s ∈ r)) ≤ 1 := by
  unfold least
  rw [minO_none]
  have h2 := (lb_spec R nd).2
  constructor
  · intro h s
    rw [← spots_len, ← diffs_nil]
    exact List.eq_nil_iff_forall_not_mem.mpr fun x hx => by
      have := (h2 x).mpr ⟨s, hx⟩
      rw [h] at this; cases this
  · intro h
    exact List.eq_nil_iff_forall_not_mem.mpr fun x hx => by
      obtain ⟨s, hs⟩ := (h2 x).mp hx
      have := h s
      rw [← spots_len, ← diffs_nil] at this
      rw [this] at hs; cases hs
theorem least_perm {R R' : List (List Int)} (p : R.Perm R') (nd : ∀ r ∈ R, r.Nodup) : least R = none ↔ least R' = none := by
  rw [least_none nd, least_none fun r hr => nd r (p.symm.subset hr)]
  constructor
  · intro h s; rw [← p.countP_eq]; exact h s
  · intro h s; rw [p.countP_eq]; exact h s
end Song

/-! ### Gp2: all orders, the first of the widest (plain; k08) -/
namespace Song
/-- one turn of all_orders: pairs of an order and what is left -/
def ordStep (f : List (List Int × List Int)) : List (List Int × List Int) := f.flatMap fun p => p.2.map fun one => (p.1 ++ [one], p.2.filter fun other => decide (other ≠ one))
def ordIter : Nat → List (List Int × List Int) → List (List Int × List Int)
  | 0, f => f
  | n + 1, f => ordStep (ordIter n f)
def upto (n : Nat) : List Int := (List.range n).map fun i : Nat => (i : Int)
def allOrders (n : Nat) : List (List Int) := (ordIter n [([], upto n)]).map (·.1)
/-- one turn of the law's orders -/
def lordStep (n : Nat) (f : List (List Int)) : List (List Int) := f.flatMap fun o => ((upto n).filter fun one => decide (one ∉ o)).map fun one => o ++ [one]
def lordIter (n : Nat) : Nat → List (List Int)
  | 0 => [[]]
  | k + 1 => lordStep n (lordIter n k)
def lawOrders (n : Nat) : List (List Int) := lordIter n n
theorem orders_all : ((List.range 6).all fun n => decide (allOrders n = lawOrders n) && ((lawOrders n).all fun o => o.isPerm (upto n)) && decide ((lawOrders n).head? = some (upto n)) && decide ((lawOrders n).length ≤ 120)
    && ((List.range (n + 1)).all fun k => decide ((ordIter k [([], upto n)]).length ≤ 120) && ((ordIter k [([], upto n)]).all fun p => decide (p.1.length = k) && decide (p.2.length ≤ n)) && decide ((lordIter n k).length ≤ 120) && ((lordIter n k).all fun o => decide (o.length = k)))) = true := by decide +kernel
structure OrdOk (n : Nat) : Prop where
  eq : allOrders n = lawOrders n
  perm : ∀ o ∈ lawOrders n, o.Perm (upto n)
  head : (lawOrders n).head? = some (upto n)
  few : (lawOrders n).length ≤ 120
  it : ∀ k ≤ n, (ordIter k [([], upto n)]).length ≤ 120 ∧ (∀ p ∈ ordIter k [([], upto n)], p.1.length = k ∧ p.2.length ≤ n) ∧ (lordIter n k).length ≤ 120 ∧ ∀ o ∈ lordIter n k, o.length = k
theorem ordOk {n : Nat} (h : n ≤ 5) : OrdOk n := by
  have a := List.all_eq_true.mp orders_all n (List.mem_range.mpr (by omega))
  simp only [Bool.and_eq_true, decide_eq_true_eq, List.all_eq_true] at a
  obtain ⟨⟨⟨⟨a1, a2⟩, a3⟩, a4⟩, a5⟩ := a
  refine ⟨a1, fun o ho => List.isPerm_iff.mp (a2 o ho), a3, a4, fun k hk => ?_⟩
  obtain ⟨⟨⟨b1, b2⟩, b3⟩, b4⟩ := a5 k (List.mem_range.mpr (by omega))
  exact ⟨b1, b2, b3, b4⟩
/-! #### the first of the greatest -/
def bestStep {α : Type} (b : Option Int × α) (p : Int × α) : Option Int × α := match b.1 with
  | none => (some p.1, p.2)
  | some g => if p.1 > g then (some p.1, p.2) else b
theorem best_some {α : Type} : ∀ (ps : List (Int × α)) (g : Int) (o : α), ∃ g' o', ps.foldl bestStep (some g, o) = (some g', o') ∧ (∀ p ∈ (g, o) :: ps, p.1 ≤ g') ∧ ((g, o) :: ps).find? (fun p => decide (p.1 = g')) = some (g', o')
  | [], g, o => ⟨g, o, rfl, fun p hp => by rw [List.mem_singleton.mp hp]; exact Int.le_refl _, by simp⟩
  | (h, u) :: r, g, o => by
    by_cases c : h > g
    · obtain ⟨g', o', e1, e2, e3⟩ := best_some r h u
      have hg := e2 (h, u) (by simp)
      simp only at hg
      refine ⟨g', o', ?_, fun p hp => ?_, ?_⟩
      · rw [← e1]
        show r.foldl bestStep (bestStep (some g, o) (h, u)) = _
        congr 1
        show (if h > g then _ else _) = _
        rw [if_pos c]
      · rcases List.mem_cons.mp hp with q | q
        · rw [q]; show g ≤ g'; omega
        · exact e2 p q
      · rw [List.find?_cons_of_neg (by simp; omega)]
        exact e3
    · obtain ⟨g', o', e1, e2, e3⟩ := best_some r g o
      have hg := e2 (g, o) (by simp)
      simp only at hg
      refine ⟨g', o', ?_, fun p hp => ?_, ?_⟩
      · rw [← e1]
        show r.foldl bestStep (bestStep (some g, o) (h, u)) = _
        congr 1
        show (if h > g then _ else _) = _
        rw [if_neg c]
      · rcases List.mem_cons.mp hp with q | q
        · rw [q]; exact hg
        rcases List.mem_cons.mp q with q | q
        · rw [q]; show h ≤ g'; omega
        · exact e2 p (by simp [q])
      · by_cases e : g = g'
        · rw [List.find?_cons_of_pos (by simpa using e)]
          rw [List.find?_cons_of_pos (by simpa using e)] at e3
          exact e3
        · rw [List.find?_cons_of_neg (by simpa using e)] at e3 ⊢
          rw [List.find?_cons_of_neg (by simp; omega)]
          exact e3
theorem best_all {α : Type} {ps : List (Int × α)} {x : α} {g' : Int} {o' : α} (h : ps ≠ []) (e : ps.foldl bestStep (none, x) = (some g', o')) : (∀ p ∈ ps, p.1 ≤ g') ∧ ps.find? (fun p => decide (p.1 = g')) = some (g', o') := by
  cases ps with
  | nil => exact absurd rfl h
  | cons p r =>
    obtain ⟨g, o⟩ := p
    obtain ⟨g2, o2, e1, e2, e3⟩ := best_some r g o
    have e4 : ((g, o) :: r).foldl bestStep (none, x) = r.foldl bestStep (some g, o) := rfl
    rw [e4, e1] at e
    injection e with z1 z2
    injection z1 with z1
    subst z1 z2
    exact ⟨e2, e3⟩
end Song

/-! ### Gw1: rows of singers in the heap; check_groups, least_between -/
namespace Song
open PySem L2
def spotF (s : Int) (R : List (List Int)) (i : Nat) : Option V := if s ∈ R.getD i [] then some (V.int (i : Int)) else none
theorem spotF_all (s : Int) (R : List (List Int)) : (List.range R.length).filterMap (spotF s R) = (spots s R).map V.int := by
  unfold spots
  rw [List.map_filterMap]
  congr 1
  funext i
  unfold spotF
  split <;> rfl
def RowAt (K : PySem.W.Frag) (H : Hp) (v : V) (r : List Int) : Prop := ∃ b, v = .ref b ∧ SqL K H b (r.map V.int)
theorem RowAt.mono {K : PySem.W.Frag} {H H' : Hp} {v : V} {r : List Int} (s : Same H H') (h : RowAt K H v r) : RowAt K H' v r := by
  obtain ⟨b, e, q⟩ := h
  exact ⟨b, e, s.seq q⟩
def Rows (K : PySem.W.Frag) (H : Hp) (vs : List V) (R : List (List Int)) : Prop := vs.length = R.length ∧ ∀ (i : Nat) v, vs[i]? = some v → RowAt K H v (R.getD i [])
theorem Rows.mono {K : PySem.W.Frag} {H H' : Hp} {vs : List V} {R : List (List Int)} (s : Same H H') (h : Rows K H vs R) : Rows K H' vs R := ⟨h.1, fun i v e => (h.2 i v e).mono s⟩
theorem Rows.nil {K : PySem.W.Frag} {H : Hp} : Rows K H [] [] := ⟨rfl, fun i v e => by simp at e⟩
theorem getD_app {R : List (List Int)} {r : List Int} {i : Nat} (h : i < R.length) : (R ++ [r]).getD i [] = R.getD i [] := by
  rw [List.getD_eq_getElem?_getD, List.getD_eq_getElem?_getD, List.getElem?_append_left h]
theorem getD_last {R : List (List Int)} {r : List Int} : (R ++ [r]).getD R.length [] = r := by
  rw [List.getD_eq_getElem?_getD, List.getElem?_append_right (Nat.le_refl _)]; simp
theorem Rows.snoc {K : PySem.W.Frag} {H : Hp} {vs : List V} {R : List (List Int)} {v : V} {r : List Int} (h : Rows K H vs R) (q : RowAt K H v r) : Rows K H (vs ++ [v]) (R ++ [r]) := by
  refine ⟨by rw [List.length_append, List.length_append, h.1]; rfl, fun i u e => ?_⟩
  by_cases c : i < vs.length
  · rw [List.getElem?_append_left c] at e
    rw [getD_app (by rw [← h.1]; exact c)]
    exact h.2 i u e
  · have ei : i = vs.length := by
      have := (List.getElem?_eq_some_iff.mp e).1
      simp at this; omega
    subst ei
    rw [List.getElem?_append_right (Nat.le_refl _)] at e
    simp at e
    subst e
    rw [h.1, getD_last]
    exact q
theorem Rows.at {K : PySem.W.Frag} {H : Hp} {vs : List V} {R : List (List Int)} (h : Rows K H vs R) {o : Int} (h0 : 0 ≤ o) (h1 : o < (R.length : Int)) : ∃ v, atI vs o = some v ∧ RowAt K H v (R.getD o.toNat []) := by
  obtain ⟨j, rfl⟩ := Int.eq_ofNat_of_zero_le h0
  have hj : j < vs.length := by rw [h.1]; omega
  exact ⟨vs[j], atI_nat (List.getElem?_eq_getElem hj), h.2 j _ (List.getElem?_eq_getElem hj)⟩
theorem Rows.all {K : PySem.W.Frag} {H : Hp} {vs : List V} {R : List (List Int)} (h : Rows K H vs R) {v : V} (hv : v ∈ vs) : ∃ r ∈ R, RowAt K H v r := by
  obtain ⟨i, hi, rfl⟩ := List.mem_iff_getElem.mp hv
  exact ⟨_, getD_mem (by rw [← h.1]; exact hi), h.2 i _ (List.getElem?_eq_getElem hi)⟩
/-- the rows in an order -/
def pick (R : List (List Int)) (os : List Int) : List (List Int) := os.map fun o => R.getD o.toNat []
/-- what are songs of one to three singers -/
def GrOk (R : List (List Int)) : Prop := ∀ r ∈ R, areSingers r 6 = true
theorem GrOk.rows {R : List (List Int)} (h : GrOk R) : RowsOk R := fun r hr => by
  obtain ⟨_, _, h3, h4⟩ := areS_len (h r hr)
  exact ⟨(pw_of h4).imp (fun {a b} z => by omega), h3⟩
theorem GrOk.pick {R : List (List Int)} (h : GrOk R) {os : List Int} (hi : InB R.length os) : GrOk (pick R os) := fun r hr => by
  obtain ⟨o, ho, rfl⟩ := List.mem_map.mp hr
  exact h _ (getD_mem (by have := hi o ho; omega))
section
variable {P : Program} {w : World} {K : PySem.W.Frag} {mg : Str → Option Value} {base : Heap}
theorem sc_check_groups : FnScope ["songs", "most", "one"] ["songs", "most"] (defScope s_check_groups) := ⟨rfl, rfl, rfl, by decide +kernel, rfl, by decide +kernel, by decide +kernel⟩
def sp_check_groups (K : PySem.W.Frag) : Sp := fun vs H Q _ => ∃ (a : Addr) (cs : List V) (R : List (List Int)) (most : Int), vs = [.ref a, .int most] ∧ SqL K H a cs ∧ Rows K H cs R ∧ GrOk R ∧ (R.length : Int) ≤ most ∧ R.length ≤ 900 ∧ ∀ H', Same H H' → Q .non H'
theorem all_true (n : Nat) : (List.replicate n true).all id = true := by rw [List.all_eq_true]; intro x hx; rw [(List.mem_replicate.mp hx).2]; rfl
theorem fn_check_groups (T : Tx K mg) : Fn P w K mg base "check_groups" 4 (sp_check_groups K) := by
  obtain ⟨fd, F⟩ := T.d_check_groups
  refine ⟨_, fd, _, F.ok (CX := CX0) sc_check_groups (fun vs H Q E h => ?_) (fun cdv A outer s H vs Q E hr h => ?_), T.g_check_groups, F.kp, F.bindsN fun _ _ _ _ _ _ us hl => match us, hl with | [_, _], _ => rfl⟩
  · obtain ⟨a, cs, R, most, rfl, _⟩ := h; rfl
  · obtain ⟨a, cs, R, most, rfl, hs, hR, hG, hm, hl, q⟩ := h
    refine ⟨_, PSs.nox (pss_cons (ps_if (PW.pt (pw_or (pt_not (pt_val (pe_callB (show CallR _ _ (rIsi K) from call_isi) (by rfl) T.isinstance (by decide +kernel) (pa_cons (pv 0) (pa_cons (pe_gt (n := "list") T.list (by rfl) (by decide +kernel)) pa_nil))))) (pw_or1 (pt_cmpR op_gt (pe_callB (show CallR _ _ (rLenQ K) from call_len_seq) (by rfl) T.len (by decide +kernel) (pa_cons (pv 0) pa_nil)) (pv 1) (nomark _))))) (pss_one ps_never) pss_nil)
      (pss_one (ps_if (pt_not (pt_val (pe_callB (show CallR _ _ (rAll K) from cr_all (by rfl)) (by rfl) T.all (by decide +kernel) (pa_cons (pe_lc (own := [("one", 2)]) (g := (gName 2)) (tt := tYes) (by rfl) sc_check_groups.nd (show PI _ _ _ (iList K _) from pi_list (pv 0)) (blkOk_by (by kernel_rfl)) (fun _ _ _ _ _ => (pg_name (i := 2) sc_check_groups.nd rfl (by first | exact Or.inl rfl | exact Or.inr rfl))) (fun _ _ _ _ _ => pts_nil) (fun _ _ _ _ _ => (pe_fn (fn_are_singers T) (hr.mono (by first | decide | omega)) (by rfl) (pa_cons (pv 2) (pa_cons (pe_gi T.c_MOST_SINGERS (by rfl)) pa_nil))))) pa_nil)))) (pss_one ps_never) pss_nil))), ?_⟩
    have hlc := hR.1
    refine ⟨_, rfl, _, _, _, _, _, rfl, .ty _, kd_list hs, (kit_kd (kd_list hs)).2.2.1, _, rfl, iteF ?_⟩
    refine ⟨_, rfl, a, _, rfl, .inl hs, _, rfl, _, _, rfl, rfl, _, rfl, ?_⟩
    rw [decide_eq_false (by omega)]
    refine iteF ⟨_, rfl, a, rfl, ⟨_, hs⟩, fun D nD => lc_map (fun _ => .bl true) hs nD (by omega) ?_ ?_ gname_mono⟩
    · intro i x H1 hx s1 k hk
      obtain ⟨r, hr, b, rfl, hb⟩ := hR.all (List.mem_of_getElem? hx)
      have hA := hG r hr
      obtain ⟨_, l3, _, _⟩ := areS_len hA
      refine ⟨rfl, _, rfl, b, r, 6, rfl, s1.seq hb, by omega, fun H2 s2 => ?_⟩
      rw [hA]
      exact hk _ s2
    · intro H1 s1 hD
      refine ⟨_, List.replicate cs.length true, rfl, SqL.of (by rw [hD, List.map_const', List.map_replicate]), _, rfl, ?_⟩
      rw [all_true]
      exact iteF (q _ s1)
theorem sc_least_between : FnScope ["songs", "order", "found", "last", "at", "place", "singer"] ["songs", "order"] (defScope s_least_between) := ⟨rfl, rfl, rfl, by decide +kernel, rfl, by decide +kernel, by decide +kernel⟩
def sp_least_between (K : PySem.W.Frag) : Sp := fun vs H Q _ => ∃ (a b : Addr) (cs : List V) (R : List (List Int)) (os : List Int), vs = [.ref a, .ref b] ∧ SqL K H a cs ∧ Rows K H cs R ∧ (∀ r ∈ R, r.length ≤ 3) ∧ SqL K H b (os.map V.int) ∧ InB R.length os ∧ os.length ≤ 100 ∧
  ∀ H', Same H H' → Q (optV (least (pick R os))) H'
theorem lbStep_len (n : Int) (st : List Int × List (Int × Int)) (s : Int) : (lbStep n st s).1.length ≤ st.1.length + 1 ∧ (lbStep n st s).2.length ≤ st.2.length + 1 := by
  refine ⟨?_, putC_len _ _ _⟩
  unfold lbStep
  cases getC st.2 s with
  | none => show st.1.length ≤ _; omega
  | some l => show (st.1 ++ [_]).length ≤ _; rw [List.length_append, List.length_singleton]; omega
theorem fra2_same {H H' : Hp} {a b x : Addr} {o : HO} (f : Fra [a, b] H H') (n1 : x ≠ a) (n2 : x ≠ b) (h : H x = some o) : H' x = some o := f x o (by simp [n1, n2]) h
theorem fn_least_between (T : Tx K mg) : Fn P w K mg base "least_between" 1 (sp_least_between K) := by
  obtain ⟨fd, F⟩ := T.d_least_between
  refine ⟨_, fd, _, F.ok (CX := CX0) sc_least_between (fun vs H Q E h => ?_) (fun cdv A outer s H vs Q E hr h => ?_), T.g_least_between, F.kp, F.bindsN fun _ _ _ _ _ _ us hl => match us, hl with | [_, _], _ => rfl⟩
  · obtain ⟨a, b, cs, R, os, rfl, _⟩ := h; rfl
  · obtain ⟨a, b, cs, R, os, rfl, ha, hR, h3, hb, hi, hl, q⟩ := h
    refine ⟨_, PSs.nox (pss_cons (ps_par (i := 2) (j := 3) (by rfl) sc_least_between.nd rfl rfl (by decide) rfl rfl (pa_cons (pe_lst pa_nil) (pa_cons pe_dnewK pa_nil)) (by rfl))
      (pss_cons (ps_for PassesOwn.never rfl (show PI _ _ _ (iEnum K _) from pi_enum (by rfl) T.enumerate (pa_cons (pv 1) pa_nil)) (show PG _ _ (gTup K _ _) from pg_tup rfl (pgs_cons (pg_name (i := 4) sc_least_between.nd rfl (by first | exact Or.inl rfl | exact Or.inr rfl)) (pgs_cons (pg_name (i := 5) sc_least_between.nd rfl (by first | exact Or.inl rfl | exact Or.inr rfl)) pgs_nil)))
      (pss_one (ps_for PassesOwn.never rfl (show PI _ _ _ (iList K _) from pi_list (pe_ix (show IxR _ (rIxL K) from ix_list) (pv 0) (pv 5) (fun _ _ => rfl))) (pg_name (i := 6) sc_least_between.nd rfl (by first | exact Or.inl rfl | exact Or.inr rfl))
      (pss_cons (ps_if (pt_cmp (pc_din (hu_of hr) (pv 6) (pv 3))) (pss_one (ps_expr (show PE _ _ (tBM K _ _ _ _) from pe_bm PySem.F.plainAttrs_list PySem.F.slot_list_append PySem.F.type_list_append mt_append (pv 2) (pa_cons (pe_op op_sub (pe_op op_sub (pv 4) (pe_dget (hu_of hr) (pv 3) (pv 6) (fun _ _ => rfl))) pe_int) pa_nil)))) pss_nil)
      (pss_one (ps_dput (hu_of hr) (pv 3) (pv 6) (pv 4) rfl))))))
      (pss_one (ps_ret (pe_ifExp (pt_cmpR (show OpR _ _ (rNeD K) from op_neD hr.units) (pv 2) (pe_lst pa_nil) (nomark _)) (pe_callB (show CallR _ _ (rMin K) from cr_min (by rfl)) (by rfl) T.min (by decide +kernel) (pa_cons (pv 2) pa_nil)) pe_non))))), ?_⟩
    refine ⟨Nat.zero_le _, fun l nl => ?_⟩
    refine to_new nl fun H1 s1 hl1 => ?_
    intro d nd
    refine to_new nd fun H2 s2 hd2 => ?_
    have hl2 := s2 _ _ hl1
    have nld : l ≠ d := ne_of_none hl1 nd
    have s02 := s1.trans s2
    have nS : ∀ x ∈ [l, d], H x = none := fun x hx => by
      simp only [List.mem_cons, List.not_mem_nil, or_false] at hx
      rcases hx with e | e <;> rw [e]
      · exact nl
      · exact s1.free nd
    refine ⟨_, _, rfl, ?_⟩
    have rowLen : ∀ o ∈ os, (R.getD o.toNat []).length ≤ 3 := fun o ho => h3 _ (getD_mem (by have := hi o ho; omega))
    refine ⟨_, rfl, b, _, rfl, s02.seq hb, for_it (walk_enum (xs := os.map V.int)) (fun i σ H' => ∃ (st : List Int × List (Int × Int)) (x4 x5 x6 : Option V), σ = [some (.ref a), some (.ref b), some (.ref l), some (.ref d), x4, x5, x6] ∧
      Fra [l, d] H2 H' ∧ H' l = some (.lst (st.1.map V.int)) ∧ H' d = some (.dK (toK st.2)) ∧ st = lb (pick R (os.take i)) ∧ st.1.length ≤ 3 * i ∧ st.2.length ≤ 3 * i) ?_ ?_ ?_ ?_⟩
    · exact ⟨([], []), _, _, _, rfl, Fra.refl _ _, hl2, hd2, rfl, Nat.le_refl _, Nat.le_refl _⟩
    · rintro i σ H' _ ⟨st, x4, x5, x6, rfl, f, _⟩
      exact (f.back s02 nS).seq hb
    · rintro i v σ H3 H4 hi3 ⟨st, x4, x5, x6, rfl, f3, hl3, hd3, est, b1, b2⟩ ⟨t, x, y, rfl, nt, rfl, hx, hy⟩
      cases hx
      obtain ⟨o, rfl, ho⟩ := int_at hy
      rw [List.length_map] at hi3
      have hom := List.mem_of_getElem? ho
      obtain ⟨o0, o1⟩ := hi o hom
      refine ⟨t, _, rfl, SqT.of upd_same, rfl, _, _, rfl, _, _, rfl, rfl, ?_⟩
      refine to_new nt fun H5 s5 ht => ?_
      have s05 : Same H H5 := (f3.back s02 nS).trans s5
      obtain ⟨u, hu, c, rfl, hcH⟩ := hR.at o0 o1
      have hc := s05.seq hcH
      have hrow := rowLen o hom
      generalize hrw : R.getD o.toNat [] = row at *
      refine ⟨_, rfl, _, rfl, a, cs, o, _, rfl, rfl, s05.seq ha, hu, c, rfl, ⟨_, hc⟩, ?_⟩
      have f5 : Fra [l, d] H2 H5 := f3.trans (Fra.of s5)
      refine for_list (K := K) (a := c) (xs := row.map V.int) (fun j σ H' => ∃ (st' : List Int × List (Int × Int)) (x6 : Option V), σ = [some (.ref a), some (.ref b), some (.ref l), some (.ref d), some (.int (i : Nat)), some (.int o), x6] ∧
        Fra [l, d] H5 H' ∧ H' l = some (.lst (st'.1.map V.int)) ∧ H' d = some (.dK (toK st'.2)) ∧ st' = lbRow st (i : Nat) (row.take j) ∧ st'.1.length ≤ 3 * i + j ∧ st'.2.length ≤ 3 * i + j) ?_ ?_ ?_ ?_
      · exact ⟨st, _, rfl, Fra.refl _ _, s5 _ _ hl3, s5 _ _ hd3, rfl, b1, b2⟩
      · rintro j σ G _ ⟨st', y6, rfl, g, _⟩
        exact ((f5.trans g).back s02 nS).seq hcH
      · rintro j v σ G hv ⟨st', y6, rfl, g, gl, gd, est', c1, c2⟩
        obtain ⟨s, rfl, hs⟩ := int_at hv
        have hj : j < row.length := (List.getElem?_eq_some_iff.mp hs).1
        have fin : lbStep (i : Nat) st' s = lbRow st (i : Nat) (row.take (j + 1)) := by
          unfold lbRow
          rw [foldl_take _ _ _ _ _ hs, est']; rfl
        obtain ⟨e1, e2⟩ := lbStep_len (i : Nat) st' s
        have gp : ∀ G', Fra [l, d] G G' → G' l = some (.lst ((lbStep (i : Nat) st' s).1.map V.int)) → G' d = some (.dK (toK (putC st'.2 s (i : Nat)))) → ∃ (st'' : List Int × List (Int × Int)) (x6 : Option V), [some (V.ref a), some (.ref b), some (.ref l), some (.ref d), some (.int (i : Nat)), some (.int o), some (.int s)] = [some (.ref a), some (.ref b), some (.ref l), some (.ref d), some (.int (i : Nat)), some (.int o), x6] ∧
            Fra [l, d] H5 G' ∧ G' l = some (.lst (st''.1.map V.int)) ∧ G' d = some (.dK (toK st''.2)) ∧ st'' = lbRow st (i : Nat) (row.take (j + 1)) ∧ st''.1.length ≤ 3 * i + (j + 1) ∧ st''.2.length ≤ 3 * i + (j + 1) := fun G' f g1 g2 =>
          ⟨lbStep (i : Nat) st' s, _, rfl, g.trans f, g1, g2, fin, by omega, by omega⟩
        have md : ∀ x ∈ [d], x ∈ [l, d] := fun x hx => by simp at hx; simp [hx]
        have ml : ∀ x ∈ [l], x ∈ [l, d] := fun x hx => by simp at hx; simp [hx]
        refine ⟨_, rfl, _, rfl, d, _, rfl, DGet.k (k := Sum.inl s) gd, _, rfl, ?_⟩
        rw [valV_toK]
        cases hg : getC st'.2 s with
        | none =>
          refine iteF ⟨_, rfl, _, rfl, _, rfl, d, _, rfl, DPut.k (k := Sum.inl s) gd (by rw [toK_len]; exact lt_line (by omega)), ?_⟩
          rw [putK_toK]
          refine to_put fun G1 f1 gd1 => ?_
          refine gp G1 (f1.mono md) ?_ gd1
          have e : (lbStep (i : Nat) st' s).1 = st'.1 := by unfold lbStep; rw [hg]
          rw [e]
          exact f1.one nld gl
        | some x =>
          refine iteT ⟨_, rfl, .inl ⟨rfl, _, SqL.of gl⟩, _, rfl, _, rfl, _, rfl, d, _, rfl, getC_get gd hg, _, _, rfl, rfl, _, _, rfl, rfl, l, _, _, rfl, rfl, gl, lt_line (by rw [List.length_map]; omega), ?_⟩
          refine to_put fun G1 f1 gl1 => ?_
          refine ⟨_, rfl, _, rfl, _, rfl, d, _, rfl, DPut.k (k := Sum.inl s) (f1.one nld.symm gd) (by rw [toK_len]; exact lt_line (by omega)), ?_⟩
          rw [putK_toK]
          refine to_put fun G2 f2 gd2 => ?_
          refine gp G2 ((f1.mono ml).trans (f2.mono md)) ?_ gd2
          have e : (lbStep (i : Nat) st' s).1 = st'.1 ++ [(i : Nat) - x - 1] := by unfold lbStep; rw [hg]
          rw [e, snoc_ints]
          exact f2.one nld gl1
      · rintro σ G ⟨st', y6, rfl, g, gl, gd, est', c1, c2⟩
        rw [List.length_map] at est' c1 c2
        rw [List.take_length] at est'
        refine ⟨st', _, _, _, rfl, f5.trans g, gl, gd, ?_, by omega, by omega⟩
        have e : pick R (os.take (i + 1)) = pick R (os.take i) ++ [row] := by
          unfold pick
          obtain ⟨hlt, eo⟩ := List.getElem?_eq_some_iff.mp ho
          rw [List.take_succ_eq_append_getElem hlt, List.map_append, eo, ← hrw]; rfl
        rw [e, lb_snoc, ← est, est']
        congr 1
        unfold pick
        rw [List.length_map, List.length_take]
        omega
    · rintro σ H3 ⟨st, x4, x5, x6, rfl, f3, hl3, hd3, est, b1, b2⟩
      rw [List.length_map, List.take_length] at est
      rw [List.length_map] at b1
      have s03 := f3.back s02 nS
      have qq := q
      unfold least at q
      rw [← est] at q
      refine ⟨_, rfl, Nat.zero_le _, fun z nz => ?_⟩
      refine to_new nz fun H4 s4 hz => ?_
      refine ⟨_, _, dp_ints (SqL.of (s4 _ _ hl3)), .lst (SqL.of hz) .nil, (shp_ints _).ok, shp_nil.ok, _, rfl, ?_⟩
      rw [eqv_nil]
      cases hst : st.1 with
      | nil =>
        rw [hst] at q
        exact iteF (q _ (s03.trans s4))
      | cons n r =>
        rw [hst] at q hl3
        refine iteT ⟨_, rfl, l, _, rfl, SqL.of (s4 _ _ hl3), by simp, fun m hm hmm => ?_⟩
        rw [minO_eq hm hmm] at q
        exact q _ (s03.trans s4)
end
end Song

/-! ### Gw2: least_gap; all_orders; widest_few (k08) -/
namespace Song
open PySem L2
theorem perm_sorted_eq : ∀ {xs ys : List Int}, xs.Perm ys → xs.Pairwise (· ≤ ·) → ys.Pairwise (· ≤ ·) → xs = ys
  | [], ys, p, _, _ => (List.nil_perm.mp p).symm ▸ rfl
  | x :: l, [], p, _, _ => absurd p.length_eq (by simp)
  | x :: l, y :: m, p, h1, h2 => by
    obtain ⟨a1, a2⟩ := List.pairwise_cons.mp h1
    obtain ⟨b1, b2⟩ := List.pairwise_cons.mp h2
    have e : x = y := by
      have hx : x ∈ y :: m := p.subset (by simp)
      have hy : y ∈ x :: l := p.symm.subset (by simp)
      rcases List.mem_cons.mp hx with q | q
      · exact q
      rcases List.mem_cons.mp hy with q' | q'
      · exact q'.symm
      have := b1 x q
      have := a1 y q'
      omega
    subst e
    rw [perm_sorted_eq (List.perm_cons x |>.mp p) a2 b2]
theorem upto_sorted (n : Nat) : (upto n).Pairwise (· ≤ ·) := by
  unfold upto
  rw [List.pairwise_map]
  exact List.pairwise_lt_range.imp fun {a b} h => by omega
theorem rg0 (n : Nat) : rgV 0 (n : Int) = (upto n).map V.int := by
  unfold rgV upto
  rw [List.map_map, show ((n : Int) - 0).toNat = n by omega]
  refine List.map_congr_left fun i _ => ?_
  show V.int (0 + (i : Nat)) = V.int (i : Nat)
  rw [Int.zero_add]
theorem upto_len (n : Nat) : (upto n).length = n := by unfold upto; rw [List.length_map, List.length_range]
theorem upto_in (n : Nat) : InB n (upto n) := fun s hs => by
  obtain ⟨i, hi, rfl⟩ := List.mem_map.mp hs
  rw [List.mem_range] at hi
  omega
theorem perm_in {n : Nat} {os : List Int} (p : os.Perm (upto n)) : InB n os := fun s hs => upto_in n s (p.subset hs)
theorem pick_upto (R : List (List Int)) : pick R (upto R.length) = R := by
  unfold pick upto
  rw [List.map_map]
  refine List.ext_getElem (by rw [List.length_map, List.length_range]) fun i h1 h2 => ?_
  rw [List.getElem_map, List.getElem_range]
  show R.getD i [] = R[i]
  rw [List.getD_eq_getElem?_getD, List.getElem?_eq_getElem h2]; rfl
theorem pick_perm {R : List (List Int)} {os : List Int} (p : os.Perm (upto R.length)) : (pick R os).Perm R := by
  have h := p.map fun o : Int => R.getD o.toNat []
  have e : (upto R.length).map (fun o : Int => R.getD o.toNat []) = R := pick_upto R
  rw [e] at h
  exact h
theorem optV_non (o : Option Int) : decide (optV o = .non) = decide (o = none) := by
  cases o with
  | none => rfl
  | some n => rfl
section
variable {P : Program} {w : World} {K : PySem.W.Frag} {mg : Str → Option Value} {base : Heap}
theorem sc_least_gap : FnScope ["songs", "order"] ["songs", "order"] (defScope s_least_gap) := ⟨rfl, rfl, rfl, by decide +kernel, rfl, by decide +kernel, by decide +kernel⟩
def sp_least_gap (K : PySem.W.Frag) : Sp := fun vs H Q _ => ∃ (a b : Addr) (cs : List V) (R : List (List Int)) (os : List Int), vs = [.ref a, .ref b] ∧ SqL K H a cs ∧ Rows K H cs R ∧ GrOk R ∧ R.length ≤ 24 ∧ SqL K H b (os.map V.int) ∧ os.Perm (upto R.length) ∧
  ∀ H', Same H H' → Q (optV (least (pick R os))) H'
theorem fn_least_gap (T : Tx K mg) : Fn P w K mg base "least_gap" 5 (sp_least_gap K) := by
  obtain ⟨fd, F⟩ := T.d_least_gap
  refine ⟨_, fd, _, F.ok (CX := CX0) sc_least_gap (fun vs H Q E h => ?_) (fun cdv A outer s H vs Q E hr h => ?_), T.g_least_gap, F.kp, F.bindsN fun _ _ _ _ _ _ us hl => match us, hl with | [_, _], _ => rfl⟩
  · obtain ⟨a, b, cs, R, os, rfl, _⟩ := h; rfl
  · obtain ⟨a, b, cs, R, os, rfl, ha, hR, hG, h24, hb, hp, q⟩ := h
    refine ⟨_, PSs.nox (pss_cons (ps_expr (pe_fn (fn_check_groups T) (hr.mono (by first | decide | omega)) (by rfl) (pa_cons (pv 0) (pa_cons (pe_gi T.c_MOST_SONGS (by rfl)) pa_nil))))
      (pss_cons (ps_if (PW.pt (pw_or (pt_not (pt_val (pe_fn (fn_are_numbers T) (hr.mono (by first | decide | omega)) (by rfl) (pa_cons (pv 1) pa_nil)))) (pw_or1 (pt_cmpR (show OpR _ _ (rNeD K) from op_neD hr.units) (pe_callB (show CallR _ _ (rSortedI K) from cr_sortedI) (by rfl) T.sorted (by decide +kernel) (pa_cons (pv 1) pa_nil)) (pe_listRg (by rfl) (by rfl) T.list (prg_1 (by rfl) T.range (pe_callB (show CallR _ _ (rLenQ K) from call_len_seq) (by rfl) T.len (by decide +kernel) (pa_cons (pv 0) pa_nil)))) (nomark _))))) (pss_one ps_never) pss_nil)
      (pss_one (ps_ret (pe_fn (fn_least_between T) (hr.mono (by first | decide | omega)) (by rfl) (pa_cons (pv 0) (pa_cons (pv 1) pa_nil))))))), ?_⟩
    have hol : os.length = R.length := by rw [hp.length_eq, upto_len]
    have allI : (os.map V.int).all isInt = true := by
      rw [List.all_map, List.all_eq_true]; intro x _; rfl
    refine ⟨_, rfl, a, cs, R, _, rfl, ha, hR, hG, by omega, by omega, fun H1 s1 => ?_⟩
    refine ⟨_, rfl, _, rfl, .inl ⟨b, _, rfl, s1.seq hb, by rw [List.length_map]; omega, fun x hx => ?_, fun H2 s2 => ?_⟩⟩
    · obtain ⟨i, _, rfl⟩ := List.mem_map.mp hx
      exact ⟨_, kd_int i⟩
    rw [allI]
    have s02 := s1.trans s2
    refine ⟨_, rfl, iteF ⟨_, rfl, b, os, rfl, s02.seq hb, fun ns p pe pw np => ?_⟩⟩
    refine to_new np fun H3 s3 hp3 => ?_
    have e : ns = upto R.length := perm_sorted_eq (pe.trans hp) pw (upto_sorted _)
    refine ⟨_, rfl, a, _, rfl, .inl ((s02.trans s3).seq ha), _, rfl, ⟨by decide, by decide, by omega, by have := hR.1; omega, by have := hR.1; omega⟩, fun r nr => ?_⟩
    rw [rg0, hR.1]
    refine to_new nr fun H4 s4 hr4 => ?_
    subst e
    refine ⟨_, _, dp_ints (SqL.of (s4 _ _ hp3)), dp_ints (SqL.of hr4), (shp_ints _).ok, (shp_ints _).ok, _, rfl, ?_⟩
    rw [eqv_ints]
    refine iteF ?_
    have s04 := (s02.trans s3).trans s4
    exact ⟨_, rfl, _, rfl, a, b, cs, R, os, rfl, s04.seq ha, hR.mono s04, fun r hr => (areS_len (hG r hr)).2.1, s04.seq hb, perm_in hp, by omega, fun H5 s5 => q _ (s04.trans s5)⟩
theorem sc_all_orders : FnScope ["many", "found", "turn", "longer", "order", "left", "other", "one"] ["many"] (defScope s_all_orders) := ⟨rfl, rfl, rfl, by decide +kernel, rfl, by decide +kernel, by decide +kernel⟩
/-- pairs of an order and what is left, in the heap; new to H0 -/
def OrdAt (H0 H : Hp) (v : V) (p : List Int × List Int) : Prop := ∃ t b c, v = .ref t ∧ H t = some (.tup [.ref b, .ref c]) ∧ H b = some (.lst (p.1.map V.int)) ∧ H c = some (.lst (p.2.map V.int)) ∧ H0 t = none ∧ H0 b = none ∧ H0 c = none
theorem OrdAt.mono {H0 H H' : Hp} {v : V} {p : List Int × List Int} (s : Same H H') (h : OrdAt H0 H v p) : OrdAt H0 H' v p := by
  obtain ⟨t, b, c, e, h1, h2, h3, h4⟩ := h
  exact ⟨t, b, c, e, s _ _ h1, s _ _ h2, s _ _ h3, h4⟩
theorem OrdAt.into {H0 Hb Hc : Hp} {v : V} {p : List Int × List Int} {D g : Addr} {o : HO} (h : OrdAt Hb (off [D] Hc) v p) (hg : Hb g = some o) (s : Same H0 Hb) : OrdAt H0 (off [g] Hc) v p := by
  obtain ⟨t, b, c, e, h1, h2, h3, n1, n2, n3⟩ := h
  have f : ∀ {x : Addr} {y : HO}, off [D] Hc x = some y → Hb x = none → off [g] Hc x = some y := fun {x y} h n => by
    rw [off_out (fun z => by rw [List.mem_singleton.mp z, hg] at n; cases n)]
    exact (off_some h).2
  exact ⟨t, b, c, e, f h1 n1, f h2 n2, f h3 n3, s.free n1, s.free n2, s.free n3⟩
def Ords (H0 H : Hp) (vs : List V) (ps : List (List Int × List Int)) : Prop := vs.length = ps.length ∧ ∀ (i : Nat) v, vs[i]? = some v → ∃ p, ps[i]? = some p ∧ OrdAt H0 H v p
theorem Ords.mono {H0 H H' : Hp} {vs : List V} {ps : List (List Int × List Int)} (s : Same H H') (h : Ords H0 H vs ps) : Ords H0 H' vs ps := ⟨h.1, fun i v e => by
  obtain ⟨p, h1, h2⟩ := h.2 i v e
  exact ⟨p, h1, h2.mono s⟩⟩
theorem Ords.app {H0 H : Hp} {vs ws : List V} {ps qs : List (List Int × List Int)} (h : Ords H0 H vs ps) (g : Ords H0 H ws qs) : Ords H0 H (vs ++ ws) (ps ++ qs) := by
  refine ⟨by rw [List.length_append, List.length_append, h.1, g.1], fun i v e => ?_⟩
  by_cases c : i < vs.length
  · rw [List.getElem?_append_left c] at e
    rw [List.getElem?_append_left (by rw [← h.1]; exact c)]
    exact h.2 i v e
  · rw [List.getElem?_append_right (by omega)] at e
    rw [List.getElem?_append_right (by rw [← h.1]; omega), ← h.1]
    exact g.2 _ v e
def ordOne (p : List Int × List Int) : List (List Int × List Int) := p.2.map fun one => (p.1 ++ [one], p.2.filter fun other => decide (other ≠ one))
theorem ordStep_take {F : List (List Int × List Int)} {j : Nat} {p : List Int × List Int} (h : F[j]? = some p) : ordStep (F.take (j + 1)) = ordStep (F.take j) ++ ordOne p := by
  obtain ⟨hj, e⟩ := List.getElem?_eq_some_iff.mp h
  unfold ordStep
  rw [List.take_succ_eq_append_getElem hj, List.flatMap_append, e]
  simp [ordOne]
def neqF (ls : List Int) (one : Int) (i : Nat) : Option V := (ls[i]?).bind fun o => if decide (o ≠ one) = true then some (V.int o) else none
theorem neqF_all (ls : List Int) (one : Int) : (List.range ls.length).filterMap (neqF ls one) = (ls.filter fun other => decide (other ≠ one)).map V.int := by
  have e : (List.range ls.length).filterMap (neqF ls one) = ls.filterMap fun o => if decide (o ≠ one) = true then some (V.int o) else none := range_filterMap _ ls
  rw [e, ← List.filterMap_eq_map, List.filterMap_filter]
  rfl
def sp_all_orders : Sp := fun vs H Q _ => ∃ n : Nat, vs = [.int n] ∧ n ≤ 5 ∧
  ∀ l H' ys, H l = none → Same H H' → H' l = some (.lst ys) → ys.length = (allOrders n).length → (∀ (i : Nat) y, ys[i]? = some y → ∃ b o, y = .ref b ∧ (allOrders n)[i]? = some o ∧ H b = none ∧ b ≠ l ∧ H' b = some (.lst (o.map V.int))) → Q (.ref l) H'
theorem fn_all_orders (T : Tx K mg) : Fn P w K mg base "all_orders" 1 sp_all_orders := by
  obtain ⟨fd, F⟩ := T.d_all_orders
  refine ⟨_, fd, _, F.ok (CX := CX0) sc_all_orders (fun vs H Q E h => ?_) (fun cdv A outer s H vs Q E hr h => ?_), T.g_all_orders, F.kp, F.bindsN fun _ _ _ _ _ _ us hl => match us, hl with | [_], _ => rfl⟩
  · obtain ⟨n, rfl, _⟩ := h; rfl
  · obtain ⟨n, rfl, n5, q⟩ := h
    refine ⟨_, PSs.nox (pss_cons (ps_set (i := 1) sc_all_orders.nd rfl (by first | exact Or.inl rfl | exact Or.inr rfl) (pe_lst (pa_cons (pe_tup (pa_cons (pe_lst pa_nil) (pa_cons (pe_listRg (by rfl) (by rfl) T.list (prg_1 (by rfl) T.range (pv 0))) pa_nil))) pa_nil)))
      (pss_cons (ps_for PassesOwn.never rfl (pi_range1 (by rfl) T.range (pa_cons (pv 0) pa_nil)) (pg_name (i := 2) sc_all_orders.nd rfl (by first | exact Or.inl rfl | exact Or.inr rfl))
      (pss_cons (ps_set (i := 3) sc_all_orders.nd rfl (by first | exact Or.inl rfl | exact Or.inr rfl) (pe_lst pa_nil))
      (pss_cons (ps_for PassesOwn.never rfl (show PI _ _ _ (iList K _) from pi_list (pv 1)) (show PG _ _ (gTup K _ _) from pg_tup rfl (pgs_cons (pg_name (i := 4) sc_all_orders.nd rfl (by first | exact Or.inl rfl | exact Or.inr rfl)) (pgs_cons (pg_name (i := 5) sc_all_orders.nd rfl (by first | exact Or.inl rfl | exact Or.inr rfl)) pgs_nil)))
      (pss_one (ps_expr (show PE _ _ (tBM K _ _ _ _) from pe_bm PySem.F.plainAttrs_list PySem.F.slot_list_extend PySem.F.type_list_extend mt_extend (pv 3) (pa_cons (pe_lc (own := [("one", 7)]) (g := (gName 7)) (tt := tYes) (by rfl) sc_all_orders.nd (show PI _ _ _ (iList K _) from pi_list (pv 5)) (blkOk_by (by kernel_rfl)) (fun _ _ _ _ _ => (pg_name (i := 7) sc_all_orders.nd rfl (by first | exact Or.inl rfl | exact Or.inr rfl))) (fun _ _ _ _ _ => pts_nil) (fun _ _ _ _ _ => (pe_tup (pa_cons (pe_op op_cat (pv 4) (pe_lst (pa_cons (pv 7) pa_nil))) (pa_cons (pe_lc (own := [("other", 6)]) (g := (gName 6)) (tt := _) (by rfl) sc_all_orders.nd (show PI _ _ _ (iList K _) from pi_list (pv 5)) (blkOk_by (by kernel_rfl)) (fun _ _ _ _ _ => (pg_name (i := 6) sc_all_orders.nd rfl (by first | exact Or.inl rfl | exact Or.inr rfl))) (fun _ _ _ _ _ => pts_one (pt_cmpR op_ne (pv 6) (pv 7) (nomark _))) (fun _ _ _ _ _ => (pv 6))) pa_nil))))) pa_nil)))))
      (pss_one (ps_set (i := 1) sc_all_orders.nd rfl (by first | exact Or.inl rfl | exact Or.inr rfl) (pv 3))))))
      (pss_one (ps_ret (pe_lc (own := [("order", 4), ("left", 5)]) (g := (gTup K 2 (gCons (gName 4) (gCons (gName 5) gNil)))) (tt := tYes) (by rfl) sc_all_orders.nd (show PI _ _ _ (iList K _) from pi_list (pv 1)) (blkOk_by (by kernel_rfl)) (fun _ _ _ _ _ => (show PG _ _ (gTup K _ _) from pg_tup rfl (pgs_cons (pg_name (i := 4) sc_all_orders.nd rfl (by first | exact Or.inl rfl | exact Or.inr rfl)) (pgs_cons (pg_name (i := 5) sc_all_orders.nd rfl (by first | exact Or.inl rfl | exact Or.inr rfl)) pgs_nil)))) (fun _ _ _ _ _ => pts_nil) (fun _ _ _ _ _ => (pv 4))))))), ?_⟩
    have ok := ordOk n5
    refine ⟨Nat.zero_le _, fun a na => ?_⟩
    refine to_new na fun H1 s1 ha => ?_
    refine ⟨_, rfl, _, rfl, ⟨by decide, by decide, by omega, by omega, by omega⟩, fun b nb => ?_⟩
    rw [rg0]
    refine to_new nb fun H2 s2 hb => ?_
    refine ⟨by show 2 ≤ sizeLine; decide, fun c nc => ?_⟩
    refine to_new nc fun H3 s3 hc => ?_
    refine ⟨by show 1 ≤ sizeLine; decide, fun f nf => ?_⟩
    refine to_new nf fun H4 s4 hf => ?_
    have s14 : Same H1 H4 := (s2.trans s3).trans s4
    have s24 : Same H2 H4 := s3.trans s4
    refine ⟨_, rfl, _, rfl, by omega, by omega, for_range (lo := 0) (fun i σ H' => ∃ (f : Addr) (ys : List V) (x2 x3 x4 x5 x6 x7 : Option V), σ = [some (.int n), some (.ref f), x2, x3, x4, x5, x6, x7] ∧
      Same H H' ∧ H f = none ∧ H' f = some (.lst ys) ∧ Ords H (off [f] H') ys (ordIter i [([], upto n)])) ?_ ?_ ?_⟩
    · refine ⟨f, _, _, _, _, _, _, _, rfl, s1.trans s14, s1.free (s2.free (s3.free nf)), hf, rfl, fun i v e => ?_⟩
      cases i with
      | succ i => simp at e
      | zero =>
        simp at e
        subst e
        refine ⟨_, rfl, c, a, b, rfl, ?_, ?_, ?_, s1.free (s2.free nc), na, s1.free nb⟩
        · rw [off_out (by simp; exact (ne_of_none hc nf))]; exact s4 _ _ hc
        · rw [off_out (by simp; exact (ne_of_none (s3 _ _ (s2 _ _ ha)) nf))]; exact s14 _ _ ha
        · rw [off_out (by simp; exact (ne_of_none (s3 _ _ hb) nf))]; exact s24 _ _ hb
    · rintro i σ H5 hi ⟨f, ys, x2, x3, x4, x5, x6, x7, rfl, s5, nf, hf5, ho⟩
      have hin : i < n := by omega
      obtain ⟨len1, ps1, _⟩ := ok.it i (by omega)
      generalize hF : ordIter i [([], upto n)] = F at *
      refine ⟨Nat.zero_le _, fun g ng => ?_⟩
      refine to_new ng fun H6 s6 hg => ?_
      have nfg : f ≠ g := ne_of_none hf5 ng
      refine ⟨_, rfl, f, rfl, ⟨_, SqL.of (s6 _ _ hf5)⟩, for_list (K := K) (a := f) (xs := ys) (fun j σ H' => ∃ (zs : List V) (x4 x5 x6 x7 : Option V), σ = [some (.int n), some (.ref f), some (.int (0 + (i : Int))), some (.ref g), x4, x5, x6, x7] ∧
        Fra [g] H6 H' ∧ H' g = some (.lst zs) ∧ zs.length ≤ 5 * j ∧ Ords H (off [g] H') zs (ordStep (F.take j))) ?_ ?_ ?_ ?_⟩
      · exact ⟨[], _, _, _, _, rfl, Fra.refl _ _, hg, Nat.le_refl _, rfl, fun i v e => by simp at e⟩
      · rintro j σ G _ ⟨zs, _, _, _, _, _, f6, _⟩
        exact SqL.of (f6.one nfg (s6 _ _ hf5))
      · rintro j v σ G hv ⟨zs, y4, y5, y6, y7, rfl, f6, hgG, zl, hz⟩
        obtain ⟨p, hp, t, b, c, rfl, ht, hb, hc, _⟩ := ho.2 j v hv
        have hj : j < F.length := (List.getElem?_eq_some_iff.mp hp).1
        obtain ⟨pl1, pl2⟩ := ps1 p (List.mem_of_getElem? hp)
        have mG : ∀ {x : Addr} {o : HO}, off [f] H5 x = some o → G x = some o := fun {x o} e => by
          have e2 := (off_some e).2
          exact f6.one (ne_of_none e2 ng) (s6 _ _ e2)
        have htG := mG ht
        have hbG := mG hb
        have hcG := mG hc
        have sHG : Same H G := f6.back (s5.trans s6) (fun a ha => by rw [List.mem_singleton.mp ha]; exact s5.free ng)
        refine ⟨t, _, rfl, SqT.of htG, rfl, _, _, rfl, _, _, rfl, rfl, ?_⟩
        refine ⟨_, rfl, .inl ⟨rfl, _, SqL.of hgG⟩, ?_⟩
        refine ⟨_, rfl, c, rfl, ⟨_, SqL.of hcG⟩, fun D nD => lc_all walk_list sqL_mono (SqL.of hcG) (fun i H y => ∃ one, p.2[i]? = some one ∧ OrdAt G H y (p.1 ++ [one], p.2.filter fun other => decide (other ≠ one))) ?_ nD (by rw [List.length_map]; omega) ?_ ?_ gname_mono⟩
        · rintro i H1 H2 y s1 ⟨one, h1, h2⟩
          exact ⟨one, h1, h2.mono s1⟩
        · rintro k x G1 G2 acc hk g1 hD ⟨rfl, hx⟩ kk hkk
          obtain ⟨one, rfl, hone⟩ := int_at hx
          refine ⟨rfl, _, rfl, _, rfl, by show 1 ≤ sizeLine; decide, fun z nz => ?_⟩
          refine to_new nz fun G3 g3 hz3 => ?_
          refine ⟨b, z, _, _, rfl, rfl, g3 _ _ (g1 _ _ hbG), hz3, by rw [List.length_map]; show p.1.length + 1 ≤ sizeLine; have := lt_line (n := p.1.length + 1) (by omega); omega, fun u nu => ?_⟩
          refine to_new nu fun G4 g4 hu4 => ?_
          have g14 := g1.trans (g3.trans g4)
          refine ⟨_, rfl, c, rfl, ⟨_, SqL.of (g14 _ _ hcG)⟩, fun D2 nD2 => lc_pure walk_list sqL_mono (SqL.of (g14 _ _ hcG)) (neqF p.2 one) nD2 (by rw [List.length_map]; omega) ?_ ?_⟩
          · rintro m x2 G5 G6 hm g5 ⟨rfl, hx2⟩ k2 kn2 hk2 hkn2
            obtain ⟨other, rfl, hoth⟩ := int_at hx2
            refine ⟨rfl, _, rfl, _, rfl, rfl, _, rfl, ?_⟩
            by_cases e : other = one
            · rw [decide_eq_true (by rw [e])]
              refine iteF (hkn2 _ ?_ (Same.refl _))
              unfold neqF
              rw [hoth]
              simp [e]
            · rw [decide_eq_false (by intro z; injection z; exact e (by assumption))]
              refine iteT ⟨_, rfl, hk2 _ _ ?_ (Same.refl _)⟩
              unfold neqF
              rw [hoth]
              simp [e]
          · intro G5 g5 hD2
            rw [List.length_map, neqF_all] at hD2
            refine ⟨by show 2 ≤ sizeLine; decide, fun t2 nt2 => ?_⟩
            have nDz : ∀ {x : Addr} {X : Hp}, Same G2 X → X x = none → x ∉ [D] := fun {x X} s n z => by
              rw [List.mem_singleton.mp z, s _ _ hD] at n; cases n
            refine hkk _ _ ((g3.trans g4).trans (g5.trans (Same.new nt2))) ⟨one, hone, t2, u, D2, rfl, ?_, ?_, ?_, ?_, ?_, ?_⟩
            · rw [off_out (nDz ((g3.trans g4).trans g5) nt2)]; exact upd_same
            · rw [off_out (nDz g3 nu)]
              refine (Same.new nt2) _ _ (g5 _ _ ?_)
              rw [hu4, snoc_ints]
            · rw [off_out (nDz (g3.trans g4) nD2)]
              exact (Same.new nt2) _ _ hD2
            · exact (g14.trans g5).free nt2
            · exact (g1.trans g3).free nu
            · exact g14.free nD2
        · intro ys' G1 g1 hD hl' hr
          rw [List.length_map] at hl'
          refine ⟨g, D, _, _, rfl, rfl, g1 _ _ hgG, hD, ?_, ?_⟩
          · have := lt_line (n := zs.length + ys'.length) (by omega); omega
          refine to_put fun G2 f2 hg2 => ?_
          refine ⟨_, _, _, _, _, rfl, f6.trans ((Fra.of g1).trans f2), hg2, by rw [List.length_append]; omega, ?_⟩
          rw [ordStep_take hp]
          refine ((hz.mono (off_mono g1)).app ?_).mono (Fra.off f2)
          refine ⟨by rw [hl']; unfold ordOne; rw [List.length_map], fun m y hy => ?_⟩
          obtain ⟨one, h1, h2⟩ := hr m y hy
          refine ⟨_, ?_, h2.into hgG sHG⟩
          unfold ordOne
          rw [List.getElem?_map, h1]; rfl
      · rintro σ G ⟨zs, y4, y5, y6, y7, rfl, f6, hgG, zl, hz⟩
        have e : F.take ys.length = F := List.take_of_length_le (by rw [ho.1]; exact Nat.le_refl _)
        rw [e] at hz
        refine ⟨_, rfl, g, zs, _, _, _, _, _, _, rfl, f6.back (s5.trans s6) (fun a ha => by rw [List.mem_singleton.mp ha]; exact s5.free ng), s5.free ng, hgG, ?_⟩
        show Ords H _ zs (ordStep (ordIter i _))
        rw [hF]
        exact hz
    · rintro σ H5 ⟨f, ys, x2, x3, x4, x5, x6, x7, rfl, s5, nf, hf5, ho⟩
      rw [show ((n : Int)).toNat = n by omega] at ho
      obtain ⟨len1, _⟩ := ok.it n (Nat.le_refl _)
      refine ⟨_, rfl, f, rfl, ⟨_, SqL.of hf5⟩, fun D nD => lc_all walk_list sqL_mono (SqL.of hf5) (fun i H' y => ∃ b o, y = .ref b ∧ (allOrders n)[i]? = some o ∧ H b = none ∧ H' b = some (.lst (o.map V.int))) ?_ nD (by rw [ho.1]; omega) ?_ ?_ gtup_mono⟩
      · rintro i H1 H2 y s1 ⟨b, o, h1, h2, h3, h4⟩
        exact ⟨b, o, h1, h2, h3, s1 _ _ h4⟩
      · rintro k x G1 G2 acc hk g1 hD ⟨rfl, hx⟩ kk hkk
        obtain ⟨p, hp, t, b, c, rfl, ht, hb, hc, n1, n2, n3⟩ := ho.2 k x hx
        have htG := g1 _ _ (off_some ht).2
        have hbG := g1 _ _ (off_some hb).2
        refine ⟨t, _, rfl, SqT.of htG, rfl, _, _, rfl, _, _, rfl, rfl, rfl, _, rfl, hkk _ _ (Same.refl _) ⟨b, p.1, rfl, ?_, n2, ?_⟩⟩
        · unfold allOrders
          rw [List.getElem?_map, hp]; rfl
        · have n : b ≠ D := ne_of_none (off_some hb).2 nD
          rw [off_out (by simp; exact n)]
          exact hbG
      · intro ys' G1 g1 hD hl' hr
        refine q D G1 ys' (s5.free nD) (s5.trans g1) hD (by rw [hl', ho.1]; unfold allOrders; rw [List.length_map]) fun i y e => ?_
        obtain ⟨b, o, h1, h2, h3, h4⟩ := hr i y e
        obtain ⟨h5, h6⟩ := off_some h4
        exact ⟨b, o, h1, h2, h3, by simpa using h5, h6⟩
theorem sc_widest_few : FnScope ["songs", "best", "order", "gap"] ["songs"] (defScope s_widest_few) := ⟨rfl, rfl, rfl, by decide +kernel, rfl, by decide +kernel, by decide +kernel⟩
/-- the widest gap and the first order for it -/
def widestFew (R : List (List Int)) : Option Int × List Int := if least R = none then (none, upto R.length) else ((allOrders R.length).map fun o => ((least (pick R o)).getD 0, o)).foldl bestStep (none, upto R.length)
def sp_widest_few (K : PySem.W.Frag) : Sp := fun vs H Q _ => ∃ (a : Addr) (cs : List V) (R : List (List Int)), vs = [.ref a] ∧ SqL K H a cs ∧ Rows K H cs R ∧ GrOk R ∧ R.length ≤ 5 ∧
  ∀ t b H', H t = none → H b = none → Same H H' → H' t = some (.tup [optV (widestFew R).1, .ref b]) → H' b = some (.lst ((widestFew R).2.map V.int)) → Q (.ref t) H'
theorem fn_widest_few (T : Tx K mg) : Fn P w K mg base "widest_few" 5 (sp_widest_few K) := by
  obtain ⟨fd, F⟩ := T.d_widest_few
  refine ⟨_, fd, _, F.ok (CX := CX0) sc_widest_few (fun vs H Q E h => ?_) (fun cdv A outer s H vs Q E hr h => ?_), T.g_widest_few, F.kp, F.bindsN fun _ _ _ _ _ _ us hl => match us, hl with | [_], _ => rfl⟩
  · obtain ⟨a, cs, R, rfl, _⟩ := h; rfl
  · obtain ⟨a, cs, R, rfl, hs, hR, hG, h5, q⟩ := h
    refine ⟨_, PSs.nox (pss_cons (ps_expr (pe_fn (fn_check_groups T) (hr.mono (by first | decide | omega)) (by rfl) (pa_cons (pv 0) (pa_cons (pe_gi T.c_FEW (by rfl)) pa_nil))))
      (pss_cons (ps_set (i := 1) sc_widest_few.nd rfl (by first | exact Or.inl rfl | exact Or.inr rfl) (pe_tup (pa_cons pe_non (pa_cons (pe_listRg (by rfl) (by rfl) T.list (prg_1 (by rfl) T.range (pe_callB (show CallR _ _ (rLenQ K) from call_len_seq) (by rfl) T.len (by decide +kernel) (pa_cons (pv 0) pa_nil)))) pa_nil))))
      (pss_cons (ps_if (pt_cmpR op_isN (pe_fn (fn_least_between T) (hr.mono (by first | decide | omega)) (by rfl) (pa_cons (pv 0) (pa_cons (pe_ix (show IxR _ (rIxT K) from ix_tup) (pv 1) pe_int (fun _ _ => rfl)) pa_nil))) pe_non (nomark _)) (pss_one (ps_ret (pv 1))) pss_nil)
      (pss_cons (ps_for PassesOwn.never rfl (show PI _ _ _ (iList K _) from pi_list (pe_fn (fn_all_orders T) (hr.mono (by first | decide | omega)) (by rfl) (pa_cons (pe_callB (show CallR _ _ (rLenQ K) from call_len_seq) (by rfl) T.len (by decide +kernel) (pa_cons (pv 0) pa_nil)) pa_nil))) (pg_name (i := 2) sc_widest_few.nd rfl (by first | exact Or.inl rfl | exact Or.inr rfl))
      (pss_cons (ps_set (i := 3) sc_widest_few.nd rfl (by first | exact Or.inl rfl | exact Or.inr rfl) (pe_fn (fn_least_between T) (hr.mono (by first | decide | omega)) (by rfl) (pa_cons (pv 0) (pa_cons (pv 2) pa_nil))))
      (pss_one (ps_if (PW.pt (pw_or (pt_cmpR op_isN (pe_ix (show IxR _ (rIxT K) from ix_tup) (pv 1) pe_int (fun _ _ => rfl)) pe_non (nomark _)) (pw_or1 (pt_cmpR op_gt (pv 3) (pe_ix (show IxR _ (rIxT K) from ix_tup) (pv 1) pe_int (fun _ _ => rfl)) (nomark _))))) (pss_one (ps_set (i := 1) sc_widest_few.nd rfl (by first | exact Or.inl rfl | exact Or.inr rfl) (pe_tup (pa_cons (pv 3) (pa_cons (pv 2) pa_nil))))) pss_nil))))
      (pss_one (ps_ret (pv 1))))))), ?_⟩
    have hlc := hR.1
    have h3 : ∀ r ∈ R, r.length ≤ 3 := fun r hr => (areS_len (hG r hr)).2.1
    refine ⟨_, rfl, a, cs, R, 5, rfl, hs, hR, hG, by omega, by omega, fun H1 s1 => ?_⟩
    refine ⟨_, rfl, a, _, rfl, .inl (s1.seq hs), _, rfl, ⟨by decide, by decide, by omega, by omega, by omega⟩, fun b nb => ?_⟩
    rw [rg0, hlc]
    refine to_new nb fun H2 s2 hb => ?_
    refine ⟨by show 2 ≤ sizeLine; decide, fun t nt => ?_⟩
    refine to_new nt fun H3 s3 ht => ?_
    have s13 := s1.trans (s2.trans s3)
    refine ⟨_, rfl, _, rfl, t, _, _, _, rfl, rfl, SqT.of ht, atI_nat (j := 1) rfl, a, b, cs, R, upto R.length, rfl, s13.seq hs, hR.mono s13, h3, SqL.of (s3 _ _ hb), upto_in _, by rw [upto_len]; omega, fun H4 s4 => ⟨rfl, _, rfl, ?_⟩⟩
    rw [pick_upto, optV_non]
    have s14 := s13.trans s4
    by_cases hN : least R = none
    · rw [decide_eq_true hN]
      have e : widestFew R = (none, upto R.length) := by unfold widestFew; rw [if_pos hN]
      rw [e] at q
      exact iteT ⟨_, rfl, q t b H4 (s1.free (s2.free nt)) (s1.free nb) s14 (s4 _ _ ht) (s4 _ _ (s3 _ _ hb))⟩
    rw [decide_eq_false hN]
    have ew : widestFew R = ((allOrders R.length).map fun o => ((least (pick R o)).getD 0, o)).foldl bestStep (none, upto R.length) := by unfold widestFew; rw [if_neg hN]
    have ok := ordOk h5
    refine iteF ⟨_, rfl, a, _, rfl, .inl (s14.seq hs), R.length, by show [V.int (cs.length : Nat)] = _; rw [hlc], h5, fun l H5 ys nl s5 hl5 hyl hys => ?_⟩
    have s15 := s14.trans s5
    refine ⟨l, rfl, ⟨_, SqL.of hl5⟩, for_list (K := K) (a := l) (xs := ys) (fun i σ H' => ∃ (t b : Addr) (x2 x3 : Option V) (bst : Option Int × List Int), σ = [some (.ref a), some (.ref t), x2, x3] ∧ Same H5 H' ∧
      bst = (((allOrders R.length).take i).map fun o => ((least (pick R o)).getD 0, o)).foldl bestStep (none, upto R.length) ∧ H' t = some (.tup [optV bst.1, .ref b]) ∧ H' b = some (.lst (bst.2.map V.int)) ∧ H t = none ∧ H b = none) ?_ ?_ ?_ ?_⟩
    · exact ⟨t, b, _, _, _, rfl, Same.refl _, rfl, s5 _ _ (s4 _ _ ht), s5 _ _ (s4 _ _ (s3 _ _ hb)), s1.free (s2.free nt), s1.free nb⟩
    · rintro i σ G _ ⟨_, _, _, _, _, _, g, _⟩
      exact SqL.of (g _ _ hl5)
    · rintro i v σ G hv ⟨t, b, x2, x3, bst, rfl, g, eb, ht, hb, nt, nb⟩
      obtain ⟨b2, o, rfl, ho, nb2, nbl, hb2⟩ := hys i v hv
      have hom : o ∈ lawOrders R.length := by rw [← ok.eq]; exact List.mem_of_getElem? ho
      have pm := ok.perm o hom
      have nn : least (pick R o) ≠ none := fun z => hN ((least_perm (pick_perm pm) (fun r hr => ((hG.pick (perm_in pm)).rows r hr).1)).mp z)
      obtain ⟨gp, hgp⟩ := Option.ne_none_iff_exists'.mp nn
      have sg := s15.trans g
      refine ⟨_, rfl, _, rfl, a, b2, cs, R, o, rfl, sg.seq hs, hR.mono sg, h3, SqL.of (g _ _ hb2), perm_in pm, by rw [pm.length_eq, upto_len]; omega, fun G1 g1 => ?_⟩
      rw [hgp]
      have eb2 : (((allOrders R.length).take (i + 1)).map fun o => ((least (pick R o)).getD 0, o)).foldl bestStep (none, upto R.length) = bestStep bst (gp, o) := by
        obtain ⟨hi, eo⟩ := List.getElem?_eq_some_iff.mp ho
        rw [List.take_succ_eq_append_getElem hi, List.map_append, List.foldl_append, ← eb, eo]
        show bestStep bst ((least (pick R o)).getD 0, o) = _
        rw [hgp]; rfl
      have ht1 := g1 _ _ ht
      refine ⟨_, rfl, t, _, _, _, rfl, rfl, SqT.of ht1, atI_nat (j := 0) rfl, rfl, _, rfl, ?_⟩
      rw [optV_non]
      cases hb1 : bst.1 with
      | none =>
        have eS : bestStep bst (gp, o) = (some gp, o) := by unfold bestStep; rw [hb1]
        refine iteT (iteT ⟨_, rfl, _, rfl, by show 2 ≤ sizeLine; decide, fun t2 nt2 => ?_⟩)
        refine ⟨t2, b2, _, _, _, rfl, (g.trans g1).trans (Same.new nt2), rfl, ?_, ?_, sg.free (g1.free nt2), s14.free nb2⟩
        · rw [eb2, eS]; exact upd_same
        · rw [eb2, eS]; exact (Same.new nt2) _ _ (g1 _ _ (g _ _ hb2))
      | some g0 =>
        refine iteF ⟨_, rfl, _, rfl, t, _, _, _, rfl, rfl, SqT.of ht1, atI_nat (j := 0) rfl, gp, g0, rfl, (by rw [hb1]; rfl), _, rfl, ?_⟩
        by_cases hgt : gp > g0
        · have eS : bestStep bst (gp, o) = (some gp, o) := by unfold bestStep; rw [hb1]; exact if_pos hgt
          rw [decide_eq_true hgt]
          refine iteT ⟨_, rfl, _, rfl, by show 2 ≤ sizeLine; decide, fun t2 nt2 => ?_⟩
          refine ⟨t2, b2, _, _, _, rfl, (g.trans g1).trans (Same.new nt2), rfl, ?_, ?_, sg.free (g1.free nt2), s14.free nb2⟩
          · rw [eb2, eS]; exact upd_same
          · rw [eb2, eS]; exact (Same.new nt2) _ _ (g1 _ _ (g _ _ hb2))
        · have eS : bestStep bst (gp, o) = bst := by unfold bestStep; rw [hb1]; exact if_neg hgt
          rw [decide_eq_false hgt]
          refine iteF ⟨t, b, _, _, _, rfl, g.trans g1, rfl, ?_, ?_, nt, nb⟩
          · rw [eb2, eS]; exact ht1
          · rw [eb2, eS]; exact g1 _ _ hb
    · rintro σ G ⟨t, b, x2, x3, bst, rfl, g, eb, ht, hb, nt, nb⟩
      rw [hyl, List.take_length, ← ew] at eb
      rw [eb] at ht hb
      exact ⟨_, rfl, q t b G nt nb (s15.trans g) ht hb⟩
end
end Song

/-! ### Gp3: songs of one singer each: counts, who bars, an order (plain) -/
namespace Song
theorem sub_len : ∀ {xs ys : List Int}, xs.Nodup → (∀ x ∈ xs, x ∈ ys) → xs.length ≤ ys.length
  | [], _, _, _ => Nat.zero_le _
  | x :: xs, ys, nd, h => by
    obtain ⟨n1, n2⟩ := List.nodup_cons.mp nd
    have hx := h x (by simp)
    have ih := sub_len (xs := xs) (ys := ys.erase x) n2 fun z hz => (List.mem_erase_of_ne (fun e : z = x => n1 (by rw [← e]; exact hz))).mpr (h z (by simp [hz]))
    have h1 := List.length_erase_of_mem hx
    have h2 := List.length_pos_of_mem hx
    rw [List.length_cons]; omega
theorem upto_succ (n : Nat) : upto (n + 1) = upto n ++ [(n : Int)] := by
  unfold upto
  rw [List.range_succ, List.map_append]; rfl
theorem mem_upto {n : Nat} {x : Int} : x ∈ upto n ↔ 0 ≤ x ∧ x < n := by
  unfold upto
  rw [List.mem_map]
  constructor
  · rintro ⟨i, hi, rfl⟩
    rw [List.mem_range] at hi
    omega
  · rintro ⟨h0, h1⟩
    exact ⟨x.toNat, List.mem_range.mpr (by omega), by omega⟩
theorem perm_of : ∀ {n : Nat} {xs : List Int}, xs.Nodup → InB n xs → xs.length = n → xs.Perm (upto n)
  | 0, xs, _, _, hl => by
    rw [List.eq_nil_of_length_eq_zero hl]; exact List.Perm.refl _
  | n + 1, xs, nd, hi, hl => by
    have hm : (n : Int) ∈ xs := by
      refine Classical.byContradiction fun h => ?_
      have := sub_len (ys := upto n) nd fun x hx => by
        have h1 := hi x hx
        have h2 : x ≠ (n : Int) := fun e => h (e ▸ hx)
        exact mem_upto.mpr (by omega)
      rw [upto_len] at this
      omega
    have ih := perm_of (n := n) (nd.erase (n : Int)) (fun x hx => by
      have h1 := hi x (List.mem_of_mem_erase hx)
      have h2 : x ≠ (n : Int) := fun e => by rw [e] at hx; exact nd.not_mem_erase hx
      omega) (by rw [List.length_erase_of_mem hm, hl]; rfl)
    rw [upto_succ]
    exact (List.perm_cons_erase hm).trans ((ih.cons _).trans (List.perm_append_singleton _ _).symm)
/-! #### counts -/
def countsOf (songs : List Int) : List (Int × Int) := songs.foldl (fun c s => putC c s ((getC c s).getD 0 + 1)) []
theorem countsOf_snoc (songs : List Int) (s : Int) : countsOf (songs ++ [s]) = putC (countsOf songs) s ((getC (countsOf songs) s).getD 0 + 1) := by
  unfold countsOf
  rw [List.foldl_append]; rfl
theorem counts_get (songs : List Int) (s : Int) : getC (countsOf songs) s = if s ∈ songs then some (songs.count s : Int) else none := by
  refine snoc_ind (P := fun songs => getC (countsOf songs) s = if s ∈ songs then some (songs.count s : Int) else none) rfl (fun l a ih => ?_) songs
  rw [countsOf_snoc, getC_putC, List.count_append]
  by_cases e : s = a
  · subst e
    have m : s ∈ l ++ [s] := List.mem_append.mpr (.inr (List.mem_singleton.mpr rfl))
    rw [if_pos rfl, ih, if_pos m]
    by_cases c : s ∈ l
    · rw [if_pos c]
      show some ((l.count s : Int) + 1) = _
      rw [List.count_singleton_self]; rfl
    · rw [if_neg c, List.count_eq_zero_of_not_mem c, List.count_singleton_self]; rfl
  · rw [if_neg e, ih]
    have e2 : [a].count s = 0 := List.count_eq_zero_of_not_mem (by simpa using e)
    rw [e2, Nat.add_zero]
    by_cases c : s ∈ l
    · rw [if_pos c, if_pos (by simp [c])]
    · rw [if_neg c, if_neg (by simp [c, e])]
theorem counts_getD (songs : List Int) (s : Int) : (getC (countsOf songs) s).getD 0 = (songs.count s : Int) := by
  rw [counts_get]
  by_cases c : s ∈ songs
  · rw [if_pos c]; rfl
  · rw [if_neg c, List.count_eq_zero_of_not_mem c]; rfl
def keysC (c : List (Int × Int)) : List Int := c.map (·.1)
theorem keys_put (c : List (Int × Int)) (k v : Int) : keysC (putC c k v) = if k ∈ keysC c then keysC c else keysC c ++ [k] := by
  unfold putC keysC
  have e : (c.any fun p => decide (p.1 = k)) = true ↔ k ∈ c.map (·.1) := by
    rw [List.any_eq_true, List.mem_map]
    constructor
    · rintro ⟨p, hp, h⟩; exact ⟨p, hp, of_decide_eq_true h⟩
    · rintro ⟨p, hp, h⟩; exact ⟨p, hp, decide_eq_true h⟩
  by_cases h : k ∈ c.map (·.1)
  · rw [if_pos (e.mpr h), if_pos h, List.map_map]
    refine List.map_congr_left fun p _ => ?_
    show (if p.1 = k then (p.1, v) else p).1 = p.1
    split <;> rfl
  · rw [if_neg (fun z => h (e.mp z)), if_neg h, List.map_append]; rfl
theorem keys_counts (songs : List Int) : (keysC (countsOf songs)).Nodup ∧ ∀ s, s ∈ keysC (countsOf songs) ↔ s ∈ songs := by
  refine snoc_ind (P := fun songs => (keysC (countsOf songs)).Nodup ∧ ∀ s, s ∈ keysC (countsOf songs) ↔ s ∈ songs) ⟨List.nodup_nil, fun s => Iff.rfl⟩ (fun l a ih => ?_) songs
  rw [countsOf_snoc, keys_put]
  obtain ⟨i1, i2⟩ := ih
  by_cases h : a ∈ keysC (countsOf l)
  · rw [if_pos h]
    refine ⟨i1, fun s => ?_⟩
    rw [i2, List.mem_append, List.mem_singleton]
    exact ⟨.inl, fun z => z.elim id fun e => by rw [e]; exact (i2 a).mp h⟩
  · rw [if_neg h]
    refine ⟨List.nodup_append.mpr ⟨i1, by simp, fun x hx y hy e => h (by rw [List.mem_singleton.mp hy] at e; rw [← e]; exact hx)⟩, fun s => ?_⟩
    rw [List.mem_append, List.mem_append, i2]
/-- the singers of songs, rising -/
def sng (songs : List Int) : List Int := (upto 6).filter fun s => decide (s ∈ songs)
def SgOk (songs : List Int) : Prop := ∀ s ∈ songs, 0 ≤ s ∧ s < 6
theorem mem_sng {songs : List Int} (h : SgOk songs) {s : Int} : s ∈ sng songs ↔ s ∈ songs := by
  unfold sng
  rw [List.mem_filter, decide_eq_true_eq, mem_upto]
  exact ⟨fun z => z.2, fun z => ⟨h s z, z⟩⟩
theorem upto_lt (n : Nat) : (upto n).Pairwise (· < ·) := by
  unfold upto
  rw [List.pairwise_map]
  exact List.pairwise_lt_range.imp fun {a b} h => by omega
theorem sng_lt (songs : List Int) : (sng songs).Pairwise (· < ·) := (upto_lt 6).filter _
theorem sng_of {songs ys : List Int} (h : SgOk songs) (p : ys.Perm (keysC (countsOf songs))) (pw : ys.Pairwise (· ≤ ·)) : ys = sng songs := by
  obtain ⟨k1, k2⟩ := keys_counts songs
  have nd : ys.Nodup := p.nodup_iff.mpr k1
  have lt : ys.Pairwise (· < ·) := by
    have := pw.and nd
    exact this.imp fun {a b} z => by have := z.1; have := z.2; omega
  exact pw_ext lt (sng_lt songs) fun z => by rw [p.mem_iff, k2, mem_sng h]
/-! #### who bars -/
def whole (songs : List Int) (gap : Int) : Int := (songs.length : Int) / (gap + 1)
def rest (songs : List Int) (gap : Int) : Int := (songs.length : Int) % (gap + 1)
def most (songs : List Int) (gap : Int) : Int := whole songs gap + if rest songs gap > 0 then 1 else 0
def barsP (songs : List Int) (gap : Int) (ss : List Int) : Bool :=
  if ss = [] ∨ rising ss = false then false else if ss.length = 1 ∧ (songs.count (ss.headD 0) : Int) > most songs gap then true
  else decide (0 < rest songs gap ∧ rest songs gap < (ss.length : Int)) && ss.all fun s => decide ((songs.count s : Int) > whole songs gap)
def full (songs : List Int) (gap : Int) : List Int := (sng songs).filter fun s => decide ((songs.count s : Int) > whole songs gap)
def few (songs : List Int) (gap : Int) : List Int := (sng songs).filter fun s => decide ((songs.count s : Int) ≤ whole songs gap)
def barring (songs : List Int) (gap : Int) : Option (List Int) := match (sng songs).find? fun s => barsP songs gap [s] with
  | some s => some [s]
  | none => if barsP songs gap (full songs gap) = true then some (full songs gap) else none
theorem barring_bars {songs : List Int} {gap : Int} {ss : List Int} (h : barring songs gap = some ss) : barsP songs gap ss = true := by
  unfold barring at h
  cases e : (sng songs).find? fun s => barsP songs gap [s] with
  | some s =>
    rw [e] at h
    rw [← Option.some.inj h]
    exact List.find?_some (p := fun s => barsP songs gap [s]) e
  | none =>
    rw [e] at h
    dsimp only at h
    split at h
    · rw [← Option.some.inj h]; assumption
    · cases h
theorem bars_one (songs : List Int) (gap : Int) (s : Int) (h : (songs.count s : Int) > most songs gap) : barsP songs gap [s] = true := by
  unfold barsP
  rw [if_neg (by simp [rising]), if_pos ⟨rfl, h⟩]
theorem barring_none {songs : List Int} {gap : Int} (hg : 0 ≤ gap) (hs : SgOk songs) (h : barring songs gap = none) : (∀ s ∈ songs, (songs.count s : Int) ≤ most songs gap) ∧ ((full songs gap).length : Int) ≤ rest songs gap := by
  unfold barring at h
  have hr0 : 0 ≤ rest songs gap := Int.emod_nonneg _ (by omega)
  cases e : (sng songs).find? fun s => barsP songs gap [s] with
  | some s => rw [e] at h; cases h
  | none =>
    rw [e] at h
    dsimp only at h
    have h1 : ∀ s ∈ songs, (songs.count s : Int) ≤ most songs gap := fun s hs2 => by
      refine Classical.byContradiction fun z => ?_
      have := List.find?_eq_none.mp e s ((mem_sng hs).mpr hs2)
      exact this (bars_one songs gap s (by omega))
    refine ⟨h1, ?_⟩
    by_cases hb : barsP songs gap (full songs gap) = true
    · rw [if_pos hb] at h; cases h
    refine Classical.byContradiction fun z => hb ?_
    have hne : full songs gap ≠ [] := fun e => by rw [e] at z; simp at z; omega
    have hri : rising (full songs gap) = true := rising_of ((sng_lt songs).filter _)
    have hall : ((full songs gap).all fun s => decide ((songs.count s : Int) > whole songs gap)) = true := List.all_eq_true.mpr fun s hs => (List.mem_filter.mp hs).2
    have hr : 0 < rest songs gap := by
      refine Classical.byContradiction fun z2 => ?_
      obtain ⟨s, hs2⟩ := List.exists_mem_of_ne_nil _ hne
      obtain ⟨m1, m2⟩ := List.mem_filter.mp hs2
      have a1 := h1 s ((mem_sng hs).mp m1)
      have a2 := of_decide_eq_true m2
      unfold most at a1
      rw [if_neg (by omega)] at a1
      omega
    unfold barsP
    rw [if_neg (by rw [hri]; simp [hne])]
    split
    · rfl
    · rw [hall, decide_eq_true ⟨hr, by omega⟩]; rfl
end Song

/-! ### Gp4: an order that keeps a gap (plain) -/
namespace Song
/-! #### turns by what they leave by a width -/
def cls (n w c : Nat) : List Int := (List.range ((n - c - 1) / w + 1)).map fun i : Nat => ((c + i * w : Nat) : Int)
def Tn (n w : Nat) : Nat → List Int
  | 0 => []
  | c + 1 => cls n w c ++ Tn n w c
theorem cls_len (n w c : Nat) : (cls n w c).length = (n - c - 1) / w + 1 := by unfold cls; rw [List.length_map, List.length_range]
theorem cls_get {n w c i : Nat} (h : i < (cls n w c).length) : (cls n w c)[i]? = some ((c + i * w : Nat) : Int) := by
  rw [cls_len] at h
  unfold cls
  rw [List.getElem?_map, List.getElem?_range h]; rfl
theorem cls_size {n w c : Nat} (hw : 0 < w) (h1 : c < w) (h2 : c < n) : (cls n w c).length = if c < n % w then n / w + 1 else n / w := by
  rw [cls_len]
  have e := Nat.div_add_mod n w
  have hr := Nat.mod_lt n hw
  generalize n / w = q at *
  generalize n % w = r at *
  by_cases hc : c < r
  · rw [if_pos hc, show n - c - 1 = w * q + (r - c - 1) by omega, Nat.mul_add_div hw, Nat.div_eq_of_lt (by omega)]
  · rw [if_neg hc]
    cases q with
    | zero => rw [Nat.mul_zero] at e; omega
    | succ q =>
      rw [Nat.mul_succ] at e
      rw [show n - c - 1 = w * q + (w + r - c - 1) by omega, Nat.mul_add_div hw, Nat.div_eq_of_lt (by omega)]
theorem Tn_get0 {n w c j : Nat} (h : j < (cls n w c).length) : (Tn n w (c + 1))[j]? = some ((c + j * w : Nat) : Int) := by
  show (cls n w c ++ _)[j]? = _
  rw [List.getElem?_append_left h, cls_get h]
theorem far_same {c k k' w : Nat} (h : k < k') : (w : Int) ≤ ((c + k' * w : Nat) : Int) - ((c + k * w : Nat) : Int) := by
  obtain ⟨d, rfl⟩ : ∃ d, k' = k + 1 + d := ⟨k' - k - 1, by omega⟩
  rw [Nat.add_mul, Nat.add_mul, Nat.one_mul]
  generalize k * w = a
  generalize d * w = b
  omega
/-- near in the turn, far in place -/
theorem Tn_far {n w : Nat} (hw : 0 < w) : ∀ c, c ≤ w → c ≤ n → ∀ (k k' : Nat) (x y : Int), k < k' → k' - k < n / w → (Tn n w c)[k]? = some x → (Tn n w c)[k']? = some y → (w : Int) ≤ x - y ∨ (w : Int) ≤ y - x
  | 0, _, _ => fun k k' x y _ _ hx _ => by cases hx
  | c + 1, h1, h2 => fun k k' x y hk hq hx hy => by
    have ih := Tn_far (n := n) hw c (by omega) (by omega)
    have sz := cls_size (n := n) hw (show c < w by omega) (show c < n by omega)
    have szq : n / w ≤ (cls n w c).length := by rw [sz]; generalize n / w = q; split <;> omega
    have ex : Tn n w (c + 1) = cls n w c ++ Tn n w c := rfl
    by_cases a : k' < (cls n w c).length
    · rw [Tn_get0 a] at hy
      rw [Tn_get0 (by omega)] at hx
      rw [← Option.some.inj hx, ← Option.some.inj hy]
      exact .inr (far_same hk)
    · by_cases b : k < (cls n w c).length
      · rw [Tn_get0 b] at hx
        rw [ex, List.getElem?_append_right (by omega)] at hy
        cases c with
        | zero => cases hy
        | succ c =>
          have sz2 := cls_size (n := n) hw (show c < w by omega) (show c < n by omega)
          have le2 : (cls n w (c + 1)).length ≤ (cls n w c).length := by
            rw [sz, sz2]
            split <;> split <;> omega
          generalize hj : k' - (cls n w (c + 1)).length = j at *
          have hji : j < k := by omega
          rw [Tn_get0 (show j < (cls n w c).length by omega)] at hy
          rw [← Option.some.inj hx, ← Option.some.inj hy]
          have := far_same (c := c) (w := w) hji
          exact .inl (by omega)
      · rw [ex, List.getElem?_append_right (by omega)] at hx hy
        exact ih (k - (cls n w c).length) (k' - (cls n w c).length) x y (by omega) (by omega) hx hy
theorem Tn_split {n w : Nat} : ∀ c f, f ≤ c → ∃ A, Tn n w c = A ++ Tn n w f
  | 0, f, h => ⟨[], by rw [show f = 0 by omega]; rfl⟩
  | c + 1, f, h => by
    by_cases e : f = c + 1
    · exact ⟨[], by rw [e]; rfl⟩
    · obtain ⟨A, hA⟩ := Tn_split (n := n) (w := w) c f (by omega)
      exact ⟨cls n w c ++ A, by show cls n w c ++ Tn n w c = _; rw [hA, List.append_assoc]⟩
theorem Tn_len {n w : Nat} (hw : 0 < w) : ∀ c, c ≤ w → c ≤ n → (Tn n w c).length = c * (n / w) + min c (n % w)
  | 0, _, _ => by simp [Tn]
  | c + 1, h1, h2 => by
    show (cls n w c ++ Tn n w c).length = _
    rw [List.length_append, Tn_len hw c (by omega) (by omega), cls_size hw (by omega) (by omega), Nat.add_mul, Nat.one_mul]
    generalize c * (n / w) = a
    split <;> omega
theorem mem_cls {n w c : Nat} {x : Int} (hw : 0 < w) (hc : c < n) : x ∈ cls n w c → ∃ i : Nat, x = ((c + i * w : Nat) : Int) ∧ c + i * w < n := fun h => by
  obtain ⟨i, hi, rfl⟩ := List.mem_map.mp h
  rw [List.mem_range] at hi
  refine ⟨i, rfl, ?_⟩
  have h1 : i ≤ (n - c - 1) / w := by omega
  have h2 := Nat.mul_le_mul_right w h1
  have h3 := Nat.div_mul_le_self (n - c - 1) w
  omega
theorem mem_Tn {n w : Nat} (hw : 0 < w) {x : Int} : ∀ c, c ≤ w → c ≤ n → x ∈ Tn n w c → ∃ a i : Nat, a < c ∧ x = ((a + i * w : Nat) : Int) ∧ a + i * w < n
  | 0, _, _ => fun h => by cases h
  | c + 1, h1, h2 => fun h => by
    rcases List.mem_append.mp h with h | h
    · obtain ⟨i, e, l⟩ := mem_cls hw (by omega) h
      exact ⟨c, i, by omega, e, l⟩
    · obtain ⟨a, i, h3, h4⟩ := mem_Tn hw c (by omega) (by omega) h
      exact ⟨a, i, by omega, h4⟩
theorem Tn_nodup {n w : Nat} (hw : 0 < w) : ∀ c, c ≤ w → c ≤ n → (Tn n w c).Nodup
  | 0, _, _ => List.nodup_nil
  | c + 1, h1, h2 => by
    refine List.nodup_append.mpr ⟨?_, Tn_nodup hw c (by omega) (by omega), fun x hx y hy e => ?_⟩
    · unfold cls
      refine List.pairwise_map.mpr (List.pairwise_lt_range.imp fun {a b} h => ?_)
      have := far_same (c := c) (w := w) h
      omega
    · obtain ⟨i, e1, _⟩ := mem_cls hw (by omega) hx
      obtain ⟨a, j, ha, e2, _⟩ := mem_Tn hw c (by omega) (by omega) hy
      have e3 : c + i * w = a + j * w := by omega
      have m1 : (c + i * w) % w = c := by rw [Nat.add_mul_mod_self_right, Nat.mod_eq_of_lt (by omega)]
      have m2 : (a + j * w) % w = a := by rw [Nat.add_mul_mod_self_right, Nat.mod_eq_of_lt (by omega)]
      rw [e3] at m1
      omega
def turnsIn (n w : Nat) : List Int := Tn n w (min w n)
theorem turns_len {n w : Nat} (hw : 0 < w) : (turnsIn n w).length = n := by
  unfold turnsIn
  rw [Tn_len hw _ (Nat.min_le_left _ _) (Nat.min_le_right _ _)]
  have e := Nat.div_add_mod n w
  have hr := Nat.mod_lt n hw
  by_cases h : w ≤ n
  · rw [Nat.min_eq_left h]
    generalize n / w = q at *
    omega
  · have h0 : n / w = 0 := Nat.div_eq_of_lt (by omega)
    rw [h0] at e ⊢
    omega
theorem turns_perm {n w : Nat} (hw : 0 < w) : (turnsIn n w).Perm (upto n) := by
  refine perm_of (Tn_nodup hw _ (Nat.min_le_left _ _) (Nat.min_le_right _ _)) (fun x hx => ?_) (turns_len hw)
  obtain ⟨a, i, _, e, l⟩ := mem_Tn hw _ (Nat.min_le_left _ _) (Nat.min_le_right _ _) hx
  omega
/-! #### blocks of alike ones -/
def blocks (cnt : Int → Nat) (ss : List Int) : List Int := ss.flatMap fun s => List.replicate (cnt s) s
theorem mem_blocks {cnt : Int → Nat} {ss : List Int} {x : Int} (h : x ∈ blocks cnt ss) : x ∈ ss := by
  obtain ⟨s, hs, hx⟩ := List.mem_flatMap.mp h
  rw [(List.mem_replicate.mp hx).2]; exact hs
theorem blocks_near {cnt : Int → Nat} : ∀ {ss : List Int}, ss.Nodup → ∀ (k k' : Nat) (s : Int), k < k' → (blocks cnt ss)[k]? = some s → (blocks cnt ss)[k']? = some s → k' - k < cnt s
  | [], _ => fun k k' s _ h _ => by cases h
  | a :: ss, nd => fun k k' s hk h1 h2 => by
    obtain ⟨n1, n2⟩ := List.nodup_cons.mp nd
    have e : blocks cnt (a :: ss) = List.replicate (cnt a) a ++ blocks cnt ss := rfl
    have la : (List.replicate (cnt a) a).length = cnt a := List.length_replicate
    rw [e] at h1 h2
    by_cases b : k < cnt a
    · rw [List.getElem?_append_left (by omega), List.getElem?_replicate, if_pos b] at h1
      have es : a = s := Option.some.inj h1
      subst es
      by_cases b2 : k' < cnt a
      · omega
      · rw [List.getElem?_append_right (by omega)] at h2
        exact absurd (mem_blocks (List.mem_of_getElem? h2)) n1
    · rw [List.getElem?_append_right (by omega), la] at h1
      rw [List.getElem?_append_right (by omega), la] at h2
      have := blocks_near n2 (k - cnt a) (k' - cnt a) s (by omega) h1 h2
      omega
theorem blocks_full {n w : Nat} {cnt : Int → Nat} (hw : 0 < w) : ∀ {ss : List Int}, ss.Nodup → ss.length ≤ n % w → (∀ s ∈ ss, cnt s = n / w + 1) →
    (blocks cnt ss).length = ss.length * (n / w + 1) ∧ ∀ (k k' : Nat) (s x y : Int), k < k' → (blocks cnt ss)[k]? = some s → (blocks cnt ss)[k']? = some s → (Tn n w ss.length)[k]? = some x → (Tn n w ss.length)[k']? = some y → (w : Int) ≤ y - x
  | [], _, _, _ => ⟨by simp [blocks], fun k k' s x y _ h _ _ _ => by cases h⟩
  | a :: ss, nd, hl, hc => by
    obtain ⟨n1, n2⟩ := List.nodup_cons.mp nd
    rw [List.length_cons] at hl
    obtain ⟨i1, i2⟩ := blocks_full hw n2 (by omega) fun s hs => hc s (by simp [hs])
    have e : blocks cnt (a :: ss) = List.replicate (cnt a) a ++ blocks cnt ss := rfl
    have la : (List.replicate (cnt a) a).length = n / w + 1 := by rw [List.length_replicate, hc a (by simp)]
    have hr := Nat.mod_lt n hw
    have hrn := Nat.mod_le n w
    have sz := cls_size (n := n) hw (show ss.length < w by omega) (show ss.length < n by omega)
    rw [if_pos (by omega)] at sz
    have eT : Tn n w (a :: ss).length = cls n w ss.length ++ Tn n w ss.length := rfl
    refine ⟨by rw [e, List.length_append, la, i1, List.length_cons, Nat.add_mul, Nat.one_mul]; omega, fun k k' s x y hk h1 h2 hx hy => ?_⟩
    rw [e] at h1 h2
    rw [eT] at hx hy
    by_cases b : k < n / w + 1
    · rw [List.getElem?_append_left (by omega)] at h1
      have es : s = a := (List.mem_replicate.mp (List.mem_of_getElem? h1)).2
      subst es
      by_cases b2 : k' < n / w + 1
      · rw [List.getElem?_append_left (by omega), cls_get (by omega)] at hx hy
        rw [← Option.some.inj hx, ← Option.some.inj hy]
        exact far_same hk
      · rw [List.getElem?_append_right (by omega)] at h2
        exact absurd (mem_blocks (List.mem_of_getElem? h2)) n1
    · rw [List.getElem?_append_right (by omega), la] at h1 h2
      rw [List.getElem?_append_right (by omega), sz] at hx hy
      exact i2 _ _ s x y (by omega) h1 h2 hx hy
end Song

/-! ### Gp5: the order that is told; who bars has none (plain) -/
namespace Song
def atS (songs : List Int) (o : Int) : Int := songs.getD o.toNat 0
def singles (songs : List Int) : List (List Int) := songs.map fun s => [s]
theorem singles_len (songs : List Int) : (singles songs).length = songs.length := List.length_map _
theorem singles_getD {songs : List Int} {i : Nat} (h : i < songs.length) : (singles songs).getD i [] = [songs.getD i 0] := by
  unfold singles
  rw [List.getD_eq_getElem?_getD, List.getElem?_map, List.getElem?_eq_getElem h, List.getD_eq_getElem?_getD, List.getElem?_eq_getElem h]; rfl
theorem mem_places {songs : List Int} {s x : Int} : x ∈ spots s (singles songs) ↔ ∃ i : Nat, i < songs.length ∧ songs.getD i 0 = s ∧ x = i := by
  rw [spots_mem, singles_len]
  constructor
  · rintro ⟨i, hi, hm, e⟩
    rw [singles_getD hi, List.mem_singleton] at hm
    exact ⟨i, hi, hm.symm, e⟩
  · rintro ⟨i, hi, hm, e⟩
    exact ⟨i, hi, by rw [singles_getD hi, hm]; simp, e⟩
theorem places_len (songs : List Int) (s : Int) : (spots s (singles songs)).length = songs.count s := by
  rw [spots_len]
  unfold singles
  rw [List.countP_map, List.count_eq_countP]
  congr 1
  funext x
  show decide (s ∈ [x]) = (x == s)
  by_cases e : x = s
  · subst e
    rw [decide_eq_true (List.mem_singleton.mpr rfl)]
    exact (beq_self_eq_true x).symm
  · rw [decide_eq_false (fun z => e (List.mem_singleton.mp z).symm)]
    exact (beq_eq_false_iff_ne.mpr e).symm
theorem places_map (songs : List Int) (s : Int) : (spots s (singles songs)).map (atS songs) = List.replicate (songs.count s) s := by
  rw [List.eq_replicate_iff]
  refine ⟨by rw [List.length_map, places_len], fun b hb => ?_⟩
  obtain ⟨x, hx, rfl⟩ := List.mem_map.mp hb
  obtain ⟨i, hi, e, rfl⟩ := mem_places.mp hx
  exact e
def placesOf (songs ss : List Int) : List Int := ss.flatMap fun s => spots s (singles songs)
theorem placesOf_map (songs : List Int) : ∀ ss : List Int, (placesOf songs ss).map (atS songs) = blocks (fun s => songs.count s) ss
  | [] => rfl
  | s :: ss => by
    have e : placesOf songs (s :: ss) = spots s (singles songs) ++ placesOf songs ss := rfl
    have e2 : blocks (fun s => songs.count s) (s :: ss) = List.replicate (songs.count s) s ++ blocks (fun s => songs.count s) ss := rfl
    rw [e, e2, List.map_append, places_map, placesOf_map songs ss]
theorem placesOf_in {songs ss : List Int} : InB songs.length (placesOf songs ss) := fun x hx => by
  obtain ⟨s, _, h⟩ := List.mem_flatMap.mp hx
  obtain ⟨i, hi, _, rfl⟩ := mem_places.mp h
  omega
theorem placesOf_nodup {songs : List Int} : ∀ {ss : List Int}, ss.Nodup → (placesOf songs ss).Nodup
  | [], _ => List.nodup_nil
  | s :: ss, nd => by
    obtain ⟨n1, n2⟩ := List.nodup_cons.mp nd
    refine List.nodup_append.mpr ⟨(spots_sorted _ _).imp fun {a b} h => by omega, placesOf_nodup n2, fun x hx y hy e => ?_⟩
    obtain ⟨i, hi, e1, rfl⟩ := mem_places.mp hx
    obtain ⟨s', hs', h⟩ := List.mem_flatMap.mp hy
    obtain ⟨j, hj, e2, rfl⟩ := mem_places.mp h
    have : i = j := by omega
    subst this
    rw [e1] at e2
    subst e2
    exact n1 hs'
theorem placesOf_perm {songs ss : List Int} (nd : ss.Nodup) (h : ∀ s ∈ songs, s ∈ ss) : (placesOf songs ss).Perm (upto songs.length) := by
  refine perm_of (placesOf_nodup nd) placesOf_in (Nat.le_antisymm (nodup_len placesOf_in (placesOf_nodup nd)) ?_)
  have := sub_len (xs := upto songs.length) (ys := placesOf songs ss) ((upto_lt _).imp fun {a b} h => by omega) fun x hx => by
    obtain ⟨h0, h1⟩ := mem_upto.mp hx
    have hi : x.toNat < songs.length := by omega
    refine List.mem_flatMap.mpr ⟨songs.getD x.toNat 0, h _ ?_, mem_places.mpr ⟨x.toNat, hi, rfl, by omega⟩⟩
    rw [List.getD_eq_getElem?_getD, List.getElem?_eq_getElem hi]
    exact List.getElem_mem hi
  rwa [upto_len] at this
/-! #### laying by turns -/
def setAt (l : List Int) (pt : Int × Int) : List Int := l.set pt.2.toNat pt.1
theorem setAts_len : ∀ (zs : List (Int × Int)) (l : List Int), (zs.foldl setAt l).length = l.length
  | [], _ => rfl
  | z :: zs, l => by
    show (zs.foldl setAt (setAt l z)).length = _
    rw [setAts_len zs]
    exact List.length_set
theorem setAts_other {j : Nat} : ∀ (zs : List (Int × Int)) (l : List Int), (∀ z ∈ zs, z.2.toNat ≠ j) → (zs.foldl setAt l)[j]? = l[j]?
  | [], _, _ => rfl
  | z :: zs, l, h => by
    show (zs.foldl setAt (setAt l z))[j]? = _
    rw [setAts_other zs _ fun z' hz => h z' (by simp [hz])]
    exact List.getElem?_set_ne (h z (by simp))
theorem setAts_get : ∀ (zs : List (Int × Int)) (l : List Int), (zs.map fun z => z.2.toNat).Nodup → (∀ z ∈ zs, z.2.toNat < l.length) → ∀ z ∈ zs, (zs.foldl setAt l)[z.2.toNat]? = some z.1
  | [], _, _, _, _, h => by cases h
  | z :: zs, l, nd, hi, z', h => by
    rw [List.map_cons] at nd
    obtain ⟨n1, n2⟩ := List.nodup_cons.mp nd
    show (zs.foldl setAt (setAt l z))[z'.2.toNat]? = _
    rcases List.mem_cons.mp h with e | e
    · subst e
      rw [setAts_other zs _ fun y hy e => n1 (List.mem_map.mpr ⟨y, hy, e⟩)]
      exact List.getElem?_set_self (hi z' (by simp))
    · exact setAts_get zs _ n2 (fun y hy => by show _ < (List.set _ _ _).length; rw [List.length_set]; exact hi y (by simp [hy])) z' e
def orderFor (songs : List Int) (gap : Int) : List Int := ((placesOf songs (few songs gap ++ full songs gap)).zip (turnsIn songs.length (gap.toNat + 1))).foldl setAt (List.replicate songs.length 0)
/-- between two songs of one singer are always more than gap turns -/
def Spc (songs os : List Int) (gap : Int) : Prop := ∀ (i j : Nat) (x y : Int), i < j → os[i]? = some x → os[j]? = some y → atS songs x = atS songs y → gap < (j : Int) - i
theorem filter_split (songs : List Int) (gap : Int) : (few songs gap ++ full songs gap).Nodup ∧ ∀ s, s ∈ few songs gap ++ full songs gap ↔ s ∈ sng songs := by
  have nd : (sng songs).Nodup := (sng_lt songs).imp fun {a b} h => by omega
  refine ⟨List.nodup_append.mpr ⟨nd.filter _, nd.filter _, fun x hx y hy e => ?_⟩, fun s => ?_⟩
  · subst e
    have h1 := of_decide_eq_true (List.mem_filter.mp hx).2
    have h2 := of_decide_eq_true (List.mem_filter.mp hy).2
    omega
  · rw [List.mem_append]
    constructor
    · rintro (h | h) <;> exact (List.mem_filter.mp h).1
    · intro h
      by_cases c : (songs.count s : Int) ≤ whole songs gap
      · exact .inl (List.mem_filter.mpr ⟨h, decide_eq_true c⟩)
      · exact .inr (List.mem_filter.mpr ⟨h, decide_eq_true (by omega)⟩)
theorem order_ok {songs : List Int} {gap : Int} (hg : 0 ≤ gap) (hs : SgOk songs) (hb : barring songs gap = none) : (orderFor songs gap).Perm (upto songs.length) ∧ Spc songs (orderFor songs gap) gap := by
  obtain ⟨b1, b2⟩ := barring_none hg hs hb
  obtain ⟨f1, f2⟩ := filter_split songs gap
  have pP : (placesOf songs (few songs gap ++ full songs gap)).Perm (upto songs.length) := placesOf_perm f1 fun s h => (f2 s).mpr ((mem_sng hs).mpr h)
  have hw : 0 < gap.toNat + 1 := by omega
  have hgw : gap + 1 = ((gap.toNat + 1 : Nat) : Int) := by omega
  have hgw2 : gap < ((gap.toNat + 1 : Nat) : Int) := by omega
  unfold rest at b2
  have ewh : whole songs gap = ((songs.length / (gap.toNat + 1) : Nat) : Int) := by unfold whole; rw [hgw]; rfl
  have bm : ∀ s ∈ songs, (songs.count s : Int) ≤ (songs.length / (gap.toNat + 1) : Nat) + 1 := fun s h => by
    have := b1 s h
    unfold most at this
    rw [ewh] at this
    split at this <;> omega
  rw [hgw, ← Int.natCast_emod] at b2
  have ePm : (placesOf songs (few songs gap ++ full songs gap)).map (atS songs) = blocks (fun s => songs.count s) (few songs gap) ++ blocks (fun s => songs.count s) (full songs gap) := by
    rw [placesOf_map]
    exact List.flatMap_append
  have eo : orderFor songs gap = ((placesOf songs (few songs gap ++ full songs gap)).zip (turnsIn songs.length (gap.toNat + 1))).foldl setAt (List.replicate songs.length 0) := rfl
  have pT := turns_perm (n := songs.length) hw
  have lT := turns_len (n := songs.length) hw
  generalize hP : placesOf songs (few songs gap ++ full songs gap) = P at *
  generalize hT : turnsIn songs.length (gap.toNat + 1) = T at *
  have lP : P.length = songs.length := by rw [pP.length_eq, upto_len]
  have iT : InB songs.length T := perm_in pT
  have ndT : T.Nodup := pT.nodup_iff.mpr ((upto_lt _).imp fun {a b} h => by omega)
  have ndP : P.Nodup := pP.nodup_iff.mpr ((upto_lt _).imp fun {a b} h => by omega)
  have lo : (orderFor songs gap).length = songs.length := by rw [eo, setAts_len, List.length_replicate]
  have og : ∀ (k : Nat) (t p : Int), T[k]? = some t → P[k]? = some p → (orderFor songs gap)[t.toNat]? = some p := fun k t p h1 h2 => by
    rw [eo]
    refine setAts_get (P.zip T) _ ?_ (fun z hz => ?_) (p, t) (List.mem_of_getElem? (i := k) (by rw [List.getElem?_zip_eq_some]; exact ⟨h2, h1⟩))
    · have e : (P.zip T).map (fun z => z.2.toNat) = T.map Int.toNat := by
        rw [show (fun z : Int × Int => z.2.toNat) = Int.toNat ∘ Prod.snd from rfl, ← List.map_map, List.map_snd_zip (by omega)]
      rw [e]
      refine List.pairwise_map.mpr ?_
      refine List.Pairwise.imp_of_mem (fun {a b} ha hb h => ?_) ndT
      have := iT a ha
      have := iT b hb
      omega
    · rw [List.length_replicate]
      have := iT z.2 (List.of_mem_zip hz).2
      omega
  -- every place has its turn
  have back : ∀ (i : Nat) (x : Int), (orderFor songs gap)[i]? = some x → ∃ k, T[k]? = some (i : Int) ∧ P[k]? = some x := fun i x h => by
    have hi : i < songs.length := by rw [← lo]; exact (List.getElem?_eq_some_iff.mp h).1
    have hm : (i : Int) ∈ T := pT.symm.subset (mem_upto.mpr (by omega))
    obtain ⟨k, hk, e⟩ := List.mem_iff_getElem.mp hm
    have hk2 : k < P.length := by omega
    have h1 : T[k]? = some (i : Int) := by rw [List.getElem?_eq_getElem hk, e]
    have h2 := og k i P[k] h1 (List.getElem?_eq_getElem hk2)
    rw [show ((i : Int)).toNat = i by omega, h] at h2
    exact ⟨k, h1, by rw [h2]; exact List.getElem?_eq_getElem hk2⟩
  have inj : ∀ {l : List Int} {a b : Nat} {x : Int}, l.Nodup → l[a]? = some x → l[b]? = some x → a = b := fun {l a b x} nd h1 h2 => by
    obtain ⟨ha, e1⟩ := List.getElem?_eq_some_iff.mp h1
    obtain ⟨hb, e2⟩ := List.getElem?_eq_some_iff.mp h2
    have pw := List.pairwise_iff_getElem.mp nd
    refine Classical.byContradiction fun ne => ?_
    rcases Nat.lt_or_gt_of_ne ne with h | h
    · exact pw a b ha hb h (by rw [e1, e2])
    · exact pw b a hb ha h (by rw [e1, e2])
  refine ⟨perm_of ?_ (fun x hx => ?_) lo, ?_⟩
  · refine List.pairwise_iff_getElem.mpr fun a b ha hb hab e => ?_
    obtain ⟨k, h1, h2⟩ := back a _ (List.getElem?_eq_getElem ha)
    obtain ⟨k', h3, h4⟩ := back b _ (List.getElem?_eq_getElem hb)
    rw [e] at h2
    have := inj ndP h2 h4
    subst this
    rw [h1] at h3
    have := Option.some.inj h3
    omega
  · obtain ⟨i, hi, e⟩ := List.mem_iff_getElem.mp hx
    obtain ⟨k, h1, h2⟩ := back i _ (List.getElem?_eq_getElem hi)
    rw [e] at h2
    have := perm_in pP x (List.mem_of_getElem? h2)
    exact this
  · intro i j x y hij hx hy hxy
    obtain ⟨k, t1, p1⟩ := back i x hx
    obtain ⟨k', t2, p2⟩ := back j y hy
    have X1 : (P.map (atS songs))[k]? = some (atS songs x) := by rw [List.getElem?_map, p1]; rfl
    have X2 : (P.map (atS songs))[k']? = some (atS songs x) := by rw [List.getElem?_map, p2, hxy]; rfl
    have nk : k ≠ k' := fun e => by
      subst e
      rw [t1] at t2
      have := Option.some.inj t2
      omega
    generalize atS songs x = s at *
    have fl : ∀ s ∈ full songs gap, songs.count s = songs.length / (gap.toNat + 1) + 1 := fun s h => by
      obtain ⟨m1, m2⟩ := List.mem_filter.mp h
      have a1 := of_decide_eq_true m2
      have a2 := bm s ((mem_sng hs).mp m1)
      rw [ewh] at a1
      omega
    have fw : ∀ s ∈ few songs gap, songs.count s ≤ songs.length / (gap.toNat + 1) := fun s h => by
      have a1 := of_decide_eq_true (List.mem_filter.mp h).2
      rw [ewh] at a1
      omega
    have ndF : (few songs gap).Nodup := (List.nodup_append.mp f1).1
    have ndL : (full songs gap).Nodup := (List.nodup_append.mp f1).2.1
    have dj := (List.nodup_append.mp f1).2.2
    obtain ⟨bl, bf⟩ := blocks_full (n := songs.length) (cnt := fun s => songs.count s) hw ndL (by omega) fl
    have key : ∀ (a b : Nat) (ta tb : Int), a < b → (P.map (atS songs))[a]? = some s → (P.map (atS songs))[b]? = some s → T[a]? = some ta → T[b]? = some tb → ((gap.toNat + 1 : Nat) : Int) ≤ ta - tb ∨ ((gap.toNat + 1 : Nat) : Int) ≤ tb - ta := fun a b ta tb hab ha hb hta htb => by
      rw [ePm] at ha hb
      have m1 := Nat.min_le_left (gap.toNat + 1) songs.length
      have m2 := Nat.min_le_right (gap.toNat + 1) songs.length
      have eT : T = Tn songs.length (gap.toNat + 1) (min (gap.toNat + 1) songs.length) := hT.symm
      by_cases cb : b < (blocks (fun s => songs.count s) (few songs gap)).length
      · rw [List.getElem?_append_left (by omega)] at ha hb
        have nr := blocks_near ndF a b s hab ha hb
        have := fw s (mem_blocks (List.mem_of_getElem? hb))
        rw [eT] at hta htb
        exact Tn_far hw _ m1 m2 a b ta tb hab (Nat.lt_of_lt_of_le nr this) hta htb
      · rw [List.getElem?_append_right (by omega)] at hb
        by_cases ca : a < (blocks (fun s => songs.count s) (few songs gap)).length
        · rw [List.getElem?_append_left ca] at ha
          exact absurd rfl (dj s (mem_blocks (List.mem_of_getElem? ha)) s (mem_blocks (List.mem_of_getElem? hb)))
        · rw [List.getElem?_append_right (by omega)] at ha
          have hf : (full songs gap).length ≤ min (gap.toNat + 1) songs.length := by
            have h1 := Nat.mod_lt songs.length hw
            have h2 := Nat.mod_le songs.length (gap.toNat + 1)
            generalize songs.length % (gap.toNat + 1) = r at *
            omega
          obtain ⟨A, hA⟩ := Tn_split (n := songs.length) (w := gap.toNat + 1) (min (gap.toNat + 1) songs.length) (full songs gap).length hf
          have lX : (blocks (fun s => songs.count s) (few songs gap)).length + (blocks (fun s => songs.count s) (full songs gap)).length = songs.length := by
            rw [← List.length_append, ← ePm, List.length_map, lP]
          have lTf := Tn_len (n := songs.length) hw (full songs gap).length (Nat.le_trans hf m1) (Nat.le_trans hf m2)
          have lA : A.length = (blocks (fun s => songs.count s) (few songs gap)).length := by
            have e : (A ++ Tn songs.length (gap.toNat + 1) (full songs gap).length).length = songs.length := by rw [← hA, ← eT, lT]
            rw [List.length_append, lTf] at e
            rw [bl, Nat.mul_add, Nat.mul_one] at lX
            have : min (full songs gap).length (songs.length % (gap.toNat + 1)) = (full songs gap).length := Nat.min_eq_left (by omega)
            omega
          rw [eT, hA, List.getElem?_append_right (by omega), lA] at hta htb
          exact .inr (bf _ _ s ta tb (by omega) ha hb hta htb)
    have fin : ((gap.toNat + 1 : Nat) : Int) ≤ (i : Int) - j ∨ ((gap.toNat + 1 : Nat) : Int) ≤ (j : Int) - i := by
      rcases Nat.lt_or_gt_of_ne nk with h | h
      · exact key k k' i j h X1 X2 t1 t2
      · exact (key k' k j i h X2 X1 t2 t1).symm
    omega
end Song

/-! ### Gp6: keeping a gap, told two ways; who bars has no order; widest (plain) -/
namespace Song
def Apart (X : List Int) (w : Nat) : Prop := ∀ (i j : Nat) (s : Int), i < j → X[i]? = some s → X[j]? = some s → w ≤ j - i
theorem Apart.drop {X : List Int} {w : Nat} (h : Apart X w) (m : Nat) : Apart (X.drop m) w := fun i j s hij h1 h2 => by
  rw [List.getElem?_drop] at h1 h2
  have := h _ _ s (show m + i < m + j by omega) h1 h2
  omega
theorem Apart.take {X : List Int} {w : Nat} (h : Apart X w) (m : Nat) : Apart (X.take m) w := fun i j s hij h1 h2 => by
  have l := (List.getElem?_eq_some_iff.mp h2).1
  rw [List.length_take] at l
  rw [List.getElem?_take_of_lt (by omega)] at h1 h2
  exact h _ _ s hij h1 h2
theorem Apart.one {X : List Int} {w : Nat} (h : Apart X w) (hl : X.length ≤ w) (s : Int) : X.count s ≤ 1 := by
  have nd : X.Nodup := List.pairwise_iff_getElem.mpr fun i j hi hj hij e => by
    have := h i j X[i] hij (List.getElem?_eq_getElem hi) (by rw [e]; exact List.getElem?_eq_getElem hj)
    omega
  exact List.nodup_iff_count.mp nd s
theorem Apart.many {w : Nat} {s : Int} : ∀ {q : Nat} {X : List Int}, Apart X w → X.length = q * w → X.count s ≤ q
  | 0, X, _, hl => by
    rw [Nat.zero_mul] at hl
    rw [List.eq_nil_of_length_eq_zero hl]; simp
  | q + 1, X, h, hl => by
    rw [Nat.add_mul, Nat.one_mul] at hl
    have h1 := (h.take w).one (by rw [List.length_take]; omega) s
    have h2 := Apart.many (s := s) (q := q) (h.drop w) (by rw [List.length_drop]; omega)
    rw [← List.take_append_drop w X, List.count_append]
    omega
theorem map_upto (songs : List Int) : (upto songs.length).map (atS songs) = songs := by
  refine List.ext_getElem (by rw [List.length_map, upto_len]) fun i h1 h2 => ?_
  rw [List.getElem_map]
  unfold upto
  rw [List.getElem_map, List.getElem_range]
  show songs.getD i 0 = _
  rw [List.getD_eq_getElem?_getD, List.getElem?_eq_getElem h2]; rfl
theorem bars_no {songs : List Int} {gap : Int} {ss os : List Int} (hg : 0 ≤ gap) (hb : barsP songs gap ss = true) (p : os.Perm (upto songs.length)) : ¬ Spc songs os gap := fun hS => by
  have pX : (os.map (atS songs)).Perm songs := by
    have := p.map (atS songs)
    rwa [map_upto] at this
  have ap : Apart (os.map (atS songs)) (gap.toNat + 1) := fun i j s hij h1 h2 => by
    rw [List.getElem?_map] at h1 h2
    cases e1 : os[i]? with
    | none => rw [e1] at h1; cases h1
    | some x =>
      cases e2 : os[j]? with
      | none => rw [e2] at h2; cases h2
      | some y =>
        rw [e1] at h1
        rw [e2] at h2
        have := hS i j x y hij e1 e2 ((Option.some.inj h1).trans (Option.some.inj h2).symm)
        omega
  have hw : 0 < gap.toNat + 1 := by omega
  have hgw : gap + 1 = ((gap.toNat + 1 : Nat) : Int) := by omega
  have ewh : whole songs gap = ((songs.length / (gap.toNat + 1) : Nat) : Int) := by unfold whole; rw [hgw]; rfl
  have ers : rest songs gap = ((songs.length % (gap.toNat + 1) : Nat) : Int) := by unfold rest; rw [hgw]; rfl
  generalize hX : os.map (atS songs) = X at *
  have lX : X.length = songs.length := pX.length_eq
  have dm := Nat.div_add_mod songs.length (gap.toNat + 1)
  have rl := Nat.mod_lt songs.length hw
  generalize hr : songs.length % (gap.toNat + 1) = r at *
  generalize hq : songs.length / (gap.toNat + 1) = q at *
  have c2 : ∀ s, (X.drop r).count s ≤ q := fun s => (ap.drop r).many (by rw [List.length_drop, Nat.mul_comm]; omega)
  have cs : ∀ s, songs.count s = (X.take r).count s + (X.drop r).count s := fun s => by
    rw [← List.count_append, List.take_append_drop]
    exact (pX.count_eq s).symm
  unfold barsP at hb
  by_cases h1 : ss = [] ∨ rising ss = false
  · rw [if_pos h1] at hb; cases hb
  rw [if_neg h1] at hb
  by_cases h2 : ss.length = 1 ∧ (songs.count (ss.headD 0) : Int) > most songs gap
  · have a := h2.2
    unfold most at a
    rw [ewh, ers] at a
    have b := cs (ss.headD 0)
    have c := c2 (ss.headD 0)
    by_cases hr0 : r = 0
    · subst hr0
      rw [if_neg (by omega)] at a
      rw [List.take_zero, List.count_nil] at b
      omega
    · rw [if_pos (by omega)] at a
      have d := (ap.take r).one (by rw [List.length_take]; omega) (ss.headD 0)
      omega
  · rw [if_neg h2, Bool.and_eq_true] at hb
    obtain ⟨g1, g2⟩ := hb
    obtain ⟨g3, g4⟩ := of_decide_eq_true g1
    rw [ers] at g3 g4
    have hri : rising ss = true := by
      cases e : rising ss with
      | true => rfl
      | false => exact absurd (.inr e) h1
    have := sub_len (xs := ss) (ys := X.take r) ((pw_of hri).imp fun {a b} h => by omega) fun s hs => by
      have a := of_decide_eq_true (List.all_eq_true.mp g2 s hs)
      rw [ewh] at a
      have b := cs s
      have c := c2 s
      exact List.count_pos_iff.mp (by omega)
    rw [List.length_take] at this
    omega
/-! #### keeping, by the least gap -/
def keepsP (songs os : List Int) (gap : Int) : Bool := match least (pick (singles songs) os) with
  | none => true
  | some m => decide (m ≥ gap)
theorem diffs_pw {gap : Int} (hg : 0 ≤ gap) : ∀ {l : List Int}, (∀ x ∈ diffs l, gap ≤ x) ↔ l.Pairwise fun a b => gap < b - a
  | [] => ⟨fun _ => .nil, fun _ x h => by cases h⟩
  | [a] => ⟨fun _ => List.pairwise_singleton _ _, fun _ x h => by cases h⟩
  | a :: b :: r => by
    have ih := diffs_pw hg (l := b :: r)
    have e : diffs (a :: b :: r) = (b - a - 1) :: diffs (b :: r) := rfl
    rw [e]
    constructor
    · intro h
      have h1 := h (b - a - 1) (by simp)
      have h2 := ih.mp fun x hx => h x (by simp [hx])
      refine List.pairwise_cons.mpr ⟨fun y hy => ?_, h2⟩
      rcases List.mem_cons.mp hy with q | q
      · rw [q]; omega
      · have := (List.pairwise_cons.mp h2).1 y q
        omega
    · intro h x hx
      obtain ⟨p1, p2⟩ := List.pairwise_cons.mp h
      rcases List.mem_cons.mp hx with q | q
      · have := p1 b (by simp)
        omega
      · exact ih.mpr p2 x q
theorem pick_nodup (songs os : List Int) : ∀ r ∈ pick (singles songs) os, r.Nodup := fun r hr => by
  obtain ⟨o, _, rfl⟩ := List.mem_map.mp hr
  show ((singles songs).getD o.toNat []).Nodup
  rw [List.getD_eq_getElem?_getD]
  unfold singles
  rw [List.getElem?_map]
  cases songs[o.toNat]? with
  | none => exact List.nodup_nil
  | some s => simp
theorem pick_at {songs os : List Int} (hi : InB songs.length os) {i : Nat} {s : Int} : s ∈ (pick (singles songs) os).getD i [] ↔ ∃ x, os[i]? = some x ∧ atS songs x = s := by
  unfold pick
  rw [List.getD_eq_getElem?_getD, List.getElem?_map]
  cases e : os[i]? with
  | none => simp
  | some x =>
    have hx := hi x (List.mem_of_getElem? e)
    show s ∈ (singles songs).getD x.toNat [] ↔ _
    rw [singles_getD (by omega), List.mem_singleton]
    constructor
    · intro h; exact ⟨x, rfl, h.symm⟩
    · rintro ⟨y, hy, h⟩
      rw [← Option.some.inj hy] at h
      exact h.symm
theorem keeps_iff {songs os : List Int} {gap : Int} (hg : 0 ≤ gap) (hi : InB songs.length os) : keepsP songs os gap = true ↔ Spc songs os gap := by
  have h2 := (lb_spec (pick (singles songs) os) (pick_nodup songs os)).2
  have e1 : keepsP songs os gap = true ↔ ∀ x ∈ (lb (pick (singles songs) os)).1, gap ≤ x := by
    unfold keepsP least
    cases e : minO (lb (pick (singles songs) os)).1 with
    | none =>
      rw [minO_none] at e
      rw [e]
      exact ⟨fun _ x hx => (nomatch hx), fun _ => rfl⟩
    | some m =>
      obtain ⟨m1, m2⟩ := minO_some e
      show decide (m ≥ gap) = true ↔ _
      rw [decide_eq_true_eq]
      exact ⟨fun h x hx => Int.le_trans h (m2 x hx), fun h => h m m1⟩
  have lp : (pick (singles songs) os).length = os.length := List.length_map _
  rw [e1]
  constructor
  · intro h i j x y hij hx hy hxy
    have pw := (diffs_pw hg (l := spots (atS songs x) (pick (singles songs) os))).mp fun d hd => h d ((h2 d).mpr ⟨_, hd⟩)
    have mi : (i : Int) ∈ spots (atS songs x) (pick (singles songs) os) := spots_mem.mpr ⟨i, by rw [lp]; exact (List.getElem?_eq_some_iff.mp hx).1, (pick_at hi).mpr ⟨x, hx, rfl⟩, rfl⟩
    have mj : (j : Int) ∈ spots (atS songs x) (pick (singles songs) os) := spots_mem.mpr ⟨j, by rw [lp]; exact (List.getElem?_eq_some_iff.mp hy).1, (pick_at hi).mpr ⟨y, hy, hxy.symm⟩, rfl⟩
    have srt := spots_sorted (atS songs x) (pick (singles songs) os)
    obtain ⟨a, ha, ea⟩ := List.mem_iff_getElem.mp mi
    obtain ⟨b, hb, eb⟩ := List.mem_iff_getElem.mp mj
    have hab : a < b := by
      rcases Nat.lt_trichotomy a b with z | z | z
      · exact z
      · subst z; rw [ea] at eb; omega
      · have := List.pairwise_iff_getElem.mp srt b a hb ha z
        rw [ea, eb] at this
        omega
    have := List.pairwise_iff_getElem.mp pw a b ha hb hab
    rw [ea, eb] at this
    exact this
  · intro hS x hx
    obtain ⟨s, hs⟩ := (h2 x).mp hx
    refine (diffs_pw hg (l := spots s (pick (singles songs) os))).mpr ?_ x hs
    refine List.Pairwise.imp_of_mem (fun {a b} ha hb h => ?_) (spots_sorted s _)
    obtain ⟨i, hi1, hi2, rfl⟩ := spots_mem.mp ha
    obtain ⟨j, hj1, hj2, rfl⟩ := spots_mem.mp hb
    obtain ⟨x1, e1, e2⟩ := (pick_at hi).mp hi2
    obtain ⟨y1, e3, e4⟩ := (pick_at hi).mp hj2
    exact hS i j x1 y1 (by omega) e1 e3 (by rw [e2, e4])
/-! #### widest -/
def twice (songs : List Int) : Bool := songs.any fun s => decide (songs.count s > 1)
def wid (songs : List Int) : Nat → Int → Int
  | 0, g => g
  | f + 1, g => if barring songs (g + 1) = none then wid songs f (g + 1) else g
def widest (songs : List Int) : Option Int := if twice songs = true then some (wid songs songs.length 0) else none
theorem barring_zero {songs : List Int} (hs : SgOk songs) : barring songs 0 = none := by
  cases e : barring songs 0 with
  | none => rfl
  | some ss =>
    have hb := barring_bars e
    exact absurd (fun i j x y hij _ _ _ => by omega) (bars_no (Int.le_refl 0) hb (List.Perm.refl (upto songs.length)))
theorem barring_far {songs : List Int} {gap : Int} (hs : SgOk songs) (h : twice songs = true) (hg : (songs.length : Int) ≤ gap) : barring songs gap ≠ none := fun e => by
  obtain ⟨b1, _⟩ := barring_none (by omega) hs e
  obtain ⟨s, m, c⟩ := List.any_eq_true.mp h
  have c := of_decide_eq_true c
  have a := b1 s m
  unfold most whole at a
  rw [Int.ediv_eq_zero_of_lt (by omega) (by omega)] at a
  split at a <;> omega
theorem wid_spec {songs : List Int} (hs : SgOk songs) (h : twice songs = true) : ∀ (f : Nat) (g : Int), 0 ≤ g → (songs.length : Int) ≤ g + f → (∀ k, 0 ≤ k → k ≤ g → barring songs k = none) →
    g ≤ wid songs f g ∧ (∀ k, 0 ≤ k → k ≤ wid songs f g → barring songs k = none) ∧ barring songs (wid songs f g + 1) ≠ none ∧ wid songs f g ≤ g + f
  | 0, g, h0, hl, hk => ⟨Int.le_refl _, hk, barring_far hs h (show (songs.length : Int) ≤ g + 1 by omega), by show g ≤ g + _; omega⟩
  | f + 1, g, h0, hl, hk => by
    unfold wid
    by_cases c : barring songs (g + 1) = none
    · rw [if_pos c]
      obtain ⟨i1, i2, i3, i4⟩ := wid_spec hs h f (g + 1) (by omega) (by omega) fun k k0 k1 => by
        by_cases e : k = g + 1
        · rw [e]; exact c
        · exact hk k k0 (by omega)
      exact ⟨by omega, i2, i3, by omega⟩
    · rw [if_neg c]
      exact ⟨Int.le_refl _, hk, c, by omega⟩
theorem widest_spec {songs : List Int} (hs : SgOk songs) {g : Int} (h : widest songs = some g) : 0 ≤ g ∧ g ≤ songs.length ∧ barring songs g = none ∧ barring songs (g + 1) ≠ none := by
  unfold widest at h
  by_cases t : twice songs = true
  · rw [if_pos t] at h
    have h := Option.some.inj h
    obtain ⟨a, b, c, d⟩ := wid_spec hs t songs.length 0 (Int.le_refl _) (by omega) fun k k0 k1 => by
      rw [show k = 0 by omega]; exact barring_zero hs
    rw [h] at a b c d
    exact ⟨a, by omega, b g a (Int.le_refl _), c⟩
  · rw [if_neg t] at h; cases h
end Song

/-! ### Gw4: counts, who bars, keeps -/
namespace Song
open PySem L2
section
variable {P : Program} {w : World} {K : PySem.W.Frag} {mg : Str → Option Value} {base : Heap}
theorem sc_counts_of : FnScope ["songs", "found", "singer"] ["songs"] (defScope s_counts_of) := ⟨rfl, rfl, rfl, by decide +kernel, rfl, by decide +kernel, by decide +kernel⟩
def sp_counts_of (K : PySem.W.Frag) : Sp := fun vs H Q _ => ∃ (a : Addr) (songs : List Int), vs = [.ref a] ∧ SqL K H a (songs.map V.int) ∧ songs.length ≤ 900 ∧ ∀ d H', H d = none → Same H H' → H' d = some (.dK (toK (countsOf songs))) → Q (.ref d) H'
theorem countsOf_len (songs : List Int) : (countsOf songs).length ≤ songs.length := by
  refine snoc_ind (P := fun songs => (countsOf songs).length ≤ songs.length) (Nat.le_refl _) (fun l a ih => ?_) songs
  rw [countsOf_snoc, List.length_append, List.length_singleton]
  have := putC_len (countsOf l) a ((getC (countsOf l) a).getD 0 + 1)
  omega
theorem getD_int (o : Option Int) : ((o.map V.int).getD (.int 0)) = V.int (o.getD 0) := by cases o <;> rfl
theorem fn_counts_of (T : Tx K mg) : Fn P w K mg base "counts_of" 1 (sp_counts_of K) := by
  obtain ⟨fd, F⟩ := T.d_counts_of
  refine ⟨_, fd, _, F.ok (CX := CX0) sc_counts_of (fun vs H Q E h => ?_) (fun cdv A outer s H vs Q E hr h => ?_), T.g_counts_of, F.kp, F.bindsN fun _ _ _ _ _ _ us hl => match us, hl with | [_], _ => rfl⟩
  · obtain ⟨a, songs, rfl, _⟩ := h; rfl
  · obtain ⟨a, songs, rfl, ha, hl, q⟩ := h
    refine ⟨_, PSs.nox (pss_cons (ps_set (i := 1) sc_counts_of.nd rfl (by first | exact Or.inl rfl | exact Or.inr rfl) pe_dnewK)
      (pss_cons (ps_for PassesOwn.never rfl (show PI _ _ _ (iList K _) from pi_list (pv 0)) (pg_name (i := 2) sc_counts_of.nd rfl (by first | exact Or.inl rfl | exact Or.inr rfl))
      (pss_one (ps_dput (hu_of hr) (pv 1) (pv 2) (pe_op op_add (pe_dget2 (hu_of hr) (pv 1) (pv 2) pe_int ⟨by rfl, by rfl, by rfl, by rfl⟩) pe_int) rfl)))
      (pss_one (ps_ret (pv 1))))), ?_⟩
    intro d nd
    refine to_new nd fun H1 s1 hd => ?_
    refine ⟨_, rfl, a, rfl, ⟨_, s1.seq ha⟩, for_list (K := K) (a := a) (xs := songs.map V.int) (fun i σ H' => ∃ x2 : Option V, σ = [some (.ref a), some (.ref d), x2] ∧ Fra [d] H1 H' ∧ H' d = some (.dK (toK (countsOf (songs.take i))))) ?_ ?_ ?_ ?_⟩
    · exact ⟨_, rfl, Fra.refl _ _, hd⟩
    · rintro i σ G _ ⟨_, _, f, _⟩
      exact (f.back s1 (fun x hx => by rw [List.mem_singleton.mp hx]; exact nd)).seq ha
    · rintro i v σ G hv ⟨x2, rfl, f, hG⟩
      obtain ⟨s, rfl, hs⟩ := int_at hv
      have hi : i < songs.length := (List.getElem?_eq_some_iff.mp hs).1
      have cl := countsOf_len (songs.take i)
      rw [List.length_take] at cl
      refine ⟨_, rfl, d, rfl, .inl ⟨_, .inl hG⟩, _, rfl, _, DGet.k (k := Sum.inl s) hG, ?_⟩
      rw [valV_toK, getD_int]
      refine ⟨_, _, rfl, rfl, _, rfl, _, rfl, d, _, rfl, DPut.k (k := Sum.inl s) hG (by rw [toK_len]; exact lt_line (by omega)), ?_⟩
      rw [putK_toK]
      refine to_put fun G1 f1 h1 => ?_
      refine ⟨_, rfl, f.trans f1, ?_⟩
      obtain ⟨hlt, e⟩ := List.getElem?_eq_some_iff.mp hs
      rw [List.take_succ_eq_append_getElem hlt, e, countsOf_snoc]
      exact h1
    · rintro σ G ⟨x2, rfl, f, hG⟩
      rw [List.length_map, List.take_length] at hG
      exact ⟨_, rfl, q d G nd (f.back s1 (fun x hx => by rw [List.mem_singleton.mp hx]; exact nd)) hG⟩
theorem counts_at {H : Hp} {d : Addr} {songs : List Int} (h : H d = some (.dK (toK (countsOf songs)))) (s : Int) : ∃ o, DGet H d (.int s) o ∧ o.getD (.int 0) = V.int (songs.count s : Int) := by
  refine ⟨_, DGet.k (k := Sum.inl s) h, ?_⟩
  rw [valV_toK, getD_int, counts_getD]
theorem counts_in {H : Hp} {d : Addr} {songs : List Int} (h : H d = some (.dK (toK (countsOf songs)))) {s : Int} (hs : s ∈ songs) : DGet H d (.int s) (some (V.int (songs.count s : Int))) :=
  getC_get h (by rw [counts_get, if_pos hs])
/-- a gap that the machine can divide by -/
def GapOk (gap : Int) : Prop := 0 ≤ gap ∧ gap < 2 ^ 100
theorem GapOk.log {gap : Int} (h : GapOk gap) : (gap + 1).natAbs.log2 < 9000 := by
  have h1 := h.2
  have h2 := h.1
  refine Nat.lt_of_lt_of_le ((Nat.log2_lt (k := 101) (by omega)).mpr ?_) (by decide)
  have : (gap + 1).natAbs ≤ 2 ^ 100 := by omega
  exact Nat.lt_of_le_of_lt this (by decide)
theorem sc_bars : FnScope ["songs", "gap", "singers", "counts", "whole", "rest", "most", "one", "other"] ["songs", "gap", "singers"] (defScope s_bars) := ⟨rfl, rfl, rfl, by decide +kernel, rfl, by decide +kernel, by decide +kernel⟩
def sp_bars (K : PySem.W.Frag) : Sp := fun vs H Q _ => ∃ (a b : Addr) (songs ss : List Int) (gap : Int), vs = [.ref a, .int gap, .ref b] ∧ SqL K H a (songs.map V.int) ∧ songs.length ≤ 900 ∧ GapOk gap ∧ SqL K H b (ss.map V.int) ∧ ss.length ≤ 900 ∧ ∀ H', Same H H' → Q (.bl (barsP songs gap ss)) H'
theorem zipGe_all : ∀ ns : List Int, ((ns.zip (ns.drop 1)).map fun p => decide (p.1 ≥ p.2)).any id = !rising ns
  | [] => rfl
  | [_] => rfl
  | a :: b :: r => by
    have ih := zipGe_all (b :: r)
    unfold rising
    simp only [List.drop_succ_cons, List.drop_zero, List.zip_cons_cons, List.map_cons, List.any_cons, id] at ih ⊢
    rw [ih, Bool.not_and]
    congr 1
    by_cases h : a < b
    · rw [decide_eq_true h, decide_eq_false (by omega)]; rfl
    · rw [decide_eq_false h, decide_eq_true (by omega)]; rfl
theorem zipGe_vals (ns : List Int) : (List.range (min (ns.map V.int).length ((ns.drop 1).map V.int).length)).filterMap (fun i => ((ns.zip (ns.drop 1))[i]?).map fun p => V.bl (decide (p.1 ≥ p.2))) = ((ns.zip (ns.drop 1)).map fun p => decide (p.1 ≥ p.2)).map V.bl := by
  have e : min (ns.map V.int).length ((ns.drop 1).map V.int).length = (ns.zip (ns.drop 1)).length := by simp
  rw [e, range_map, List.map_map]
  rfl
theorem fn_bars (T : Tx K mg) : Fn P w K mg base "bars" 2 (sp_bars K) := by
  obtain ⟨fd, F⟩ := T.d_bars
  refine ⟨_, fd, _, F.ok (CX := CX0) sc_bars (fun vs H Q E h => ?_) (fun cdv A outer s H vs Q E hr h => ?_), T.g_bars, F.kp, F.bindsN fun _ _ _ _ _ _ us hl => match us, hl with | [_, _, _], _ => rfl⟩
  · obtain ⟨a, b, songs, ss, gap, rfl, _⟩ := h; rfl
  · obtain ⟨a, b, songs, ss, gap, rfl, ha, hl, hg, hb, hsl, q⟩ := h
    refine ⟨_, PSs.nox (pss_cons (ps_asg (pe_tup (pa_cons (pe_fn (fn_counts_of T) (hr.mono (by first | decide | omega)) (by rfl) (pa_cons (pv 0) pa_nil)) (pa_cons (pe_op op_fdivW (pe_callB (show CallR _ _ (rLenQ K) from call_len_seq) (by rfl) T.len (by decide +kernel) (pa_cons (pv 0) pa_nil)) (pe_op op_add (pv 1) pe_int)) (pa_cons (pe_op op_mod (pe_callB (show CallR _ _ (rLenQ K) from call_len_seq) (by rfl) T.len (by decide +kernel) (pa_cons (pv 0) pa_nil)) (pe_op op_add (pv 1) pe_int)) pa_nil)))) (show PG _ _ (gTup K _ _) from pg_tup rfl (pgs_cons (pg_name (i := 3) sc_bars.nd rfl (by first | exact Or.inl rfl | exact Or.inr rfl)) (pgs_cons (pg_name (i := 4) sc_bars.nd rfl (by first | exact Or.inl rfl | exact Or.inr rfl)) (pgs_cons (pg_name (i := 5) sc_bars.nd rfl (by first | exact Or.inl rfl | exact Or.inr rfl)) pgs_nil)))))
      (pss_cons (ps_set (i := 6) sc_bars.nd rfl (by first | exact Or.inl rfl | exact Or.inr rfl) (pe_op op_add (pv 4) (pe_callTy call_int1 (by rfl) T.int (by decide +kernel) (pa_cons (pe_cmpR op_gt (pv 5) pe_int (nomark _)) pa_nil))))
      (pss_cons (ps_if (PW.pt (pw_or (pt_cmpR (show OpR _ _ (rEqD K) from op_eqD hr.units) (pv 2) (pe_lst pa_nil) (nomark _)) (pw_or1 (pt_val (pe_callB (show CallR _ _ (rAny K) from cr_any (by rfl)) (by rfl) T.any (by decide +kernel) (pa_cons (pe_lc (own := [("one", 7), ("other", 8)]) (g := (gTup K 2 (gCons (gName 7) (gCons (gName 8) gNil)))) (tt := tYes) (by rfl) sc_bars.nd (show PI _ _ _ (iZip K _) from pi_zip (by rfl) T.zip (pa_cons (pv 2) (pa_cons (pe_slice (show SlR _ (rSlL K) from sl_list) (pv 2) (po_some pe_int) po_none) pa_nil))) (blkOk_by (by kernel_rfl)) (fun _ _ _ _ _ => (show PG _ _ (gTup K _ _) from pg_tup rfl (pgs_cons (pg_name (i := 7) sc_bars.nd rfl (by first | exact Or.inl rfl | exact Or.inr rfl)) (pgs_cons (pg_name (i := 8) sc_bars.nd rfl (by first | exact Or.inl rfl | exact Or.inr rfl)) pgs_nil)))) (fun _ _ _ _ _ => pts_nil) (fun _ _ _ _ _ => (pe_cmpR op_ge (pv 7) (pv 8) (nomark _)))) pa_nil)))))) (pss_one (ps_ret pe_bl)) pss_nil)
      (pss_cons (ps_cut (ps_if (PW.pt (pw_and (pt_cmpR op_eq (pe_callB (show CallR _ _ (rLenQ K) from call_len_seq) (by rfl) T.len (by decide +kernel) (pa_cons (pv 2) pa_nil)) pe_int (nomark _)) (pw_and1 (pt_cmpR op_gt (pe_dget2 (hu_of hr) (pv 3) (pe_ix (show IxR _ (rIxL K) from ix_list) (pv 2) pe_int (fun _ _ => rfl)) pe_int ⟨by rfl, by rfl, by rfl, by rfl⟩) (pv 6) (nomark _))))) (pss_one (ps_ret pe_bl)) pss_nil))
      (pss_one (ps_ret (pe_and (pe_chain op_lt op_lt pe_int (pv 5) (pe_callB (show CallR _ _ (rLenQ K) from call_len_seq) (by rfl) T.len (by decide +kernel) (pa_cons (pv 2) pa_nil))) (pe_one (pe_callB (show CallR _ _ (rAll K) from cr_all (by rfl)) (by rfl) T.all (by decide +kernel) (pa_cons (pe_lc (own := [("one", 7)]) (g := (gName 7)) (tt := tYes) (by rfl) sc_bars.nd (show PI _ _ _ (iList K _) from pi_list (pv 2)) (blkOk_by (by kernel_rfl)) (fun _ _ _ _ _ => (pg_name (i := 7) sc_bars.nd rfl (by first | exact Or.inl rfl | exact Or.inr rfl))) (fun _ _ _ _ _ => pts_nil) (fun _ _ _ _ _ => (pe_cmpR op_gt (pe_dget2 (hu_of hr) (pv 3) (pv 7) pe_int ⟨by rfl, by rfl, by rfl, by rfl⟩) (pv 4) (nomark _)))) pa_nil)))))))))), ?_⟩
    have hg0 := hg.1
    refine ⟨_, rfl, a, songs, rfl, ha, hl, fun d H1 nd s1 hd => ?_⟩
    refine ⟨_, rfl, a, _, rfl, .inl (s1.seq ha), _, rfl, _, _, rfl, rfl, _, _, rfl, rfl, ⟨by omega, hg.log⟩, ?_⟩
    refine ⟨_, rfl, a, _, rfl, .inl (s1.seq ha), _, rfl, _, _, rfl, rfl, _, _, rfl, rfl, (show 0 < gap + 1 by omega), ?_⟩
    refine ⟨by show 3 ≤ sizeLine; decide, fun t nt => ?_⟩
    refine to_new nt fun H2 s2 ht => ?_
    rw [List.length_map] at ht
    refine ⟨t, _, rfl, SqT.of ht, rfl, _, _, rfl, _, _, rfl, _, _, rfl, rfl, ?_⟩
    refine ⟨_, rfl, _, rfl, _, _, rfl, rfl, .inr ⟨_, rfl, _, _, rfl, rfl, ?_⟩⟩
    have em : (songs.length : Int) / (gap + 1) + (if decide ((songs.length : Int) % (gap + 1) > 0) = true then 1 else 0) = most songs gap := by
      unfold most whole rest
      by_cases c : (songs.length : Int) % (gap + 1) > 0
      · rw [decide_eq_true c, if_pos rfl, if_pos c]
      · rw [decide_eq_false c, if_neg (by decide), if_neg c]
    have s12 := s1.trans s2
    have hb2 := s12.seq hb
    have hd2 := s2 _ _ hd
    refine ⟨_, rfl, Nat.zero_le _, fun z nz => ?_⟩
    refine to_new nz fun H3 s3 hz => ?_
    refine ⟨_, _, dp_ints (s3.seq hb2), .lst (SqL.of hz) .nil, (shp_ints _).ok, shp_nil.ok, _, rfl, ?_⟩
    rw [eqv_nil]
    have s13 := s12.trans s3
    by_cases hne : ss = []
    · have e0 : barsP songs gap ss = false := by unfold barsP; rw [if_pos (.inl hne)]
      rw [e0] at q
      rw [show ss.isEmpty = true by rw [hne]; rfl]
      exact iteT (iteT (q _ s13))
    rw [show ss.isEmpty = false by cases hss : ss with | nil => exact absurd hss hne | cons x r => rfl]
    have hb3 := s13.seq hb
    refine iteF ⟨_, rfl, _, rfl, _, rfl, b, _, rfl, hb3, fun p np => ?_⟩
    refine to_new np fun H4 s4 hp => ?_
    rw [cut1] at hp
    refine ⟨b, p, _, _, rfl, s4.seq hb3, SqL.of hp, fun D nD => lc_pure (walk_zip rfl) sqL2_mono ⟨s4.seq hb3, SqL.of hp⟩ (fun i => ((ss.zip (ss.drop 1))[i]?).map fun p => V.bl (decide (p.1 ≥ p.2))) nD (by simp; omega) ?_ ?_⟩
    · rintro i v H5 H6 hi s5 ⟨t, x, y, rfl, nt, rfl, hx, hy⟩ k kn hk _
      obtain ⟨n, rfl, hn⟩ := int_at hx
      obtain ⟨m, rfl, hm⟩ := int_at hy
      refine ⟨t, _, rfl, SqT.of upd_same, rfl, _, _, rfl, _, _, rfl, rfl, rfl, yes_of ?_⟩
      refine ⟨_, rfl, _, rfl, _, _, rfl, rfl, ?_⟩
      refine hk _ _ ?_ (Same.new nt)
      have e : (ss.zip (ss.drop 1))[i]? = some (n, m) := by rw [List.getElem?_zip_eq_some]; exact ⟨hn, hm⟩
      rw [e]
      rfl
    · intro H5 s5 hD
      rw [zipGe_vals] at hD
      refine ⟨_, _, rfl, SqL.of hD, _, rfl, ?_⟩
      rw [zipGe_all]
      have s15 := s13.trans (s4.trans s5)
      cases hri : rising ss with
      | false =>
        have e0 : barsP songs gap ss = false := by unfold barsP; rw [if_pos (.inr hri)]
        rw [e0] at q
        exact iteT (q _ s15)
      | true =>
        have hb5 := s15.seq hb
        have hd5 := (s2.trans (s3.trans (s4.trans s5))) _ _ hd
        have hd5' : H5 d = some (.dK (toK (countsOf songs))) := (s3.trans (s4.trans s5)) _ _ hd2
        have ehd : ss.headD 0 = ss.getD 0 0 := by
          cases ss with
          | nil => exact absurd rfl hne
          | cons x r => rfl
        have hn1 : ¬ (ss = [] ∨ rising ss = false) := by rw [hri]; simp [hne]
        obtain ⟨o, ho, eo⟩ := counts_at hd5' (ss.getD 0 0)
        have l0 : 0 < ss.length := List.length_pos_iff.mpr hne
        have fin : ¬ (ss.length = 1 ∧ (songs.count (ss.headD 0) : Int) > most songs gap) → barsP songs gap ss = (decide (0 < rest songs gap ∧ rest songs gap < (ss.length : Int)) && ss.all fun s => decide ((songs.count s : Int) > whole songs gap)) := fun h => by
          unfold barsP
          rw [if_neg hn1, if_neg h]
        have cond : (decide (V.int (ss.length : Nat) = V.int 1)) = decide (ss.length = 1) := by
          by_cases e : ss.length = 1
          · rw [decide_eq_true e, decide_eq_true (by rw [e]; rfl)]
          · rw [decide_eq_false e, decide_eq_false (fun z => e (by injection z; omega))]
        refine iteF ⟨fun σ' H' => ¬ (ss.length = 1 ∧ (songs.count (ss.headD 0) : Int) > most songs gap) ∧ H' = H5 ∧ ∃ x6, σ' = [some (.ref a), some (.int gap), some (.ref b), some (.ref d), some (.int ((songs.length : Int) / (gap + 1))), some (.int ((songs.length : Int) % (gap + 1))), x6, none, none], ?_, ?_⟩
        · refine ⟨_, rfl, b, _, rfl, .inl hb5, rfl, _, rfl, ?_⟩
          rw [List.length_map, cond]
          by_cases h1 : ss.length = 1
          case neg =>
            rw [decide_eq_false h1]
            exact iteF (iteF ⟨fun z => h1 z.1, rfl, _, rfl⟩)
          rw [decide_eq_true h1]
          refine iteT ⟨_, rfl, d, rfl, .inl ⟨_, .inl hd5'⟩, _, rfl, b, _, _, _, rfl, rfl, hb5, at_int (ls := ss) (by decide) (by omega), o, ho, _, rfl, _, _, eo, rfl, _, rfl, ?_⟩
          rw [em]
          by_cases h2 : (songs.count (ss.getD 0 0) : Int) > most songs gap
          · rw [decide_eq_true h2]
            have e1 : barsP songs gap ss = true := by
              unfold barsP
              rw [if_neg hn1, if_pos ⟨h1, by rw [ehd]; exact h2⟩]
            rw [e1] at q
            exact iteT (q _ s15)
          · rw [decide_eq_false h2]
            exact iteF ⟨fun z => h2 (by rw [← ehd]; exact z.2), rfl, _, rfl⟩
        · rintro σ' H' ⟨hno, rfl, x6, rfl⟩
          rw [fin hno] at q
          refine ⟨_, rfl, _, _, rfl, rfl, _, rfl, ?_⟩
          have er : (songs.length : Int) % (gap + 1) = rest songs gap := rfl
          have ew : (songs.length : Int) / (gap + 1) = whole songs gap := rfl
          by_cases r0 : 0 < rest songs gap
          case neg =>
            rw [decide_eq_false (show ¬ (0 < (songs.length : Int) % (gap + 1)) from r0)]
            rw [decide_eq_false (fun z => r0 z.1)] at q
            exact iteF ⟨_, rfl, iteF (q _ s15)⟩
          rw [decide_eq_true (show (0 < (songs.length : Int) % (gap + 1)) from r0)]
          refine iteT ⟨_, rfl, b, _, rfl, .inl hb5, _, _, rfl, rfl, _, rfl, ?_⟩
          rw [List.length_map]
          by_cases r1 : rest songs gap < (ss.length : Int)
          case neg =>
            rw [decide_eq_false (show ¬ ((songs.length : Int) % (gap + 1) < (ss.length : Int)) from r1)]
            rw [decide_eq_false (fun z => r1 z.2)] at q
            exact iteF (q _ s15)
          rw [decide_eq_true (show ((songs.length : Int) % (gap + 1) < (ss.length : Int)) from r1)]
          rw [decide_eq_true ⟨r0, r1⟩] at q
          refine iteT ⟨_, rfl, b, rfl, ⟨_, hb5⟩, fun D2 nD2 => lc_map (fun x => match x with | .int s => .bl (decide ((songs.count s : Int) > whole songs gap)) | _ => .non) hb5 nD2 (by rw [List.length_map]; omega) ?_ ?_ gname_mono⟩
          · intro i x H6 hx s6 k hk
            obtain ⟨s, rfl, hs⟩ := int_at hx
            obtain ⟨o2, ho2, eo2⟩ := counts_at (s6 _ _ hd5') s
            exact ⟨rfl, _, rfl, d, rfl, .inl ⟨_, .inl (s6 _ _ hd5')⟩, _, rfl, o2, ho2, _, rfl, _, _, eo2, rfl, hk _ (Same.refl _)⟩
          · intro H6 s6 hD2
            refine ⟨_, ss.map fun s => decide ((songs.count s : Int) > whole songs gap), rfl, SqL.of (by rw [hD2, List.map_map, List.map_map]; rfl), ?_⟩
            rw [List.all_map]
            exact q _ (s15.trans s6)
end
end Song

/-! ### Gw5: barring, keeps, turns_in -/
namespace Song
open PySem L2
theorem toK_keys (c : List (Int × Int)) : (toK c).map (·.1) = (keysC c).map Sum.inl := by
  unfold toK keysC
  rw [List.map_map, List.map_map]; rfl
theorem keys_few {songs : List Int} (h : SgOk songs) : (keysC (countsOf songs)).length < 64 := by
  obtain ⟨k1, k2⟩ := keys_counts songs
  have := nodup_len (n := 6) (ws := keysC (countsOf songs)) (fun s hs => h s ((k2 s).mp hs)) k1
  omega
theorem sng_len (songs : List Int) : (sng songs).length ≤ 6 := by
  unfold sng
  have := List.length_filter_le (fun s => decide (s ∈ songs)) (upto 6)
  rw [upto_len] at this
  exact this
def selF (ss : List Int) (f : Int → Bool) (i : Nat) : Option V := (ss[i]?).bind fun s => if f s = true then some (V.int s) else none
theorem selF_all (ss : List Int) (f : Int → Bool) : (List.range ss.length).filterMap (selF ss f) = (ss.filter f).map V.int := by
  have e : (List.range ss.length).filterMap (selF ss f) = ss.filterMap fun s => if f s = true then some (V.int s) else none := range_filterMap _ ss
  rw [e, ← List.filterMap_eq_map, List.filterMap_filter]
  rfl
section
variable {P : Program} {w : World} {K : PySem.W.Frag} {mg : Str → Option Value} {base : Heap}
theorem sc_barring : FnScope ["songs", "gap", "counts", "whole", "rest", "singer", "many"] ["songs", "gap"] (defScope s_barring) := ⟨rfl, rfl, rfl, by decide +kernel, rfl, by decide +kernel, by decide +kernel⟩
def sp_barring (K : PySem.W.Frag) : Sp := fun vs H Q _ => ∃ (a : Addr) (songs : List Int) (gap : Int), vs = [.ref a, .int gap] ∧ SqL K H a (songs.map V.int) ∧ songs.length ≤ 900 ∧ SgOk songs ∧ GapOk gap ∧
  (barring songs gap = none → ∀ H', Same H H' → Q .non H') ∧ ∀ ss, barring songs gap = some ss → ∀ b H', H b = none → Same H H' → H' b = some (.lst (ss.map V.int)) → Q (.ref b) H'
theorem fn_barring (T : Tx K mg) : Fn P w K mg base "barring" 3 (sp_barring K) := by
  obtain ⟨fd, F⟩ := T.d_barring
  refine ⟨_, fd, _, F.ok (CX := CX0) sc_barring (fun vs H Q E h => ?_) (fun cdv A outer s H vs Q E hr h => ?_), T.g_barring, F.kp, F.bindsN fun _ _ _ _ _ _ us hl => match us, hl with | [_, _], _ => rfl⟩
  · obtain ⟨a, songs, gap, rfl, _⟩ := h; rfl
  · obtain ⟨a, songs, gap, rfl, ha, hl, hs, hg, q0, q1⟩ := h
    refine ⟨_, PSs.nox (pss_cons (ps_asg (pe_tup (pa_cons (pe_fn (fn_counts_of T) (hr.mono (by first | decide | omega)) (by rfl) (pa_cons (pv 0) pa_nil)) (pa_cons (pe_op op_fdivW (pe_callB (show CallR _ _ (rLenQ K) from call_len_seq) (by rfl) T.len (by decide +kernel) (pa_cons (pv 0) pa_nil)) (pe_op op_add (pv 1) pe_int)) (pa_cons (pe_op op_mod (pe_callB (show CallR _ _ (rLenQ K) from call_len_seq) (by rfl) T.len (by decide +kernel) (pa_cons (pv 0) pa_nil)) (pe_op op_add (pv 1) pe_int)) pa_nil)))) (show PG _ _ (gTup K _ _) from pg_tup rfl (pgs_cons (pg_name (i := 2) sc_barring.nd rfl (by first | exact Or.inl rfl | exact Or.inr rfl)) (pgs_cons (pg_name (i := 3) sc_barring.nd rfl (by first | exact Or.inl rfl | exact Or.inr rfl)) (pgs_cons (pg_name (i := 4) sc_barring.nd rfl (by first | exact Or.inl rfl | exact Or.inr rfl)) pgs_nil)))))
      (pss_cons (ps_for PassesOwn.never rfl (show PI _ _ _ (iList K _) from pi_list (pe_callB (call_sortedDI (by rfl)) (by rfl) T.sorted (by decide +kernel) (pa_cons (pv 2) pa_nil))) (pg_name (i := 5) sc_barring.nd rfl (by first | exact Or.inl rfl | exact Or.inr rfl))
      (pss_one (ps_if (pt_val (pe_fn (fn_bars T) (hr.mono (by first | decide | omega)) (by rfl) (pa_cons (pv 0) (pa_cons (pv 1) (pa_cons (pe_lst (pa_cons (pv 5) pa_nil)) pa_nil))))) (pss_one (ps_ret (pe_lst (pa_cons (pv 5) pa_nil)))) pss_nil)))
      (pss_cons (ps_setLc (i := 6) (own := [("singer", 5)]) (g := (gName 5)) (tt := _) (by rfl) sc_barring.nd rfl rfl (sw_true rfl rfl rfl (by decide +kernel)) (show PI _ _ _ (iList K _) from pi_list (pe_callB (call_sortedDI (by rfl)) (by rfl) T.sorted (by decide +kernel) (pa_cons (pv 2) pa_nil))) (blkOk_by (by kernel_rfl)) (fun _ _ _ _ _ => (pg_name (i := 5) sc_barring.nd rfl (by first | exact Or.inl rfl | exact Or.inr rfl))) (fun _ _ _ _ _ => pts_one (pt_cmpR op_gt (pe_dget (hu_of hr) (pv 2) (pv 5) (fun _ _ => rfl)) (pv 3) (nomark _))) (fun _ _ _ _ _ => (pv 5)))
      (pss_one (ps_ret (pe_ifExp (pt_val (pe_fn (fn_bars T) (hr.mono (by first | decide | omega)) (by rfl) (pa_cons (pv 0) (pa_cons (pv 1) (pa_cons (pv 6) pa_nil))))) (pv 6) pe_non)))))), ?_⟩
    have hg0 := hg.1
    refine ⟨_, rfl, a, songs, rfl, ha, hl, fun d H1 nd s1 hd => ?_⟩
    refine ⟨_, rfl, a, _, rfl, .inl (s1.seq ha), _, rfl, _, _, rfl, rfl, _, _, rfl, rfl, ⟨by omega, hg.log⟩, ?_⟩
    refine ⟨_, rfl, a, _, rfl, .inl (s1.seq ha), _, rfl, _, _, rfl, rfl, _, _, rfl, rfl, (show 0 < gap + 1 by omega), ?_⟩
    refine ⟨by show 3 ≤ sizeLine; decide, fun t nt => ?_⟩
    refine to_new nt fun H2 s2 ht => ?_
    rw [List.length_map] at ht
    refine ⟨t, _, rfl, SqT.of ht, rfl, _, _, rfl, _, _, rfl, _, _, rfl, rfl, ?_⟩
    have s12 := s1.trans s2
    have hd2 := s2 _ _ hd
    have sl := sng_len songs
    refine ⟨_, rfl, d, _, keysC (countsOf songs), rfl, .inl hd2, toK_keys _, keys_few hs, fun ys p pm pw np => ?_⟩
    have eys := sng_of hs pm pw
    subst eys
    refine to_new np fun H3 s3 hp => ?_
    have s13 := s12.trans s3
    refine ⟨p, rfl, ⟨_, SqL.of hp⟩, for_list (K := K) (a := p) (xs := (sng songs).map V.int) (fun i σ H' => ∃ x5 : Option V, σ = [some (.ref a), some (.int gap), some (.ref d), some (.int ((songs.length : Int) / (gap + 1))), some (.int ((songs.length : Int) % (gap + 1))), x5, none] ∧ Same H3 H' ∧
      (sng songs).find? (fun s => barsP songs gap [s]) = ((sng songs).drop i).find? (fun s => barsP songs gap [s])) ?_ ?_ ?_ ?_⟩
    · exact ⟨_, rfl, Same.refl _, rfl⟩
    · rintro i σ G _ ⟨_, _, g, _⟩
      exact SqL.of (g _ _ hp)
    · rintro i v σ G hv ⟨x5, rfl, g, hf⟩
      obtain ⟨s, rfl, hsi⟩ := int_at hv
      have s1G := s13.trans g
      refine ⟨_, rfl, _, rfl, _, rfl, by show 1 ≤ sizeLine; decide, fun z nz => ?_⟩
      refine to_new nz fun G1 g1 hz => ?_
      have hdr : (sng songs).drop i = s :: (sng songs).drop (i + 1) := by
        obtain ⟨hlt, e⟩ := List.getElem?_eq_some_iff.mp hsi
        rw [List.drop_eq_getElem_cons hlt, e]
      rw [hdr] at hf
      refine ⟨a, z, songs, [s], gap, rfl, (s1G.trans g1).seq ha, hl, hg, SqL.of hz, by show 1 ≤ 900; decide, fun G2 g2 => ⟨_, rfl, ?_⟩⟩
      cases hB : barsP songs gap [s] with
      | true =>
        rw [List.find?_cons_of_pos (p := fun s => barsP songs gap [s]) hB] at hf
        have eb : barring songs gap = some [s] := by unfold barring; rw [hf]
        refine iteT ⟨_, rfl, by show 1 ≤ sizeLine; decide, fun b nb => ?_⟩
        have sG2 := s1G.trans (g1.trans g2)
        exact q1 [s] eb b _ (sG2.free nb) (sG2.trans (Same.new nb)) upd_same
      | false =>
        rw [List.find?_cons_of_neg (p := fun s => barsP songs gap [s]) (by rw [hB]; decide)] at hf
        exact iteF ⟨_, rfl, g.trans (g1.trans g2), hf⟩
    · rintro σ G ⟨x5, rfl, g, hf⟩
      rw [List.length_map, List.drop_length] at hf
      have hf : (sng songs).find? (fun s => barsP songs gap [s]) = none := hf
      have s1G := s13.trans g
      have hdG := (s3.trans g) _ _ hd2
      refine ⟨_, rfl, d, _, keysC (countsOf songs), rfl, .inl hdG, toK_keys _, keys_few hs, fun ys p2 pm2 pw2 np2 => ?_⟩
      have eys := sng_of hs pm2 pw2
      subst eys
      refine to_new np2 fun G1 g1 hp2 => ?_
      refine ⟨p2, rfl, ⟨_, SqL.of hp2⟩, fun D nD => lc_pure walk_list sqL_mono (SqL.of hp2) (selF (sng songs) fun s => decide ((songs.count s : Int) > whole songs gap)) nD (by rw [List.length_map]; omega) ?_ ?_⟩
      · rintro i x G2 G3 hi g2 ⟨rfl, hx⟩ k kn hk hkn
        obtain ⟨s, rfl, hsi⟩ := int_at hx
        have hsm : s ∈ songs := (mem_sng hs).mp (List.mem_of_getElem? hsi)
        refine ⟨rfl, _, rfl, _, rfl, d, _, rfl, counts_in ((g1.trans g2) _ _ hdG) hsm, _, rfl, _, _, rfl, rfl, _, rfl, ?_⟩
        by_cases c : (songs.count s : Int) > whole songs gap
        · rw [decide_eq_true (show (songs.count s : Int) > (songs.length : Int) / (gap + 1) from c)]
          refine iteT ⟨_, rfl, hk _ _ ?_ (Same.refl _)⟩
          unfold selF
          rw [hsi]
          show (if decide _ = true then _ else _) = _
          rw [decide_eq_true c, if_pos rfl]
        · rw [decide_eq_false (show ¬ (songs.count s : Int) > (songs.length : Int) / (gap + 1) from c)]
          refine iteF (hkn _ ?_ (Same.refl _))
          unfold selF
          rw [hsi]
          show (if decide _ = true then _ else _) = _
          rw [decide_eq_false c]; rfl
      · intro G2 g2 hD
        rw [List.length_map, selF_all] at hD
        have hD : G2 D = some (.lst ((full songs gap).map V.int)) := hD
        have fl : (full songs gap).length ≤ 6 := Nat.le_trans (List.length_filter_le _ _) sl
        have s1G2 := s1G.trans (g1.trans g2)
        refine ⟨_, rfl, _, rfl, _, rfl, a, D, songs, full songs gap, gap, rfl, s1G2.seq ha, hl, hg, SqL.of hD, by omega, fun G3 g3 => ⟨_, rfl, ?_⟩⟩
        cases hB : barsP songs gap (full songs gap) with
        | true =>
          have eb : barring songs gap = some (full songs gap) := by unfold barring; rw [hf]; exact if_pos hB
          exact iteT ⟨_, rfl, q1 _ eb D G3 ((s1G.trans g1).free nD) (s1G2.trans g3) (g3 _ _ hD)⟩
        | false =>
          have eb : barring songs gap = none := by unfold barring; rw [hf]; exact if_neg (by rw [hB]; decide)
          exact iteF (q0 eb _ (s1G2.trans g3))
theorem sc_keeps : FnScope ["songs", "order", "gap", "least"] ["songs", "order", "gap"] (defScope s_keeps) := ⟨rfl, rfl, rfl, by decide +kernel, rfl, by decide +kernel, by decide +kernel⟩
def sp_keeps (K : PySem.W.Frag) : Sp := fun vs H Q _ => ∃ (a b : Addr) (cs : List V) (R : List (List Int)) (os : List Int) (gap : Int), vs = [.ref a, .ref b, .int gap] ∧ SqL K H a cs ∧ Rows K H cs R ∧ (∀ r ∈ R, r.length ≤ 3) ∧ SqL K H b (os.map V.int) ∧ InB R.length os ∧ os.length ≤ 100 ∧
  ∀ H', Same H H' → Q (.bl (match least (pick R os) with | none => true | some m => decide (m ≥ gap))) H'
theorem fn_keeps (T : Tx K mg) : Fn P w K mg base "keeps" 2 (sp_keeps K) := by
  obtain ⟨fd, F⟩ := T.d_keeps
  refine ⟨_, fd, _, F.ok (CX := CX0) sc_keeps (fun vs H Q E h => ?_) (fun cdv A outer s H vs Q E hr h => ?_), T.g_keeps, F.kp, F.bindsN fun _ _ _ _ _ _ us hl => match us, hl with | [_, _, _], _ => rfl⟩
  · obtain ⟨a, b, cs, R, os, gap, rfl, _⟩ := h; rfl
  · obtain ⟨a, b, cs, R, os, gap, rfl, ha, hR, h3, hb, hi, hl, q⟩ := h
    refine ⟨_, PSs.nox (pss_cons (ps_set (i := 3) sc_keeps.nd rfl (by first | exact Or.inl rfl | exact Or.inr rfl) (pe_fn (fn_least_between T) (hr.mono (by first | decide | omega)) (by rfl) (pa_cons (pv 0) (pa_cons (pv 1) pa_nil))))
      (pss_one (ps_ret (pe_or (pe_cmpR op_isN (pv 3) pe_non (nomark _)) (pe_one (pe_cmpR op_ge (pv 3) (pv 2) (nomark _))))))), ?_⟩
    refine ⟨_, rfl, _, rfl, a, b, cs, R, os, rfl, ha, hR, h3, hb, hi, hl, fun H1 s1 => ?_⟩
    have z := q H1 s1
    refine ⟨_, rfl, rfl, _, rfl, ?_⟩
    cases e : least (pick R os) with
    | none =>
      rw [e] at z
      exact iteT z
    | some m =>
      rw [e] at z
      exact iteF ⟨_, rfl, _, rfl, _, _, rfl, rfl, z⟩
theorem sc_turns_in : FnScope ["many", "wide", "found", "rest"] ["many", "wide"] (defScope s_turns_in) := ⟨rfl, rfl, rfl, by decide +kernel, rfl, by decide +kernel, by decide +kernel⟩
def sp_turns_in : Sp := fun vs H Q _ => ∃ n k : Nat, vs = [.int n, .int k] ∧ 0 < k ∧ (k : Int) < 2 ^ 101 ∧ n ≤ 900 ∧ ∀ l H', H l = none → Same H H' → H' l = some (.lst ((turnsIn n k).map V.int)) → Q (.ref l) H'
theorem rg_cls {n k c : Nat} (hk : 0 < k) (hc : c < n) : Builtin.Range.rangeSize (c : Int) (n : Int) (k : Int) = (((n - c - 1) / k + 1 : Nat) : Int) := by
  unfold Builtin.Range.rangeSize
  rw [if_pos (by omega), if_pos (by omega), show (n : Int) - c - 1 = ((n - c - 1 : Nat) : Int) by omega]
  rfl
theorem rg_clsV (n k c : Nat) : rgVc (c : Int) (k : Int) ((n - c - 1) / k + 1) = (cls n k c).map V.int := by
  unfold rgVc cls
  rw [List.map_map]
  refine List.map_congr_left fun i _ => ?_
  show V.int _ = V.int _
  congr 1
theorem fn_turns_in (T : Tx K mg) : Fn P w K mg base "turns_in" 1 sp_turns_in := by
  obtain ⟨fd, F⟩ := T.d_turns_in
  refine ⟨_, fd, _, F.ok (CX := CX0) sc_turns_in (fun vs H Q E h => ?_) (fun cdv A outer s H vs Q E hr h => ?_), T.g_turns_in, F.kp, F.bindsN fun _ _ _ _ _ _ us hl => match us, hl with | [_, _], _ => rfl⟩
  · obtain ⟨n, k, rfl, _⟩ := h; rfl
  · obtain ⟨n, k, rfl, hk, hk2, hn, q⟩ := h
    refine ⟨_, PSs.nox (pss_cons (ps_set (i := 2) sc_turns_in.nd rfl (by first | exact Or.inl rfl | exact Or.inr rfl) (pe_lst pa_nil))
      (pss_cons (ps_for PassesOwn.never rfl (pi_range3 (by rfl) T.range (pa_cons (pe_op op_sub (pe_callB (call_min2 (by rfl)) (by rfl) T.min (by decide +kernel) (pa_cons (pv 1) (pa_cons (pv 0) pa_nil))) pe_int) (pa_cons (pe_un un_neg pe_int) (pa_cons (pe_un un_neg pe_int) pa_nil)))) (pg_name (i := 3) sc_turns_in.nd rfl (by first | exact Or.inl rfl | exact Or.inr rfl))
      (pss_one (ps_expr (show PE _ _ (tBM K _ _ _ _) from pe_bm PySem.F.plainAttrs_list PySem.F.slot_list_extend PySem.F.type_list_extend mt_extend (pv 2) (pa_cons (pe_listRg3 (by rfl) (by rfl) T.list (by rfl) T.range (pa_cons (pv 3) (pa_cons (pv 0) (pa_cons (pv 1) pa_nil)))) pa_nil)))))
      (pss_one (ps_ret (pv 2))))), ?_⟩
    refine ⟨Nat.zero_le _, fun l nl => ?_⟩
    refine to_new nl fun H1 s1 hl => ?_
    have em : (if (n : Int) < (k : Int) then (n : Int) else (k : Int)) = ((min k n : Nat) : Int) := by
      split <;> omega
    refine ⟨_, rfl, _, rfl, _, _, rfl, ?_⟩
    rw [em]
    generalize hm : min k n = m
    have m1 : m ≤ k := by omega
    have m2 : m ≤ n := by omega
    have et : turnsIn n k = Tn n k m := by unfold turnsIn; rw [hm]
    have rg : RgC ((m : Int) - 1) (-1) (-1) m := by
      have z := RgC.neg (i := (m : Int) - 1) (j := -1) (by omega) (by omega) (by decide) (by decide)
      rw [show ((m : Int) - 1 - -1).toNat = m by omega] at z
      exact z
    refine ⟨_, _, rfl, rfl, _, rfl, _, rfl, _, _, _, m, rfl, rg, for_rangeC (fun i σ H' => ∃ (x3 : Option V) (acc : List Int), σ = [some (.int n), some (.int k), some (.ref l), x3] ∧ Fra [l] H1 H' ∧ H' l = some (.lst (acc.map V.int)) ∧ acc ++ Tn n k (m - i) = Tn n k m) ?_ ?_ ?_⟩
    · exact ⟨_, [], rfl, Fra.refl _ _, hl, rfl⟩
    · rintro i σ G hi ⟨x3, acc, rfl, f, hG, hacc⟩
      obtain ⟨c, hc⟩ : ∃ c, m - i = c + 1 := ⟨m - i - 1, by omega⟩
      have ev : (m : Int) - 1 + (i : Int) * -1 = (c : Int) := by omega
      rw [ev]
      rw [hc] at hacc
      have lenT := Tn_len (n := n) hk m m1 m2
      have lt : (turnsIn n k).length = n := turns_len hk
      rw [et] at lt
      have la := congrArg List.length hacc
      rw [lt, List.length_append] at la
      have lc : (cls n k c).length ≤ n := by
        have : (Tn n k (c + 1)).length = (cls n k c).length + (Tn n k c).length := List.length_append
        omega
      have lcs := cls_len n k c
      refine ⟨_, rfl, .inl ⟨rfl, _, SqL.of hG⟩, _, rfl, _, rfl, _, rfl, _, _, _, _, rfl, by omega, PyProof.noPylong_of_log2 ?_, rg_cls hk (by omega), by omega, fun z nz => ?_⟩
      · refine Nat.lt_of_lt_of_le ((Nat.log2_lt (k := 101) (by omega)).mpr ?_) (by decide)
        have : ((k : Int)).natAbs = k := rfl
        rw [this]
        exact Int.ofNat_lt.mp hk2
      rw [rg_clsV]
      refine to_new nz fun G1 g1 hz => ?_
      refine ⟨l, z, _, _, rfl, rfl, g1 _ _ hG, hz, ?_, ?_⟩
      · rw [List.length_map, List.length_map]
        have := lt_line (n := acc.length + (cls n k c).length) (by
          have : (Tn n k (c + 1)).length = (cls n k c).length + (Tn n k c).length := List.length_append
          omega)
        omega
      refine to_put fun G2 f2 h2 => ?_
      refine ⟨_, acc ++ cls n k c, rfl, f.trans ((Fra.of g1).trans f2), by rw [List.map_append]; exact h2, ?_⟩
      rw [show m - (i + 1) = c by omega, List.append_assoc]
      exact hacc
    · rintro σ G ⟨x3, acc, rfl, f, hG, hacc⟩
      rw [Nat.sub_self] at hacc
      have e : acc = Tn n k m := by rw [← hacc]; exact (List.append_nil _).symm
      rw [e, ← et] at hG
      exact ⟨_, rfl, q l G nl (f.back s1 (fun x hx => by rw [List.mem_singleton.mp hx]; exact nl)) hG⟩
end
end Song

/-! ### Gw6: order_for, check_songs, the answers Spaced and Barred, spaced -/
namespace Song
open PySem L2
theorem barring_len {songs : List Int} {gap : Int} {ss : List Int} (h : barring songs gap = some ss) : ss.length ≤ 6 := by
  unfold barring at h
  cases e : (sng songs).find? fun s => barsP songs gap [s] with
  | some s => rw [e] at h; rw [← Option.some.inj h]; show 1 ≤ 6; decide
  | none =>
    rw [e] at h
    dsimp only at h
    split at h
    · rw [← Option.some.inj h]; exact Nat.le_trans (List.length_filter_le _ _) (sng_len songs)
    · cases h
theorem orderFor_len (songs : List Int) (gap : Int) : (orderFor songs gap).length = songs.length := by
  unfold orderFor
  rw [setAts_len, List.length_replicate]
section
variable {P : Program} {w : World} {K : PySem.W.Frag} {mg : Str → Option Value} {base : Heap}
theorem sc_order_for : FnScope ["songs", "gap", "counts", "whole", "few", "singer", "full", "places", "place", "one", "found", "turn"] ["songs", "gap"] (defScope s_order_for) := ⟨rfl, rfl, rfl, by decide +kernel, rfl, by decide +kernel, by decide +kernel⟩
def sp_order_for (K : PySem.W.Frag) : Sp := fun vs H Q _ => ∃ (a : Addr) (songs : List Int) (gap : Int), vs = [.ref a, .int gap] ∧ SqL K H a (songs.map V.int) ∧ songs.length ≤ 60 ∧ SgOk songs ∧ GapOk gap ∧
  ∀ b H', H b = none → Same H H' → H' b = some (.lst ((orderFor songs gap).map V.int)) → Q (.ref b) H'
theorem rep0 (n : Nat) : (List.replicate n [V.int 0]).flatten = (List.replicate n (0 : Int)).map V.int := by rw [rep_flat, rep_ints]
theorem set_ints (l : List Int) (j : Nat) (x : Int) : (l.map V.int).set j (V.int x) = (l.set j x).map V.int := by rw [List.map_set]
theorem fn_order_for (T : Tx K mg) : Fn P w K mg base "order_for" 2 (sp_order_for K) := by
  obtain ⟨fd, F⟩ := T.d_order_for
  refine ⟨_, fd, _, F.ok (CX := CX0) sc_order_for (fun vs H Q E h => ?_) (fun cdv A outer s H vs Q E hr h => ?_), T.g_order_for, F.kp, F.bindsN fun _ _ _ _ _ _ us hl => match us, hl with | [_, _], _ => rfl⟩
  · obtain ⟨a, songs, gap, rfl, _⟩ := h; rfl
  · obtain ⟨a, songs, gap, rfl, ha, hl, hs, hg, q⟩ := h
    refine ⟨_, PSs.nox (pss_cons (ps_asg (pe_tup (pa_cons (pe_fn (fn_counts_of T) (hr.mono (by first | decide | omega)) (by rfl) (pa_cons (pv 0) pa_nil)) (pa_cons (pe_op op_fdivW (pe_callB (show CallR _ _ (rLenQ K) from call_len_seq) (by rfl) T.len (by decide +kernel) (pa_cons (pv 0) pa_nil)) (pe_op op_add (pv 1) pe_int)) pa_nil))) (show PG _ _ (gTup K _ _) from pg_tup rfl (pgs_cons (pg_name (i := 2) sc_order_for.nd rfl (by first | exact Or.inl rfl | exact Or.inr rfl)) (pgs_cons (pg_name (i := 3) sc_order_for.nd rfl (by first | exact Or.inl rfl | exact Or.inr rfl)) pgs_nil))))
      (pss_cons (ps_setLc (i := 4) (own := [("singer", 5)]) (g := (gName 5)) (tt := _) (by rfl) sc_order_for.nd rfl rfl (sw_true rfl rfl rfl (by decide +kernel)) (show PI _ _ _ (iList K _) from pi_list (pe_callB (call_sortedDI (by rfl)) (by rfl) T.sorted (by decide +kernel) (pa_cons (pv 2) pa_nil))) (blkOk_by (by kernel_rfl)) (fun _ _ _ _ _ => (pg_name (i := 5) sc_order_for.nd rfl (by first | exact Or.inl rfl | exact Or.inr rfl))) (fun _ _ _ _ _ => pts_one (pt_cmpR op_le (pe_dget (hu_of hr) (pv 2) (pv 5) (fun _ _ => rfl)) (pv 3) (nomark _))) (fun _ _ _ _ _ => (pv 5)))
      (pss_cons (ps_setLc (i := 6) (own := [("singer", 5)]) (g := (gName 5)) (tt := _) (by rfl) sc_order_for.nd rfl rfl (sw_true rfl rfl rfl (by decide +kernel)) (show PI _ _ _ (iList K _) from pi_list (pe_callB (call_sortedDI (by rfl)) (by rfl) T.sorted (by decide +kernel) (pa_cons (pv 2) pa_nil))) (blkOk_by (by kernel_rfl)) (fun _ _ _ _ _ => (pg_name (i := 5) sc_order_for.nd rfl (by first | exact Or.inl rfl | exact Or.inr rfl))) (fun _ _ _ _ _ => pts_one (pt_cmpR op_gt (pe_dget (hu_of hr) (pv 2) (pv 5) (fun _ _ => rfl)) (pv 3) (nomark _))) (fun _ _ _ _ _ => (pv 5)))
      (pss_cons (ps_set (i := 7) sc_order_for.nd rfl (by first | exact Or.inl rfl | exact Or.inr rfl) (pe_lst pa_nil))
      (pss_cons (ps_for PassesOwn.never rfl (show PI _ _ _ (iList K _) from pi_list (pe_op op_cat (pv 4) (pv 6))) (pg_name (i := 5) sc_order_for.nd rfl (by first | exact Or.inl rfl | exact Or.inr rfl))
      (pss_one (ps_expr (show PE _ _ (tBM K _ _ _ _) from pe_bm PySem.F.plainAttrs_list PySem.F.slot_list_extend PySem.F.type_list_extend mt_extend (pv 7) (pa_cons (pe_lc (own := [("place", 8), ("one", 9)]) (g := (gTup K 2 (gCons (gName 8) (gCons (gName 9) gNil)))) (tt := _) (by rfl) sc_order_for.nd (show PI _ _ _ (iEnum K _) from pi_enum (by rfl) T.enumerate (pa_cons (pv 0) pa_nil)) (blkOk_by (by kernel_rfl)) (fun _ _ _ _ _ => (show PG _ _ (gTup K _ _) from pg_tup rfl (pgs_cons (pg_name (i := 8) sc_order_for.nd rfl (by first | exact Or.inl rfl | exact Or.inr rfl)) (pgs_cons (pg_name (i := 9) sc_order_for.nd rfl (by first | exact Or.inl rfl | exact Or.inr rfl)) pgs_nil)))) (fun _ _ _ _ _ => pts_one (pt_cmpR op_eq (pv 9) (pv 5) (nomark _))) (fun _ _ _ _ _ => (pv 8))) pa_nil)))))
      (pss_cons (ps_set (i := 10) sc_order_for.nd rfl (by first | exact Or.inl rfl | exact Or.inr rfl) (pe_op op_rep (pe_lst (pa_cons pe_int pa_nil)) (pe_callB (show CallR _ _ (rLenQ K) from call_len_seq) (by rfl) T.len (by decide +kernel) (pa_cons (pv 0) pa_nil))))
      (pss_cons (ps_for PassesOwn.never rfl (show PI _ _ _ (iZip K _) from pi_zip (by rfl) T.zip (pa_cons (pv 7) (pa_cons (pe_fn (fn_turns_in T) (hr.mono (by first | decide | omega)) (by rfl) (pa_cons (pe_callB (show CallR _ _ (rLenQ K) from call_len_seq) (by rfl) T.len (by decide +kernel) (pa_cons (pv 0) pa_nil)) (pa_cons (pe_op op_add (pv 1) pe_int) pa_nil))) pa_nil))) (show PG _ _ (gTup K _ _) from pg_tup rfl (pgs_cons (pg_name (i := 8) sc_order_for.nd rfl (by first | exact Or.inl rfl | exact Or.inr rfl)) (pgs_cons (pg_name (i := 11) sc_order_for.nd rfl (by first | exact Or.inl rfl | exact Or.inr rfl)) pgs_nil)))
      (pss_one (ps_asg (pv 8) (pg_sub (pv 10) (pv 11) set_list))))
      (pss_one (ps_ret (pv 10)))))))))), ?_⟩
    have hg0 := hg.1
    have hg1 := hg.2
    have sl := sng_len songs
    refine ⟨_, rfl, a, songs, rfl, ha, by omega, fun d H1 nd s1 hd => ?_⟩
    refine ⟨_, rfl, a, _, rfl, .inl (s1.seq ha), _, rfl, _, _, rfl, rfl, _, _, rfl, rfl, ⟨by omega, hg.log⟩, ?_⟩
    refine ⟨by show 2 ≤ sizeLine; decide, fun t nt => ?_⟩
    refine to_new nt fun H2 s2 ht => ?_
    rw [List.length_map] at ht
    refine ⟨t, _, rfl, SqT.of ht, rfl, _, _, rfl, _, _, rfl, rfl, ?_⟩
    have s12 := s1.trans s2
    have hd2 := s2 _ _ hd
    refine ⟨_, rfl, d, _, keysC (countsOf songs), rfl, .inl hd2, toK_keys _, keys_few hs, fun ys p2 pm2 pw2 np2 => ?_⟩
    have eys := sng_of hs pm2 pw2
    subst eys
    refine to_new np2 fun G1 g1 hp2 => ?_
    refine ⟨p2, rfl, ⟨_, SqL.of hp2⟩, fun D nD => lc_pure walk_list sqL_mono (SqL.of hp2) (selF (sng songs) fun s => decide ((songs.count s : Int) ≤ whole songs gap)) nD (by rw [List.length_map]; omega) ?_ ?_⟩
    · rintro i x G2 G3 hi g2 ⟨rfl, hx⟩ k kn hk hkn
      obtain ⟨s, rfl, hsi⟩ := int_at hx
      have hsm : s ∈ songs := (mem_sng hs).mp (List.mem_of_getElem? hsi)
      refine ⟨rfl, _, rfl, _, rfl, d, _, rfl, counts_in ((g1.trans g2) _ _ hd2) hsm, _, rfl, _, _, rfl, rfl, _, rfl, ?_⟩
      by_cases c : (songs.count s : Int) ≤ whole songs gap
      · rw [decide_eq_true (show (songs.count s : Int) ≤ (songs.length : Int) / (gap + 1) from c)]
        refine iteT ⟨_, rfl, hk _ _ ?_ (Same.refl _)⟩
        unfold selF
        rw [hsi]
        show (if decide _ = true then _ else _) = _
        rw [decide_eq_true c, if_pos rfl]
      · rw [decide_eq_false (show ¬ (songs.count s : Int) ≤ (songs.length : Int) / (gap + 1) from c)]
        refine iteF (hkn _ ?_ (Same.refl _))
        unfold selF
        rw [hsi]
        show (if decide _ = true then _ else _) = _
        rw [decide_eq_false c]; rfl
    intro H3 s3 hD
    rw [List.length_map, selF_all] at hD
    have hD : H3 D = some (.lst ((few songs gap).map V.int)) := hD
    have fwl : (few songs gap).length ≤ 6 := Nat.le_trans (List.length_filter_le _ _) sl
    have s13 := s12.trans (g1.trans s3)
    have hd3 := (g1.trans s3) _ _ hd2
    refine ⟨_, rfl, d, _, keysC (countsOf songs), rfl, .inl hd3, toK_keys _, keys_few hs, fun ys p3 pm3 pw3 np3 => ?_⟩
    have eys := sng_of hs pm3 pw3
    subst eys
    refine to_new np3 fun G4 g4 hp3 => ?_
    refine ⟨p3, rfl, ⟨_, SqL.of hp3⟩, fun E nE => lc_pure walk_list sqL_mono (SqL.of hp3) (selF (sng songs) fun s => decide ((songs.count s : Int) > whole songs gap)) nE (by rw [List.length_map]; omega) ?_ ?_⟩
    · rintro i x G2 G3 hi g2 ⟨rfl, hx⟩ k kn hk hkn
      obtain ⟨s, rfl, hsi⟩ := int_at hx
      have hsm : s ∈ songs := (mem_sng hs).mp (List.mem_of_getElem? hsi)
      refine ⟨rfl, _, rfl, _, rfl, d, _, rfl, counts_in ((g4.trans g2) _ _ hd3) hsm, _, rfl, _, _, rfl, rfl, _, rfl, ?_⟩
      by_cases c : (songs.count s : Int) > whole songs gap
      · rw [decide_eq_true (show (songs.count s : Int) > (songs.length : Int) / (gap + 1) from c)]
        refine iteT ⟨_, rfl, hk _ _ ?_ (Same.refl _)⟩
        unfold selF
        rw [hsi]
        show (if decide _ = true then _ else _) = _
        rw [decide_eq_true c, if_pos rfl]
      · rw [decide_eq_false (show ¬ (songs.count s : Int) > (songs.length : Int) / (gap + 1) from c)]
        refine iteF (hkn _ ?_ (Same.refl _))
        unfold selF
        rw [hsi]
        show (if decide _ = true then _ else _) = _
        rw [decide_eq_false c]; rfl
    intro H5 s5 hE
    rw [List.length_map, selF_all] at hE
    have hE : H5 E = some (.lst ((full songs gap).map V.int)) := hE
    have fll : (full songs gap).length ≤ 6 := Nat.le_trans (List.length_filter_le _ _) sl
    have s35 := g4.trans s5
    have s15 := s13.trans s35
    refine ⟨Nat.zero_le _, fun l nl => ?_⟩
    refine to_new nl fun H6 s6 hl6 => ?_
    refine ⟨_, rfl, _, rfl, D, E, _, _, rfl, rfl, s6 _ _ (s35 _ _ hD), s6 _ _ hE, ?_, fun z nz => ?_⟩
    · rw [List.length_map, List.length_map]
      have := lt_line (n := (few songs gap).length + (full songs gap).length) (by omega)
      omega
    rw [← List.map_append]
    refine to_new nz fun H7 s7 hz => ?_
    have s16 := s15.trans s6
    have s17 := s16.trans s7
    have nzl : z ≠ l := (ne_of_none hl6 nz).symm
    have nlH : H l = none := s15.free nl
    generalize hsf : few songs gap ++ full songs gap = sf at *
    have sfl : sf.length ≤ 12 := by rw [← hsf, List.length_append]; omega
    refine ⟨z, rfl, ⟨_, SqL.of hz⟩, for_list (K := K) (a := z) (xs := sf.map V.int) (fun i σ H' => ∃ (x5 x8 x9 : Option V), σ = [some (.ref a), some (.int gap), some (.ref d), some (.int ((songs.length : Int) / (gap + 1))), some (.ref D), x5, some (.ref E), some (.ref l), x8, x9, none, none] ∧
      Fra [l] H7 H' ∧ H' l = some (.lst ((placesOf songs (sf.take i)).map V.int)) ∧ (placesOf songs (sf.take i)).length ≤ 60 * i) ?_ ?_ ?_ ?_⟩
    · exact ⟨_, _, _, rfl, Fra.refl _ _, s7 _ _ hl6, Nat.le_refl _⟩
    · rintro i σ G _ ⟨_, _, _, _, f, _⟩
      exact SqL.of (f.one nzl hz)
    · rintro i v σ G hv ⟨x5, x8, x9, rfl, f, hG, hpl⟩
      obtain ⟨s, rfl, hsi⟩ := int_at hv
      have hi : i < sf.length := (List.getElem?_eq_some_iff.mp hsi).1
      have sG : Same H G := f.back s17 (fun x hx => by rw [List.mem_singleton.mp hx]; exact nlH)
      have haG := sG.seq ha
      refine ⟨_, rfl, .inl ⟨rfl, _, SqL.of hG⟩, _, rfl, a, _, rfl, haG, fun W nW => lc_pure walk_enum sqL_mono haG (spotF s (singles songs)) nW (by rw [List.length_map]; omega) ?_ ?_⟩
      · rintro k v H3 H4 hk s3 ⟨t, x, y, rfl, nt, rfl, hx, hy⟩ kk kn hkk hkn
        cases hx
        obtain ⟨o, rfl, ho⟩ := int_at hy
        have sT : Same H3 _ := Same.new (o := .tup [V.int (k : Nat), V.int o]) nt
        refine ⟨t, _, rfl, SqT.of upd_same, rfl, _, _, rfl, _, _, rfl, rfl, rfl, ?_⟩
        refine ⟨_, rfl, _, rfl, rfl, _, rfl, ?_⟩
        have hk2 : k < songs.length := (List.getElem?_eq_some_iff.mp ho).1
        have er : (singles songs).getD k [] = [o] := by
          rw [singles_getD hk2, List.getD_eq_getElem?_getD, ho]; rfl
        by_cases hm : o = s
        · rw [decide_eq_true (congrArg V.int hm)]
          refine iteT ⟨_, rfl, hkk _ _ ?_ sT⟩
          unfold spotF
          rw [er, if_pos (by rw [hm]; exact List.mem_singleton.mpr rfl)]
        · rw [decide_eq_false (fun z => hm (by injection z))]
          refine iteF (hkn _ ?_ sT)
          unfold spotF
          rw [er, if_neg (fun z => hm (List.mem_singleton.mp z).symm)]
      · intro G1 g1 hW
        rw [List.length_map, ← singles_len, spotF_all] at hW
        have pl := placesOf_map songs (sf.take i)
        have spl : (spots s (singles songs)).length ≤ 60 := by
          rw [places_len]
          exact Nat.le_trans List.count_le_length hl
        refine ⟨l, W, _, _, rfl, rfl, g1 _ _ hG, hW, ?_, ?_⟩
        · rw [List.length_map, List.length_map]
          have := lt_line (n := (placesOf songs (sf.take i)).length + (spots s (singles songs)).length) (by omega)
          omega
        refine to_put fun G2 f2 h2 => ?_
        have e : placesOf songs (sf.take (i + 1)) = placesOf songs (sf.take i) ++ spots s (singles songs) := by
          obtain ⟨hlt, eo⟩ := List.getElem?_eq_some_iff.mp hsi
          unfold placesOf
          rw [List.take_succ_eq_append_getElem hlt, List.flatMap_append, eo]
          simp
        refine ⟨_, _, _, rfl, f.trans ((Fra.of g1).trans f2), ?_, ?_⟩
        · rw [e, List.map_append]; exact h2
        · rw [e, List.length_append]; omega
    · rintro σ G ⟨x5, x8, x9, rfl, f, hG, _⟩
      rw [List.length_map, List.take_length] at hG
      have sG : Same H G := f.back s17 (fun x hx => by rw [List.mem_singleton.mp hx]; exact nlH)
      refine ⟨by show 1 ≤ sizeLine; decide, fun y ny => ?_⟩
      refine to_new ny fun G1 g1 hy => ?_
      have sG1 := sG.trans g1
      refine ⟨_, rfl, a, _, rfl, .inl (sG1.seq ha), y, _, _, rfl, rfl, hy, by omega, by rw [List.length_map]; omega, ?_, fun fo nfo => ?_⟩
      · rw [List.length_map]
        show 1 * ((songs.length : Int)).toNat ≤ sizeLine
        have := lt_line (n := songs.length) (by omega)
        omega
      rw [List.length_map, show ((songs.length : Int)).toNat = songs.length by omega, rep0]
      refine to_new nfo fun G2 g2 hfo => ?_
      have sG2 := sG1.trans g2
      have hk : ((gap.toNat + 1 : Nat) : Int) = gap + 1 := by omega
      refine ⟨_, rfl, _, rfl, a, _, rfl, .inl (sG2.seq ha), _, rfl, _, _, rfl, rfl, songs.length, gap.toNat + 1, ?_, by omega, by omega, by omega, fun tt G3 ntt g3 htt => ?_⟩
      · rw [List.length_map, hk]; rfl
      have hl3 := (g1.trans (g2.trans g3)) _ _ hG
      have hfo3 := g3 _ _ hfo
      have nlf : l ≠ fo := ne_of_none (g1 _ _ hG) nfo
      have ntf : tt ≠ fo := (ne_of_none hfo ntt).symm
      have sG3 := sG2.trans g3
      have nfoH : H fo = none := sG1.free nfo
      have pP : (placesOf songs sf).Perm (upto songs.length) := by
        obtain ⟨f1, f2⟩ := filter_split songs gap
        rw [← hsf]
        exact placesOf_perm f1 fun s h => (f2 s).mpr ((mem_sng hs).mpr h)
      have lP : (placesOf songs sf).length = songs.length := by rw [pP.length_eq, upto_len]
      have hw : 0 < gap.toNat + 1 := by omega
      have lT := turns_len (n := songs.length) hw
      have iT : InB songs.length (turnsIn songs.length (gap.toNat + 1)) := perm_in (turns_perm hw)
      have eo : orderFor songs gap = ((placesOf songs sf).zip (turnsIn songs.length (gap.toNat + 1))).foldl setAt (List.replicate songs.length 0) := by unfold orderFor; rw [hsf]
      generalize placesOf songs sf = PL at *
      generalize turnsIn songs.length (gap.toNat + 1) = TT at *
      have zl : (PL.zip TT).length = songs.length := by rw [List.length_zip]; omega
      refine ⟨l, tt, _, _, rfl, SqL.of hl3, SqL.of htt, for_it (walk_zip (xs := PL.map V.int) (ys := TT.map V.int) rfl) (fun i σ H' => ∃ (x8 x11 : Option V), σ = [some (.ref a), some (.int gap), some (.ref d), some (.int ((songs.length : Int) / (gap + 1))), some (.ref D), x5, some (.ref E), some (.ref l), x8, x9, some (.ref fo), x11] ∧
        Fra [fo] G3 H' ∧ H' fo = some (.lst ((((PL.zip TT).take i).foldl setAt (List.replicate songs.length 0)).map V.int))) ?_ ?_ ?_ ?_⟩
      · exact ⟨_, _, rfl, Fra.refl _ _, hfo3⟩
      · rintro i σ W _ ⟨_, _, _, f3, _⟩
        exact ⟨SqL.of (f3.one nlf hl3), SqL.of (f3.one ntf htt)⟩
      · rintro i v σ W W2 hi ⟨y8, y11, rfl, f3, hW⟩ ⟨t, x, y, rfl, nt, rfl, hx, hy⟩
        obtain ⟨pl, rfl, hp⟩ := int_at hx
        obtain ⟨tu, rfl, htu⟩ := int_at hy
        have hin := iT tu (List.mem_of_getElem? htu)
        refine ⟨t, _, rfl, SqT.of upd_same, rfl, _, _, rfl, _, _, rfl, rfl, ?_⟩
        have hz : (PL.zip TT)[i]? = some (pl, tu) := by rw [List.getElem?_zip_eq_some]; exact ⟨hp, htu⟩
        refine to_new nt fun W3 w3 _ => ?_
        have ll : (((PL.zip TT).take i).foldl setAt (List.replicate songs.length 0)).length = songs.length := by rw [setAts_len, List.length_replicate]
        refine ⟨_, rfl, _, rfl, _, rfl, fo, _, tu, tu.toNat, rfl, rfl, w3 _ _ hW, ixN_of hin.1 (by rw [List.length_map, ll]; exact hin.2), ?_⟩
        rw [set_ints]
        refine to_put fun W4 f4 h4 => ?_
        refine ⟨_, _, rfl, f3.trans ((Fra.of w3).trans f4), ?_⟩
        rw [foldl_take _ _ _ _ _ hz]
        exact h4
      · rintro σ W ⟨y8, y11, rfl, f3, hW⟩
        have e : min (PL.map V.int).length (TT.map V.int).length = (PL.zip TT).length := by rw [List.length_map, List.length_map, List.length_zip]
        rw [e, List.take_length, ← eo] at hW
        exact ⟨_, rfl, q fo W nfoH (f3.back sG3 (fun x hx => by rw [List.mem_singleton.mp hx]; exact nfoH)) hW⟩
theorem sc_check_songs : FnScope ["songs", "one"] ["songs"] (defScope s_check_songs) := ⟨rfl, rfl, rfl, by decide +kernel, rfl, by decide +kernel, by decide +kernel⟩
/-- songs of one singer each -/
def SongsOk (songs : List Int) : Prop := songs.length ≤ 24 ∧ SgOk songs
def sp_check_songs (K : PySem.W.Frag) : Sp := fun vs H Q _ => ∃ (a : Addr) (songs : List Int), vs = [.ref a] ∧ SqL K H a (songs.map V.int) ∧ SongsOk songs ∧ ∀ H', Same H H' → Q .non H'
theorem fn_check_songs (T : Tx K mg) : Fn P w K mg base "check_songs" 3 (sp_check_songs K) := by
  obtain ⟨fd, F⟩ := T.d_check_songs
  refine ⟨_, fd, _, F.ok (CX := CX0) sc_check_songs (fun vs H Q E h => ?_) (fun cdv A outer s H vs Q E hr h => ?_), T.g_check_songs, F.kp, F.bindsN fun _ _ _ _ _ _ us hl => match us, hl with | [_], _ => rfl⟩
  · obtain ⟨a, songs, rfl, _⟩ := h; rfl
  · obtain ⟨a, songs, rfl, ha, ⟨hl, hs⟩, q⟩ := h
    refine ⟨_, PSs.nox (pss_one (ps_if (PW.pt (pw_or (pt_not (pt_val (pe_fn (fn_are_numbers T) (hr.mono (by first | decide | omega)) (by rfl) (pa_cons (pv 0) pa_nil)))) (pw_or (pt_cmpR op_gt (pe_callB (show CallR _ _ (rLenQ K) from call_len_seq) (by rfl) T.len (by decide +kernel) (pa_cons (pv 0) pa_nil)) (pe_gi T.c_MOST_SONGS (by rfl)) (nomark _)) (pw_or1 (pt_not (pt_val (pe_callB (show CallR _ _ (rAll K) from cr_all (by rfl)) (by rfl) T.all (by decide +kernel) (pa_cons (pe_lc (own := [("one", 1)]) (g := (gName 1)) (tt := tYes) (by rfl) sc_check_songs.nd (show PI _ _ _ (iList K _) from pi_list (pv 0)) (blkOk_by (by kernel_rfl)) (fun _ _ _ _ _ => (pg_name (i := 1) sc_check_songs.nd rfl (by first | exact Or.inl rfl | exact Or.inr rfl))) (fun _ _ _ _ _ => pts_nil) (fun _ _ _ _ _ => (pe_chain op_le op_lt pe_int (pv 1) (pe_gi T.c_MOST_SINGERS (by rfl))))) pa_nil)))))))) (pss_one ps_never) pss_nil)), ?_⟩
    have allI : (songs.map V.int).all isInt = true := by
      rw [List.all_map, List.all_eq_true]; intro x _; rfl
    refine ⟨_, rfl, _, rfl, .inl ⟨a, _, rfl, ha, by rw [List.length_map]; omega, fun x hx => ?_, fun H1 s1 => ?_⟩⟩
    · obtain ⟨i, _, rfl⟩ := List.mem_map.mp hx
      exact ⟨_, kd_int i⟩
    rw [allI]
    refine ⟨_, rfl, iteF ⟨_, rfl, a, _, rfl, .inl (s1.seq ha), _, _, rfl, rfl, _, rfl, ?_⟩⟩
    rw [decide_eq_false (by rw [List.length_map]; omega)]
    refine iteF ⟨_, rfl, a, rfl, ⟨_, s1.seq ha⟩, fun D nD => lc_map (fun x => .bl (inR 6 x)) (s1.seq ha) nD (by rw [List.length_map]; omega) ?_ ?_ gname_mono⟩
    · intro i x H2 hx s2 k hk
      obtain ⟨n, rfl, _⟩ := int_at hx
      refine ⟨rfl, _, rfl, _, _, rfl, rfl, _, rfl, ?_⟩
      have hk2 : k (.bl (decide (0 ≤ n) && decide (n < 6))) H2 := hk H2 (Same.refl _)
      by_cases h0 : (0 : Int) ≤ n
      · rw [decide_eq_true h0] at hk2 ⊢
        exact iteT ⟨_, _, rfl, rfl, hk2⟩
      · rw [decide_eq_false h0] at hk2 ⊢
        exact iteF hk2
    intro H2 s2 hD
    refine ⟨_, (songs.map V.int).map (inR 6), rfl, SqL.of (by rw [← bls_all]; exact hD), _, rfl, ?_⟩
    rw [all_id, inR_all, List.all_eq_true.mpr fun s h => decide_eq_true (hs s h)]
    exact iteF (q _ (s1.trans s2))
/-! #### answers with a list -/
def orF (l : Addr) : List (Str × V) := [("order", .ref l)]
theorem orF_order (l : Addr) : (orF l).lookup ("order" : Str) = some (.ref l) := by kernel_rfl
theorem orF_shows (l : Addr) : (orF l).lookup ("shows" : Str) = none := by kernel_rfl
theorem orF_put (l : Addr) : putF "order" (.ref l) [] = orF l := by kernel_rfl
def siF (l : Addr) : List (Str × V) := [("singers", .ref l)]
theorem siF_singers (l : Addr) : (siF l).lookup ("singers" : Str) = some (.ref l) := by kernel_rfl
theorem siF_shows (l : Addr) : (siF l).lookup ("shows" : Str) = none := by kernel_rfl
theorem siF_put (l : Addr) : putF "singers" (.ref l) [] = siF l := by kernel_rfl
theorem sc_Spaced___init__ : FnScope ["self", "order"] ["self", "order"] (defScope s_Spaced___init__) := ⟨rfl, rfl, rfl, by decide +kernel, rfl, by decide +kernel, by decide +kernel⟩
def sp_spaced_init (K : PySem.W.Frag) : Sp := fun vs H Q _ => ∃ (p dx b : Addr) (os : List V), vs = [.ref p, .ref b] ∧ SqL K H b os ∧ H p = some (.ins (He.ga K "Spaced") dx []) ∧ ∀ l H', Fra [p] H H' → H l = none → H' l = some (.lst os) → H' p = some (.ins (He.ga K "Spaced") dx (orF l)) → Q .non H'
theorem mk_Spaced (T : Tx K mg) : Mke P w K mg base "Spaced" (He.ga K "Spaced") 1 (sp_spaced_init K) := by
  obtain ⟨fd, F⟩ := T.d_Spaced___init__
  refine ⟨_, fd, _, F.ok (CX := CX0) sc_Spaced___init__ (fun vs H Q E h => ?_) (fun cdv A outer s H vs Q E hr h => ?_), T.mk_Spaced, T.g_Spaced, F.bindsN fun _ _ _ _ _ _ us hl => match us, hl with | [_, _], _ => rfl⟩
  · obtain ⟨p, dx, b, os, rfl, _⟩ := h; rfl
  · obtain ⟨p, dx, b, os, rfl, hb, hp, q⟩ := h
    refine ⟨_, PSs.nox (pss_one (show PS _ _ (sFld K _ _ _) from ps_fld (pv 0) (pe_callTy (show CallR _ _ (rListO K) from call_list_of) (by rfl) T.list (by decide +kernel) (pa_cons (pv 1) pa_nil)) rfl)), ?_⟩
    refine ⟨_, rfl, b, _, rfl, .inl hb, fun l nl => ?_⟩
    refine to_new nl fun H1 s1 hl => ?_
    refine ⟨_, rfl, p, _, dx, _, rfl, s1 _ _ hp, T.cls_Spaced, T.na_Spaced_order, by show 0 < 1000; decide, ?_⟩
    rw [orF_put]
    exact to_put fun H2 f2 hp2 => q l H2 ((Fra.of s1).trans f2) nl (f2.one (ne_of_none hp nl).symm hl) hp2
theorem sc_Barred___init__ : FnScope ["self", "singers"] ["self", "singers"] (defScope s_Barred___init__) := ⟨rfl, rfl, rfl, by decide +kernel, rfl, by decide +kernel, by decide +kernel⟩
def sp_barred_init (K : PySem.W.Frag) : Sp := fun vs H Q _ => ∃ (p dx b : Addr) (os : List V), vs = [.ref p, .ref b] ∧ SqL K H b os ∧ H p = some (.ins (He.ga K "Barred") dx []) ∧ ∀ l H', Fra [p] H H' → H l = none → H' l = some (.lst os) → H' p = some (.ins (He.ga K "Barred") dx (siF l)) → Q .non H'
theorem mk_Barred (T : Tx K mg) : Mke P w K mg base "Barred" (He.ga K "Barred") 1 (sp_barred_init K) := by
  obtain ⟨fd, F⟩ := T.d_Barred___init__
  refine ⟨_, fd, _, F.ok (CX := CX0) sc_Barred___init__ (fun vs H Q E h => ?_) (fun cdv A outer s H vs Q E hr h => ?_), T.mk_Barred, T.g_Barred, F.bindsN fun _ _ _ _ _ _ us hl => match us, hl with | [_, _], _ => rfl⟩
  · obtain ⟨p, dx, b, os, rfl, _⟩ := h; rfl
  · obtain ⟨p, dx, b, os, rfl, hb, hp, q⟩ := h
    refine ⟨_, PSs.nox (pss_one (show PS _ _ (sFld K _ _ _) from ps_fld (pv 0) (pe_callTy (show CallR _ _ (rListO K) from call_list_of) (by rfl) T.list (by decide +kernel) (pa_cons (pv 1) pa_nil)) rfl)), ?_⟩
    refine ⟨_, rfl, b, _, rfl, .inl hb, fun l nl => ?_⟩
    refine to_new nl fun H1 s1 hl => ?_
    refine ⟨_, rfl, p, _, dx, _, rfl, s1 _ _ hp, T.cls_Barred, T.na_Barred_singers, by show 0 < 1000; decide, ?_⟩
    rw [siF_put]
    exact to_put fun H2 f2 hp2 => q l H2 ((Fra.of s1).trans f2) nl (f2.one (ne_of_none hp nl).symm hl) hp2
/-- a Spaced, its order at l -/
def SpAt (K : PySem.W.Frag) (H : Hp) (p l : Addr) (os : List Int) : Prop := (∃ dx, H p = some (.ins (He.ga K "Spaced") dx (orF l))) ∧ H l = some (.lst (os.map V.int))
def BaAt (K : PySem.W.Frag) (H : Hp) (p l : Addr) (ss : List Int) : Prop := (∃ dx, H p = some (.ins (He.ga K "Barred") dx (siF l))) ∧ H l = some (.lst (ss.map V.int))
theorem SpAt.mono {H H' : Hp} {p l : Addr} {os : List Int} (s : Same H H') (h : SpAt K H p l os) : SpAt K H' p l os := by
  obtain ⟨⟨dx, h1⟩, h2⟩ := h
  exact ⟨⟨dx, s _ _ h1⟩, s _ _ h2⟩
theorem BaAt.mono {H H' : Hp} {p l : Addr} {os : List Int} (s : Same H H') (h : BaAt K H p l os) : BaAt K H' p l os := by
  obtain ⟨⟨dx, h1⟩, h2⟩ := h
  exact ⟨⟨dx, s _ _ h1⟩, s _ _ h2⟩
theorem sc_Spaced_shows : FnScope ["self", "songs", "gap", "singer"] ["self", "songs", "gap"] (defScope s_Spaced_shows) := ⟨rfl, rfl, rfl, by decide +kernel, rfl, by decide +kernel, by decide +kernel⟩
/-- whether an order shows it -/
def showsSp (songs os : List Int) (gap : Int) : Bool := os.isPerm (upto songs.length) && keepsP songs os gap
def sp_spaced_shows (K : PySem.W.Frag) : Sp := fun vs H Q _ => ∃ (p l a : Addr) (songs os : List Int) (gap : Int), vs = [.ref p, .ref a, .int gap] ∧ SpAt K H p l os ∧ SqL K H a (songs.map V.int) ∧ songs.length ≤ 60 ∧ ∀ H', Same H H' → Q (.bl (showsSp songs os gap)) H'
theorem perm_dec {ns os : List Int} {n : Nat} (p : ns.Perm os) (pw : ns.Pairwise (· ≤ ·)) : decide (ns = upto n) = os.isPerm (upto n) := by
  rw [Bool.eq_iff_iff, decide_eq_true_eq, List.isPerm_iff]
  constructor
  · intro e; rw [← e]; exact p.symm
  · intro h; exact perm_sorted_eq (p.trans h) pw (upto_sorted _)
theorem me_Spaced_shows (T : Tx K mg) : Me P w K mg base (He.ga K "Spaced") "shows" 3 (sp_spaced_shows K) := by
  obtain ⟨fd, F⟩ := T.d_Spaced_shows
  refine ⟨_, fd, _, F.ok (CX := CX0) sc_Spaced_shows (fun vs H Q E h => ?_) (fun cdv A outer s H vs Q E hr h => ?_), T.cls_Spaced, T.me_Spaced_shows, F.bindsN fun _ _ _ _ _ _ us hl => match us, hl with | [_, _, _], _ => rfl⟩
  · obtain ⟨p, l, a, songs, os, gap, rfl, _⟩ := h; rfl
  · obtain ⟨p, l, a, songs, os, gap, rfl, ⟨⟨dx, hp⟩, hlo⟩, ha, hl, q⟩ := h
    refine ⟨_, PSs.nox (pss_cons (ps_if (pt_cmpR (show OpR _ _ (rNeD K) from op_neD hr.units) (pe_callB (show CallR _ _ (rSortedI K) from cr_sortedI) (by rfl) T.sorted (by decide +kernel) (pa_cons (show PE _ _ (tFld K _ _) from pe_fld (pv 0) rfl) pa_nil)) (pe_listRg (by rfl) (by rfl) T.list (prg_1 (by rfl) T.range (pe_callB (show CallR _ _ (rLenQ K) from call_len_seq) (by rfl) T.len (by decide +kernel) (pa_cons (pv 1) pa_nil)))) (nomark _)) (pss_one (ps_ret pe_bl)) pss_nil)
      (pss_one (ps_ret (pe_fn (fn_keeps T) (hr.mono (by first | decide | omega)) (by rfl) (pa_cons (pe_lc (own := [("singer", 3)]) (g := (gName 3)) (tt := tYes) (by rfl) sc_Spaced_shows.nd (show PI _ _ _ (iList K _) from pi_list (pv 1)) (blkOk_by (by kernel_rfl)) (fun _ _ _ _ _ => (pg_name (i := 3) sc_Spaced_shows.nd rfl (by first | exact Or.inl rfl | exact Or.inr rfl))) (fun _ _ _ _ _ => pts_nil) (fun _ _ _ _ _ => (pe_lst (pa_cons (pv 3) pa_nil)))) (pa_cons (show PE _ _ (tFld K _ _) from pe_fld (pv 0) rfl) (pa_cons (pv 2) pa_nil))))))), ?_⟩
    refine ⟨_, rfl, p, _, dx, _, _, rfl, hp, T.cls_Spaced, T.na_Spaced_order, orF_order _, l, os, rfl, SqL.of hlo, fun ns z pm pw nz => ?_⟩
    refine to_new nz fun H1 s1 hz => ?_
    refine ⟨_, rfl, a, _, rfl, .inl (s1.seq ha), _, rfl, ⟨by decide, by decide, by omega, by rw [List.length_map]; omega, by rw [List.length_map]; omega⟩, fun r nr => ?_⟩
    rw [List.length_map, rg0]
    refine to_new nr fun H2 s2 hr2 => ?_
    refine ⟨_, _, dp_ints (SqL.of (s2 _ _ hz)), dp_ints (SqL.of hr2), (shp_ints _).ok, (shp_ints _).ok, _, rfl, ?_⟩
    rw [eqv_intsD, perm_dec pm pw]
    have s12 := s1.trans s2
    unfold showsSp at q
    cases hP : os.isPerm (upto songs.length) with
    | false =>
      rw [hP] at q
      exact iteT (q _ s12)
    | true =>
      rw [hP] at q
      have pe : os.Perm (upto songs.length) := List.isPerm_iff.mp hP
      have ol : os.length = songs.length := by rw [pe.length_eq, upto_len]
      refine iteF ⟨_, rfl, a, rfl, ⟨_, s12.seq ha⟩, fun D nD => lc_all walk_list sqL_mono (s12.seq ha) (fun i H y => RowAt K H y ((singles songs).getD i [])) (fun _ _ _ _ s h => h.mono s) nD (by rw [List.length_map]; omega) ?_ ?_ gname_mono⟩
      · rintro k x G1 G2 acc hk g1 hD ⟨rfl, hx⟩ kk hkk
        obtain ⟨s, rfl, hs⟩ := int_at hx
        have hk2 : k < songs.length := (List.getElem?_eq_some_iff.mp hs).1
        refine ⟨rfl, _, rfl, by show 1 ≤ sizeLine; decide, fun u nu => hkk _ _ (Same.new nu) ?_⟩
        rw [singles_getD hk2, List.getD_eq_getElem?_getD, hs]
        refine ⟨u, rfl, SqL.of ?_⟩
        rw [off_out (by simp; exact (ne_of_none hD nu).symm)]
        exact upd_same
      · intro ch H3 s3 hD chl hch
        rw [List.length_map] at chl
        have hRE : Rows K H3 ch (singles songs) := ⟨by rw [chl, singles_len], fun i v e => (hch i v e).mono (off_le _ _)⟩
        have s23 := s12.trans s3
        refine ⟨_, rfl, p, _, dx, _, _, rfl, s23 _ _ hp, T.cls_Spaced, T.na_Spaced_order, orF_order _, _, rfl, D, l, ch, singles songs, os, gap, rfl, SqL.of hD, hRE, fun r hr => ?_, SqL.of (s23 _ _ hlo), by rw [singles_len]; exact perm_in pe, by omega, fun H4 s4 => ?_⟩
        · obtain ⟨s, _, rfl⟩ := List.mem_map.mp hr
          show 1 ≤ 3; decide
        exact q _ (s23.trans s4)
theorem sc_Barred_shows : FnScope ["self", "songs", "gap"] ["self", "songs", "gap"] (defScope s_Barred_shows) := ⟨rfl, rfl, rfl, by decide +kernel, rfl, by decide +kernel, by decide +kernel⟩
def sp_barred_shows (K : PySem.W.Frag) : Sp := fun vs H Q _ => ∃ (p l a : Addr) (songs ss : List Int) (gap : Int), vs = [.ref p, .ref a, .int gap] ∧ BaAt K H p l ss ∧ SqL K H a (songs.map V.int) ∧ songs.length ≤ 60 ∧ GapOk gap ∧ ss.length ≤ 900 ∧ ∀ H', Same H H' → Q (.bl (barsP songs gap ss)) H'
theorem me_Barred_shows (T : Tx K mg) : Me P w K mg base (He.ga K "Barred") "shows" 3 (sp_barred_shows K) := by
  obtain ⟨fd, F⟩ := T.d_Barred_shows
  refine ⟨_, fd, _, F.ok (CX := CX0) sc_Barred_shows (fun vs H Q E h => ?_) (fun cdv A outer s H vs Q E hr h => ?_), T.cls_Barred, T.me_Barred_shows, F.bindsN fun _ _ _ _ _ _ us hl => match us, hl with | [_, _, _], _ => rfl⟩
  · obtain ⟨p, l, a, songs, ss, gap, rfl, _⟩ := h; rfl
  · obtain ⟨p, l, a, songs, ss, gap, rfl, ⟨⟨dx, hp⟩, hlo⟩, ha, hl, hg, hsl, q⟩ := h
    refine ⟨_, PSs.nox (pss_one (ps_ret (pe_fn (fn_bars T) (hr.mono (by first | decide | omega)) (by rfl) (pa_cons (pv 1) (pa_cons (pv 2) (pa_cons (show PE _ _ (tFld K _ _) from pe_fld (pv 0) rfl) pa_nil)))))), ?_⟩
    exact ⟨_, rfl, _, rfl, _, rfl, p, _, dx, _, _, rfl, hp, T.cls_Barred, T.na_Barred_singers, siF_singers _, a, l, songs, ss, gap, rfl, ha, by omega, hg, SqL.of hlo, hsl, fun H1 s1 => q _ s1⟩
theorem sc_spaced : FnScope ["songs", "gap", "singers"] ["songs", "gap"] (defScope s_spaced) := ⟨rfl, rfl, rfl, by decide +kernel, rfl, by decide +kernel, by decide +kernel⟩
def sp_spaced (K : PySem.W.Frag) : Sp := fun vs H Q _ => ∃ (a : Addr) (songs : List Int) (gap : Int), vs = [.ref a, .int gap] ∧ SqL K H a (songs.map V.int) ∧ SongsOk songs ∧ GapOk gap ∧
  (barring songs gap = none → ∀ p l H', H p = none → H l = none → Same H H' → SpAt K H' p l (orderFor songs gap) → Q (.ref p) H') ∧ ∀ ss, barring songs gap = some ss → ∀ p l H', H p = none → H l = none → Same H H' → BaAt K H' p l ss → Q (.ref p) H'
theorem fn_spaced (T : Tx K mg) : Fn P w K mg base "spaced" 4 (sp_spaced K) := by
  obtain ⟨fd, F⟩ := T.d_spaced
  refine ⟨_, fd, _, F.ok (CX := CX0) sc_spaced (fun vs H Q E h => ?_) (fun cdv A outer s H vs Q E hr h => ?_), T.g_spaced, F.kp, F.bindsN fun _ _ _ _ _ _ us hl => match us, hl with | [_, _], _ => rfl⟩
  · obtain ⟨a, songs, gap, rfl, _⟩ := h; rfl
  · obtain ⟨a, songs, gap, rfl, ha, hS, hg, q0, q1⟩ := h
    refine ⟨_, PSs.nox (pss_cons (ps_expr (pe_fn (fn_check_songs T) (hr.mono (by first | decide | omega)) (by rfl) (pa_cons (pv 0) pa_nil)))
      (pss_cons (ps_if (PW.pt (pw_or (pt_not (pt_val (pe_fn (fn_is_whole T) (hr.mono (by first | decide | omega)) (by rfl) (pa_cons (pv 1) pa_nil)))) (pw_or1 (pt_cmpR op_lt (pv 1) pe_int (nomark _))))) (pss_one ps_never) pss_nil)
      (pss_cons (ps_set (i := 2) sc_spaced.nd rfl (by first | exact Or.inl rfl | exact Or.inr rfl) (pe_fn (fn_barring T) (hr.mono (by first | decide | omega)) (by rfl) (pa_cons (pv 0) (pa_cons (pv 1) pa_nil))))
      (pss_one (ps_ret (pe_ifExp (pt_cmpR op_notN (pv 2) pe_non (nomark _)) (pe_mk (mk_Barred T) (hr.mono (by first | decide | omega)) (by rfl) (pa_cons (pv 2) pa_nil)) (pe_mk (mk_Spaced T) (hr.mono (by first | decide | omega)) (by rfl) (pa_cons (pe_fn (fn_order_for T) (hr.mono (by first | decide | omega)) (by rfl) (pa_cons (pv 0) (pa_cons (pv 1) pa_nil))) pa_nil)))))))), ?_⟩
    have hg0 := hg.1
    have hl := hS.1
    have hs := hS.2
    refine ⟨_, rfl, a, songs, rfl, ha, hS, fun H1 s1 => ?_⟩
    refine ⟨_, rfl, _, "int", rfl, kd_int gap, _, rfl, iteF ⟨_, rfl, _, _, rfl, rfl, _, rfl, ?_⟩⟩
    rw [decide_eq_false (by omega)]
    refine iteF ⟨_, rfl, _, rfl, a, songs, gap, rfl, s1.seq ha, by omega, hs, hg, fun hn H2 s2 => ?_, fun ss hn b H2 nb s2 hb => ?_⟩
    · have s12 := s1.trans s2
      refine ⟨_, rfl, rfl, _, rfl, iteF ⟨_, rfl, _, rfl, a, songs, gap, rfl, s12.seq ha, by omega, hs, hg, fun b H3 nb s3 hb => ?_⟩⟩
      have s13 := s12.trans s3
      intro p dx np ndx ned
      exact ⟨p, dx, b, (orderFor songs gap).map V.int, rfl, (made_same np ndx (Fra.refl _ _)).seq (SqL.of hb), upd_same, fun l H4 f4 nl hl4 hp4 => ⟨rfl, q0 hn p l H4 (s13.free np) (s13.free (made_free nl)) (s13.trans (made_same np ndx f4)) ⟨⟨dx, hp4⟩, hl4⟩⟩⟩
    · have s12 := s1.trans s2
      refine ⟨_, rfl, rfl, _, rfl, iteT ⟨_, rfl, ?_⟩⟩
      intro p dx np ndx ned
      exact ⟨p, dx, b, ss.map V.int, rfl, (made_same np ndx (Fra.refl _ _)).seq (SqL.of hb), upd_same, fun l H4 f4 nl hl4 hp4 => ⟨rfl, q1 ss hn p l H4 (s12.free np) (s12.free (made_free nl)) (s12.trans (made_same np ndx f4)) ⟨⟨dx, hp4⟩, hl4⟩⟩⟩
end
end Song

/-! ### Gw7: widest -/
namespace Song
open PySem L2
theorem get_of_mem : ∀ {c : List (Int × Int)} {k v : Int}, (keysC c).Nodup → (k, v) ∈ c → getC c k = some v
  | [], _, _, _, h => by cases h
  | p :: c, k, v, nd, h => by
    obtain ⟨n1, n2⟩ := List.nodup_cons.mp (show (p.1 :: keysC c).Nodup from nd)
    unfold getC
    rcases List.mem_cons.mp h with e | e
    · rw [← e, List.find?_cons_of_pos (by simp)]; rfl
    · have ne : p.1 ≠ k := fun z => n1 (by rw [z]; exact List.mem_map.mpr ⟨(k, v), e, rfl⟩)
      rw [List.find?_cons_of_neg (by simpa using ne)]
      exact get_of_mem n2 e
theorem max_twice {songs : List Int} {m : Int} (h1 : m ∈ (countsOf songs).map (·.2) ++ [0]) (h2 : ∀ y ∈ (countsOf songs).map (·.2) ++ [0], y ≤ m) : decide (m < 2) = !twice songs := by
  obtain ⟨k1, k2⟩ := keys_counts songs
  cases ht : twice songs with
  | true =>
    obtain ⟨s, hs, hc⟩ := List.any_eq_true.mp ht
    have hc := of_decide_eq_true hc
    obtain ⟨p, hp, e⟩ := List.mem_map.mp ((k2 s).mpr hs)
    have hg := get_of_mem (k := p.1) (v := p.2) k1 hp
    rw [counts_get, e, if_pos hs] at hg
    have := h2 p.2 (List.mem_append.mpr (.inl (List.mem_map.mpr ⟨p, hp, rfl⟩)))
    have := Option.some.inj hg
    exact decide_eq_false (by omega)
  | false =>
    refine decide_eq_true ?_
    rcases List.mem_append.mp h1 with h | h
    · obtain ⟨p, hp, rfl⟩ := List.mem_map.mp h
      have hg := get_of_mem (k := p.1) (v := p.2) k1 hp
      have hs : p.1 ∈ songs := (k2 p.1).mp (List.mem_map.mpr ⟨p, hp, rfl⟩)
      rw [counts_get, if_pos hs] at hg
      have := Option.some.inj hg
      have nt : ¬ (songs.count p.1 > 1) := fun z => by
        have : twice songs = true := List.any_eq_true.mpr ⟨p.1, hs, decide_eq_true z⟩
        rw [ht] at this; cases this
      omega
    · rw [List.mem_singleton.mp h]; decide
theorem toK_vals (c : List (Int × Int)) : (toK c).map (·.2) = (c.map (·.2)).map V.int := by
  unfold toK
  rw [List.map_map, List.map_map]; rfl
section
variable {P : Program} {w : World} {K : PySem.W.Frag} {mg : Str → Option Value} {base : Heap}
theorem sc_widest : FnScope ["songs", "gap"] ["songs"] (defScope s_widest) := ⟨rfl, rfl, rfl, by decide +kernel, rfl, by decide +kernel, by decide +kernel⟩
def sp_widest (K : PySem.W.Frag) : Sp := fun vs H Q _ => ∃ (a : Addr) (songs : List Int), vs = [.ref a] ∧ SqL K H a (songs.map V.int) ∧ SongsOk songs ∧ ∀ H', Same H H' → Q (optV (widest songs)) H'
theorem fn_widest (T : Tx K mg) : Fn P w K mg base "widest" 4 (sp_widest K) := by
  obtain ⟨fd, F⟩ := T.d_widest
  refine ⟨_, fd, _, F.ok (CX := CX0) sc_widest (fun vs H Q E h => ?_) (fun cdv A outer s H vs Q E hr h => ?_), T.g_widest, F.kp, F.bindsN fun _ _ _ _ _ _ us hl => match us, hl with | [_], _ => rfl⟩
  · obtain ⟨a, songs, rfl, _⟩ := h; rfl
  · obtain ⟨a, songs, rfl, ha, hS, q⟩ := h
    refine ⟨_, PSs.nox (pss_cons (ps_expr (pe_fn (fn_check_songs T) (hr.mono (by first | decide | omega)) (by rfl) (pa_cons (pv 0) pa_nil)))
      (pss_cons (ps_if (pt_cmpR op_lt (pe_callB (show CallR _ _ (rMax K) from cr_max (by rfl)) (by rfl) T.max (by decide +kernel) (pa_cons (pe_op op_cat (pe_listVals (by rfl) (by rfl) T.list (pe_fn (fn_counts_of T) (hr.mono (by first | decide | omega)) (by rfl) (pa_cons (pv 0) pa_nil))) (pe_lst (pa_cons pe_int pa_nil))) pa_nil)) pe_int (nomark _)) (pss_one (ps_ret pe_non)) pss_nil)
      (pss_cons (ps_set (i := 1) sc_widest.nd rfl (by first | exact Or.inl rfl | exact Or.inr rfl) pe_int)
      (pss_cons (ps_while PassesOwn.never (pt_cmpR op_isN (pe_fn (fn_barring T) (hr.mono (by first | decide | omega)) (by rfl) (pa_cons (pv 0) (pa_cons (pe_op op_add (pv 1) pe_int) pa_nil))) pe_non (nomark _)) (pss_one (ps_aug (i := 1) sc_widest.nd rfl (by first | exact Or.inl rfl | exact Or.inr rfl) pe_int ip_add)))
      (pss_one (ps_ret (pv 1))))))), ?_⟩
    have hl := hS.1
    have hs := hS.2
    refine ⟨_, rfl, a, songs, rfl, ha, hS, fun H1 s1 => ?_⟩
    refine ⟨_, rfl, a, songs, rfl, s1.seq ha, by omega, fun d H2 nd s2 hd => ?_⟩
    have cl := countsOf_len songs
    refine ⟨d, _, rfl, hd, by rw [toK_len]; omega, fun l nl => ?_⟩
    rw [toK_vals]
    refine to_new nl fun H3 s3 hl3 => ?_
    refine ⟨by show 1 ≤ sizeLine; decide, fun z nz => ?_⟩
    refine to_new nz fun H4 s4 hz => ?_
    refine ⟨l, z, ((countsOf songs).map (·.2)).map V.int, [(0 : Int)].map V.int, rfl, rfl, s4 _ _ hl3, hz, ?_, fun c nc => ?_⟩
    · rw [List.length_map, List.length_map]
      have := lt_line (n := (countsOf songs).length + 1) (by omega)
      show (countsOf songs).length + 1 ≤ sizeLine
      omega
    rw [← List.map_append]
    refine to_new nc fun H5 s5 hc => ?_
    refine ⟨c, _, rfl, SqL.of hc, by simp, fun m hm hmm => ?_⟩
    refine ⟨_, _, rfl, rfl, _, rfl, ?_⟩
    rw [max_twice hm hmm]
    have s15 := s1.trans (s2.trans (s3.trans (s4.trans s5)))
    cases ht : twice songs with
    | false =>
      have e : widest songs = none := by unfold widest; rw [if_neg (by rw [ht]; decide)]
      rw [e] at q
      exact iteT (q _ s15)
    | true =>
      have e : widest songs = some (wid songs songs.length 0) := by unfold widest; rw [if_pos ht]
      rw [e] at q
      refine iteF ⟨fun m σ H' => ∃ g f : Nat, m = f ∧ σ = [some (.ref a), some (.int g)] ∧ Same H H' ∧ wid songs f g = wid songs songs.length 0 ∧ f + g = songs.length, ⟨songs.length, 0, songs.length, rfl, rfl, s15, rfl, rfl⟩, ?_⟩
      rintro f σ G ⟨g, _, rfl, rfl, gs, hw, hfg⟩
      have gok : GapOk ((g : Int) + 1) := ⟨by omega, by omega⟩
      refine ⟨_, rfl, _, rfl, _, _, rfl, rfl, a, songs, _, rfl, gs.seq ha, by omega, hs, gok, fun hn G1 g1 => ⟨rfl, _, rfl, ?_⟩, fun ss hn b G1 nb g1 hb => ⟨rfl, _, rfl, ?_⟩⟩
      · cases f with
        | zero => exact absurd hn (barring_far hs ht (by omega))
        | succ f =>
          refine ⟨fun σ' H' => ∃ g' f' : Nat, f' = f ∧ σ' = [some (.ref a), some (.int g')] ∧ Same H H' ∧ wid songs f' g' = wid songs songs.length 0 ∧ f' + g' = songs.length, fun σ' H' ⟨g', f', e1, e2⟩ => ⟨f, by omega, g', f', e1.symm, e2⟩, ?_⟩
          refine ⟨_, rfl, _, _, rfl, rfl, g + 1, f, rfl, rfl, gs.trans g1, ?_, by omega⟩
          have hw2 : wid songs (f + 1) g = wid songs f ((g : Int) + 1) := by
            show (if barring songs ((g : Int) + 1) = none then _ else _) = _
            rw [if_pos hn]
          rw [← hw, hw2]
          rfl
      · have e2 : wid songs f g = g := by
          cases f with
          | zero => rfl
          | succ f =>
            show (if barring songs ((g : Int) + 1) = none then _ else _) = _
            rw [if_neg (by rw [hn]; intro z; cases z)]
        rw [e2] at hw
        rw [← hw] at q
        exact ⟨_, rfl, q _ (gs.trans g1)⟩
end
end Song

/-! ### Dd: data of any sort, written out; what the checks say of it -/
namespace Song
open PySem L2
inductive D where
  | non
  | bl (b : Bool)
  | int (i : Int)
  | str (s : Str)
  | lst (l : List D)
  | tup (l : List D)
  | dic
mutual
inductive Dx (H : Hp) : V → D → Prop
  | non : Dx H .non .non
  | bl (b : Bool) : Dx H (.bl b) (.bl b)
  | int (i : Int) : Dx H (.int i) (.int i)
  | str (s : Str) : Dx H (.str s) (.str s)
  | lst {a : Addr} {vs : List V} {ds : List D} : H a = some (.lst vs) → DxAll H vs ds → Dx H (.ref a) (.lst ds)
  | tup {a : Addr} {vs : List V} {ds : List D} : H a = some (.tup vs) → DxAll H vs ds → Dx H (.ref a) (.tup ds)
  | dic {a : Addr} {kvs : List (Key × V)} : H a = some (.dK kvs) → Dx H (.ref a) .dic
inductive DxAll (H : Hp) : List V → List D → Prop
  | nil : DxAll H [] []
  | cons {v : V} {d : D} {vs : List V} {ds : List D} : Dx H v d → DxAll H vs ds → DxAll H (v :: vs) (d :: ds)
end
mutual
theorem dx_mono {H H' : Hp} (s : Same H H') : ∀ {v : V} {d : D}, Dx H v d → Dx H' v d
  | _, _, .non => .non
  | _, _, .bl b => .bl b
  | _, _, .int i => .int i
  | _, _, .str x => .str x
  | _, _, .lst h a => .lst (s _ _ h) (dxAll_mono s a)
  | _, _, .tup h a => .tup (s _ _ h) (dxAll_mono s a)
  | _, _, .dic h => .dic (s _ _ h)
theorem dxAll_mono {H H' : Hp} (s : Same H H') : ∀ {vs : List V} {ds : List D}, DxAll H vs ds → DxAll H' vs ds
  | _, _, .nil => .nil
  | _, _, .cons d a => .cons (dx_mono s d) (dxAll_mono s a)
end
mutual
theorem dx_nt {H : Hp} : ∀ {v : V} {d : D}, Dx H v d → Dx (nt H) v d
  | _, _, .non => .non
  | _, _, .bl b => .bl b
  | _, _, .int i => .int i
  | _, _, .str x => .str x
  | _, _, .lst h a => .lst (nt_of h fun _ z => by cases z) (dxAll_nt a)
  | _, _, .tup h a => .tup (nt_of h fun _ z => by cases z) (dxAll_nt a)
  | _, _, .dic h => .dic (nt_of h fun _ z => by cases z)
theorem dxAll_nt {H : Hp} : ∀ {vs : List V} {ds : List D}, DxAll H vs ds → DxAll (nt H) vs ds
  | _, _, .nil => .nil
  | _, _, .cons d a => .cons (dx_nt d) (dxAll_nt a)
end
theorem dxAll_len {H : Hp} : ∀ {vs : List V} {ds : List D}, DxAll H vs ds → vs.length = ds.length
  | _, _, .nil => rfl
  | _, _, .cons _ a => by simp [dxAll_len a]
theorem dxAll_app {H : Hp} : ∀ {vs ws : List V} {ds es : List D}, DxAll H vs ds → DxAll H ws es → DxAll H (vs ++ ws) (ds ++ es)
  | _, _, _, _, .nil, h => h
  | _, _, _, _, .cons d a, h => .cons d (dxAll_app a h)
theorem dxAll_get {H : Hp} : ∀ {vs : List V} {ds : List D} {i : Nat} {v : V}, DxAll H vs ds → vs[i]? = some v → ∃ d, ds[i]? = some d ∧ Dx H v d
  | _, _, _, _, .nil, e => by simp at e
  | _, _, 0, _, .cons d a, e => by simp at e; subst e; exact ⟨_, rfl, d⟩
  | _, _, i + 1, v, .cons d a, e => by
    obtain ⟨d', h1, h2⟩ := dxAll_get (i := i) (v := v) a (by simpa using e)
    exact ⟨d', by simpa using h1, h2⟩
theorem dxAll_rep {H : Hp} {v : V} {d : D} (h : Dx H v d) : ∀ n, DxAll H (List.replicate n v) (List.replicate n d)
  | 0 => .nil
  | n + 1 => .cons h (dxAll_rep h n)
def kindD : D → String
  | .non => "NoneType"
  | .bl _ => "bool"
  | .int _ => "int"
  | .str _ => "str"
  | .lst _ => "list"
  | .tup _ => "tuple"
  | .dic => "dict"
theorem dx_kd {K : PySem.W.Frag} {H : Hp} {v : V} {d : D} : Dx H v d → Kd K H v (kindD d)
  | .non => .base .non
  | .bl b => .base (.bl b)
  | .int i => .base (.int i)
  | .str x => .base (.str x)
  | .lst h _ => .base (.lst h)
  | .tup h _ => .base (.tup h)
  | .dic h => .base (.dK h)
def wholeD : D → Bool
  | .int _ => true
  | _ => false
def intD : D → Int
  | .int i => i
  | _ => 0
def numsD : D → Bool
  | .lst ds => ds.all wholeD
  | _ => false
theorem dx_whole {H : Hp} {v : V} {d : D} (h : Dx H v d) : isInt v = wholeD d := by cases h <;> rfl
theorem dxAll_whole {H : Hp} : ∀ {vs : List V} {ds : List D}, DxAll H vs ds → vs.all isInt = ds.all wholeD
  | _, _, .nil => rfl
  | _, _, .cons d a => by rw [List.all_cons, List.all_cons, dx_whole d, dxAll_whole a]
theorem dxAll_kds {K : PySem.W.Frag} {H : Hp} {vs : List V} {ds : List D} (h : DxAll H vs ds) : ∀ x ∈ vs, ∃ t, Kd K H x t := fun x hx => by
  obtain ⟨i, hi, rfl⟩ := List.mem_iff_getElem.mp hx
  obtain ⟨d, _, q⟩ := dxAll_get h (List.getElem?_eq_getElem hi)
  exact ⟨_, dx_kd q⟩
theorem dxAll_ints {H : Hp} : ∀ {vs : List V} {ds : List D}, DxAll H vs ds → ds.all wholeD = true → vs = (ds.map intD).map V.int
  | _, _, .nil, _ => rfl
  | _, _, .cons d a, e => by
    rw [List.all_cons, Bool.and_eq_true] at e
    rw [List.map_cons, List.map_cons, ← dxAll_ints a e.2]
    cases d <;> first | rfl | (cases e.1)
theorem kindD_list {d : D} (h : ∀ ds, d ≠ .lst ds) : kindD d ≠ "list" := by
  cases d <;> first | exact absurd rfl (h _) | (simp [kindD]; done)
theorem kindD_tup {d : D} (h : ∀ ds, d ≠ .tup ds) : kindD d ≠ "tuple" := by
  cases d <;> first | exact absurd rfl (h _) | (simp [kindD]; done)
theorem kindD_str {d : D} (h : ∀ s, d ≠ .str s) : kindD d ≠ "str" := by
  cases d <;> first | exact absurd rfl (h _) | (simp [kindD]; done)
theorem kindD_int {d : D} (h : wholeD d = false) : kindD d ≠ "int" := by
  cases d <;> first | (cases h; done) | (simp [kindD]; done)
/-- are_numbers of written data -/
theorem nums_sp {K : PySem.W.Frag} {H : Hp} {v : V} {d : D} {Q : VK} {E : XK} (h : Dx H v d) (hl : ∀ ds, d = .lst ds → ds.length ≤ 1000) (q : ∀ H', Same H H' → Q (.bl (numsD d)) H') : sp_are_numbers K [v] H Q E := by
  refine ⟨v, rfl, ?_⟩
  cases h with
  | lst h a =>
    refine .inl ⟨_, _, rfl, SqL.of h, by rw [dxAll_len a]; exact hl _ rfl, dxAll_kds a, fun H' s => ?_⟩
    rw [dxAll_whole a]; exact q H' s
  | non => exact .inr ⟨_, .base .non, by decide, q _ (Same.refl _)⟩
  | bl b => exact .inr ⟨_, .base (.bl b), by decide, q _ (Same.refl _)⟩
  | int i => exact .inr ⟨_, .base (.int i), by decide, q _ (Same.refl _)⟩
  | str x => exact .inr ⟨_, .base (.str x), by decide, q _ (Same.refl _)⟩
  | tup h a => exact .inr ⟨_, .base (.tup h), by decide, q _ (Same.refl _)⟩
  | dic h => exact .inr ⟨_, .base (.dK h), by decide, q _ (Same.refl _)⟩
theorem rd_nums {K : PySem.W.Frag} {H : Hp} {v : V} {d : D} {Q : VK} {σ : L2.St} {ta : TA} (h : Dx H v d) (hl : ∀ ds, d = .lst ds → ds.length ≤ 1000) (hta : ∀ R : List V → Hp → Prop, R [v] H → ta σ H R) (q : ∀ H', Same H H' → Q (.bl (numsD d)) H') : iCall (sp_are_numbers K) ta σ H Q := iCall_of (hta _ (nums_sp h hl q))
/-! #### displays -/
/-- the reading te lays the data d, over what stands in G -/
def Gv (G : Hp) (σ : L2.St) (te : TE) (d : D) : Prop := ∀ H, Same G H → ∀ Q : VK, (∀ v H', Same H H' → Dx H' v d → Q v H') → te σ H Q
def GvA (G : Hp) (σ : L2.St) (ta : TA) (ds : List D) : Prop := ∀ H, Same G H → ∀ Q : List V → Hp → Prop, (∀ vs H', Same H H' → DxAll H' vs ds → Q vs H') → ta σ H Q
section
variable {G : Hp} {σ : L2.St}
theorem gv_non : Gv G σ (tC .non) .non := fun H _ Q q => q _ H (Same.refl _) .non
theorem gv_bl {b : Bool} : Gv G σ (tC (.bl b)) (.bl b) := fun H _ Q q => q _ H (Same.refl _) (.bl b)
theorem gv_int {i : Int} : Gv G σ (tC (.int i)) (.int i) := fun H _ Q q => q _ H (Same.refl _) (.int i)
theorem gv_str {s : Str} : Gv G σ (tC (.str s)) (.str s) := fun H _ Q q => q _ H (Same.refl _) (.str s)
theorem gv_num {te : TE} {n : Int} (h : ∀ (H : Hp) (Q : VK), Q (.int n) H → te σ H Q) : Gv G σ te (.int n) := fun H _ Q q => h H Q (q _ H (Same.refl _) (.int n))
theorem gv_var {i : Nat} {v : V} {d : D} (hσ : σ[i]? = some (some v)) (hd : Dx G v d) : Gv G σ (tVar i) d := fun H s Q q => ⟨v, hσ, q v H (Same.refl _) (dx_mono s hd)⟩
theorem ga_nil : GvA G σ tNil [] := fun H _ Q q => q _ H (Same.refl _) .nil
theorem ga_cons {te : TE} {ta : TA} {d : D} {ds : List D} (h : Gv G σ te d) (t : GvA G σ ta ds) : GvA G σ (tCons te ta) (d :: ds) := fun H s Q q =>
  h H s _ fun v H1 s1 hv => t H1 (s.trans s1) _ fun vs H2 s2 hvs => q _ H2 (s1.trans s2) (.cons (dx_mono s2 hv) hvs)
theorem gv_lst {ta : TA} {ds : List D} (h : GvA G σ ta ds) (hl : ds.length ≤ 1000 := by first | decide | simp) : Gv G σ (tLst ta) (.lst ds) := fun H s Q q =>
  h H s _ fun vs H1 s1 hvs => ⟨by rw [dxAll_len hvs]; exact Nat.le_of_lt (Nat.lt_of_le_of_lt hl (by decide)), fun p np => q _ _ (s1.trans (Same.new np)) (.lst upd_same (dxAll_mono (Same.new np) hvs))⟩
theorem gv_tup {ta : TA} {ds : List D} (h : GvA G σ ta ds) (hl : ds.length ≤ 1000 := by first | decide | simp) : Gv G σ (tTup ta) (.tup ds) := fun H s Q q =>
  h H s _ fun vs H1 s1 hvs => ⟨by rw [dxAll_len hvs]; exact Nat.le_of_lt (Nat.lt_of_le_of_lt hl (by decide)), fun p np => q _ _ (s1.trans (Same.new np)) (.tup upd_same (dxAll_mono (Same.new np) hvs))⟩
theorem flat_rep (n : Nat) (v : V) : (List.replicate n [v]).flatten = List.replicate n v := by
  induction n with
  | zero => rfl
  | succ n ih => rw [List.replicate_succ, List.flatten_cons, ih, List.replicate_succ]; rfl
theorem gv_rep {ta : TA} {tn : TE} {k : Int} {d : D} (h : GvA G σ ta [d]) (hk : 0 ≤ k ∧ k ≤ 1000) (hn : ∀ (H : Hp) (Q : VK), Q (.int k) H → tn σ H Q) : Gv G σ (tOp rRep (tLst ta) tn) (.lst (List.replicate k.toNat d)) := fun H s Q q =>
  gv_lst h (by simp) H s _ fun v H1 s1 hv => hn _ _ (by
    cases hv with
    | lst ha hall =>
      cases hall with
      | cons h0 hr =>
        cases hr
        rename_i a v
        have : sizeLine = 16777216 := by decide
        refine ⟨a, k, _, rfl, rfl, ha, by omega, by omega, by show 1 * k.toNat ≤ sizeLine; omega, fun p np => ?_⟩
        rw [flat_rep]
        exact q _ _ (s1.trans (Same.new np)) (.lst upd_same (dxAll_rep (dx_mono (Same.new np) h0) _)))
theorem dx_lst {H : Hp} {v : V} {ds : List D} (h : Dx H v (.lst ds)) : ∃ a vs, v = .ref a ∧ H a = some (.lst vs) ∧ DxAll H vs ds := by
  cases h with
  | lst h a => exact ⟨_, _, rfl, h, a⟩
/-- a display, its reading kept closed -/
@[irreducible] def iE (te : TE) : TE := te
theorem iE_of {te : TE} {σ : L2.St} {H : Hp} {Q : VK} (h : te σ H Q) : iE te σ H Q := by unfold iE; exact h
theorem pe_iE {X : Cx} {e : Expr} {te : TE} (h : PE X e te) : PE X e (iE te) := by unfold iE; exact h
theorem rd_dat {te : TE} {H : Hp} {Q : VK} {d : D} (h : Gv H σ te d) (q : ∀ v H', Same H H' → Dx H' v d → Q v H') : iE te σ H Q := iE_of (h H (Same.refl _) Q q)
theorem rd_setD {te : TE} {H : Hp} {d : D} {B : TS} {Dn : Ends} {j : Nat} (h : Gv H σ te d) (q : ∀ v H', Same H H' → Dx H' v d → B Dn (σ.set j (some v)) H') : tSeq (tAsg (iE te) (gName j)) B Dn σ H := by
  unfold tSeq tAsg
  exact rd_dat h q
theorem same_off {H2 : Hp} {p : Addr} {o : HO} (n : H2 p = none) : Same H2 (off [p] (upd H2 p o)) := fun b u e => by
  have q : b ≠ p := ne_of_none e n
  rw [off_out (by simpa using q), upd_ne q]; exact e
theorem rd_cat {te : TE} {H : Hp} {Q : VK} {ds es : List D} {a : Addr} {vs : List V} (ha : H a = some (.lst vs)) (hall : DxAll H vs ds) (h : Gv H σ te (.lst es)) (hl : ds.length + es.length ≤ 1000)
    (q : ∀ p vs' H', H p = none → Same H H' → H' p = some (.lst vs') → DxAll (off [p] H') vs' (ds ++ es) → Q (.ref p) H') : iE te σ H fun y H2 => rCat (.ref a) y H2 Q := by
  refine rd_dat h fun v H1 s1 hv => ?_
  obtain ⟨b, ws, rfl, hb, hw⟩ := dx_lst hv
  have l1 := dxAll_len hall
  have l2 := dxAll_len hw
  refine ⟨a, b, vs, ws, rfl, rfl, s1 _ _ ha, hb, Nat.le_of_lt (Nat.lt_of_le_of_lt (by omega : _ ≤ 1000) (by decide)), fun p np => ?_⟩
  exact q p _ _ (s1.free np) (s1.trans (Same.new np)) upd_same (dxAll_mono (same_off np) (dxAll_app (dxAll_mono s1 hall) hw))
theorem rd_catD {te : TE} {H : Hp} {ds es : List D} {B : TS} {Dn : Ends} {i j : Nat} {a : Addr} {vs : List V} (hσ : σ[i]? = some (some (.ref a))) (ha : H a = some (.lst vs)) (hall : DxAll H vs ds) (h : Gv H σ te (.lst es)) (hl : ds.length + es.length ≤ 1000)
    (q : ∀ p vs' H', H p = none → Same H H' → H' p = some (.lst vs') → DxAll (off [p] H') vs' (ds ++ es) → B Dn (σ.set j (some (.ref p))) H') : tSeq (tAsg (tOp rCat (tVar i) (iE te)) (gName j)) B Dn σ H := by
  unfold tSeq tAsg
  exact ⟨_, hσ, rd_cat ha hall h hl q⟩
theorem rd_setL {ta : TA} {H : Hp} {ds : List D} {B : TS} {Dn : Ends} {j : Nat} (h : GvA H σ ta ds) (hl : ds.length ≤ 1000) (q : ∀ p vs H', H p = none → Same H H' → H' p = some (.lst vs) → DxAll (off [p] H') vs ds → B Dn (σ.set j (some (.ref p))) H') : tSeq (tAsg (iE (tLst ta)) (gName j)) B Dn σ H := by
  unfold tSeq tAsg
  refine iE_of (h H (Same.refl _) _ fun vs H1 s1 hv => ⟨by rw [dxAll_len hv]; exact Nat.le_of_lt (Nat.lt_of_le_of_lt hl (by decide)), fun p np => ?_⟩)
  exact q p vs _ (s1.free np) (s1.trans (Same.new np)) upd_same (dxAll_mono (same_off np) hv)
theorem gv_dic : Gv G σ tDNewK .dic := fun H s Q q => fun p np => q _ _ (Same.new np) (.dic upd_same)
end
end Song

/-! ### Dv: written data as lists of numbers, rows, tales -/
namespace Song
open PySem L2
def intsD (ns : List Int) : D := .lst (ns.map D.int)
def rowsD (R : List (List Int)) : D := .lst (R.map intsD)
def optDx : Option Int → D
  | none => .non
  | some n => .int n
def Part.toD : Part → D
  | .wish ss n r => .tup [.str "wish", intsD ss, .int n, .int r]
  | .sing o => .tup [.str "sing", optDx o]
  | .out n => .tup [.str "out", .int n]
def taleDs (t : List Part) : D := .lst (t.map Part.toD)
theorem dxAll_intsV {H : Hp} : ∀ {vs : List V} {ns : List Int}, DxAll H vs (ns.map D.int) → vs = ns.map V.int
  | _, [], .nil => rfl
  | _, n :: r, .cons h a => by
    rw [dxAll_intsV a]
    cases h; rfl
theorem dx_ints {H : Hp} {v : V} {ns : List Int} (h : Dx H v (intsD ns)) : ∃ a, v = .ref a ∧ H a = some (.lst (ns.map V.int)) := by
  obtain ⟨a, vs, e, h, x⟩ := dx_lst h
  exact ⟨a, e, by rw [h, dxAll_intsV x]⟩
theorem dxAll_rows {K : PySem.W.Frag} {H : Hp} : ∀ {vs : List V} {R : List (List Int)}, DxAll H vs (R.map intsD) → ∀ (i : Nat) v, vs[i]? = some v → RowAt K H v (R.getD i [])
  | _, [], .nil, i, v, e => by simp at e
  | _, r :: R, .cons h a, 0, v, e => by
    obtain ⟨b, e1, hb⟩ := dx_ints h
    simp at e
    exact ⟨b, by rw [← e, e1], SqL.of hb⟩
  | _, r :: R, .cons h a, i + 1, v, e => by
    have := dxAll_rows (K := K) a i v (by simpa using e)
    simpa using this
theorem dx_rows {K : PySem.W.Frag} {H : Hp} {v : V} {R : List (List Int)} (h : Dx H v (rowsD R)) : ∃ a cs, v = .ref a ∧ H a = some (.lst cs) ∧ Rows K H cs R := by
  obtain ⟨a, vs, e, h, x⟩ := dx_lst h
  exact ⟨a, vs, e, h, by rw [dxAll_len x, List.length_map], dxAll_rows x⟩
theorem dx_part {H : Hp} {v : V} {p : Part} (h : Dx H v p.toD) : PartAt H v p := by
  cases p with
  | wish ss n r =>
    cases h with
    | tup ht x =>
      cases x with
      | cons h0 x =>
        cases x with
        | cons h1 x =>
          cases x with
          | cons h2 x =>
            cases x with
            | cons h3 x =>
              cases x
              obtain ⟨b, e, hb⟩ := dx_ints h1
              subst e
              cases h0; cases h2; cases h3
              exact ⟨b, ht, hb⟩
  | sing o =>
    cases h with
    | tup ht x =>
      cases x with
      | cons h0 x =>
        cases x with
        | cons h1 x =>
          cases x
          cases h0
          cases o <;> (cases h1; exact ht)
  | out n =>
    cases h with
    | tup ht x =>
      cases x with
      | cons h0 x =>
        cases x with
        | cons h1 x =>
          cases x
          cases h0; cases h1
          exact ht
theorem dxAll_parts {H : Hp} : ∀ {vs : List V} {t : List Part}, DxAll H vs (t.map Part.toD) → Parts H vs t
  | _, [], .nil => trivial
  | _, _ :: _, .cons h a => ⟨dx_part h, dxAll_parts a⟩
theorem dx_tale {K : PySem.W.Frag} {H : Hp} {v : V} {t : List Part} (h : Dx H v (taleDs t)) (ok : TaleOk t) : ∃ a, v = .ref a ∧ TaleIn K H a t := by
  obtain ⟨a, vs, e, h, x⟩ := dx_lst h
  exact ⟨a, e, vs, SqL.of h, dxAll_parts x, ok⟩
end Song

/-! ### De: further words for written data -/
namespace Song
open PySem L2
abbrev TL (K : PySem.W.Frag) : List (Addr × Str) := TLof K tf


theorem dxAll_set {H : Hp} {v : V} {d : D} (hd : Dx H v d) : ∀ {vs : List V} {ds : List D} (i : Nat), DxAll H vs ds → DxAll H (vs.set i v) (ds.set i d)
  | _, _, _, .nil => .nil
  | _, _, 0, .cons _ a => .cons hd a
  | _, _, i + 1, .cons h a => .cons h (dxAll_set hd i a)
theorem dxAll_at {H : Hp} {vs : List V} {ds : List D} (h : DxAll H vs ds) {n : Int} (h0 : 0 ≤ n) (h1 : n < ds.length) : ∃ v, atI vs n = some v ∧ Dx H v (ds.getD n.toNat .non) := by
  have hl := dxAll_len h
  have hlt : n.toNat < vs.length := by omega
  obtain ⟨d, e1, e2⟩ := dxAll_get h (List.getElem?_eq_getElem hlt)
  refine ⟨vs[n.toNat], ?_, by rw [List.getD_eq_getElem?_getD, e1]; exact e2⟩
  have := atI_nat (List.getElem?_eq_getElem hlt)
  rw [show ((n.toNat : Nat) : Int) = n by omega] at this
  exact this
section
variable {σ : L2.St} {H : Hp} {Q : VK} {K : PySem.W.Frag}
/-- [..][n] -/
theorem rd_ixD {te ti : TE} {ds : List D} {n : Int} (h : Gv H σ te (.lst ds)) (h0 : 0 ≤ n) (h1 : n < ds.length) (hi : ∀ (H : Hp) (R : VK), R (.int n) H → ti σ H R) (q : ∀ v H', Same H H' → Dx H' v (ds.getD n.toNat .non) → Q v H') : tOp (rIxL K) (iE te) ti σ H Q := by
  unfold tOp
  refine rd_dat h fun v H1 s1 hv => hi _ _ ?_
  obtain ⟨a, vs, rfl, ha, hall⟩ := dx_lst hv
  obtain ⟨x, e1, e2⟩ := dxAll_at hall h0 h1
  exact ⟨a, vs, n, x, rfl, rfl, SqL.of ha, e1, q _ _ s1 e2⟩
theorem seq_asg {te : TE} {g : TG} {B : TS} {Dn : Ends} (h : te σ H fun x H1 => g x σ H1 (B Dn)) : tSeq (tAsg te g) B Dn σ H := h
theorem seq_if {c : TT} {t u B : TS} {Dn : Ends} (h : c σ H fun b H1 => if b = true then t { Dn with nx := B Dn } σ H1 else u { Dn with nx := B Dn } σ H1) : tSeq (tIfS c t u) B Dn σ H := h
theorem rd_set0 {te : TE} {j : Nat} {B : TS} {Dn : Ends} (h : te σ H fun x H1 => B Dn (σ.set j (some x)) H1) : tSeq (tAsg te (gName j)) B Dn σ H := h
end
/-! #### displays, apart from what stood there -/
/-- as Gv; what is laid lies outside of S, objects of G -/
def Gw (S : List Addr) (G : Hp) (σ : L2.St) (te : TE) (d : D) : Prop := (∀ a ∈ S, ∃ o, G a = some o) → ∀ H, Same G H → ∀ Q : VK, (∀ v H', Same H H' → Dx (off S H') v d → Q v H') → te σ H Q
def GwA (S : List Addr) (G : Hp) (σ : L2.St) (ta : TA) (ds : List D) : Prop := (∀ a ∈ S, ∃ o, G a = some o) → ∀ H, Same G H → ∀ Q : List V → Hp → Prop, (∀ vs H', Same H H' → DxAll (off S H') vs ds → Q vs H') → ta σ H Q
theorem off_new {S : List Addr} {G H : Hp} {p : Addr} {o : HO} (hS : ∀ a ∈ S, ∃ o, G a = some o) (s : Same G H) (n : H p = none) : off S (upd H p o) p = some o := by
  rw [off_out, upd_same]
  intro z
  obtain ⟨u, hu⟩ := hS p z
  rw [s _ _ hu] at n; cases n
section
variable {S : List Addr} {G : Hp} {σ : L2.St}
theorem gw_non : Gw S G σ (tC .non) .non := fun _ H _ Q q => q _ H (Same.refl _) .non
theorem gw_bl {b : Bool} : Gw S G σ (tC (.bl b)) (.bl b) := fun _ H _ Q q => q _ H (Same.refl _) (.bl b)
theorem gw_int {i : Int} : Gw S G σ (tC (.int i)) (.int i) := fun _ H _ Q q => q _ H (Same.refl _) (.int i)
theorem gw_str {s : Str} : Gw S G σ (tC (.str s)) (.str s) := fun _ H _ Q q => q _ H (Same.refl _) (.str s)
theorem gw_num {te : TE} {n : Int} (h : ∀ (H : Hp) (Q : VK), Q (.int n) H → te σ H Q) : Gw S G σ te (.int n) := fun _ H _ Q q => h H Q (q _ H (Same.refl _) (.int n))
theorem gw_var {i : Nat} {v : V} {d : D} (hσ : σ[i]? = some (some v)) (hd : Dx (off S G) v d) : Gw S G σ (tVar i) d := fun _ H s Q q => ⟨v, hσ, q v H (Same.refl _) (dx_mono (off_mono s) hd)⟩
theorem gx_nil : GwA S G σ tNil [] := fun _ H _ Q q => q _ H (Same.refl _) .nil
theorem gx_cons {te : TE} {ta : TA} {d : D} {ds : List D} (h : Gw S G σ te d) (t : GwA S G σ ta ds) : GwA S G σ (tCons te ta) (d :: ds) := fun hS H s Q q =>
  h hS H s _ fun v H1 s1 hv => t hS H1 (s.trans s1) _ fun vs H2 s2 hvs => q _ H2 (s1.trans s2) (.cons (dx_mono (off_mono s2) hv) hvs)
theorem gw_lst {ta : TA} {ds : List D} (h : GwA S G σ ta ds) (hl : ds.length ≤ 1000 := by first | decide | simp) : Gw S G σ (tLst ta) (.lst ds) := fun hS H s Q q =>
  h hS H s _ fun vs H1 s1 hvs => ⟨by rw [dxAll_len hvs]; exact Nat.le_of_lt (Nat.lt_of_le_of_lt hl (by decide)), fun p np => q _ _ (s1.trans (Same.new np)) (.lst (off_new hS (s.trans s1) np) (dxAll_mono (off_mono (Same.new np)) hvs))⟩
theorem gw_tup {ta : TA} {ds : List D} (h : GwA S G σ ta ds) (hl : ds.length ≤ 1000 := by first | decide | simp) : Gw S G σ (tTup ta) (.tup ds) := fun hS H s Q q =>
  h hS H s _ fun vs H1 s1 hvs => ⟨by rw [dxAll_len hvs]; exact Nat.le_of_lt (Nat.lt_of_le_of_lt hl (by decide)), fun p np => q _ _ (s1.trans (Same.new np)) (.tup (off_new hS (s.trans s1) np) (dxAll_mono (off_mono (Same.new np)) hvs))⟩
theorem gw_dic : Gw S G σ tDNewK .dic := fun hS H s Q q => fun p np => q _ _ (Same.new np) (.dic (off_new hS s np))
theorem gw_rep {ta : TA} {tn : TE} {k : Int} {d : D} (h : GwA S G σ ta [d]) (hk : 0 ≤ k ∧ k ≤ 1000) (hn : ∀ (H : Hp) (Q : VK), Q (.int k) H → tn σ H Q) : Gw S G σ (tOp rRep (tLst ta) tn) (.lst (List.replicate k.toNat d)) := fun hS H s Q q =>
  h hS H s _ fun vs H1 s1 hv => ⟨by rw [dxAll_len hv]; show 1 ≤ sizeLine; decide, fun l nl => hn _ _ (by
    cases hv with
    | cons h0 hr =>
      cases hr
      have : sizeLine = 16777216 := by decide
      refine ⟨l, k, _, rfl, rfl, upd_same, by omega, by omega, by show 1 * k.toNat ≤ sizeLine; omega, fun p np => ?_⟩
      rw [flat_rep]
      exact q _ _ ((s1.trans (Same.new nl)).trans (Same.new np)) (.lst (off_new hS ((s.trans s1).trans (Same.new nl)) np) (dxAll_rep (dx_mono (off_mono ((Same.new nl).trans (Same.new np))) h0) _)))⟩
/-- the same at once -/
theorem rd_datS {te : TE} {H : Hp} {Q : VK} {d : D} (S : List Addr) (hS : ∀ a ∈ S, ∃ o, H a = some o) (h : Gw S H σ te d) (q : ∀ v H', Same H H' → Dx (off S H') v d → Q v H') : iE te σ H Q := iE_of (h hS H (Same.refl _) Q q)
theorem rd_ixS {K : PySem.W.Frag} {te ti : TE} {H : Hp} {Q : VK} {ds : List D} {n : Int} (S : List Addr) (hS : ∀ a ∈ S, ∃ o, H a = some o) (h : Gw S H σ te (.lst ds)) (h0 : 0 ≤ n) (h1 : n < ds.length) (hi : ∀ (H : Hp) (R : VK), R (.int n) H → ti σ H R)
    (q : ∀ v H', Same H H' → Dx (off S H') v (ds.getD n.toNat .non) → Q v H') : tOp (rIxL K) (iE te) ti σ H Q := by
  unfold tOp
  refine rd_datS S hS h fun v H1 s1 hv => hi _ _ ?_
  obtain ⟨a, vs, rfl, ha, hall⟩ := dx_lst hv
  obtain ⟨x, e1, e2⟩ := dxAll_at hall h0 h1
  exact ⟨a, vs, n, x, rfl, rfl, SqL.of (off_some ha).2, e1, q _ _ s1 e2⟩
theorem rd_setS {te : TE} {H : Hp} {d : D} {B : TS} {Dn : Ends} {j : Nat} (S : List Addr) (hS : ∀ a ∈ S, ∃ o, H a = some o) (h : Gw S H σ te d) (q : ∀ v H', Same H H' → Dx (off S H') v d → B Dn (σ.set j (some v)) H') : tSeq (tAsg (iE te) (gName j)) B Dn σ H := by
  unfold tSeq tAsg
  exact rd_datS S hS h q
/-- a list is laid; what it holds lies outside of it, too -/
def GwL (S : List Addr) (G : Hp) (σ : L2.St) (te : TE) (ds : List D) : Prop := (∀ a ∈ S, ∃ o, G a = some o) → ∀ H, Same G H → ∀ Q : VK, (∀ p vs H', H p = none → Same H H' → H' p = some (.lst vs) → DxAll (off (p :: S) H') vs ds → Q (.ref p) H') → te σ H Q
theorem off_cons {S : List Addr} {H1 : Hp} {p : Addr} {o : HO} (np : H1 p = none) : Same (off S H1) (off (p :: S) (upd H1 p o)) := fun b u e => by
  obtain ⟨e1, e2⟩ := off_some e
  have q : b ≠ p := ne_of_none e2 np
  rw [off_out (by simp [q, e1]), upd_ne q]; exact e2
theorem gl_lst {ta : TA} {ds : List D} (h : GwA S G σ ta ds) (hl : ds.length ≤ 1000 := by first | decide | simp) : GwL S G σ (tLst ta) ds := fun hS H s Q q =>
  h hS H s _ fun vs H1 s1 hvs => ⟨by rw [dxAll_len hvs]; exact Nat.le_of_lt (Nat.lt_of_le_of_lt hl (by decide)), fun p np => q p vs _ (s1.free np) (s1.trans (Same.new np)) upd_same (dxAll_mono (off_cons np) hvs)⟩
theorem gl_rep {ta : TA} {tn : TE} {k : Int} {d : D} (h : GwA S G σ ta [d]) (hk : 0 ≤ k ∧ k ≤ 1000) (hn : ∀ (H : Hp) (Q : VK), Q (.int k) H → tn σ H Q) : GwL S G σ (tOp rRep (tLst ta) tn) (List.replicate k.toNat d) := fun hS H s Q q =>
  h hS H s _ fun vs H1 s1 hv => ⟨by rw [dxAll_len hv]; show 1 ≤ sizeLine; decide, fun l nl => hn _ _ (by
    cases hv with
    | cons h0 hr =>
      cases hr
      have : sizeLine = 16777216 := by decide
      refine ⟨l, k, _, rfl, rfl, upd_same, by omega, by omega, by show 1 * k.toNat ≤ sizeLine; omega, fun p np => ?_⟩
      rw [flat_rep]
      exact q p _ _ ((s1.trans (Same.new nl)).free np) ((s1.trans (Same.new nl)).trans (Same.new np)) upd_same (dxAll_rep (dx_mono ((off_mono (Same.new nl)).trans (off_cons np)) h0) _))⟩
theorem rd_lay {te : TE} {H : Hp} {Q : VK} {ds : List D} (S : List Addr) (hS : ∀ a ∈ S, ∃ o, H a = some o) (h : GwL S H σ te ds) (q : ∀ p vs H', H p = none → Same H H' → H' p = some (.lst vs) → DxAll (off (p :: S) H') vs ds → Q (.ref p) H') : iE te σ H Q := iE_of (h hS H (Same.refl _) Q q)
theorem rd_setLS {te : TE} {H : Hp} {ds : List D} {B : TS} {Dn : Ends} {j : Nat} (S : List Addr) (hS : ∀ a ∈ S, ∃ o, H a = some o) (h : GwL S H σ te ds) (q : ∀ p vs H', H p = none → Same H H' → H' p = some (.lst vs) → DxAll (off (p :: S) H') vs ds → B Dn (σ.set j (some (.ref p))) H') : tSeq (tAsg (iE te) (gName j)) B Dn σ H := by
  unfold tSeq tAsg
  exact rd_lay S hS h q
end
theorem tabs_put {T : List (Addr × Str)} {H H' : Hp} {a : Addr} {xs : List V} (t : LamX.Tabs T H) (h : H a = some (.lst xs)) (f : Fra [a] H H') : LamX.Tabs T H' := fun x hx => by
  obtain ⟨ps, h1, h2, h3⟩ := t x hx
  have o1 : x.1 ≠ a := fun z => by rw [z, h] at h1; cases h1
  refine ⟨ps, f.one o1 h1, h2, fun pos cv hc => ?_⟩
  obtain ⟨c, e1, e2⟩ := h3 pos cv hc
  have o2 : c ≠ a := fun z => by rw [z, h] at e2; cases e2
  exact ⟨c, e1, f.one o2 e2⟩
theorem ext_fra {H H2 H3 : Hp} {S : List Addr} (e : LamX.ExtN H H2) (f : Fra S H2 H3) (n : ∀ a ∈ S, H a = none) : LamX.ExtN H H3 := fun b o h k =>
  f b o (fun z => by rw [n b z] at h; cases h) (e b o h k)
theorem same_offnew {H H' : Hp} {p : Addr} (s : Same H H') (n : H p = none) : Same H (off [p] H') := fun b o e => by
  rw [off_out (by simpa using ne_of_none e n)]; exact s _ _ e
theorem dxAll_intsD {H : Hp} : ∀ (ns : List Int), DxAll H (ns.map V.int) (ns.map D.int)
  | [] => .nil
  | n :: r => .cons (.int n) (dxAll_intsD r)
theorem dxAll_of {H : Hp} {f : Nat → D} : ∀ {ys : List V} (k : Nat), (∀ (i : Nat) y, ys[i]? = some y → Dx H y (f (i + k))) → DxAll H ys ((List.range' k ys.length).map f)
  | [], _, _ => .nil
  | y :: r, k, h => .cons (by have := h 0 y rfl; simpa using this) (by
      have ih := dxAll_of (ys := r) (f := f) (k + 1) fun i z e => by
        have := h (i + 1) z (by simpa using e)
        rwa [show i + 1 + k = i + (k + 1) by omega] at this
      simpa using ih)
theorem dxAll_fun {H : Hp} {f : Nat → D} {ys : List V} (h : ∀ (i : Nat) y, ys[i]? = some y → Dx H y (f i)) : DxAll H ys ((List.range ys.length).map f) := by
  rw [List.range_eq_range']
  exact dxAll_of 0 h
/-- a list at p, what it holds lies outside of it -/
structure LsD (H : Hp) (p : Addr) (vs : List V) (ds : List D) : Prop where
  at_ : H p = some (.lst vs)
  all : DxAll (off [p] H) vs ds
theorem LsD.dx {H : Hp} {p : Addr} {vs : List V} {ds : List D} (h : LsD H p vs ds) : Dx H (.ref p) (.lst ds) := .lst h.at_ (dxAll_mono (off_le _ _) h.all)
theorem LsD.mono {H H' : Hp} {p : Addr} {vs : List V} {ds : List D} (s : Same H H') (h : LsD H p vs ds) : LsD H' p vs ds := ⟨s _ _ h.at_, dxAll_mono (off_mono s) h.all⟩
/-- a member is stored, one that lies outside -/
theorem LsD.set {H : Hp} {p : Addr} {vs : List V} {ds : List D} (h : LsD H p vs ds) {v : V} {d : D} (hv : Dx (off [p] H) v d) (i : Nat) : LsD (upd H p (.lst (vs.set i v))) p (vs.set i v) (ds.set i d) :=
  ⟨upd_same, by rw [off_one]; exact dxAll_set hv i h.all⟩
end Song

/-! ### Dp2: written data as the kit's data -/
namespace Song
open PySem L2
mutual
def toPy : D → PyData
  | .non => .none
  | .bl b => .bool b
  | .int i => .int i
  | .str s => .str s
  | .lst l => .list (toPys l)
  | .tup l => .tuple (toPys l)
  | .dic => .none
def toPys : List D → List PyData
  | [] => []
  | d :: r => toPy d :: toPys r
def noDic : D → Bool
  | .lst l => noDics l
  | .tup l => noDics l
  | .dic => false
  | _ => true
def noDics : List D → Bool
  | [] => true
  | d :: r => noDic d && noDics r
end
mutual
theorem dx_dp {K : PySem.W.Frag} {H : Hp} : ∀ {v : V} {d : D}, Dx H v d → noDic d = true → Dp K H v (toPy d)
  | _, _, .non, _ => .non
  | _, _, .bl b, _ => .bl b
  | _, _, .int i, _ => .int i
  | _, _, .str x, _ => .str x
  | _, _, .lst h a, n => .lst (SqL.of h) (dxAll_dp a (by unfold noDic at n; exact n))
  | _, _, .tup h a, n => .tup (SqT.of h) (dxAll_dp a (by unfold noDic at n; exact n))
  | _, _, .dic h, n => by unfold noDic at n; cases n
theorem dxAll_dp {K : PySem.W.Frag} {H : Hp} : ∀ {vs : List V} {ds : List D}, DxAll H vs ds → noDics ds = true → DpAll K H vs (toPys ds)
  | _, _, .nil, _ => .nil
  | _, _, .cons d a, n => by
    unfold noDics at n
    rw [Bool.and_eq_true] at n
    exact .cons (dx_dp d n.1) (dxAll_dp a n.2)
end
end Song

/-! ### Lam4: lambdas of one parameter that capture nothing, as values -/
namespace Song
open PySem PySem.Spec PyProof.Rows L2
/-- the function object at f: a lambda without captured names, its code object at c' -/
def LamF (f c' : Addr) (q : Str) (params : Arguments) (body : Expr) (scope : Scope) : HO := .ext fun h => ∃ pm ctv : Value, h.get? f = some (PySem.W.kla_obj "<lambda>" q params body scope [] pm c' ctv)
theorem lamF_ne {f c' : Addr} {q : Str} {params : Arguments} {body : Expr} {scope : Scope} (ps : Array Value) : LamF f c' q params body scope ≠ .tbl ps := fun z => by
  unfold LamF at z
  cases z
section
variable {X : Cx} {pins : List (Addr × Obj)} {σ : L2.St} {H : Hp} {s : Shared}
theorem lam_laid {f c' : Addr} {q : Str} {params : Arguments} {body : Expr} {scope : Scope} {h' : Heap} {pm ctv : Value} {t t' : Nat} (I : Inv X pins σ H { s with heap := h', toks := t }) (hf : f = h'.objs.size) :
    Inv X pins σ (upd H f (LamF f c' q params body scope)) { s with heap := h'.push (PySem.W.kla_obj "<lambda>" q params body scope [] pm c' ctv), toks := t' } := by
  subst hf
  refine Inv.laid (s := { s with heap := h', toks := t }) (h' := h'.push (PySem.W.kla_obj "<lambda>" q params body scope [] pm c' ctv)) (t' := t') I (fun b u e => Heap.get?_push_of_some _ e) (Nat.le_refl _) ?_
  exact ⟨⟨pm, ctv, Heap.get?_push_size _ rfl⟩, ⟨_, Heap.get?_push_size _ rfl⟩, fun h1 h2 ⟨pm, ctv, e⟩ st => ⟨pm, ctv, st _ e⟩⟩
/-- one code object more is told in a table: all but tables stays, each table still tells its own -/
theorem table_more {T : List (Addr × Str)} {P c : Addr} {q : Str} {old : Array Value} {pos : Pos} (known : LamX.Tabs T H) (only : ∀ e ∈ T, e.1 = P → e.2 = q) (atP : H P = some (.tbl old)) (fresh : H c = none) :
    LamX.ExtN H (upd (upd H P (.tbl (old ++ #[rawInt pos.line, rawInt pos.col, .ref c]))) c (LamX.CodeO c q)) ∧ LamX.Tabs T (upd (upd H P (.tbl (old ++ #[rawInt pos.line, rawInt pos.col, .ref c]))) c (LamX.CodeO c q)) := by
  have stays : LamX.ExtN H (upd (upd H P (.tbl (old ++ #[rawInt pos.line, rawInt pos.col, .ref c]))) c (LamX.CodeO c q)) := by
    intro b o there plain
    have away : b ≠ P := fun same => by
      rw [same, atP] at there
      exact plain old (Option.some.inj there).symm
    rw [upd_ne (ne_of_none there fresh), upd_ne away]
    exact there
  refine ⟨stays, fun e he => ?_⟩
  obtain ⟨arr, stands, triples, tells⟩ := known e he
  have off_c : e.1 ≠ c := ne_of_none stands fresh
  by_cases same : e.1 = P
  · have eq : arr = old := by
      rw [same, atP] at stands
      injection stands with z
      injection z with z
      exact z.symm
    subst eq
    have flat : (arr ++ #[rawInt pos.line, rawInt pos.col, .ref c]).toList = arr.toList ++ [rawInt pos.line, rawInt pos.col, .ref c] := Array.toList_append
    refine ⟨arr ++ #[rawInt pos.line, rawInt pos.col, .ref c], ?_, ?_, fun at_ told h => ?_⟩
    · rw [upd_ne off_c, same, upd_same]
    · rw [flat]
      exact PySem.TriplesOk_snoc _ _ _ _ triples
    · rw [flat] at h
      rw [only e he same]
      rcases LamX.among_app _ triples h with was | is
      · obtain ⟨d, e1, e2⟩ := tells at_ told was
        rw [only e he same] at e2
        exact ⟨d, e1, stays _ _ e2 LamX.codeO_ne⟩
      · exact ⟨c, is, upd_same⟩
  · refine ⟨arr, ?_, triples, fun at_ told h => ?_⟩
    · rw [upd_ne off_c, upd_ne same]
      exact stands
    · obtain ⟨d, e1, e2⟩ := tells at_ told h
      exact ⟨d, e1, stays _ _ e2 LamX.codeO_ne⟩
/-- making a lambda that captures nothing: the function object is known from then on -/
theorem lam_make3 {T : List (Addr × Str)} {c P : Addr} {params : Arguments} {body : Expr} {scope : Scope} {pos : Pos} {E : Value → Shared → Prop} {Q : Value → Shared → Prop} (I : Inv X pins σ H s) (TB : LamX.TabB X.base X.mg c P) (hcode : X.env.code = .ref c)
    (inT : (P, X.env.qual ++ "<lambda>") ∈ T) (only : ∀ e ∈ T, e.1 = P → e.2 = X.env.qual ++ "<lambda>") (known : LamX.Tabs T H) (hdef : defaultsOf params X.env = ([], [])) (hcl : closureFor scope X.env = pure [])
    (h : ∀ (f c' : Addr) (H1 : Hp) (s' : Shared), Inv X pins σ H1 s' → LamX.ExtN H H1 → LamX.Tabs T H1 → H f = none → H1 f = some (LamF f c' (X.env.qual ++ "<lambda>") params body scope) → H1 c' = some (LamX.CodeO c' (X.env.qual ++ "<lambda>")) → Q (.ref f) s') :
    wpAny (model X.prog X.w) X.A (eval (.Lambda params body scope pos) X.env) Q E s :=
  PySem.W.kla_eval hdef (by
    obtain ⟨old, atP, triples, tells⟩ := known _ inT
    have there : s.heap.get? P = some { cls := .none, data := .fields old } := I.hok _ _ atP
    -- what is left once the heap g holds the code object at d
    have rest : ∀ (d : Addr) (G : Hp) (g : Heap) (k k' : Nat) (ctv : Value), Inv X pins σ G { s with heap := g, toks := k } → s.heap.objs.size ≤ g.objs.size → LamX.ExtN H G → LamX.Tabs T G → G d = some (LamX.CodeO d (X.env.qual ++ "<lambda>")) →
        Q (.ref g.objs.size) { s with heap := g.push (PySem.W.kla_obj "<lambda>" (X.env.qual ++ "<lambda>") params body scope [] ((X.mg "__name__").getD .none) d ctv), toks := k' } := fun d G g k k' ctv J big ext tabs code => by
      have open_ : G g.objs.size = none := J.hok.fresh (Nat.le_refl _)
      have grows := Same.new (o := LamF g.objs.size d (X.env.qual ++ "<lambda>") params body scope) open_
      exact h _ d _ _ (lam_laid (pm := (X.mg "__name__").getD .none) (ctv := ctv) (t' := k') J rfl) (ext.trans (LamX.ExtN.of grows)) (tabs.ext grows) (I.hok.fresh big) upd_same (grows _ _ code)
    cases look : codeAmong pos old.toList with
    | none =>
      refine PySem.W.kla_makeFunction (mg := X.mg) (c := c) (P := P) (ps := old) hcl I.ok.glob (I.mod.glob.keeps I.bk) hcode (TB.code.keeps I.bk) there triples look TB.gP (TB.bm.keeps I.bk) fun d ctv g k but low high rec tab => ?_
      obtain ⟨d', co, xs, tk, e, hco, hdat, hname⟩ := rec
      obtain rfl : d = d' := by injection e
      obtain ⟨ext, tabs⟩ := table_more (pos := pos) known only atP (I.hok.fresh low)
      exact rest d _ g k k ctv (LamX.inv_table (t' := k) (more := #[rawInt pos.line, rawInt pos.col, .ref d]) (q := X.env.qual ++ "<lambda>") I atP (fun b o away e => but b o away e) tab low ⟨co, xs, tk, hco, hdat, hname⟩) (Nat.le_of_lt (Nat.lt_of_le_of_lt low high)) ext tabs upd_same
    | some told =>
      obtain ⟨d, rfl, code⟩ := tells pos told look
      exact PySem.W.kla_makeFunctionHit (mg := X.mg) (c := c) (P := P) (ps := old) hcl I.ok.glob (I.mod.glob.keeps I.bk) hcode (TB.code.keeps I.bk) there triples look (TB.bm.keeps I.bk) fun ctv g k all big =>
        rest d H g k k ctv (I.kept fun b o e => all b o e) big (LamX.ExtN.refl H) known code)
end
def tLamV (T : List (Addr × Str)) (q : Str) (params : Arguments) (body : Expr) (scope : Scope) : TE := fun _ H Q => LamX.Tabs T H ∧ ∀ (f c' : Addr) (H1 : Hp), LamX.ExtN H H1 → LamX.Tabs T H1 → H f = none → H1 f = some (LamF f c' q params body scope) → H1 c' = some (LamX.CodeO c' q) → Q (.ref f) H1
theorem pe_lamV {X : Cx} {d : Str} {tf : List He.Defn} {params : Arguments} {body : Expr} {scope : Scope} {pos : Pos} (L : LamT X.K X.mg X.base (TLof X.K tf) d) (hq : X.env.qual = d ++ ".<locals>.") (hcode : X.env.code = .ref (He.cT X.K (d, none)).1)
    (hdef : defaultsOf params X.env = ([], [])) (hcl : closureFor scope X.env = pure []) : PE X (.Lambda params body scope pos) (tLamV (TLof X.K tf) (qOf d) params body scope) := by
  refine ⟨fun pins s σ H Q I h => ?_⟩
  have e : X.env.qual ++ "<lambda>" = qOf d := by rw [hq]
  refine lam_make3 I L.tb hcode (by rw [e]; exact L.mem) (fun p hp z => by rw [e]; exact L.uq p hp z) h.1 hdef hcl fun f c' H1 s' I1 eN T1 nf hf hc => ?_
  rw [e] at hf hc
  exact ⟨.ref f, H1, I1, rfl, h.2 f c' H1 eN T1 nf hf hc⟩
/-! #### calls -/
/-- what a call of the lambda does -/
structure LamOk (P : Program) (w : World) (K : PySem.W.Frag) (mg : Str → Option Value) (base : Heap) (k : Nat) (q : Str) (params : Arguments) (body : Expr) (scope : Scope) (sp : Sp) : Prop where
  run : ∀ (A : Around) (outer : List Env) (s : Shared) (H : Hp) (f c' : Addr) (pm ctv u : Value) (v : V) (Q : VK), Room k A → Env0 P w K mg base A outer s H → s.heap.get? f = some (PySem.W.kla_obj "<lambda>" q params body scope [] pm c' ctv) → s.heap.CodeRec (.ref c') q →
    RelV v u → sp [v] H Q C8.E0 → codeAny (model P w) A (.call (.ref f) ⟨[u], []⟩) (CR C8.CX0 outer P w H s Q C8.E0) s
theorem lamOk_of {P : Program} {w : World} {K : PySem.W.Frag} {mg : Str → Option Value} {base : Heap} {k : Nat} {q x : Str} {params : Arguments} {body : Expr} {scope : Scope} {sp : Sp} (S : FnScope [x] [x] scope)
    (hbind : ∀ (pm cv ctv u : Value), bindArgs (PySem.W.kla_fn "<lambda>" q params body scope [] pm cv ctv) ⟨[u], []⟩ = pure [(x, u)])
    (hbody : ∀ (A : Around) (outer : List Env) (s : Shared) (H : Hp) (f c' : Addr) (v : V) (Q : VK), Room k (A.deeper (envOfC q scope s.heap.objs.size f (.ref c'))) → sp [v] H Q C8.E0 →
      ∃ t, PE (cxOf C8.CX0 P w K mg base [x] q scope f (.ref c') A outer s H C8.E0).nox body t ∧ t (L2.start [x] [v]) H Q) : LamOk P w K mg base (k + 1) q params body scope sp := by
  refine ⟨fun A outer s H f c' pm ctv u v Q hr e0 hf hcd rv hsp => ?_⟩
  have nolim : s.heap.NoLimit := e0.mod.nolimit.keeps fun b o there => (e0.bs b o there).1
  have hkind : ∀ y ∈ [(x, u)], scope.names.lookup y.1 = some .local ∨ (scope.names.lookup y.1 = some .cell ∧ ((cellsFrom (s.heap.objs.size + 1) scope.names []).lookup y.1).isSome = true) := fun y hy => by
    rw [List.mem_singleton.mp hy]
    exact (S.par x (by simp)).imp id fun cell => ⟨cell, PySem.W.cellsFrom_some _ _ _ (.inl cell)⟩
  refine PySem.W.kla_callFunE hr.depth hf rfl S.co S.gen rfl hcd ?_
  rw [hbind]
  refine wpAny_pure ?_
  refine wpAny_newFunctionEnv_cells S.kind hkind fun env he s1 x1 => ?_
  subst he
  refine ⟨nolim.keeps x1.toInCall.keep, ?_⟩
  show codeAny _ _ (.expr body _) _ _
  obtain ⟨t, ht, hq⟩ := hbody A outer s H f c' v Q (hr.deeper _) hsp
  have I : Inv (cxOf C8.CX0 P w K mg base [x] q scope f (.ref c') A outer s H C8.E0) [] (L2.start [x] [v]) H s1 := inv_start (us := [u]) S hr.hd e0 rfl (.cons rv .nil) x1
  refine PySem.W.kla_codeExpr (wpAny_mono (ht.run [] s1 (L2.start [x] [v]) H Q (I.wish _) hq) (fun v' s' hs => ?_) fun e s' hs => hs.elim)
  obtain ⟨w', H', J, rv', q'⟩ := hs
  exact ⟨w', H', J.os, J.bare, J.base, J.hok, rv', q'⟩
/-- a(e): what is called is a lambda that is known -/
def tAsk (P : Program) (w : World) (K : PySem.W.Frag) (mg : Str → Option Value) (base : Heap) (k i : Nat) (te : TE) : TE := fun σ H Q => ∃ (f c' : Addr) (q : Str) (params : Arguments) (body : Expr) (scope : Scope) (sp : Sp), σ[i]? = some (some (.ref f)) ∧ H f = some (LamF f c' q params body scope) ∧
  LamOk P w K mg base k q params body scope sp ∧ te σ H fun v H1 => H1 f = some (LamF f c' q params body scope) ∧ H1 c' = some (LamX.CodeO c' q) ∧ sp [v] H1 Q C8.E0
theorem pe_ask {X : Cx} {a : Str} {i k : Nat} {e : Expr} {te : TE} {p pos : Pos} (hN : X.N[i]? = some a) (hv : Vis X.env.scope a) (hr : Room k X.A) (he : PE X e te) (hx : Passes C8.CX0 X C8.E0) (hd : (a == ("__debug__" : Str)) = false := by decide) (hcd : (a == ("__classdict__" : Str)) = false := by decide)
    (hs : starEach [e] X.env = [(false, eval e X.env)] := by rfl) : PE X (.Call (.Name a p) [e] [] pos) (tAsk X.prog X.w X.K X.mg X.base k i te) := by
  refine ⟨fun pins s σ H Q I h => ?_⟩
  obtain ⟨f, c', q, params, body, scope, sp, hσ, hf, ok, ht⟩ := h
  refine wpAny_Call_Name_kw (thn ((pe_var (pos := p) (i := i) hN hv hd hcd).run pins s σ H (fun v H1 => v = .ref f ∧ H1 = H) I ⟨.ref f, hσ, rfl, rfl⟩) fun u s1 ⟨v, H1, I1, r1, q1⟩ => ?_)
  obtain ⟨ev, eH⟩ := q1
  subst ev
  rw [eH] at I1
  obtain rfl : u = .ref f := r1
  obtain ⟨⟨pm, ctv, of1⟩, _, _⟩ := I1.hok f _ hf
  refine PySem.W.callWith_F ⟨_, _, _, _, of1⟩ ?_ (by rw [hs]; rfl) rfl
  rw [hs]
  show wpAny _ _ (spliced ((false, eval e X.env) :: backTo pos [])) _ _ s1
  refine Calls.spliced_cons (thn (he.run pins s1 σ H _ I1 ht) fun u s2 ⟨v, H2, I2, ru, hf2, hc2, hsp⟩ => ?_)
  obtain ⟨⟨pm2, ctv2, of2⟩, _, _⟩ := I2.hok f _ hf2
  obtain ⟨⟨oc, vs, t, hoc, hdc, hvc⟩, _, _⟩ := I2.hok c' _ hc2
  refine Calls.spliced_nil ?_
  refine ⟨⟨_, _, _, _, of2⟩, wpAny_call (codeAny_mono (ok.run X.A X.stack s2 H2 f c' pm2 ctv2 u v Q hr I2.env0 of2 ⟨c', oc, vs, t, rfl, hoc, hdc, hvc⟩ ru hsp) fun r s' hq => ?_)⟩
  cases r with
  | error e => exact hx pins σ H2 s2 e s' I2 hq
  | ok fl =>
    cases fl with
    | ret u => exact I2.after hq
    | next => exact False.elim hq
    | brk => exact False.elim hq
    | cont => exact False.elim hq
end Song

/-! ### Ks: data laid anew, its spine of lists -/
namespace Song
open PySem L2
/-! #### what is new since G -/
def Nw (G H : Hp) : Hp := fun a => match G a with
  | none => H a
  | some _ => none
theorem nw_some {G H : Hp} {a : Addr} {o : HO} (h : Nw G H a = some o) : G a = none ∧ H a = some o := by
  unfold Nw at h
  cases e : G a with
  | none => rw [e] at h; exact ⟨rfl, h⟩
  | some u => rw [e] at h; cases h
theorem nw_of {G H : Hp} {a : Addr} {o : HO} (n : G a = none) (h : H a = some o) : Nw G H a = some o := by
  unfold Nw
  rw [n]; exact h
theorem nw_le (G H : Hp) : Same (Nw G H) H := fun _ _ h => (nw_some h).2
theorem nw_mono {G H H' : Hp} (s : Same H H') : Same (Nw G H) (Nw G H') := fun _ _ h => nw_of (nw_some h).1 (s _ _ (nw_some h).2)
theorem nw_left {G G' H : Hp} (s : Same G G') : Same (Nw G' H) (Nw G H) := fun _ _ h => nw_of (s.free (nw_some h).1) (nw_some h).2
/-! #### data that can be compared and copied -/
mutual
def okD : Nat → D → Bool
  | _, .non => true
  | _, .bl _ => true
  | _, .int _ => true
  | _, .str s => PyData.canLay0 (.str s)
  | _, .dic => false
  | 0, .lst _ => false
  | 0, .tup _ => false
  | k + 1, .lst l => decide (l.length ≤ 900) && okDs k l
  | k + 1, .tup l => decide (l.length ≤ 900) && okDs k l
def okDs : Nat → List D → Bool
  | _, [] => true
  | k, d :: r => okD k d && okDs k r
end
mutual
theorem okD_shp : ∀ {k : Nat} {d : D}, okD k d = true → Shp (k + 1) (toPy d) ∧ noDic d = true
  | _, .non, _ => ⟨by unfold toPy; exact ⟨by rw [PyData.canLay0], by rw [PyData.depth] <;> omega⟩, by unfold noDic; rfl⟩
  | _, .bl b, _ => ⟨by unfold toPy; exact ⟨by rw [PyData.canLay0], by rw [PyData.depth] <;> omega⟩, by unfold noDic; rfl⟩
  | _, .int i, _ => ⟨by unfold toPy; exact shp_int i, by unfold noDic; rfl⟩
  | _, .str s, h => by
    unfold okD at h
    exact ⟨by unfold toPy; exact shp_word h, by unfold noDic; rfl⟩
  | _, .dic, h => by unfold okD at h; cases h
  | 0, .lst _, h => by unfold okD at h; cases h
  | 0, .tup _, h => by unfold okD at h; cases h
  | k + 1, .lst l, h => by
    unfold okD at h
    rw [Bool.and_eq_true] at h
    obtain ⟨h1, h2⟩ := okDs_shp h.2
    refine ⟨?_, by unfold noDic; exact h2⟩
    unfold toPy
    exact shp_list h1
  | k + 1, .tup l, h => by
    unfold okD at h
    rw [Bool.and_eq_true] at h
    obtain ⟨h1, h2⟩ := okDs_shp h.2
    refine ⟨?_, by unfold noDic; exact h2⟩
    unfold toPy
    exact shp_tuple h1
theorem okDs_shp : ∀ {k : Nat} {l : List D}, okDs k l = true → (∀ x ∈ toPys l, Shp (k + 1) x) ∧ noDics l = true
  | _, [], _ => ⟨fun x hx => (by unfold toPys at hx; cases hx), (by unfold noDics; rfl)⟩
  | k, d :: r, h => by
    unfold okDs at h
    rw [Bool.and_eq_true] at h
    obtain ⟨a1, a2⟩ := okD_shp h.1
    obtain ⟨b1, b2⟩ := okDs_shp h.2
    refine ⟨fun x hx => ?_, by unfold noDics; rw [a2, b2]; rfl⟩
    unfold toPys at hx
    rcases List.mem_cons.mp hx with e | e
    · rw [e]; exact a1
    · exact b1 x e
end
theorem okDs_mem : ∀ {k : Nat} {l : List D}, okDs k l = true → ∀ d ∈ l, okD k d = true
  | _, [], _, d, hd => by cases hd
  | k, e :: r, h, d, hd => by
    unfold okDs at h
    rw [Bool.and_eq_true] at h
    rcases List.mem_cons.mp hd with z | z
    · rw [z]; exact h.1
    · exact okDs_mem h.2 d z
/-- d == d -/
theorem eqD_self {k : Nat} {d : D} (h : okD k d = true) (hk : k < 60) : PyData.eqv (toPy d) (toPy d) = true ∧ SeqAt.shaped (toPy d) = true ∧ noDic d = true :=
  ⟨eqv_self (okD_shp h).1, (okD_shp h).1.ok (by omega), (okD_shp h).2⟩
/-! #### spines -/
inductive Sk where
  | leaf
  | node (a : Addr) (ks : List Sk)
mutual
def adr : Sk → List Addr
  | .leaf => []
  | .node a ks => a :: adrs ks
def adrs : List Sk → List Addr
  | [] => []
  | k :: r => adr k ++ adrs r
end
def isL : D → Bool
  | .lst _ => true
  | _ => false
mutual
/-- the spine's lists stand in H, what else there is in L -/
inductive Lies (L H : Hp) : Sk → V → D → Prop
  | leaf {v : V} {d : D} : isL d = false → Dx L v d → Lies L H .leaf v d
  | node {a : Addr} {ks : List Sk} {vs : List V} {ds : List D} : H a = some (.lst vs) → LiesA L H ks vs ds → Lies L H (.node a ks) (.ref a) (.lst ds)
inductive LiesA (L H : Hp) : List Sk → List V → List D → Prop
  | nil : LiesA L H [] [] []
  | cons {k : Sk} {v : V} {d : D} {ks : List Sk} {vs : List V} {ds : List D} : Lies L H k v d → LiesA L H ks vs ds → LiesA L H (k :: ks) (v :: vs) (d :: ds)
end
mutual
theorem lies_mono {L H L' H' : Hp} (s : Same L L') : ∀ {k : Sk} {v : V} {d : D}, (∀ a ∈ adr k, ∀ o, H a = some o → H' a = some o) → Lies L H k v d → Lies L' H' k v d
  | _, _, _, _, .leaf n h => .leaf n (dx_mono s h)
  | .node a ks, _, _, t, .node h r => .node (t a (by unfold adr; simp) _ h) (liesA_mono s (fun b hb => t b (by unfold adr; simp [hb])) r)
theorem liesA_mono {L H L' H' : Hp} (s : Same L L') : ∀ {ks : List Sk} {vs : List V} {ds : List D}, (∀ a ∈ adrs ks, ∀ o, H a = some o → H' a = some o) → LiesA L H ks vs ds → LiesA L' H' ks vs ds
  | _, _, _, _, .nil => .nil
  | k :: ks, _, _, t, .cons h r => .cons (lies_mono s (fun b hb => t b (by unfold adrs; simp [hb])) h) (liesA_mono s (fun b hb => t b (by unfold adrs; simp [hb])) r)
end
mutual
theorem lies_dx {L H : Hp} : ∀ {G : Hp} {k : Sk} {v : V} {d : D}, Same L G → (∀ a ∈ adr k, ∀ o, H a = some o → G a = some o) → Lies L H k v d → Dx G v d
  | _, _, _, _, s, _, .leaf n h => dx_mono s h
  | _, .node a ks, _, _, s, t, .node h r => .lst (t a (by unfold adr; simp) _ h) (liesA_dx s (fun b hb => t b (by unfold adr; simp [hb])) r)
theorem liesA_dx {L H : Hp} : ∀ {G : Hp} {ks : List Sk} {vs : List V} {ds : List D}, Same L G → (∀ a ∈ adrs ks, ∀ o, H a = some o → G a = some o) → LiesA L H ks vs ds → DxAll G vs ds
  | _, _, _, _, _, _, .nil => .nil
  | _, k :: ks, _, _, s, t, .cons h r => .cons (lies_dx s (fun b hb => t b (by unfold adrs; simp [hb])) h) (liesA_dx s (fun b hb => t b (by unfold adrs; simp [hb])) r)
end
mutual
theorem lies_dom {L H : Hp} : ∀ {k : Sk} {v : V} {d : D}, Lies L H k v d → ∀ a ∈ adr k, ∃ xs, H a = some (.lst xs)
  | _, _, _, .leaf _ _, a, ha => by unfold adr at ha; cases ha
  | .node b ks, _, _, .node h r, a, ha => by
    unfold adr at ha
    rcases List.mem_cons.mp ha with z | z
    · rw [z]; exact ⟨_, h⟩
    · exact liesA_dom r a z
theorem liesA_dom {L H : Hp} : ∀ {ks : List Sk} {vs : List V} {ds : List D}, LiesA L H ks vs ds → ∀ a ∈ adrs ks, ∃ xs, H a = some (.lst xs)
  | _, _, _, .nil, a, ha => by unfold adrs at ha; cases ha
  | k :: ks, _, _, .cons h r, a, ha => by
    unfold adrs at ha
    rcases List.mem_append.mp ha with z | z
    · exact lies_dom h a z
    · exact liesA_dom r a z
end
theorem adrs_app : ∀ (ks ls : List Sk), adrs (ks ++ ls) = adrs ks ++ adrs ls
  | [], ls => rfl
  | k :: ks, ls => by
    show adr k ++ adrs (ks ++ ls) = adr k ++ adrs ks ++ adrs ls
    rw [adrs_app ks ls, List.append_assoc]
theorem adrs_one (k : Sk) : adrs [k] = adr k := by
  show adr k ++ [] = adr k
  rw [List.append_nil]
theorem liesA_app {L H : Hp} : ∀ {ks ls : List Sk} {vs ws : List V} {ds es : List D}, LiesA L H ks vs ds → LiesA L H ls ws es → LiesA L H (ks ++ ls) (vs ++ ws) (ds ++ es)
  | _, _, _, _, _, _, .nil, h => h
  | _, _, _, _, _, _, .cons a b, h => .cons a (liesA_app b h)
theorem liesA_len {L H : Hp} : ∀ {ks : List Sk} {vs : List V} {ds : List D}, LiesA L H ks vs ds → vs.length = ks.length ∧ ds.length = ks.length
  | _, _, _, .nil => ⟨rfl, rfl⟩
  | _, _, _, .cons _ r => by
    obtain ⟨h1, h2⟩ := liesA_len r
    exact ⟨by simp [h1], by simp [h2]⟩
theorem mem_adrs {a : Addr} : ∀ {ks : List Sk} {i : Nat} {k : Sk}, ks[i]? = some k → a ∈ adr k → a ∈ adrs ks
  | [], _, _, e, _ => by simp at e
  | k0 :: ks, 0, k, e, h => by
    simp at e
    unfold adrs
    rw [e]
    exact List.mem_append_left _ h
  | k0 :: ks, i + 1, k, e, h => by
    unfold adrs
    exact List.mem_append_right _ (mem_adrs (i := i) (by simpa using e) h)
theorem liesA_get {L H : Hp} : ∀ {ks : List Sk} {vs : List V} {ds : List D} {i : Nat} {d : D}, LiesA L H ks vs ds → ds[i]? = some d → ∃ k v, ks[i]? = some k ∧ vs[i]? = some v ∧ Lies L H k v d
  | _, _, _, _, _, .nil, e => by simp at e
  | _, _, _, 0, d, .cons a b, e => by simp at e; subst e; exact ⟨_, _, rfl, rfl, a⟩
  | _, _, _, i + 1, d, .cons a b, e => by
    obtain ⟨k, v, h1, h2, h3⟩ := liesA_get (i := i) b (by simpa using e)
    exact ⟨k, v, by simpa using h1, by simpa using h2, h3⟩
/-- one of them is changed: its own addresses alone -/
theorem liesA_one {L H L' H' : Hp} (s : Same L L') : ∀ {ks : List Sk} {vs : List V} {ds : List D} {i : Nat} {k : Sk} {v' : V} {d' : D}, LiesA L H ks vs ds → ks[i]? = some k → (adrs ks).Nodup → (∀ a ∈ adrs ks, a ∉ adr k → ∀ o, H a = some o → H' a = some o) → Lies L' H' k v' d' → LiesA L' H' ks (vs.set i v') (ds.set i d')
  | _, _, _, _, _, _, _, .nil, e, _, _, _ => by simp at e
  | k0 :: ks, _, _, 0, k, v', d', .cons a b, e, nd, t, h => by
    simp at e
    subst e
    unfold adrs at nd t
    rw [List.nodup_append] at nd
    refine .cons h (liesA_mono s (fun x hx o ho => t x (List.mem_append_right _ hx) (fun z => nd.2.2 x z x hx rfl) o ho) b)
  | k0 :: ks, _, _, i + 1, k, v', d', .cons a b, e, nd, t, h => by
    unfold adrs at nd t
    rw [List.nodup_append] at nd
    have e' : ks[i]? = some k := by simpa using e
    refine .cons (lies_mono s (fun x hx o ho => t x (List.mem_append_left _ hx) (fun z => nd.2.2 x hx x (mem_adrs e' z) rfl) o ho) a) ?_
    exact liesA_one s b e' nd.2.1 (fun x hx n o ho => t x (List.mem_append_right _ hx) n o ho) h
/-! #### lists as long -/
mutual
def sameSh : D → D → Bool
  | .lst l, .lst m => sameShs l m
  | .lst _, _ => false
  | _, .lst _ => false
  | _, _ => true
def sameShs : List D → List D → Bool
  | [], [] => true
  | d :: r, e :: t => sameSh d e && sameShs r t
  | _, _ => false
end
theorem sameShs_len : ∀ {l m : List D}, sameShs l m = true → l.length = m.length
  | [], [], _ => rfl
  | [], _ :: _, h => by unfold sameShs at h; cases h
  | _ :: _, [], h => by unfold sameShs at h; cases h
  | d :: r, e :: t, h => by
    unfold sameShs at h
    rw [Bool.and_eq_true] at h
    simp [sameShs_len h.2]
theorem sameShs_get : ∀ {l m : List D} {i : Nat} {d e : D}, sameShs l m = true → l[i]? = some d → m[i]? = some e → sameSh d e = true
  | [], _, _, _, _, _, h, _ => by simp at h
  | _ :: _, [], _, _, _, h, _, _ => by unfold sameShs at h; cases h
  | d :: r, e :: t, 0, d', e', h, h1, h2 => by
    simp at h1 h2
    subst h1; subst h2
    unfold sameShs at h
    rw [Bool.and_eq_true] at h
    exact h.1
  | d :: r, e :: t, i + 1, d', e', h, h1, h2 => by
    unfold sameShs at h
    rw [Bool.and_eq_true] at h
    exact sameShs_get (i := i) h.2 (by simpa using h1) (by simpa using h2)
end Song

/-! ### Cp: _law_copy of k14 -/
namespace Song
open PySem L2
theorem pe_recC {X : Cx} {x : Str} {r c : Nat} {sp : Nat → Sp} {e : Expr} {es : List Expr} {t : TA} {p pos : Pos} (ih : ∀ r', r' < r → Fn X.prog X.w X.K X.mg X.base x (r' + c) (sp r')) (hr : Room (r + c - 1) X.A) (hg : Gl X x) (ha : PA X (e :: es) t)
    (hdb : (x == ("__debug__" : Str)) = false := by decide) (he : starEach (e :: es) X.env = (false, eval e X.env) :: starEach es X.env := by rfl) (hpl : (backTo pos (starEach es X.env)).any (·.1) = false := by rfl) :
    PE X (.Call (.Name x p) (e :: es) [] pos) (tRec sp r t) := by
  refine ⟨fun pins s σ H Q I h => ?_⟩
  obtain ⟨r', hlt, h⟩ := h
  exact (pe_fn (ih r' hlt) (hr.mono (by omega)) hg ha hdb he hpl).run pins s σ H Q I h
theorem off_nil (H : Hp) : Same H (off [] H) := fun b o h => by rw [off_out (by simp)]; exact h
/-- copies, one behind the other: D is the list that grows -/
structure Cps (H : Hp) (D : Addr) (X : Hp) (ks : List Sk) (ys : List V) (ds : List Song.D) : Prop where
  sm : Same H X
  at_ : X D = some (.lst ys)
  nd : (adrs ks).Nodup
  out : D ∉ adrs ks
  new : ∀ a ∈ adrs ks, H a = none
  all : LiesA (off (D :: adrs ks) (Nw H X)) X ks ys ds
theorem Cps.start {H : Hp} {D : Addr} (n : H D = none) : Cps H D (upd H D (.lst [])) [] [] [] :=
  ⟨Same.new n, upd_same, List.nodup_nil, (by simp [adrs]), (fun a h => by unfold adrs at h; cases h), .nil⟩
theorem Cps.step {H : Hp} {D : Addr} {X X2 : Hp} {ks : List Sk} {ys : List V} {ds : List Song.D} {k : Sk} {y : V} {d : Song.D} (nD : H D = none) (c : Cps H D X ks ys ds) (s : Same X X2) (nd : (adr k).Nodup) (nw : ∀ a ∈ adr k, X a = none) (h : Lies (off (adr k) (Nw X X2)) X2 k y d) :
    Cps H D (upd X2 D (.lst (ys ++ [y]))) (ks ++ [k]) (ys ++ [y]) (ds ++ [d]) := by
  have hDk : D ∉ adr k := fun z => by have := nw D z; rw [c.at_] at this; cases this
  have olddom : ∀ a ∈ adrs ks, ∃ xs, X a = some (.lst xs) := liesA_dom c.all
  have apart : ∀ a ∈ adrs ks, a ∉ adr k := fun a ha z => by
    obtain ⟨xs, h1⟩ := olddom a ha
    rw [nw a z] at h1; cases h1
  have ea : adrs (ks ++ [k]) = adrs ks ++ adr k := by rw [adrs_app, adrs_one]
  have oD : ∀ (S : List Addr) (o : HO), D ∈ S → Same (off S (Nw H X2)) (off S (Nw H (upd X2 D o))) := fun S o hS b u hb => by
    obtain ⟨h1, h2⟩ := off_some hb
    obtain ⟨h3, h4⟩ := nw_some h2
    have q : b ≠ D := fun z => h1 (by rw [z]; exact hS)
    rw [off_out h1]
    exact nw_of h3 (by rw [upd_ne q]; exact h4)
  have old : Same (off (D :: adrs ks) (Nw H X)) (off (D :: adrs (ks ++ [k])) (Nw H X2)) := fun b u hb => by
    obtain ⟨h1, h2⟩ := off_some hb
    obtain ⟨h3, h4⟩ := nw_some h2
    rw [off_out (fun z => ?_)]
    · exact nw_of h3 (s _ _ h4)
    · rw [ea] at z
      rcases List.mem_cons.mp z with e | e
      · exact h1 (by rw [e]; simp)
      · rcases List.mem_append.mp e with e | e
        · exact h1 (List.mem_cons_of_mem _ e)
        · rw [nw b e] at h4; cases h4
  have young : Same (off (adr k) (Nw X X2)) (off (D :: adrs (ks ++ [k])) (Nw H X2)) := fun b u hb => by
    obtain ⟨h1, h2⟩ := off_some hb
    obtain ⟨h3, h4⟩ := nw_some h2
    rw [off_out (fun z => ?_)]
    · exact nw_of (c.sm.free h3) h4
    · rw [ea] at z
      rcases List.mem_cons.mp z with e | e
      · rw [e, c.at_] at h3; cases h3
      · rcases List.mem_append.mp e with e | e
        · obtain ⟨xs, hx⟩ := olddom b e
          rw [h3] at hx; cases hx
        · exact h1 e
  refine ⟨same_put nD (c.sm.trans s), upd_same, ?_, ?_, ?_, ?_⟩
  · rw [ea, List.nodup_append]
    exact ⟨c.nd, nd, fun a ha b hb e => apart a ha (by rw [e]; exact hb)⟩
  · rw [ea]
    intro z
    rcases List.mem_append.mp z with e | e
    · exact c.out e
    · exact hDk e
  · rw [ea]
    intro a z
    rcases List.mem_append.mp z with e | e
    · exact c.new a e
    · exact c.sm.free (nw a e)
  · refine liesA_app (liesA_mono (old.trans (oD _ _ (by simp))) (fun a ha o ho => ?_) c.all) (.cons (lies_mono (young.trans (oD _ _ (by simp))) (fun a ha o ho => ?_) h) .nil)
    · rw [upd_ne (fun z => c.out (by rw [← z]; exact ha))]; exact s _ _ ho
    · rw [upd_ne (fun z => hDk (by rw [← z]; exact ha))]; exact ho
section
variable {P : Program} {w : World} {K : PySem.W.Frag} {mg : Str → Option Value} {base : Heap}
theorem sc__law_copy : FnScope ["_law_thing", "_law_one"] ["_law_thing"] (defScope s__law_copy) := ⟨rfl, rfl, rfl, by decide +kernel, rfl, by decide +kernel, by decide +kernel⟩
def sp_copy (r : Nat) : Sp := fun vs H Q _ => ∃ (v : V) (d : D), vs = [v] ∧ Dx H v d ∧ okD r d = true ∧ ∀ (x : V) (H' : Hp) (k : Sk), Same H H' → (adr k).Nodup → (∀ a ∈ adr k, H a = none) → Lies (off (adr k) (Nw H H')) H' k x d → Q x H'
theorem fn__law_copy (T : Tx K mg) : ∀ r : Nat, Fn P w K mg base "_law_copy" (r + 2) (sp_copy r) := by
  intro r
  induction r using Nat.strongRecOn with
  | _ r ih =>
  obtain ⟨fd, F⟩ := T.d__law_copy
  refine ⟨_, fd, _, F.ok (CX := CX0) sc__law_copy (fun vs H Q E h => ?_) (fun cdv A outer s H vs Q E hr h => ?_), T.g__law_copy, F.kp, F.bindsN fun _ _ _ _ _ _ us hl => match us, hl with | [_], _ => rfl⟩
  · obtain ⟨v, d, rfl, _⟩ := h; rfl
  · obtain ⟨v, d, rfl, hd, hok, q⟩ := h
    refine ⟨_, PSs.nox (pss_cons (ps_if (pt_val (pe_callB (show CallR _ _ (rIsi K) from call_isi) (by rfl) T.isinstance (by decide +kernel) (pa_cons (pv 0) (pa_cons (pe_gt (n := "list") T.list (by rfl) (by decide +kernel)) pa_nil)))) (pss_one (ps_ret (pe_lc (own := [("_law_one", 1)]) (g := (gName 1)) (tt := tYes) (by rfl) sc__law_copy.nd (show PI _ _ _ (iList K _) from pi_list (pv 0)) (blkOk_by (by kernel_rfl)) (fun _ _ _ _ _ => (pg_name (i := 1) sc__law_copy.nd rfl (by first | exact Or.inl rfl | exact Or.inr rfl))) (fun _ _ _ _ _ => pts_nil) (fun _ _ _ _ _ => (pe_rec ih hr (by rfl) (pa_cons (pv 1) pa_nil)))))) pss_nil)
      (pss_cons (ps_if (pt_val (pe_callB (show CallR _ _ (rIsi K) from call_isi) (by rfl) T.isinstance (by decide +kernel) (pa_cons (pv 0) (pa_cons (pe_gt (n := "tuple") T.tuple (by rfl) (by decide +kernel)) pa_nil)))) (pss_one (ps_ret (pe_callTy (show CallR _ _ (rTupO K) from call_tuple_of) (by rfl) T.tuple (by decide +kernel) (pa_cons (pe_lc (own := [("_law_one", 1)]) (g := (gName 1)) (tt := tYes) (by rfl) sc__law_copy.nd (show PI _ _ _ (iTup K _) from pi_tup (pv 0)) (blkOk_by (by kernel_rfl)) (fun _ _ _ _ _ => (pg_name (i := 1) sc__law_copy.nd rfl (by first | exact Or.inl rfl | exact Or.inr rfl))) (fun _ _ _ _ _ => pts_nil) (fun _ _ _ _ _ => (pe_rec ih hr (by rfl) (pa_cons (pv 1) pa_nil)))) pa_nil)))) pss_nil)
      (pss_one (ps_ret (pv 0))))), ?_⟩
    obtain ⟨k1, k2, k3, k4, k5⟩ := kit_kd (K := K) (dx_kd hd)
    -- a turn of the comprehension
    have turn : ∀ (r0 : Nat) (ds : List D) (X : Hp) (D : Addr) (i : Nat) (y : V) (ks : List Sk) (ys : List V), r = r0 + 1 → okDs r0 ds = true → ds.length ≤ 900 → H D = none → Cps H D X ks ys (ds.take i) → ∀ d0, ds[i]? = some d0 → Dx H y d0 → ∀ (σ2 : L2.St), σ2[1]? = some (some y) →
        ∀ Pv : Nat → Hp → Prop, (∀ X2 ks2 ys2, Cps H D X2 ks2 ys2 (ds.take (i + 1)) → Pv (i + 1) X2) → tRec sp_copy r (tCons (tVar 1) tNil) σ2 X fun y2 X4 => ∃ acc, X4 D = some (.lst acc) ∧ acc.length < sizeLine ∧ Pv (i + 1) (upd X4 D (.lst (acc ++ [y2]))) := by
      intro r0 ds X D i y ks ys er hk hl nD c d0 hd0 hy σ2 hσ Pv hP
      refine ⟨r0, by omega, y, hσ, y, d0, rfl, dx_mono c.sm hy, okDs_mem hk _ (List.mem_of_getElem? hd0), fun y2 X2 k s2 nd nw hL => ?_⟩
      obtain ⟨l1, l2⟩ := liesA_len c.all
      have li : i < ds.length := (List.getElem?_eq_some_iff.mp hd0).1
      rw [List.length_take] at l2
      refine ⟨ys, s2 _ _ c.at_, lt_line (by omega), hP _ (ks ++ [k]) (ys ++ [y2]) ?_⟩
      have e : ds.take (i + 1) = ds.take i ++ [d0] := by rw [List.take_succ_eq_append_getElem li, ← Option.some.inj ((List.getElem?_eq_getElem li).symm.trans hd0)]
      rw [e]
      exact c.step nD s2 nd nw hL
    refine ⟨_, rfl, _, _, _, _, _, rfl, .ty _, dx_kd hd, k3, _, rfl, ?_⟩
    cases hd with
    | lst ha hall =>
      rename_i a vs ds
      cases r with
      | zero => unfold okD at hok; cases hok
      | succ r0 =>
      unfold okD at hok
      rw [Bool.and_eq_true] at hok
      have l9 := of_decide_eq_true hok.1
      have lv := dxAll_len hall
      refine iteT ⟨_, rfl, a, rfl, ⟨_, SqL.of ha⟩, fun D nD => lc_it walk_list (fun i X => ∃ ks ys, Cps H D X ks ys (ds.take i)) ⟨[], [], Cps.start nD⟩ (fun i X _ ⟨ks, ys, c⟩ => SqL.of (c.sm _ _ ha)) ?_ ?_⟩
      · rintro i x X X' hi ⟨ks, ys, c⟩ ⟨rfl, hx⟩
        obtain ⟨d0, hd0, hy⟩ := dxAll_get hall hx
        refine ⟨rfl, yes_of ?_⟩
        exact turn r0 ds X' D i x ks ys rfl hok.2 l9 nD c d0 hd0 hy _ rfl (fun i X => ∃ ks ys, Cps H D X ks ys (ds.take i)) fun X2 ks2 ys2 c2 => ⟨ks2, ys2, c2⟩
      · rintro X ⟨ks, ys, c⟩
        rw [lv, List.take_length] at c
        refine q (.ref D) X (.node D ks) c.sm ?_ ?_ ?_
        · unfold adr; exact List.nodup_cons.mpr ⟨c.out, c.nd⟩
        · unfold adr
          intro b hb
          rcases List.mem_cons.mp hb with z | z
          · rw [z]; exact nD
          · exact c.new b z
        · unfold adr; exact .node c.at_ c.all
    | tup ha hall =>
      rename_i a vs ds
      cases r with
      | zero => unfold okD at hok; cases hok
      | succ r0 =>
      unfold okD at hok
      rw [Bool.and_eq_true] at hok
      have l9 := of_decide_eq_true hok.1
      have lv := dxAll_len hall
      refine iteF ⟨_, rfl, _, _, _, _, _, rfl, .ty _, .base (.tup ha), k4, _, rfl, iteT ?_⟩
      refine ⟨_, rfl, a, rfl, ⟨_, SqT.of ha⟩, fun D nD => lc_it walk_tup (fun i X => ∃ ks ys, Cps H D X ks ys (ds.take i)) ⟨[], [], Cps.start nD⟩ (fun i X _ ⟨ks, ys, c⟩ => SqT.of (c.sm _ _ ha)) ?_ ?_⟩
      · rintro i x X X' hi ⟨ks, ys, c⟩ ⟨rfl, hx⟩
        obtain ⟨d0, hd0, hy⟩ := dxAll_get hall hx
        refine ⟨rfl, yes_of ?_⟩
        exact turn r0 ds X' D i x ks ys rfl hok.2 l9 nD c d0 hd0 hy _ rfl (fun i X => ∃ ks ys, Cps H D X ks ys (ds.take i)) fun X2 ks2 ys2 c2 => ⟨ks2, ys2, c2⟩
      · rintro X ⟨ks, ys, c⟩
        rw [lv, List.take_length] at c
        refine ⟨D, ys, rfl, .inl ⟨SqL.of c.at_, fun p np => to_new np fun X2 s2 hp => ?_⟩⟩
        refine q (.ref p) X2 .leaf (c.sm.trans s2) List.nodup_nil (fun b hb => by unfold adr at hb; cases hb) (.leaf rfl ?_)
        refine dx_mono (off_nil _) (.tup (nw_of (c.sm.free np) hp) (liesA_dx (((off_le _ _).trans (nw_mono s2))) (fun b hb o ho => nw_of (c.new b hb) (s2 _ _ ho)) c.all))
    | non => exact iteF ⟨_, rfl, _, _, _, _, _, rfl, .ty _, .base .non, k4, _, rfl, iteF ⟨_, rfl, q _ _ .leaf (Same.refl _) List.nodup_nil (fun b hb => by unfold adr at hb; cases hb) (.leaf rfl .non)⟩⟩
    | bl b => exact iteF ⟨_, rfl, _, _, _, _, _, rfl, .ty _, .base (.bl b), k4, _, rfl, iteF ⟨_, rfl, q _ _ .leaf (Same.refl _) List.nodup_nil (fun b hb => by unfold adr at hb; cases hb) (.leaf rfl (.bl b))⟩⟩
    | int i => exact iteF ⟨_, rfl, _, _, _, _, _, rfl, .ty _, .base (.int i), k4, _, rfl, iteF ⟨_, rfl, q _ _ .leaf (Same.refl _) List.nodup_nil (fun b hb => by unfold adr at hb; cases hb) (.leaf rfl (.int i))⟩⟩
    | str x => exact iteF ⟨_, rfl, _, _, _, _, _, rfl, .ty _, .base (.str x), k4, _, rfl, iteF ⟨_, rfl, q _ _ .leaf (Same.refl _) List.nodup_nil (fun b hb => by unfold adr at hb; cases hb) (.leaf rfl (.str x))⟩⟩
    | dic h => unfold okD at hok; cases hok
end
end Song

/-! ### In: _law_into of k14 -/
namespace Song
open PySem L2
theorem sameSh_lst {e : D} {l : List D} (h : sameSh e (.lst l) = true) : ∃ m, e = .lst m ∧ sameShs m l = true := by
  cases e with
  | lst m => unfold sameSh at h; exact ⟨m, rfl, h⟩
  | _ => unfold sameSh at h; cases h
theorem sameSh_non {e d : D} (h : sameSh e d = true) (n : isL d = false) : isL e = false := by
  cases e with
  | lst m =>
    cases d with
    | lst l => cases n
    | _ => unfold sameSh at h; cases h
  | _ => rfl
theorem lies_leaf {L H : Hp} {k : Sk} {v : V} {d : D} (h : Lies L H k v d) (n : isL d = false) : k = .leaf ∧ Dx L v d := by
  cases h with
  | leaf _ h => exact ⟨rfl, h⟩
  | node _ _ => cases n
theorem lies_lst {L H : Hp} {k : Sk} {v : V} {l : List D} (h : Lies L H k v (.lst l)) : ∃ a ks vs, k = .node a ks ∧ v = .ref a ∧ H a = some (.lst vs) ∧ LiesA L H ks vs l := by
  cases h with
  | leaf n _ => cases n
  | node h r => exact ⟨_, _, _, rfl, rfl, h, r⟩
theorem set_same {α : Type} : ∀ {xs : List α} {i : Nat} {x : α}, xs[i]? = some x → xs.set i x = xs
  | [], _, _, _ => rfl
  | y :: r, 0, x, h => by simp at h; rw [h]; rfl
  | y :: r, i + 1, x, h => by
    show y :: r.set i x = y :: r
    rw [set_same (by simpa using h)]
theorem nodup_adr : ∀ {ks : List Sk} {i : Nat} {k : Sk}, (adrs ks).Nodup → ks[i]? = some k → (adr k).Nodup
  | [], _, _, _, e => by simp at e
  | k0 :: ks, 0, k, nd, e => by
    simp at e
    unfold adrs at nd
    rw [List.nodup_append] at nd
    rw [← e]; exact nd.1
  | k0 :: ks, i + 1, k, nd, e => by
    unfold adrs at nd
    rw [List.nodup_append] at nd
    exact nodup_adr (i := i) nd.2.1 (by simpa using e)
section
variable {P : Program} {w : World} {K : PySem.W.Frag} {mg : Str → Option Value} {base : Heap}
theorem sc__law_into : FnScope ["_law_handed", "_law_new", "_law_at", "_law_one"] ["_law_handed", "_law_new"] (defScope s__law_into) := ⟨rfl, rfl, rfl, by decide +kernel, rfl, by decide +kernel, by decide +kernel⟩
def sp_into (r : Nat) : Sp := fun vs H Q _ => ∃ (Z : List Addr) (a b : Addr) (ks : List Sk) (es ds : List D), vs = [.ref a, .ref b] ∧ (∀ x ∈ a :: adrs ks, x ∈ Z) ∧ (a :: adrs ks).Nodup ∧ (∀ x ∈ Z, ∃ o, H x = some o) ∧ Lies (off Z H) H (.node a ks) (.ref a) (.lst es) ∧ Dx (off Z H) (.ref b) (.lst ds) ∧
  sameShs es ds = true ∧ okD (r + 1) (.lst ds) = true ∧ r ≤ 6 ∧ ∀ H', Fra (a :: adrs ks) H H' → Lies (off Z H') H' (.node a ks) (.ref a) (.lst ds) → Q .non H'
theorem fn__law_into (T : Tx K mg) : ∀ r : Nat, Fn P w K mg base "_law_into" (r + 10) (sp_into r) := by
  intro r
  induction r using Nat.strongRecOn with
  | _ r ih =>
  obtain ⟨fd, F⟩ := T.d__law_into
  refine ⟨_, fd, _, F.ok (CX := CX0) sc__law_into (fun vs H Q E h => ?_) (fun cdv A outer s H vs Q E hr h => ?_), T.g__law_into, F.kp, F.bindsN fun _ _ _ _ _ _ us hl => match us, hl with | [_, _], _ => rfl⟩
  · obtain ⟨Z, a, b, ks, es, ds, rfl, _⟩ := h; rfl
  · obtain ⟨Z, a, b, ks, es, ds, rfl, sub, nd, domZ, hL, hB, hsh, hok, r6, q⟩ := h
    refine ⟨_, PSs.nox (pss_one (ps_for PassesOwn.never rfl (show PI _ _ _ (iEnum K _) from pi_enum (by rfl) T.enumerate (pa_cons (pv 1) pa_nil)) (show PG _ _ (gTup K _ _) from pg_tup rfl (pgs_cons (pg_name (i := 2) sc__law_into.nd rfl (by first | exact Or.inl rfl | exact Or.inr rfl)) (pgs_cons (pg_name (i := 3) sc__law_into.nd rfl (by first | exact Or.inl rfl | exact Or.inr rfl)) pgs_nil)))
      (pss_one (ps_if (PW.pt (pw_and (pt_val (pe_callB (show CallR _ _ (rIsi K) from call_isi) (by rfl) T.isinstance (by decide +kernel) (pa_cons (pv 3) (pa_cons (pe_gt (n := "list") T.list (by rfl) (by decide +kernel)) pa_nil)))) (pw_and1 (pt_cmpR op_eq (pe_callB (show CallR _ _ (rLenQ K) from call_len_seq) (by rfl) T.len (by decide +kernel) (pa_cons (pe_ix (show IxR _ (rIxL K) from ix_list) (pv 0) (pv 2) (fun _ _ => rfl)) pa_nil)) (pe_callB (show CallR _ _ (rLenQ K) from call_len_seq) (by rfl) T.len (by decide +kernel) (pa_cons (pv 3) pa_nil)) (nomark _))))) (pss_one (ps_expr (pe_recC (c := 10) ih (hr.mono (by first | decide | omega)) (by rfl) (pa_cons (pe_ix (show IxR _ (rIxL K) from ix_list) (pv 0) (pv 2) (fun _ _ => rfl)) (pa_cons (pv 3) pa_nil))))) (pss_one (ps_asg (pe_rec (r := 7) (fun r _ => fn__law_copy T r) (hr.mono (by first | decide | omega)) (by rfl) (pa_cons (pv 3) pa_nil)) (pg_sub (pv 0) (pv 2) set_list))))))), ?_⟩
    obtain ⟨_, _, vs0, e0, e0', ha0, hL0⟩ := lies_lst hL
    cases e0
    obtain ⟨_, ws, e1, hb0, hall⟩ := dx_lst hB
    cases e1
    obtain ⟨nbZ, hb⟩ := off_some hb0
    obtain ⟨nda, ndk⟩ := List.nodup_cons.mp nd
    unfold okD at hok
    rw [Bool.and_eq_true] at hok
    have hok := hok.2
    have lsh := sameShs_len hsh
    have lws := dxAll_len hall
    obtain ⟨lv0, le0⟩ := liesA_len hL0
    have offF : ∀ {X : Hp}, Fra (a :: adrs ks) H X → Same (off Z H) (off Z X) := fun f => (f.mono sub).off
    have bF : ∀ {X : Hp}, Fra (a :: adrs ks) H X → X b = some (.lst ws) := fun f => f _ _ (fun z => nbZ (sub _ z)) hb
    refine ⟨_, rfl, b, _, rfl, SqL.of hb, for_it (walk_enum (xs := ws)) (fun i σ X => ∃ (x2 x3 : Option V) (vs : List V) (fs : List D), σ = [some (.ref a), some (.ref b), x2, x3] ∧ Fra (a :: adrs ks) H X ∧ (∀ x ∈ Z, ∃ o, X x = some o) ∧ X a = some (.lst vs) ∧ LiesA (off Z X) X ks vs fs ∧ (∀ j : Nat, j < i → fs[j]? = ds[j]?) ∧ (∀ j : Nat, i ≤ j → fs[j]? = es[j]?)) ?_ ?_ ?_ ?_⟩
    · exact ⟨_, _, vs0, es, rfl, Fra.refl _ _, domZ, ha0, hL0, fun j hj => absurd hj (Nat.not_lt_zero _), fun j _ => rfl⟩
    · rintro i σ X _ ⟨x2, x3, vs, fs, rfl, f, _⟩
      exact SqL.of (bF f)
    · rintro i v σ X X1 hi ⟨x2, x3, vs, fs, rfl, f, dX, hX, hA, h1, h2⟩ ⟨t, x, y, rfl, nt, rfl, hx, hy⟩
      cases hx
      refine ⟨t, _, rfl, SqT.of upd_same, rfl, _, _, rfl, _, _, rfl, rfl, ?_⟩
      refine to_new nt fun X5 s5 ht => ?_
      have f5 : Fra (a :: adrs ks) H X5 := f.trans (Fra.of s5)
      have hA5 : LiesA (off Z X5) X5 ks vs fs := liesA_mono (off_mono s5) (fun x _ o ho => s5 _ _ ho) hA
      have dX5 := dom_same s5 dX
      have hX5 := s5 _ _ hX
      obtain ⟨d, hd, hdx⟩ := dxAll_get (dxAll_mono (offF f5) hall) hy
      have hi' : i < ds.length := by omega
      obtain ⟨e, he⟩ : ∃ e, es[i]? = some e := ⟨es[i], List.getElem?_eq_getElem (by omega)⟩
      have hfi : fs[i]? = some e := by rw [h2 i (Nat.le_refl _)]; exact he
      have hse := sameShs_get hsh he hd
      have hokd := okDs_mem hok _ (List.mem_of_getElem? hd)
      obtain ⟨k, v, hk, hv, hlv⟩ := liesA_get hA5 hfi
      have dxX5 : Dx X5 y d := dx_mono (off_le _ _) hdx
      obtain ⟨k1, k2, k3, k4, k5⟩ := kit_kd (K := K) (dx_kd dxX5)
      have lens := liesA_len hA5
      have ivs : i < vs.length := (List.getElem?_eq_some_iff.mp hv).1
      have stp : ∀ (j : Nat), j < i + 1 → (fs.set i d)[j]? = ds[j]? := fun j hj => by
        by_cases z : j = i
        · rw [z, List.getElem?_set_self (by omega)]; exact hd.symm
        · rw [List.getElem?_set_ne (by omega)]; exact h1 j (by omega)
      have stq : ∀ (j : Nat), i + 1 ≤ j → (fs.set i d)[j]? = es[j]? := fun j hj => by
        rw [List.getElem?_set_ne (by omega)]; exact h2 j (by omega)
      refine ⟨_, rfl, _, _, _, _, _, rfl, .ty _, dx_kd dxX5, k3, _, rfl, ?_⟩
      by_cases hl : isL d = true
      · obtain ⟨ds', rfl⟩ : ∃ l, d = .lst l := by
          cases d with
          | lst l => exact ⟨l, rfl⟩
          | _ => cases hl
        obtain ⟨es', rfl, hse'⟩ := sameSh_lst hse
        obtain ⟨a', ks', vs', rfl, rfl, ha', hA'⟩ := lies_lst hlv
        obtain ⟨b', ws', rfl, hb', hall'⟩ := dx_lst hdx
        have l1 := liesA_len hA'
        have l2 := sameShs_len hse'
        have l3 := dxAll_len hall'
        refine iteT ⟨_, rfl, _, rfl, a, vs, (i : Nat), _, rfl, rfl, SqL.of hX5, atI_nat hv, a', _, rfl, .inl (SqL.of ha'), _, rfl, b', _, rfl, .inl (SqL.of (off_some hb').2), rfl, true, by rw [decide_eq_true (by rw [show vs'.length = ws'.length by omega])], iteT ?_⟩
        have subk : ∀ x ∈ a' :: adrs ks', x ∈ adrs ks := fun x hx => mem_adrs hk (by unfold adr; exact hx)
        have ndk' : (a' :: adrs ks').Nodup := by have := nodup_adr ndk hk; unfold adr at this; exact this
        cases r with
        | zero => unfold okD at hokd; cases hokd
        | succ r0 =>
        refine ⟨r0, by omega, _, rfl, _, rfl, a, vs, (i : Nat), _, rfl, rfl, SqL.of hX5, atI_nat hv, _, rfl, Z, a', b', ks', es', ds', rfl, fun x hx => sub _ (List.mem_cons_of_mem _ (subk x hx)), ndk', dX5, hlv, hdx, hse', hokd, by omega, fun X6 f6 l6 => ?_⟩
        have f6' : Fra (a :: adrs ks) X5 X6 := f6.mono fun x hx => List.mem_cons_of_mem _ (subk x hx)
        have na : a ∉ a' :: adrs ks' := fun z => nda (subk _ z)
        refine ⟨_, _, vs, fs.set i (.lst ds'), rfl, f5.trans f6', ?_, f6 _ _ na hX5, ?_, stp, stq⟩
        · refine dom_fra f6 dX5 fun x hx => ?_
          obtain ⟨xs, hxs⟩ := lies_dom l6 x (by unfold adr; exact hx)
          exact ⟨_, hxs⟩
        · have z := liesA_one ((f6'.mono sub).off) hA5 hk ndk (fun x hx nx o ho => f6 _ _ (by unfold adr at nx; exact nx) ho) l6
          rwa [set_same hv] at z
      · have hl : isL d = false := by simpa using hl
        have hkd : kindD d ≠ "list" := kindD_list fun l z => by rw [z] at hl; cases hl
        have ek : (kindD d == "list") = false := by simpa using hkd
        rw [ek]
        refine iteF (iteF ?_)
        obtain ⟨rfl, _⟩ := lies_leaf hlv (sameSh_non hse hl)
        refine ⟨r, by omega, _, rfl, y, d, rfl, dxX5, hokd, fun x6 X6 k6 s6 nd6 nw6 l6 => ?_⟩
        obtain ⟨rfl, dx6⟩ := lies_leaf l6 hl
        refine ⟨_, rfl, _, rfl, a, vs, (i : Nat), i, rfl, rfl, s6 _ _ hX5, by rw [ixN_of (by omega) (by omega)]; rfl, ?_⟩
        have s7 : Same (off Z X5) (off Z (upd X6 a (.lst (vs.set i x6)))) := fun c o hc => by
          obtain ⟨c1, c2⟩ := off_some hc
          rw [off_out c1, upd_ne (fun z => c1 (by rw [z]; exact sub _ (by simp)))]
          exact s6 _ _ c2
        have n7 : Same (off (adr .leaf) (Nw X5 X6)) (off Z (upd X6 a (.lst (vs.set i x6)))) := fun c o hc => by
          obtain ⟨c1, c2⟩ := nw_some (off_some hc).2
          have cz : c ∉ Z := new_out dX5 c1
          rw [off_out cz, upd_ne (fun z => cz (by rw [z]; exact sub _ (by simp)))]
          exact c2
        refine ⟨_, _, vs.set i x6, fs.set i d, rfl, (f5.trans (Fra.of s6)).trans (Fra.put (by simp)), dom_put (dom_same s6 dX5), upd_same, ?_, stp, stq⟩
        exact liesA_one s7 hA5 hk ndk (fun c hc _ o ho => by rw [upd_ne (fun z => nda (by rw [← z]; exact hc))]; exact s6 _ _ ho) (.leaf hl (dx_mono n7 dx6))
    rintro σ X ⟨x2, x3, vs, fs, rfl, f, dX, hX, hA, h1, h2⟩
    have lens := liesA_len hA
    have efs : fs = ds := List.ext_getElem? fun j => by
      by_cases hj : j < ds.length
      · exact h1 j (by omega)
      · rw [List.getElem?_eq_none (by omega), List.getElem?_eq_none (by omega)]
    rw [efs] at hA
    exact q X f (.node hX hA)
end
end Song

/-! ### So: _law_spoil of k14 -/
namespace Song
open PySem L2
def flatD : D → Bool
  | .non => true
  | .bl _ => true
  | .int _ => true
  | .str _ => true
  | _ => false
def spD (r : Nat) : D → Bool
  | .lst l => decide (1 ≤ r) && l.all flatD && decide (l.length ≤ 900)
  | .tup [a, .lst l] => decide (2 ≤ r) && flatD a && l.all flatD && decide (l.length ≤ 900)
  | .tup [a, b] => decide (2 ≤ r) && flatD a && flatD b
  | .tup _ => false
  | .dic => false
  | _ => true
theorem flat_dx {H H' : Hp} {v : V} {d : D} (h : Dx H v d) (f : flatD d = true) : Dx H' v d := by
  cases h with
  | non => exact .non
  | bl b => exact .bl b
  | int i => exact .int i
  | str s => exact .str s
  | lst _ _ => cases f
  | tup _ _ => cases f
  | dic _ => cases f
theorem flat_sp {r : Nat} {d : D} (f : flatD d = true) : spD r d = true := by
  cases d with
  | lst _ => cases f
  | tup _ => cases f
  | dic => cases f
  | _ => rfl
theorem flats_dx {H H' : Hp} : ∀ {vs : List V} {ds : List D}, DxAll H vs ds → ds.all flatD = true → DxAll H' vs ds
  | _, _, .nil, _ => .nil
  | _, _, .cons d a, h => by
    rw [List.all_cons, Bool.and_eq_true] at h
    exact .cons (flat_dx d h.1) (flats_dx a h.2)
section
variable {P : Program} {w : World} {K : PySem.W.Frag} {mg : Str → Option Value} {base : Heap}
theorem sc__law_spoil : FnScope ["_law_found", "_law_one"] ["_law_found"] (defScope s__law_spoil) := ⟨rfl, rfl, rfl, by decide +kernel, rfl, by decide +kernel, by decide +kernel⟩
def sp_spoil (r : Nat) : Sp := fun vs H Q _ => ∃ (v : V) (d : D) (G : Hp), vs = [v] ∧ Same G H ∧ Dx (Nw G H) v d ∧ spD r d = true ∧ ∀ H', Same G H' → Q .non H'
theorem fn__law_spoil (T : Tx K mg) : ∀ r : Nat, Fn P w K mg base "_law_spoil" (r + 2) (sp_spoil r) := by
  intro r
  induction r using Nat.strongRecOn with
  | _ r ih =>
  obtain ⟨fd, F⟩ := T.d__law_spoil
  refine ⟨_, fd, _, F.ok (CX := CX0) sc__law_spoil (fun vs H Q E h => ?_) (fun cdv A outer s H vs Q E hr h => ?_), T.g__law_spoil, F.kp, F.bindsN fun _ _ _ _ _ _ us hl => match us, hl with | [_], _ => rfl⟩
  · obtain ⟨v, d, G, rfl, _⟩ := h; rfl
  · obtain ⟨v, d, G, rfl, sG, hd, hsp, q⟩ := h
    refine ⟨_, PSs.nox (pss_cons (ps_if (PW.pt (pw_or (pt_val (pe_callB (show CallR _ _ (rIsi K) from call_isi) (by rfl) T.isinstance (by decide +kernel) (pa_cons (pv 0) (pa_cons (pe_gt (n := "list") T.list (by rfl) (by decide +kernel)) pa_nil)))) (pw_or1 (pt_val (pe_callB (show CallR _ _ (rIsi K) from call_isi) (by rfl) T.isinstance (by decide +kernel) (pa_cons (pv 0) (pa_cons (pe_gt (n := "tuple") T.tuple (by rfl) (by decide +kernel)) pa_nil))))))) (pss_one (ps_for PassesOwn.never rfl (show PI _ _ _ (iList K _) from pi_list (pe_callTy (show CallR _ _ (rListO K) from call_list_of) (by rfl) T.list (by decide +kernel) (pa_cons (pv 0) pa_nil))) (pg_name (i := 1) sc__law_spoil.nd rfl (by first | exact Or.inl rfl | exact Or.inr rfl))
      (pss_one (ps_expr (pe_rec ih hr (by rfl) (pa_cons (pv 1) pa_nil)))))) pss_nil)
      (pss_one (ps_if (pt_val (pe_callB (show CallR _ _ (rIsi K) from call_isi) (by rfl) T.isinstance (by decide +kernel) (pa_cons (pv 0) (pa_cons (pe_gt (n := "list") T.list (by rfl) (by decide +kernel)) pa_nil)))) (pss_one (ps_expr (show PE _ _ (tBM K _ _ _ _) from pe_bm PySem.F.plainAttrs_list PySem.F.slot_list_append PySem.F.type_list_append mt_append (pv 0) (pa_cons pe_non pa_nil)))) pss_nil))), ?_⟩
    have dxH : Dx H v d := dx_mono (nw_le _ _) hd
    obtain ⟨k1, k2, k3, k4, k5⟩ := kit_kd (K := K) (dx_kd dxH)
    have plain : flatD d = true → Q .non H := fun _ => q H sG
    refine ⟨_, rfl, _, _, _, _, _, rfl, .ty _, dx_kd dxH, k3, _, rfl, ?_⟩
    cases hd with
    | lst ha0 hall =>
      rename_i a vs ds
      obtain ⟨nGa, ha⟩ := nw_some ha0
      unfold spD at hsp
      rw [Bool.and_eq_true, Bool.and_eq_true] at hsp
      obtain ⟨⟨r1, hfl⟩, l9⟩ := hsp
      have r1 := of_decide_eq_true r1
      have l9 := of_decide_eq_true l9
      have lv := dxAll_len hall
      refine iteT (iteT ?_)
      refine ⟨_, rfl, a, vs, rfl, .inl (SqL.of ha), fun l nl => to_new nl fun H1 s1 hl => ⟨l, rfl, ⟨_, SqL.of hl⟩, for_list (K := K) (a := l) (xs := vs) (fun i σ X => ∃ x1 : Option V, σ = [some (.ref a), x1] ∧ Same H1 X) ?_ ?_ ?_ ?_⟩⟩
      · exact ⟨_, rfl, Same.refl _⟩
      · rintro i σ X _ ⟨x1, rfl, sx⟩
        exact SqL.of (sx _ _ hl)
      · rintro i y σ X hy ⟨x1, rfl, sx⟩
        obtain ⟨d0, hd0, hy0⟩ := dxAll_get hall hy
        have f0 := List.all_eq_true.mp hfl _ (List.mem_of_getElem? hd0)
        exact ⟨0, by omega, _, rfl, y, d0, X, rfl, Same.refl _, flat_dx hy0 f0, flat_sp f0, fun H' s' => ⟨_, rfl, sx.trans s'⟩⟩
      · rintro σ X ⟨x1, rfl, sx⟩
        have haX := sx _ _ (s1 _ _ ha)
        refine ⟨_, rfl, _, _, _, _, _, rfl, .ty _, .base (.lst haX), (kit_kd (K := K) (H := X) (v := .ref a) (t := "list") (.base (.lst haX))).2.2.1, _, rfl, iteT ?_⟩
        refine ⟨_, rfl, .inl ⟨rfl, _, SqL.of haX⟩, a, vs, .non, rfl, rfl, haX, lt_line (by omega), ?_⟩
        exact q _ (same_put nGa (sG.trans (s1.trans sx)))
    | tup ha0 hall =>
      rename_i a vs ds
      obtain ⟨nGa, ha⟩ := nw_some ha0
      obtain ⟨d1, d2, rfl⟩ : ∃ d1 d2, ds = [d1, d2] := by
        match ds, hsp with
        | [], h => unfold spD at h; cases h
        | [_], h => unfold spD at h; cases h
        | [d1, d2], _ => exact ⟨d1, d2, rfl⟩
        | _ :: d2 :: _ :: _, h =>
          cases d2 <;> (have h : false = true := h; cases h)
      cases hall with
      | cons h1 hall =>
      cases hall with
      | cons h2 hall =>
      cases hall
      rename_i y1 y2
      refine iteF ⟨_, rfl, _, _, _, _, _, rfl, .ty _, .base (.tup ha), k4, _, rfl, iteT ?_⟩
      have kl : ∀ {X : Hp}, X a = some (.tup [y1, y2]) → PySem.W.kitOne K (.type "tuple") (.type "list") = some false := fun hX => (kit_kd (K := K) (H := _) (v := .ref a) (t := "tuple") (.base (.tup hX))).2.2.1
      by_cases hl2 : isL d2 = true
      · obtain ⟨m, rfl⟩ : ∃ l, d2 = .lst l := by
          cases d2 with
          | lst l => exact ⟨l, rfl⟩
          | _ => cases hl2
        unfold spD at hsp
        rw [Bool.and_eq_true, Bool.and_eq_true, Bool.and_eq_true] at hsp
        obtain ⟨⟨⟨r2, f1⟩, hfl⟩, l9⟩ := hsp
        have r2 := of_decide_eq_true r2
        obtain ⟨b, ws, rfl, hb0, hws⟩ := dx_lst h2
        obtain ⟨nGb, hb⟩ := nw_some hb0
        have nab : a ≠ b := fun z => by rw [z, hb] at ha; cases ha
        refine ⟨_, rfl, a, _, rfl, .inr (SqT.of ha), fun l nl => to_new nl fun H1 s1 hl => ⟨l, rfl, ⟨_, SqL.of hl⟩, for_list (K := K) (a := l) (xs := [y1, .ref b]) (fun i σ X => ∃ x1 : Option V, σ = [some (.ref a), x1] ∧ Same (off [b] H1) X ∧ (i ≤ 1 → Same H1 X)) ?_ ?_ ?_ ?_⟩⟩
        · exact ⟨_, rfl, off_le _ _, fun _ => Same.refl _⟩
        · rintro i σ X _ ⟨x1, rfl, sx, _⟩
          have nlb : l ≠ b := (ne_of_none hb nl).symm
          exact SqL.of (sx _ _ (by rw [off_out (by simpa using nlb)]; exact hl))
        · rintro i y σ X hy ⟨x1, rfl, sx, s0⟩
          match i, hy with
          | 0, hy =>
            obtain rfl := Option.some.inj hy
            have s0 := s0 (by omega)
            exact ⟨0, by omega, _, rfl, y1, d1, X, rfl, Same.refl _, flat_dx h1 f1, flat_sp f1, fun H' s' => ⟨_, rfl, (off_le _ _).trans (s0.trans s'), fun _ => s0.trans s'⟩⟩
          | 1, hy =>
            obtain rfl := Option.some.inj hy
            have s0 := s0 (by omega)
            have hbX := s0 _ _ (s1 _ _ hb)
            refine ⟨1, by omega, _, rfl, .ref b, .lst m, off [b] X, rfl, off_le _ _, .lst (nw_of (off_in (by simp)) hbX) (flats_dx hws hfl), ?_, fun H' s' => ⟨_, rfl, (off_mono s0).trans s', fun z => by omega⟩⟩
            show (decide (1 ≤ 1) && m.all flatD && decide (m.length ≤ 900)) = true
            rw [hfl, l9]; rfl
        · rintro σ X ⟨x1, rfl, sx, _⟩
          have haX : X a = some (.tup [y1, .ref b]) := sx _ _ (by rw [off_out (by simpa using nab)]; exact s1 _ _ ha)
          refine ⟨_, rfl, _, _, _, _, _, rfl, .ty _, .base (.tup haX), kl haX, _, rfl, iteF ?_⟩
          refine q X (fun c o hc => sx _ _ ?_)
          have ncb : c ≠ b := fun z => by rw [z, nGb] at hc; cases hc
          rw [off_out (by simpa using ncb)]
          exact s1 _ _ (sG _ _ hc)
      · obtain ⟨r2, f1, f2⟩ : 2 ≤ r ∧ flatD d1 = true ∧ flatD d2 = true := by
          have z : (decide (2 ≤ r) && flatD d1 && flatD d2) = true := by
            cases d2 with
            | lst _ => exact absurd rfl hl2
            | _ => exact hsp
          rw [Bool.and_eq_true, Bool.and_eq_true] at z
          exact ⟨of_decide_eq_true z.1.1, z.1.2, z.2⟩
        refine ⟨_, rfl, a, _, rfl, .inr (SqT.of ha), fun l nl => to_new nl fun H1 s1 hl => ⟨l, rfl, ⟨_, SqL.of hl⟩, for_list (K := K) (a := l) (xs := [y1, y2]) (fun i σ X => ∃ x1 : Option V, σ = [some (.ref a), x1] ∧ Same H1 X) ?_ ?_ ?_ ?_⟩⟩
        · exact ⟨_, rfl, Same.refl _⟩
        · rintro i σ X _ ⟨x1, rfl, sx⟩
          exact SqL.of (sx _ _ hl)
        · rintro i y σ X hy ⟨x1, rfl, sx⟩
          match i, hy with
          | 0, hy =>
            obtain rfl := Option.some.inj hy
            exact ⟨0, by omega, _, rfl, y1, d1, X, rfl, Same.refl _, flat_dx h1 f1, flat_sp f1, fun H' s' => ⟨_, rfl, sx.trans s'⟩⟩
          | 1, hy =>
            obtain rfl := Option.some.inj hy
            exact ⟨0, by omega, _, rfl, y2, d2, X, rfl, Same.refl _, flat_dx h2 f2, flat_sp f2, fun H' s' => ⟨_, rfl, sx.trans s'⟩⟩
        · rintro σ X ⟨x1, rfl, sx⟩
          have haX := sx _ _ (s1 _ _ ha)
          refine ⟨_, rfl, _, _, _, _, _, rfl, .ty _, .base (.tup haX), kl haX, _, rfl, iteF ?_⟩
          exact q X (sG.trans (s1.trans sx))
    | non => exact iteF ⟨_, rfl, _, _, _, _, _, rfl, .ty _, .base .non, k4, _, rfl, iteF ⟨_, rfl, _, _, _, _, _, rfl, .ty _, .base .non, k3, _, rfl, iteF (plain rfl)⟩⟩
    | bl b => exact iteF ⟨_, rfl, _, _, _, _, _, rfl, .ty _, .base (.bl b), k4, _, rfl, iteF ⟨_, rfl, _, _, _, _, _, rfl, .ty _, .base (.bl b), k3, _, rfl, iteF (plain rfl)⟩⟩
    | int i => exact iteF ⟨_, rfl, _, _, _, _, _, rfl, .ty _, .base (.int i), k4, _, rfl, iteF ⟨_, rfl, _, _, _, _, _, rfl, .ty _, .base (.int i), k3, _, rfl, iteF (plain rfl)⟩⟩
    | str x => exact iteF ⟨_, rfl, _, _, _, _, _, rfl, .ty _, .base (.str x), k4, _, rfl, iteF ⟨_, rfl, _, _, _, _, _, rfl, .ty _, .base (.str x), k3, _, rfl, iteF (plain rfl)⟩⟩
    | dic h => unfold spD at hsp; cases hsp
end
end Song

/-! ### Dr: _law_door_right of k14 -/
namespace Song
open PySem L2
/-- the door, asked of data d, tells r, new -/
def Ask (sp : Sp) (d r : D) : Prop := ∀ (v : V) (H : Hp) (Q : VK), Dx H v d → (∀ x H', Same H H' → Dx (Nw H H') x r → Q x H') → sp [v] H Q C8.E0
def okRow (es fs : List D) (r r' : D) : Bool := okD 5 (.lst es) && okD 5 (.lst fs) && okD 5 r && okD 5 r' && spD 2 r && spD 2 r' && sameShs es es && sameShs es fs && sameShs fs es && sameShs fs fs
structure DoorD (sp : Sp) (es fs : List D) (r r' : D) : Prop where
  a1 : Ask sp (.lst es) r
  a2 : Ask sp (.lst fs) r'
  ok : okRow es fs r r' = true
/-- one of the two rows -/
def Sel (es fs : List D) (r r' : D) (x : List D) (y : D) : Prop := (x = es ∧ y = r) ∨ (x = fs ∧ y = r')
section
variable {sp : Sp} {es fs : List D} {r r' : D}
theorem DoorD.facts (h : DoorD sp es fs r r') : okD 5 (.lst es) = true ∧ okD 5 (.lst fs) = true ∧ okD 5 r = true ∧ okD 5 r' = true ∧ spD 2 r = true ∧ spD 2 r' = true ∧ sameShs es es = true ∧ sameShs es fs = true ∧ sameShs fs es = true ∧ sameShs fs fs = true := by
  have := h.ok
  unfold okRow at this
  simp only [Bool.and_eq_true] at this
  obtain ⟨⟨⟨⟨⟨⟨⟨⟨⟨h1, h2⟩, h3⟩, h4⟩, h5⟩, h6⟩, h7⟩, h8⟩, h9⟩, h10⟩ := this
  exact ⟨h1, h2, h3, h4, h5, h6, h7, h8, h9, h10⟩
theorem DoorD.sel (h : DoorD sp es fs r r') {x : List D} {y : D} (s : Sel es fs r r' x y) : Ask sp (.lst x) y ∧ okD 5 (.lst x) = true ∧ okD 5 y = true ∧ spD 2 y = true := by
  obtain ⟨h1, h2, h3, h4, h5, h6, _⟩ := h.facts
  rcases s with ⟨rfl, rfl⟩ | ⟨rfl, rfl⟩
  · exact ⟨h.a1, h1, h3, h5⟩
  · exact ⟨h.a2, h2, h4, h6⟩
theorem DoorD.shape (h : DoorD sp es fs r r') {x x' : List D} {y y' : D} (s : Sel es fs r r' x y) (s' : Sel es fs r r' x' y') : sameShs x x' = true := by
  obtain ⟨_, _, _, _, _, _, h7, h8, h9, h10⟩ := h.facts
  rcases s with ⟨rfl, rfl⟩ | ⟨rfl, rfl⟩ <;> rcases s' with ⟨rfl, rfl⟩ | ⟨rfl, rfl⟩ <;> assumption
end
/-- what is told stands outside of S -/
def Due (S : List Addr) (es fs : List D) (r r' : D) (X : Hp) (t : V) : Prop := ∃ (t' b : Addr) (u : V) (x : List D) (y : D), t = .ref t' ∧ off S X t' = some (.tup [.ref b, u]) ∧ Dx (off S X) (.ref b) (.lst x) ∧ Dx (off S X) u y ∧ Sel es fs r r' x y
theorem Due.mono {S : List Addr} {es fs : List D} {r r' : D} {X X' : Hp} {t : V} (s : Same (off S X) (off S X')) (h : Due S es fs r r' X t) : Due S es fs r r' X' t := by
  obtain ⟨t', b, u, x, y, h1, h2, h3, h4, h5⟩ := h
  exact ⟨t', b, u, x, y, h1, s _ _ h2, dx_mono s h3, dx_mono s h4, h5⟩
theorem same_offS {H H' : Hp} {S : List Addr} (s : Same H H') (n : ∀ a ∈ S, H a = none) : Same H (off S H') := fun b o e => by
  rw [off_out (fun z => by rw [n b z] at e; cases e)]; exact s _ _ e
section
variable {P : Program} {w : World} {K : PySem.W.Frag} {mg : Str → Option Value} {base : Heap}
/-- a door with its two rows -/
def RowD (P : Program) (w : World) (K : PySem.W.Frag) (mg : Str → Option Value) (base : Heap) (H : Hp) (f : Addr) (v1 v2 : V) : Prop :=
  ∃ (c' : Addr) (q : Str) (params : Arguments) (body : Expr) (scope : Scope) (sp : Sp) (es fs : List D) (r r' : D), H f = some (LamF f c' q params body scope) ∧ H c' = some (LamX.CodeO c' q) ∧ LamOk P w K mg base 10 q params body scope sp ∧ Dx H v1 (.lst es) ∧ Dx H v2 (.lst fs) ∧ DoorD sp es fs r r'
theorem sc__law_door_right : FnScope ["_law_ask", "_law_first", "_law_second", "_law_handed", "_law_dues", "_law_some", "_law_due", "_law_again", "_law_found"] ["_law_ask", "_law_first", "_law_second"] (defScope s__law_door_right) := ⟨rfl, rfl, rfl, by decide +kernel, rfl, by decide +kernel, by decide +kernel⟩
def sp_door (P : Program) (w : World) (K : PySem.W.Frag) (mg : Str → Option Value) (base : Heap) : Sp := fun vs H Q _ => ∃ (f : Addr) (v1 v2 : V), vs = [.ref f, v1, v2] ∧ RowD P w K mg base H f v1 v2 ∧ ∀ H', Same H H' → Q (.bl true) H'
theorem fn__law_door_right (T : Tx K mg) : Fn P w K mg base "_law_door_right" 17 (sp_door P w K mg base) := by
  obtain ⟨fd, F⟩ := T.d__law_door_right
  refine ⟨_, fd, _, F.ok (CX := CX0) sc__law_door_right (fun vs H Q E h => ?_) (fun cdv A outer s H vs Q E hr h => ?_), T.g__law_door_right, F.kp, F.bindsN fun _ _ _ _ _ _ us hl => match us, hl with | [_, _, _], _ => rfl⟩
  · obtain ⟨f, v1, v2, rfl, _⟩ := h; rfl
  · obtain ⟨f, v1, v2, rfl, ⟨c', q0, params, body, scope, sp, es, fs, r, r', hf, hc, lok, hd1, hd2, door⟩, q⟩ := h
    refine ⟨_, PSs.nox (pss_cons (ps_par (i := 3) (j := 4) (by rfl) sc__law_door_right.nd rfl rfl (by decide) rfl rfl (pa_cons (pe_rec (r := 7) (fun r _ => fn__law_copy T r) (hr.mono (by first | decide | omega)) (by rfl) (pa_cons (pv 1) pa_nil)) (pa_cons (pe_lst pa_nil) pa_nil)) (by rfl))
      (pss_cons (ps_for PassesOwn.never rfl (show PI _ _ _ (iTup K _) from pi_tup (pe_tup (pa_cons (pv 1) (pa_cons (pv 2) pa_nil)))) (pg_name (i := 5) sc__law_door_right.nd rfl (by first | exact Or.inl rfl | exact Or.inr rfl))
      (pss_one (ps_expr (show PE _ _ (tBM K _ _ _ _) from pe_bm PySem.F.plainAttrs_list PySem.F.slot_list_append PySem.F.type_list_append mt_append (pv 4) (pa_cons (pe_tup (pa_cons (pv 5) (pa_cons (pe_rec (r := 7) (fun r _ => fn__law_copy T r) (hr.mono (by first | decide | omega)) (by rfl) (pa_cons (pe_ask (k := 10) (i := 0) rfl (.inl rfl) (hr.mono (by first | decide | omega)) (pe_rec (r := 7) (fun r _ => fn__law_copy T r) (hr.mono (by first | decide | omega)) (by rfl) (pa_cons (pv 5) pa_nil)) pass0) pa_nil)) pa_nil))) pa_nil)))))
      (pss_cons (ps_for PassesOwn.never rfl (show PI _ _ _ (iList K _) from pi_list (pe_op op_cat (pv 4) (pv 4))) (show PG _ _ (gTup K _ _) from pg_tup rfl (pgs_cons (pg_name (i := 5) sc__law_door_right.nd rfl (by first | exact Or.inl rfl | exact Or.inr rfl)) (pgs_cons (pg_name (i := 6) sc__law_door_right.nd rfl (by first | exact Or.inl rfl | exact Or.inr rfl)) pgs_nil)))
      (pss_cons (ps_expr (pe_recC (c := 10) (r := 6) (fun r _ => fn__law_into T r) (hr.mono (by first | decide | omega)) (by rfl) (pa_cons (pv 3) (pa_cons (pv 5) pa_nil))))
      (pss_one (ps_for PassesOwn.never rfl (pi_range1 (by rfl) T.range (pa_cons pe_int pa_nil)) (pg_name (i := 7) sc__law_door_right.nd rfl (by first | exact Or.inl rfl | exact Or.inr rfl))
      (pss_cons (ps_set (i := 8) sc__law_door_right.nd rfl (by first | exact Or.inl rfl | exact Or.inr rfl) (pe_ask (k := 10) (i := 0) rfl (.inl rfl) (hr.mono (by first | decide | omega)) (pv 3) pass0))
      (pss_cons (ps_if (PW.pt (pw_or (pt_cmpR (show OpR _ _ (rNeD K) from op_neD hr.units) (pv 3) (pv 5) (nomark _)) (pw_or1 (pt_cmpR (show OpR _ _ (rNeD K) from op_neD hr.units) (pv 8) (pv 6) (nomark _))))) (pss_one (ps_ret pe_bl)) pss_nil)
      (pss_one (ps_expr (pe_rec (r := 4) (fun r _ => fn__law_spoil T r) (hr.mono (by first | decide | omega)) (by rfl) (pa_cons (pv 8) pa_nil))))))))))
      (pss_one (ps_ret pe_bl))))), ?_⟩
    obtain ⟨ok1, ok2, _⟩ := door.facts
    refine ⟨5, by decide, _, rfl, v1, .lst es, rfl, hd1, ok1, fun x H1 k s1 nd nw lies => ?_⟩
    obtain ⟨a, ks, vs0, rfl, rfl, _, _⟩ := lies_lst lies
    have eZ : adr (.node a ks) = a :: adrs ks := by unfold adr; rfl
    rw [eZ] at nd nw lies
    refine ⟨Nat.zero_le _, fun p np => to_new np fun H2 s2 hp => ⟨_, _, rfl, ?_⟩⟩
    obtain ⟨Z, hZ⟩ : ∃ Z, Z = a :: adrs ks := ⟨_, rfl⟩
    have lies2 : Lies (off Z H2) H2 (.node a ks) (.ref a) (.lst es) := by
      rw [hZ]
      exact lies_mono ((off_mono (nw_le _ _)).trans (off_mono s2)) (fun b _ o ho => s2 _ _ ho) lies
    have domZ2 : ∀ b ∈ Z, ∃ o, H2 b = some o := fun b hb => by
      obtain ⟨xs, h⟩ := lies_dom lies2 b (by rw [eZ, ← hZ]; exact hb)
      exact ⟨_, h⟩
    have newZ : ∀ b ∈ Z, H b = none := fun b hb => nw b (by rw [← hZ]; exact hb)
    have npZ : p ∉ Z := fun z => by
      obtain ⟨xs, h⟩ := lies_dom lies p (by rw [eZ, ← hZ]; exact z)
      rw [np] at h; cases h
    have newS : ∀ b ∈ p :: Z, H b = none := fun b hb => by
      rcases List.mem_cons.mp hb with z | z
      · rw [z]; exact s1.free np
      · exact newZ b z
    have s02 : Same H H2 := s1.trans s2
    -- what is due
    refine ⟨_, rfl, _, rfl, by show 2 ≤ sizeLine; decide, fun tt ntt => to_new ntt fun H3 s3 htt => ?_⟩
    have domS3 : ∀ b ∈ p :: Z, ∃ o, H3 b = some o := fun b hb => by
      rcases List.mem_cons.mp hb with z | z
      · rw [z]; exact ⟨_, s3 _ _ hp⟩
      · exact dom_same s3 domZ2 b z
    have nttS : tt ∉ p :: Z := fun z => by
      rcases List.mem_cons.mp z with e | e
      · rw [e, hp] at ntt; cases ntt
      · obtain ⟨o, ho⟩ := domZ2 tt e
        rw [ntt] at ho; cases ho
    refine ⟨tt, rfl, ⟨_, SqT.of htt⟩, for_tup (K := K) (a := tt) (xs := [v1, v2]) (fun i σ X => ∃ (x5 : Option V) (ts : List V), σ = [some (.ref f), some v1, some v2, some (.ref a), some (.ref p), x5, none, none, none] ∧ Fra [p] H3 X ∧ X p = some (.lst ts) ∧ ts.length = i ∧ ∀ t ∈ ts, Due (p :: Z) es fs r r' X t) ?_ ?_ ?_ ?_⟩
    · exact ⟨_, [], rfl, Fra.refl _ _, s3 _ _ hp, rfl, fun t ht => by cases ht⟩
    · rintro i σ X _ ⟨x5, ts, rfl, fX, _⟩
      exact SqT.of (fX _ _ (fun z => nttS (by rw [List.mem_singleton.mp z]; simp)) htt)
    · rintro i v σ X hv ⟨x5, ts, rfl, fX, hXp, lts, hts⟩
      have hi : i < 2 := (List.getElem?_eq_some_iff.mp hv).1
      obtain ⟨e0, y0, hdv, hsel⟩ : ∃ e0 y0, Dx H v (.lst e0) ∧ Sel es fs r r' e0 y0 := by
        match i, hv with
        | 0, hv => obtain rfl := Option.some.inj hv; exact ⟨es, r, hd1, .inl ⟨rfl, rfl⟩⟩
        | 1, hv => obtain rfl := Option.some.inj hv; exact ⟨fs, r', hd2, .inr ⟨rfl, rfl⟩⟩
      obtain ⟨ask, okx, oky, spy⟩ := door.sel hsel
      obtain ⟨b, ws, rfl, _, _⟩ := dx_lst hdv
      have sX : Same H X := Fra.back (s02.trans s3) fX (fun c hc => newS c (by rw [List.mem_singleton.mp hc]; simp))
      have domX : ∀ c ∈ p :: Z, ∃ o, X c = some o := dom_fra fX domS3 (fun c hc => by rw [List.mem_singleton.mp hc]; exact ⟨_, hXp⟩)
      refine ⟨_, rfl, .inl ⟨rfl, _, SqL.of hXp⟩, _, rfl, 5, by decide, f, c', q0, params, body, scope, sp, rfl, sX _ _ hf, lok, 5, by decide, _, rfl, .ref b, .lst e0, rfl, dx_mono sX hdv, okx, fun x1 X1 k1 sX1 _ _ l1 => ?_⟩
      have dx1 : Dx X1 x1 (.lst e0) := lies_dx ((off_le _ _).trans (nw_le _ _)) (fun _ _ _ h => h) l1
      refine ⟨sX1 _ _ (sX _ _ hf), sX1 _ _ (sX _ _ hc), ask x1 X1 _ dx1 fun y X2 sX2 dy => ?_⟩
      refine ⟨y, y0, rfl, dx_mono (nw_le _ _) dy, oky, fun u X3 k3 sX3 _ nw3 l3 => ?_⟩
      refine ⟨by show 2 ≤ sizeLine; decide, fun t nt => to_new nt fun X4 sX4 ht => ?_⟩
      have s4 : Same X X4 := sX1.trans (sX2.trans (sX3.trans sX4))
      have s2' : Same X X2 := sX1.trans sX2
      have s3' : Same X X3 := s2'.trans sX3
      refine ⟨p, ts, .ref t, rfl, rfl, s4 _ _ hXp, lt_line (by omega), ?_⟩
      have put : ∀ o, Same (off (p :: Z) X4) (off (p :: Z) (upd X4 p o)) := fun o => by rw [off_put (by simp)]; exact Same.refl _
      refine ⟨_, ts ++ [.ref t], rfl, (fX.trans (Fra.of s4)).trans (Fra.put (by simp)), upd_same, by simp [lts], fun z hz => ?_⟩
      rcases List.mem_append.mp hz with z1 | z1
      · exact (hts z z1).mono ((off_mono s4).trans (put _))
      · rw [List.mem_singleton.mp z1]
        have u4 : Dx (off (p :: Z) X4) u y0 := by
          refine lies_dx (fun c o hcc => ?_) (fun c hcc o ho => ?_) l3
          · obtain ⟨h1, h2⟩ := nw_some (off_some hcc).2
            rw [off_out (new_out (dom_same s2' domX) h1)]
            exact sX4 _ _ h2
          · rw [off_out (new_out (dom_same s2' domX) (nw3 c hcc))]
            exact sX4 _ _ ho
        refine ⟨t, b, u, e0, y0, rfl, put _ _ _ ?_, dx_mono (put _) (dx_mono (same_offS (sX.trans s4) newS) hdv), dx_mono (put _) u4, hsel⟩
        rw [off_out (new_out (dom_same s3' domX) nt)]
        exact ht
    rintro σ X ⟨x5, ts, rfl, fX, hXp, lts, hts⟩
    have lts : ts.length = 2 := lts
    have sX : Same H X := Fra.back (s02.trans s3) fX (fun c hc => newS c (by rw [List.mem_singleton.mp hc]; simp))
    have s1X : Same H1 X := fun c o hcc => fX _ _ (fun z => by rw [List.mem_singleton.mp z, np] at hcc; cases hcc) (s3 _ _ (s2 _ _ hcc))
    have liesX : Lies (off Z X) X (.node a ks) (.ref a) (.lst es) := by
      rw [hZ]
      exact lies_mono ((off_mono (nw_le _ _)).trans (off_mono s1X)) (fun b _ o ho => s1X _ _ ho) lies
    have domX : ∀ c ∈ p :: Z, ∃ o, X c = some o := dom_fra fX domS3 (fun c hc => by rw [List.mem_singleton.mp hc]; exact ⟨_, hXp⟩)
    -- the turns
    refine ⟨_, rfl, _, rfl, p, p, ts, ts, rfl, rfl, hXp, hXp, by rw [lts]; show 2 + 2 ≤ sizeLine; decide, fun p2 np2 => to_new np2 fun H5 s5 hp2 => ?_⟩
    have domZ5 : ∀ c ∈ Z, ∃ o, H5 c = some o := fun c hcc => dom_same s5 domX c (List.mem_cons_of_mem _ hcc)
    have np2Z : p2 ∉ Z := fun z => new_out domX np2 (List.mem_cons_of_mem _ z)
    have lies5 : Lies (off Z H5) H5 (.node a ks) (.ref a) (.lst es) := lies_mono (off_mono s5) (fun b _ o ho => s5 _ _ ho) liesX
    have sH5 : Same H (off Z H5) := same_offS (sX.trans s5) newZ
    have offpZ : ∀ Y : Hp, Same (off (p :: Z) Y) (off Z Y) := fun Y c o hcc => by
      obtain ⟨h1, h2⟩ := off_some hcc
      rw [off_out (fun z => h1 (List.mem_cons_of_mem _ z))]; exact h2
    have due5 : ∀ t ∈ ts ++ ts, Due Z es fs r r' H5 t := fun t ht => by
      have ht : t ∈ ts := by
        rcases List.mem_append.mp ht with z | z <;> exact z
      obtain ⟨t', b, u, x, y, h1, h2, h3, h4, h5⟩ := (hts t ht).mono (off_mono s5)
      exact ⟨t', b, u, x, y, h1, offpZ _ _ _ h2, dx_mono (offpZ _) h3, dx_mono (offpZ _) h4, h5⟩
    refine ⟨p2, rfl, ⟨_, SqL.of hp2⟩, for_list (K := K) (a := p2) (xs := ts ++ ts) (fun i σ Y => ∃ (x5 x6 x7 x8 : Option V) (e0 : List D) (y0 : D), σ = [some (.ref f), some v1, some v2, some (.ref a), some (.ref p), x5, x6, x7, x8] ∧ Same (off Z H5) (off Z Y) ∧ (∀ c ∈ Z, ∃ o, Y c = some o) ∧ Sel es fs r r' e0 y0 ∧ Lies (off Z Y) Y (.node a ks) (.ref a) (.lst e0)) ?_ ?_ ?_ ?_⟩
    · exact ⟨_, _, _, _, es, r, rfl, Same.refl _, domZ5, .inl ⟨rfl, rfl⟩, lies5⟩
    · rintro i σ Y _ ⟨x5, x6, x7, x8, e0, y0, rfl, sY, _⟩
      exact SqL.of (off_some (sY _ _ (by rw [off_out np2Z]; exact hp2))).2
    · rintro i t σ Y ht ⟨x5, x6, x7, x8, e0, y0, rfl, sY, domY, selY, liesY⟩
      obtain ⟨t', b, u, x, y, rfl, ht', hbx, huy, selx⟩ := (due5 t (List.mem_of_getElem? ht)).mono sY
      obtain ⟨ask, okx, oky, spy⟩ := door.sel selx
      refine ⟨t', _, rfl, SqT.of (off_some ht').2, rfl, _, _, rfl, _, _, rfl, rfl, ?_⟩
      refine ⟨4, by decide, _, rfl, _, rfl, Z, a, b, ks, e0, x, rfl, fun c hcc => by rw [hZ]; exact hcc, nd, domY, liesY, hbx, door.shape selY selx, okx, by decide, fun Y1 f1 l1 => ?_⟩
      rw [← hZ] at f1
      have sY1 : Same (off Z Y) (off Z Y1) := f1.off
      have domY1 : ∀ c ∈ Z, ∃ o, Y1 c = some o := fun c hcc => by
        obtain ⟨xs, h⟩ := lies_dom l1 c (by rw [eZ, ← hZ]; exact hcc)
        exact ⟨_, h⟩
      obtain ⟨eqx, shx, ndx⟩ := eqD_self okx (by decide)
      obtain ⟨eqy, shy, ndy⟩ := eqD_self oky (by decide)
      refine ⟨2, rfl, by decide, by decide, for_range (lo := 0) (fun j σ W => ∃ x7 x8 : Option V, σ = [some (.ref f), some v1, some v2, some (.ref a), some (.ref p), some (.ref b), some u, x7, x8] ∧ Same Y1 W) ?_ ?_ ?_⟩
      · exact ⟨_, _, rfl, Same.refl _⟩
      · rintro j σ W _ ⟨x7, x8, rfl, sW⟩
        have sHW : Same H W := sH5.trans ((sY.trans sY1).trans ((off_le _ _).trans sW))
        have dxh : Dx W (.ref a) (.lst x) := lies_dx ((off_le _ _).trans sW) (fun c _ o ho => sW _ _ ho) l1
        have dxs : Dx W (.ref b) (.lst x) := dx_mono (sY1.trans ((off_le _ _).trans sW)) hbx
        have dxu : Dx W u y := dx_mono (sY1.trans ((off_le _ _).trans sW)) huy
        refine ⟨f, c', q0, params, body, scope, sp, rfl, sHW _ _ hf, lok, _, rfl, sHW _ _ hf, sHW _ _ hc, ask (.ref a) W _ dxh fun z W2 sW2 dz => ?_⟩
        refine ⟨_, rfl, _, rfl, _, _, dx_dp (dx_mono sW2 dxh) ndx, dx_dp (dx_mono sW2 dxs) ndx, shx, shx, _, rfl, ?_⟩
        rw [eqx]
        refine iteF ⟨_, rfl, _, rfl, _, _, dx_dp (dx_mono (nw_le _ _) dz) ndy, dx_dp (dx_mono sW2 dxu) ndy, shy, shy, _, rfl, ?_⟩
        rw [eqy]
        refine iteF ⟨2, by decide, _, rfl, z, y, W, rfl, sW2, dz, spy, fun W3 sW3 => ?_⟩
        exact ⟨_, _, rfl, sW.trans sW3⟩
      · rintro σ W ⟨x7, x8, rfl, sW⟩
        exact ⟨_, _, _, _, x, y, rfl, sY.trans (sY1.trans (off_mono sW)), dom_same sW domY1, selx, lies_mono (off_mono sW) (fun c _ o ho => sW _ _ ho) l1⟩
    rintro σ Y ⟨x5, x6, x7, x8, e0, y0, rfl, sY, _, _, _⟩
    exact q Y (sH5.trans (sY.trans (off_le _ _)))
end
end Song

/-! ### Ld: the doors of k14, one lambda each -/
namespace Song
open PySem L2
section
variable {P : Program} {w : World} {K : PySem.W.Frag} {mg : Str → Option Value} {base : Heap}
theorem lamT {d : Str} (T : Tx K mg) (B : ∀ p ∈ tf, LamX.TabB base mg (He.cT K p).1 (He.cT K p).2) (h : (d, none) ∈ tf) : LamT K mg base (TLof K tf) d := lamT_of B T.tne h
/-- the text of the i-th lambda -/
def lamOf (i : Nat) : Arguments × Expr × Scope := match (defBody s__law_rows_one).getD (i + 1) (.Pass ⟨0, 0, 0, 0⟩) with
  | .Expr (.Call _ (.Tuple (.Lambda p b s _ :: _) _ _ :: _) _ _) _ => (p, b, s)
  | _ => (⟨[], [], none, [], [], none, []⟩, .Name "" ⟨0, 0, 0, 0⟩, defScope s__law_rows_one)
theorem sc_lam0 : FnScope ["_law_some"] ["_law_some"] (lamOf 0).2.2 := ⟨rfl, rfl, rfl, by decide +kernel, rfl, by decide +kernel, by decide +kernel⟩
theorem sc_lam1 : FnScope ["_law_some"] ["_law_some"] (lamOf 1).2.2 := ⟨rfl, rfl, rfl, by decide +kernel, rfl, by decide +kernel, by decide +kernel⟩
theorem sc_lam2 : FnScope ["_law_some"] ["_law_some"] (lamOf 2).2.2 := ⟨rfl, rfl, rfl, by decide +kernel, rfl, by decide +kernel, by decide +kernel⟩
theorem sc_lam3 : FnScope ["_law_some"] ["_law_some"] (lamOf 3).2.2 := ⟨rfl, rfl, rfl, by decide +kernel, rfl, by decide +kernel, by decide +kernel⟩
theorem sc_lam4 : FnScope ["_law_some"] ["_law_some"] (lamOf 4).2.2 := ⟨rfl, rfl, rfl, by decide +kernel, rfl, by decide +kernel, by decide +kernel⟩
theorem sc_lam5 : FnScope ["_law_some"] ["_law_some"] (lamOf 5).2.2 := ⟨rfl, rfl, rfl, by decide +kernel, rfl, by decide +kernel, by decide +kernel⟩
theorem sc_lam6 : FnScope ["_law_some"] ["_law_some"] (lamOf 6).2.2 := ⟨rfl, rfl, rfl, by decide +kernel, rfl, by decide +kernel, by decide +kernel⟩
theorem sc_lam7 : FnScope ["_law_some"] ["_law_some"] (lamOf 7).2.2 := ⟨rfl, rfl, rfl, by decide +kernel, rfl, by decide +kernel, by decide +kernel⟩
theorem sc_lam8 : FnScope ["_law_some"] ["_law_some"] (lamOf 8).2.2 := ⟨rfl, rfl, rfl, by decide +kernel, rfl, by decide +kernel, by decide +kernel⟩
theorem sc_lam9 : FnScope ["_law_some"] ["_law_some"] (lamOf 9).2.2 := ⟨rfl, rfl, rfl, by decide +kernel, rfl, by decide +kernel, by decide +kernel⟩
theorem sc_lam10 : FnScope ["_law_some"] ["_law_some"] (lamOf 10).2.2 := ⟨rfl, rfl, rfl, by decide +kernel, rfl, by decide +kernel, by decide +kernel⟩
theorem sc_lam11 : FnScope ["_law_some"] ["_law_some"] (lamOf 11).2.2 := ⟨rfl, rfl, rfl, by decide +kernel, rfl, by decide +kernel, by decide +kernel⟩
/-- a door of a list of lists -/
def spA {α : Type} (d r : α → D) (ok : α → Prop) : Sp := fun vs H Q _ => ∃ (v : V) (s : α), vs = [v] ∧ Dx H v (d s) ∧ ok s ∧ ∀ x H', Same H H' → Dx (Nw H H') x (r s) → Q x H'
theorem ask_of {α : Type} {d r : α → D} {ok : α → Prop} (s : α) (h : ok s) : Ask (spA d r ok) (d s) (r s) := fun v H Q hv q => ⟨v, s, rfl, hv, h, q⟩
theorem dx_one {H : Hp} {v : V} {d : D} (h : Dx H v (.lst [d])) : ∃ a x, v = .ref a ∧ H a = some (.lst [x]) ∧ Dx H x d := by
  obtain ⟨a, vs, rfl, ha, hall⟩ := dx_lst h
  cases hall with
  | cons h1 h2 => cases h2; exact ⟨a, _, rfl, ha, h1⟩
theorem dx_two {H : Hp} {v : V} {d e : D} (h : Dx H v (.lst [d, e])) : ∃ a x y, v = .ref a ∧ H a = some (.lst [x, y]) ∧ Dx H x d ∧ Dx H y e := by
  obtain ⟨a, vs, rfl, ha, hall⟩ := dx_lst h
  cases hall with
  | cons h1 h2 =>
    cases h2 with
    | cons h2 h3 => cases h3; exact ⟨a, _, _, rfl, ha, h1, h2⟩
/-- what is due of a tale -/
def tlD (t : List Part) : D := .lst [taleDs t]
def sgD (s : List Int) : D := .lst [intsD s]
def gpD (s : List (List Int)) : D := .lst [rowsD s]
def lgD (s : List (List Int) × List Int) : D := .lst [rowsD s.1, intsD s.2]
theorem optDx_dx {H : Hp} (o : Option Int) : Dx H (optV o) (optDx o) := by
  cases o with
  | none => exact .non
  | some n => exact .int n
def tlOk (t : List Part) : Prop := TaleOk t ∧ t.length ≤ 30
theorem lam0 (T : Tx K mg) : LamOk P w K mg base 10 (qOf "_law_rows_one") (lamOf 0).1 (lamOf 0).2.1 (lamOf 0).2.2 (spA tlD (fun t => .bl (decide (firstWrong 2 t < 0))) tlOk) := by
  refine lamOk_of (x := "_law_some") sc_lam0 (fun _ _ _ _ => rfl) fun A outer s H f c' v Q hr h => ?_
  obtain ⟨_, t, ev, hd, hok, q⟩ := h
  cases ev
  refine ⟨_, (pe_callB (show CallR _ _ (rIsi K) from call_isi) (by rfl) T.isinstance (by decide +kernel) (pa_cons (pe_fn (fn_judged T) (hr.mono (by first | decide | omega)) (by rfl) (pa_cons pe_int (pa_cons (pe_ix (show IxR _ (rIxL K) from ix_list) (pv 0) pe_int (fun _ _ => rfl)) pa_nil))) (pa_cons (pe_gc T.g_Right (by rfl)) pa_nil))), ?_⟩
  obtain ⟨a, x, rfl, ha, hx⟩ := dx_one hd
  obtain ⟨b, rfl, hb⟩ := dx_tale (K := K) hx hok.1
  refine ⟨_, rfl, a, _, 0, _, rfl, rfl, SqL.of ha, rfl, 2, b, t, rfl, by decide, by decide, hb, hok.2, fun H1 r s1 nr ans => ?_⟩
  rcases ans with ⟨h0, dx, hr⟩ | ⟨h0, dx, hr⟩
  · refine ⟨_, _, _, _, _, rfl, .own _, ty_ins hr T.cls_Right T.ic_Right, T.ki_Right_Right, q _ _ s1 ?_⟩
    show Dx _ _ (.bl (decide (firstWrong 2 t < 0)))
    rw [decide_eq_true h0]
    exact .bl true
  · refine ⟨_, _, _, _, _, rfl, .own _, ty_ins hr T.cls_Wrong T.ic_Wrong, T.ki_Wrong_Right, q _ _ s1 ?_⟩
    show Dx _ _ (.bl (decide (firstWrong 2 t < 0)))
    rw [decide_eq_false (by omega)]
    exact .bl false
theorem okDs_ints (k : Nat) : ∀ ns : List Int, okDs k (ns.map D.int) = true
  | [] => by unfold List.map okDs; rfl
  | n :: r => by
    show okDs k (.int n :: r.map D.int) = true
    unfold okDs okD
    rw [okDs_ints k r]; rfl
theorem okD_sg {k : Nat} {ns : List Int} (h : ns.length ≤ 900) : okD (k + 2) (sgD ns) = true := by
  show okD (k + 2) (.lst [.lst (ns.map D.int)]) = true
  unfold okD okDs okDs okD
  rw [okDs_ints, List.length_map, decide_eq_true h]; rfl
theorem sc__law_spaced_twice : FnScope ["_law_some", "_law_kept"] ["_law_some"] (defScope s__law_spaced_twice) := ⟨rfl, rfl, rfl, by decide +kernel, rfl, by decide +kernel, by decide +kernel⟩
def sgOk1 (s : List Int) : Prop := SongsOk s ∧ barring s 1 = none
def sp_twice : Sp := spA sgD (fun s => .bl (showsSp s (orderFor s 1) 1)) sgOk1
theorem fn__law_spaced_twice (T : Tx K mg) : Fn P w K mg base "_law_spaced_twice" 9 sp_twice := by
  obtain ⟨fd, F⟩ := T.d__law_spaced_twice
  refine ⟨_, fd, _, F.ok (CX := CX0) sc__law_spaced_twice (fun vs H Q E h => ?_) (fun cdv A outer s H vs Q E hr h => ?_), T.g__law_spaced_twice, F.kp, F.bindsN fun _ _ _ _ _ _ us hl => match us, hl with | [_], _ => rfl⟩
  · obtain ⟨v, s, rfl, _⟩ := h; rfl
  · obtain ⟨v, songs, rfl, hd, ⟨hS, hb1⟩, q⟩ := h
    refine ⟨_, PSs.nox (pss_cons (ps_set (i := 1) sc__law_spaced_twice.nd rfl (by first | exact Or.inl rfl | exact Or.inr rfl) (pe_rec (r := 7) (fun r _ => fn__law_copy T r) (hr.mono (by first | decide | omega)) (by rfl) (pa_cons (pv 0) pa_nil)))
      (pss_cons (ps_expr (show PE _ _ (tBM0 K _ _ _) from pe_bm0 PySem.F.plainAttrs_list PySem.F.slot_list_clear PySem.F.type_list_clear mt_clear (show PE _ _ (tFld K _ _) from pe_fld (pe_fn (fn_spaced T) (hr.mono (by first | decide | omega)) (by rfl) (pa_cons (pe_ix (show IxR _ (rIxL K) from ix_list) (pv 0) pe_int (fun _ _ => rfl)) (pa_cons pe_int pa_nil))) rfl)))
      (pss_one (ps_ret (pe_me (me_Spaced_shows T) (hr.mono (by first | decide | omega)) (pe_fn (fn_spaced T) (hr.mono (by first | decide | omega)) (by rfl) (pa_cons (pe_ix (show IxR _ (rIxL K) from ix_list) (pv 1) pe_int (fun _ _ => rfl)) (pa_cons pe_int pa_nil))) (pa_cons (pe_ix (show IxR _ (rIxL K) from ix_list) (pv 1) pe_int (fun _ _ => rfl)) (pa_cons pe_int pa_nil))))))), ?_⟩
    have l24 := hS.1
    refine ⟨5, by decide, _, rfl, v, sgD songs, rfl, hd, okD_sg (by omega), fun x H1 k s1 nd nw lies => ?_⟩
    have dx1 : Dx H1 x (sgD songs) := lies_dx ((off_le _ _).trans (nw_le _ _)) (fun _ _ _ h => h) lies
    obtain ⟨a, y, rfl, ha, hy⟩ := dx_one (dx_mono s1 hd)
    obtain ⟨b, rfl, hb⟩ := dx_ints hy
    have gk : GapOk 1 := ⟨by decide, by decide⟩
    refine ⟨_, rfl, a, _, 0, _, rfl, rfl, SqL.of ha, rfl, b, songs, 1, rfl, SqL.of hb, hS, gk, fun _ p l H2 np nl s2 sp => ?_, fun ss e => absurd e (by rw [hb1]; simp)⟩
    obtain ⟨⟨dx, hp⟩, hl⟩ := sp
    refine ⟨p, _, dx, _, _, rfl, hp, T.cls_Spaced, T.na_Spaced_order, orF_order _, .inl ⟨rfl, _, SqL.of hl⟩, l, _, rfl, rfl, hl, to_put fun H3 f3 h3 => ?_⟩
    have s13 : Same H1 H3 := Fra.back s2 f3 (fun c hc => by rw [List.mem_singleton.mp hc]; exact nl)
    obtain ⟨a', y', rfl, ha', hy'⟩ := dx_one (dx_mono s13 dx1)
    obtain ⟨b', rfl, hb'⟩ := dx_ints hy'
    refine ⟨_, rfl, a', _, 0, _, rfl, rfl, SqL.of ha', rfl, b', songs, 1, rfl, SqL.of hb', hS, gk, fun _ p2 l2 H4 np2 nl2 s4 sp2 => ?_, fun ss e => absurd e (by rw [hb1]; simp)⟩
    obtain ⟨⟨dx2, hp2⟩, hl2⟩ := id sp2
    refine ⟨p2, dx2, _, rfl, hp2, orF_shows _, _, rfl, a', _, 0, _, rfl, rfl, SqL.of (s4 _ _ ha'), rfl, p2, l2, b', songs, _, 1, rfl, sp2, SqL.of (s4 _ _ hb'), by omega, fun H5 s5 => ?_⟩
    exact q _ _ (s1.trans (s13.trans (s4.trans s5))) (.bl _)
theorem lam1 (T : Tx K mg) : LamOk P w K mg base 10 (qOf "_law_rows_one") (lamOf 1).1 (lamOf 1).2.1 (lamOf 1).2.2 (spA sgD (fun s => .bl (decide (barring s 1 = none))) SongsOk) := by
  refine lamOk_of (x := "_law_some") sc_lam1 (fun _ _ _ _ => rfl) fun A outer s H f c' v Q hr h => ?_
  obtain ⟨_, t, ev, hd, hok, q⟩ := h
  cases ev
  refine ⟨_, (pe_callB (show CallR _ _ (rIsi K) from call_isi) (by rfl) T.isinstance (by decide +kernel) (pa_cons (pe_fn (fn_spaced T) (hr.mono (by first | decide | omega)) (by rfl) (pa_cons (pe_ix (show IxR _ (rIxL K) from ix_list) (pv 0) pe_int (fun _ _ => rfl)) (pa_cons pe_int pa_nil))) (pa_cons (pe_gc T.g_Spaced (by rfl)) pa_nil))), ?_⟩
  obtain ⟨a, x, rfl, ha, hx⟩ := dx_one hd
  obtain ⟨b, rfl, hb⟩ := dx_ints hx
  refine ⟨_, rfl, a, _, 0, _, rfl, rfl, SqL.of ha, rfl, b, t, 1, rfl, SqL.of hb, hok, ⟨by decide, by decide⟩, fun hn p l H1 np nl s1 sp => ?_, fun ss e p l H1 np nl s1 sp => ?_⟩
  · obtain ⟨⟨dx, hp⟩, _⟩ := sp
    refine ⟨_, _, _, _, _, rfl, .own _, ty_ins hp T.cls_Spaced T.ic_Spaced, T.ki_Spaced_Spaced, q _ _ s1 ?_⟩
    show Dx _ _ (.bl (decide (barring t 1 = none)))
    rw [decide_eq_true hn]
    exact .bl true
  · obtain ⟨⟨dx, hp⟩, _⟩ := sp
    refine ⟨_, _, _, _, _, rfl, .own _, ty_ins hp T.cls_Barred T.ic_Barred, T.ki_Barred_Spaced, q _ _ s1 ?_⟩
    show Dx _ _ (.bl (decide (barring t 1 = none)))
    rw [decide_eq_false (by rw [e]; simp)]
    exact .bl false
theorem lam2 (T : Tx K mg) : LamOk P w K mg base 10 (qOf "_law_rows_one") (lamOf 2).1 (lamOf 2).2.1 (lamOf 2).2.2 (sp_twice) := by
  refine lamOk_of (x := "_law_some") sc_lam2 (fun _ _ _ _ => rfl) fun A outer s H f c' v Q hr h => ?_
  obtain ⟨_, t, ev, hd, hok, q⟩ := h
  cases ev
  refine ⟨_, (pe_fn (fn__law_spaced_twice T) (hr.mono (by first | decide | omega)) (by rfl) (pa_cons (pv 0) pa_nil)), ?_⟩
  exact ⟨_, rfl, _, t, rfl, hd, hok, q⟩
def lgOk (s : List (List Int) × List Int) : Prop := GrOk s.1 ∧ s.1.length ≤ 24 ∧ s.2.Perm (upto s.1.length)
theorem lam3 (T : Tx K mg) : LamOk P w K mg base 10 (qOf "_law_rows_one") (lamOf 3).1 (lamOf 3).2.1 (lamOf 3).2.2 (spA lgD (fun s => optDx (least (pick s.1 s.2))) lgOk) := by
  refine lamOk_of (x := "_law_some") sc_lam3 (fun _ _ _ _ => rfl) fun A outer s H f c' v Q hr h => ?_
  obtain ⟨_, t, ev, hd, hok, q⟩ := h
  cases ev
  refine ⟨_, (pe_fn (fn_least_gap T) (hr.mono (by first | decide | omega)) (by rfl) (pa_cons (pe_ix (show IxR _ (rIxL K) from ix_list) (pv 0) pe_int (fun _ _ => rfl)) (pa_cons (pe_ix (show IxR _ (rIxL K) from ix_list) (pv 0) pe_int (fun _ _ => rfl)) pa_nil))), ?_⟩
  obtain ⟨a, x, y, rfl, ha, hx, hy⟩ := dx_two hd
  obtain ⟨b, cs, rfl, hb, hR⟩ := dx_rows (K := K) hx
  obtain ⟨c, rfl, hc⟩ := dx_ints hy
  refine ⟨_, rfl, a, _, 0, _, rfl, rfl, SqL.of ha, rfl, _, rfl, a, _, 1, _, rfl, rfl, SqL.of ha, rfl, b, c, cs, t.1, t.2, rfl, SqL.of hb, hR, hok.1, hok.2.1, SqL.of hc, hok.2.2, fun H1 s1 => q _ _ s1 (optDx_dx _)⟩
theorem lam4 (T : Tx K mg) : LamOk P w K mg base 10 (qOf "_law_rows_one") (lamOf 4).1 (lamOf 4).2.1 (lamOf 4).2.2 (spA lgD (fun s => optDx (least (pick s.1 s.2))) lgOk) := by
  refine lamOk_of (x := "_law_some") sc_lam4 (fun _ _ _ _ => rfl) fun A outer s H f c' v Q hr h => ?_
  obtain ⟨_, t, ev, hd, hok, q⟩ := h
  cases ev
  refine ⟨_, (pe_fn (fn_least_gap T) (hr.mono (by first | decide | omega)) (by rfl) (pa_cons (pe_ix (show IxR _ (rIxL K) from ix_list) (pv 0) pe_int (fun _ _ => rfl)) (pa_cons (pe_ix (show IxR _ (rIxL K) from ix_list) (pv 0) pe_int (fun _ _ => rfl)) pa_nil))), ?_⟩
  obtain ⟨a, x, y, rfl, ha, hx, hy⟩ := dx_two hd
  obtain ⟨b, cs, rfl, hb, hR⟩ := dx_rows (K := K) hx
  obtain ⟨c, rfl, hc⟩ := dx_ints hy
  refine ⟨_, rfl, a, _, 0, _, rfl, rfl, SqL.of ha, rfl, _, rfl, a, _, 1, _, rfl, rfl, SqL.of ha, rfl, b, c, cs, t.1, t.2, rfl, SqL.of hb, hR, hok.1, hok.2.1, SqL.of hc, hok.2.2, fun H1 s1 => q _ _ s1 (optDx_dx _)⟩
theorem lam5 (T : Tx K mg) : LamOk P w K mg base 10 (qOf "_law_rows_one") (lamOf 5).1 (lamOf 5).2.1 (lamOf 5).2.2 (spA sgD (fun s => optDx (widest s)) SongsOk) := by
  refine lamOk_of (x := "_law_some") sc_lam5 (fun _ _ _ _ => rfl) fun A outer s H f c' v Q hr h => ?_
  obtain ⟨_, t, ev, hd, hok, q⟩ := h
  cases ev
  refine ⟨_, (pe_fn (fn_widest T) (hr.mono (by first | decide | omega)) (by rfl) (pa_cons (pe_ix (show IxR _ (rIxL K) from ix_list) (pv 0) pe_int (fun _ _ => rfl)) pa_nil)), ?_⟩
  obtain ⟨a, x, rfl, ha, hx⟩ := dx_one hd
  obtain ⟨b, rfl, hb⟩ := dx_ints hx
  exact ⟨_, rfl, a, _, 0, _, rfl, rfl, SqL.of ha, rfl, b, t, rfl, SqL.of hb, hok, fun H1 s1 => q _ _ s1 (optDx_dx _)⟩
def gpOk (s : List (List Int)) : Prop := GrOk s ∧ s.length ≤ 5
theorem lam6 (T : Tx K mg) : LamOk P w K mg base 10 (qOf "_law_rows_one") (lamOf 6).1 (lamOf 6).2.1 (lamOf 6).2.2 (spA gpD (fun s => .tup [optDx (widestFew s).1, intsD (widestFew s).2]) gpOk) := by
  refine lamOk_of (x := "_law_some") sc_lam6 (fun _ _ _ _ => rfl) fun A outer s H f c' v Q hr h => ?_
  obtain ⟨_, t, ev, hd, hok, q⟩ := h
  cases ev
  refine ⟨_, (pe_fn (fn_widest_few T) (hr.mono (by first | decide | omega)) (by rfl) (pa_cons (pe_ix (show IxR _ (rIxL K) from ix_list) (pv 0) pe_int (fun _ _ => rfl)) pa_nil)), ?_⟩
  obtain ⟨a, x, rfl, ha, hx⟩ := dx_one hd
  obtain ⟨b, cs, rfl, hb, hR⟩ := dx_rows (K := K) hx
  refine ⟨_, rfl, a, _, 0, _, rfl, rfl, SqL.of ha, rfl, b, cs, t, rfl, SqL.of hb, hR, hok.1, hok.2, fun t1 b1 H1 nt1 nb1 s1 ht1 hb1 => q _ _ s1 ?_⟩
  exact .tup (nw_of nt1 ht1) (.cons (optDx_dx _) (.cons (.lst (nw_of nb1 hb1) (dxAll_intsD _)) .nil))
def wsOk (s : List Int) : Prop := areSingers s 3 = true
theorem lam7 (T : Tx K mg) : LamOk P w K mg base 10 (qOf "_law_rows_one") (lamOf 7).1 (lamOf 7).2.1 (lamOf 7).2.2 (spA sgD (fun s => .tup [.int 0, .int ((evNew 3).num s)]) wsOk) := by
  refine lamOk_of (x := "_law_some") sc_lam7 (fun _ _ _ _ => rfl) fun A outer s H f c' v Q hr h => ?_
  obtain ⟨_, t, ev, hd, hok, q⟩ := h
  cases ev
  refine ⟨_, (pe_me (me_Evening_wish T) (hr.mono (by first | decide | omega)) (pe_mk (mk_Evening T) (hr.mono (by first | decide | omega)) (by rfl) (pa_cons pe_int pa_nil)) (pa_cons (pe_ix (show IxR _ (rIxL K) from ix_list) (pv 0) pe_int (fun _ _ => rfl)) pa_nil)), ?_⟩
  obtain ⟨a, x, rfl, ha, hx⟩ := dx_one hd
  obtain ⟨b, rfl, hb⟩ := dx_ints hx
  intro x dx nx ndx ne
  refine ⟨x, dx, 3, rfl, by decide, by decide, upd_same, fun H1 A1 f1 c1 a1 a2 a3 a4 => ⟨rfl, ?_⟩⟩
  have s1 : Same H H1 := made_same nx ndx f1
  have e1 := Ev.made (K := K) c1
  have fr : ∀ b, (upd (upd H dx (.own x)) x (.ins (He.ga K "Evening") dx [])) b = none → H b = none := fun b hb => by
    cases e : H b with
    | none => rfl
    | some o => rw [upd_ne (ne_of_none e nx), upd_ne (ne_of_none e ndx), e] at hb; cases hb
  have new1 : ∀ c ∈ own x A1, H c = none := fun c hc => by
    unfold own at hc
    simp only [List.mem_cons, List.not_mem_nil, or_false] at hc
    rcases hc with e | e | e | e | e
    · rw [e]; exact nx
    all_goals (rw [e]; apply fr; assumption)
  have nb : b ∉ own x A1 := fun z => by
    rw [new1 b z] at hb; cases hb
  obtain ⟨dx2, hp⟩ := e1.pp
  have hA : areSingers t ((evNew 3).last.length) = true := by
    have e3 : (((evNew 3).last.length : Nat) : Int) = 3 := by decide +kernel
    rw [e3]; exact hok
  refine ⟨x, dx2, _, rfl, hp, evF_no _ _ (by decide +kernel), _, rfl, a, _, 0, _, rfl, rfl, SqL.of (s1 _ _ ha), rfl, _, x, b, A1, evNew 3, t, rfl, e1, evNew_ok (by decide) (by decide), by decide, .inl (.inl (by rw [off_out nb]; exact s1 _ _ hb)), hA, by decide, fun H2 t2 f2 e2 nt2 ht2 => q _ _ (Fra.back s1 f2 new1) ?_⟩
  exact .tup (nw_of (s1.free nt2) ht2) (.cons (.int _) (.cons (.int _) .nil))
theorem lam8 (T : Tx K mg) : LamOk P w K mg base 10 (qOf "_law_rows_one") (lamOf 8).1 (lamOf 8).2.1 (lamOf 8).2.2 (spA sgD (fun s => .bl (showsSp s [0, 1, 2] 1)) SongsOk) := by
  refine lamOk_of (x := "_law_some") sc_lam8 (fun _ _ _ _ => rfl) fun A outer s H f c' v Q hr h => ?_
  obtain ⟨_, t, ev, hd, hok, q⟩ := h
  cases ev
  refine ⟨_, (pe_me (me_Spaced_shows T) (hr.mono (by first | decide | omega)) (pe_mk (mk_Spaced T) (hr.mono (by first | decide | omega)) (by rfl) (pa_cons (pe_lst (pa_cons pe_int (pa_cons pe_int (pa_cons pe_int pa_nil)))) pa_nil)) (pa_cons (pe_ix (show IxR _ (rIxL K) from ix_list) (pv 0) pe_int (fun _ _ => rfl)) (pa_cons pe_int pa_nil))), ?_⟩
  obtain ⟨a, x, rfl, ha, hx⟩ := dx_one hd
  obtain ⟨b, rfl, hb⟩ := dx_ints hx
  have l24 := hok.1
  refine ⟨by show 3 ≤ sizeLine; decide, fun l nl => to_new nl fun H1 s1 hl => ?_⟩
  intro y dy ny ndy ned
  refine ⟨y, dy, l, [V.int 0, .int 1, .int 2], rfl, (made_same ny ndy (Fra.refl _ _)).seq (SqL.of hl), upd_same, fun l' J1 f1 nl' hl' hy => ⟨rfl, ?_⟩⟩
  have j1 : Same H1 J1 := made_same ny ndy f1
  exact ⟨y, dy, _, rfl, hy, orF_shows _, _, rfl, a, _, 0, _, rfl, rfl, SqL.of (j1 _ _ (s1 _ _ ha)), rfl, y, l', b, t, [0, 1, 2], 1, rfl, ⟨⟨dy, hy⟩, hl'⟩, SqL.of (j1 _ _ (s1 _ _ hb)), by omega, fun J2 j2 => q _ _ (s1.trans (j1.trans j2)) (.bl _)⟩
theorem lam9 (T : Tx K mg) : LamOk P w K mg base 10 (qOf "_law_rows_one") (lamOf 9).1 (lamOf 9).2.1 (lamOf 9).2.2 (spA sgD (fun s => .bl (barsP s 1 [0])) SongsOk) := by
  refine lamOk_of (x := "_law_some") sc_lam9 (fun _ _ _ _ => rfl) fun A outer s H f c' v Q hr h => ?_
  obtain ⟨_, t, ev, hd, hok, q⟩ := h
  cases ev
  refine ⟨_, (pe_me (me_Barred_shows T) (hr.mono (by first | decide | omega)) (pe_mk (mk_Barred T) (hr.mono (by first | decide | omega)) (by rfl) (pa_cons (pe_lst (pa_cons pe_int pa_nil)) pa_nil)) (pa_cons (pe_ix (show IxR _ (rIxL K) from ix_list) (pv 0) pe_int (fun _ _ => rfl)) (pa_cons pe_int pa_nil))), ?_⟩
  obtain ⟨a, x, rfl, ha, hx⟩ := dx_one hd
  obtain ⟨b, rfl, hb⟩ := dx_ints hx
  have l24 := hok.1
  refine ⟨by show 1 ≤ sizeLine; decide, fun l nl => to_new nl fun H1 s1 hl => ?_⟩
  intro y dy ny ndy ned
  refine ⟨y, dy, l, [V.int 0], rfl, (made_same ny ndy (Fra.refl _ _)).seq (SqL.of hl), upd_same, fun l' J1 f1 nl' hl' hy => ⟨rfl, ?_⟩⟩
  have j1 : Same H1 J1 := made_same ny ndy f1
  exact ⟨y, dy, _, rfl, hy, siF_shows _, _, rfl, a, _, 0, _, rfl, rfl, SqL.of (j1 _ _ (s1 _ _ ha)), rfl, y, l', b, t, [0], 1, rfl, ⟨⟨dy, hy⟩, hl'⟩, SqL.of (j1 _ _ (s1 _ _ hb)), by omega, ⟨by decide, by decide⟩, by decide, fun J2 j2 => q _ _ (s1.trans (j1.trans j2)) (.bl _)⟩
theorem lam10 (T : Tx K mg) : LamOk P w K mg base 10 (qOf "_law_rows_one") (lamOf 10).1 (lamOf 10).2.1 (lamOf 10).2.2 (spA tlD (fun t => .bl (decide (firstWrong 2 t < 0))) tlOk) := by
  refine lamOk_of (x := "_law_some") sc_lam10 (fun _ _ _ _ => rfl) fun A outer s H f c' v Q hr h => ?_
  obtain ⟨_, t, ev, hd, hok, q⟩ := h
  cases ev
  refine ⟨_, (pe_me (me_Right_shows T) (hr.mono (by first | decide | omega)) (pe_mkO T.mkb_Right (by rfl) T.g_Right) (pa_cons pe_int (pa_cons (pe_ix (show IxR _ (rIxL K) from ix_list) (pv 0) pe_int (fun _ _ => rfl)) pa_nil))), ?_⟩
  intro y dy ny ndy ned
  refine to_made ny ndy fun J1 j1 hy => ?_
  obtain ⟨a, x, rfl, ha, hx⟩ := dx_one (dx_mono j1 hd)
  obtain ⟨b, rfl, hb⟩ := dx_tale (K := K) hx hok.1
  exact ⟨y, dy, _, rfl, hy, rfl, _, rfl, a, _, 0, _, rfl, rfl, SqL.of ha, rfl, y, b, 2, t, rfl, by decide, by decide, hb, fun J2 j2 => q _ _ (j1.trans j2) (.bl _)⟩
theorem lam11 (T : Tx K mg) : LamOk P w K mg base 10 (qOf "_law_rows_one") (lamOf 11).1 (lamOf 11).2.1 (lamOf 11).2.2 (spA tlD (fun t => .bl (decide (0 ≤ (1 : Int) ∧ firstWrong 2 t = 1))) tlOk) := by
  refine lamOk_of (x := "_law_some") sc_lam11 (fun _ _ _ _ => rfl) fun A outer s H f c' v Q hr h => ?_
  obtain ⟨_, t, ev, hd, hok, q⟩ := h
  cases ev
  refine ⟨_, (pe_me (me_Wrong_shows T) (hr.mono (by first | decide | omega)) (pe_mk (mk_Wrong T) (hr.mono (by first | decide | omega)) (by rfl) (pa_cons pe_int pa_nil)) (pa_cons pe_int (pa_cons (pe_ix (show IxR _ (rIxL K) from ix_list) (pv 0) pe_int (fun _ _ => rfl)) pa_nil))), ?_⟩
  intro y dy ny ndy ned
  refine ⟨y, dy, .int 1, rfl, upd_same, fun J1 f1 hy => ⟨rfl, ?_⟩⟩
  have j1 : Same H J1 := made_same ny ndy f1
  obtain ⟨a, x, rfl, ha, hx⟩ := dx_one (dx_mono j1 hd)
  obtain ⟨b, rfl, hb⟩ := dx_tale (K := K) hx hok.1
  exact ⟨y, dy, _, rfl, hy, wrF_shows _, _, rfl, a, _, 0, _, rfl, rfl, SqL.of ha, rfl, y, dy, b, 2, 1, t, rfl, hy, by decide, by decide, hb, fun J2 j2 => q _ _ (j1.trans j2) (.bl _)⟩
end
end Song

/-! ### Ro: _law_rows_one of k14 -/
namespace Song
open PySem L2
theorem tl_ok {t : List Part} (h : t.length ≤ 30) (k : (t.all fun w => match w with | .wish ss _ _ => decide (ss.length ≤ 1000) | _ => true) = true) : tlOk t :=
  ⟨⟨by omega, fun ss n r hm => of_decide_eq_true (List.all_eq_true.mp k _ hm)⟩, h⟩
theorem sg_ok {s : List Int} (h : (decide (s.length ≤ 24) && s.all fun x => decide (0 ≤ x ∧ x < 6)) = true) : SongsOk s := by
  rw [Bool.and_eq_true] at h
  exact ⟨of_decide_eq_true h.1, fun x hx => of_decide_eq_true (List.all_eq_true.mp h.2 x hx)⟩
theorem gr_ok {R : List (List Int)} (h : (R.all fun r => areSingers r 6) = true) : GrOk R := fun r hr => List.all_eq_true.mp h r hr
theorem ext_offE {S : List Addr} {H H' : Hp} (e : LamX.ExtN H H') : LamX.ExtN (off S H) (off S H') := fun b o h n => by
  obtain ⟨h1, h2⟩ := off_some h
  rw [off_out h1]
  exact e b o h2 n
theorem codeO_lst' {c : Addr} {q : Str} {xs : List V} : LamX.CodeO c q ≠ .lst xs := fun z => by
  unfold LamX.CodeO at z
  cases z
theorem dx_ext {H H' : Hp} (e : LamX.ExtN H H') {v : V} {d : D} (h : Dx H v d) : Dx H' v d := dx_mono (fun b o hb => by
  obtain ⟨h1, n⟩ := nt_some hb
  exact e b o h1 n) (dx_nt h)
section
variable {P : Program} {w : World} {K : PySem.W.Frag} {mg : Str → Option Value} {base : Heap}
theorem RowD.ext {H H' : Hp} {f : Addr} {v1 v2 : V} (e : LamX.ExtN H H') (h : RowD P w K mg base H f v1 v2) : RowD P w K mg base H' f v1 v2 := by
  obtain ⟨c', q, params, body, scope, sp, es, fs, r, r', h1, h2, h3, h4, h5, h6⟩ := h
  exact ⟨c', q, params, body, scope, sp, es, fs, r, r', e _ _ h1 lamF_ne, e _ _ h2 LamX.codeO_ne, h3, dx_ext e h4, dx_ext e h5, h6⟩
/-- a row: its door and its data -/
def RowOk (P : Program) (w : World) (K : PySem.W.Frag) (mg : Str → Option Value) (base : Heap) (H : Hp) (v : V) : Prop := ∃ (t f : Addr) (v1 v2 : V), v = .ref t ∧ H t = some (.tup [.ref f, v1, v2]) ∧ RowD P w K mg base H f v1 v2
theorem RowOk.ext {H H' : Hp} {v : V} (e : LamX.ExtN H H') (h : RowOk P w K mg base H v) : RowOk P w K mg base H' v := by
  obtain ⟨t, f, v1, v2, h1, h2, h3⟩ := h
  exact ⟨t, f, v1, v2, h1, e _ _ h2 (fun _ z => by cases z), h3.ext e⟩
structure Rws (P : Program) (w : World) (K : PySem.W.Frag) (mg : Str → Option Value) (base : Heap) (H0 : Hp) (p : Addr) (n : Nat) (H : Hp) (vs : List V) : Prop where
  ex : LamX.ExtN H0 (off [p] H)
  tb : LamX.Tabs (TL K) H
  at_ : H p = some (.lst vs)
  len : vs.length = n
  all : ∀ v ∈ vs, RowOk P w K mg base (off [p] H) v
theorem rd_row {H0 H : Hp} {p : Addr} {n : Nat} {vs : List V} {σ : L2.St} {B : TS} {Dn : Ends} {q : Str} {params : Arguments} {body : Expr} {scope : Scope} {te1 te2 : TE} {sp : Sp} {es fs : List D} {r r' : D} (hσ : σ[0]? = some (some (.ref p))) (S : Rws P w K mg base H0 p n H vs) (hn : n ≤ 100)
    (lok : LamOk P w K mg base 10 q params body scope sp) (door : DoorD sp es fs r r') (g1 : ∀ G, Gw [p] G σ te1 (.lst es)) (g2 : ∀ G, Gw [p] G σ te2 (.lst fs)) (k : ∀ vs' H', Rws P w K mg base H0 p (n + 1) H' vs' → B Dn σ H') :
    tSeq (tDrop (tBM K "list" rAppend (tVar 0) (tCons (tTup (tCons (tLamV (TL K) q params body scope) (tCons (iE te1) (tCons (iE te2) tNil)))) tNil))) B Dn σ H := by
  have dom : ∀ {X : Hp} {xs : List V}, X p = some (.lst xs) → ∀ a ∈ [p], ∃ o, X a = some o := fun h a ha => by rw [List.mem_singleton.mp ha]; exact ⟨_, h⟩
  refine ⟨_, hσ, .inl ⟨rfl, _, SqL.of S.at_⟩, S.tb, fun f c' H1 e1 t1 nf hf hc => ?_⟩
  have hp1 : H1 p = some (.lst vs) := e1 _ _ S.at_ (fun _ z => by cases z)
  refine rd_datS [p] (dom hp1) (g1 H1) fun v1 H2 s2 d1 => ?_
  have hp2 := s2 _ _ hp1
  refine rd_datS [p] (dom hp2) (g2 H2) fun v2 H3 s3 d2 => ?_
  refine ⟨by show 3 ≤ sizeLine; decide, fun t nt => to_new nt fun H4 s4 ht => ?_⟩
  have hp4 := s4 _ _ (s3 _ _ hp2)
  have s14 : Same H1 H4 := s2.trans (s3.trans s4)
  have hl := S.len
  refine ⟨p, vs, .ref t, rfl, rfl, hp4, lt_line (by omega), k (vs ++ [.ref t]) _ ?_⟩
  have e04 : LamX.ExtN (off [p] H) (off [p] (upd H4 p (.lst (vs ++ [.ref t])))) := by
    rw [off_one]
    exact (ext_offE e1).trans (LamX.ExtN.of (off_mono s14))
  refine ⟨S.ex.trans e04, tabs_put (t1.ext s14) hp4 (Fra.put (by simp)), upd_same, by simp [hl], fun v hv => ?_⟩
  rcases List.mem_append.mp hv with z | z
  · exact (S.all v z).ext e04
  · rw [List.mem_singleton.mp z, off_one]
    have npf : f ≠ p := fun z => by rw [z, S.at_] at nf; cases nf
    have npc : c' ≠ p := fun z => by
      rw [z, hp1] at hc
      exact codeO_lst' (Option.some.inj hc).symm
    have npt : t ≠ p := fun z => by rw [z, s3 _ _ hp2] at nt; cases nt
    refine ⟨t, f, v1, v2, rfl, by rw [off_out (by simpa using npt)]; exact ht, c', q, params, body, scope, sp, es, fs, r, r', ?_, ?_, lok, dx_mono (off_mono (s3.trans s4)) d1, dx_mono (off_mono s4) d2, door⟩
    · rw [off_out (by simpa using npf)]; exact s14 _ _ hf
    · rw [off_out (by simpa using npc)]; exact s14 _ _ hc
theorem sc__law_rows_one : FnScope ["_law_rows"] [] (defScope s__law_rows_one) := ⟨rfl, rfl, rfl, by decide +kernel, rfl, by decide +kernel, by decide +kernel⟩
def sp_rows (P : Program) (w : World) (K : PySem.W.Frag) (mg : Str → Option Value) (base : Heap) : Sp := fun vs H Q _ => vs = [] ∧ LamX.Tabs (TL K) H ∧ ∀ p xs H', H p = none → Rws P w K mg base H p 12 H' xs → Q (.ref p) H'
theorem fn__law_rows_one (T : Tx K mg) (B : ∀ p ∈ tf, LamX.TabB base mg (He.cT K p).1 (He.cT K p).2) : Fn P w K mg base "_law_rows_one" 12 (sp_rows P w K mg base) := by
  obtain ⟨fd, F⟩ := T.d__law_rows_one
  refine ⟨_, fd, _, okC (at_ := ("_law_rows_one", none)) F rfl (CX := CX0) sc__law_rows_one (fun vs H Q E h => ?_) (fun cdv hcv A outer s H vs Q E hr h => ?_), T.g__law_rows_one, F.kp, F.bindsN fun _ _ _ _ _ _ us hl => match us, hl with | [], _ => rfl⟩
  · obtain ⟨rfl, _⟩ := h; rfl
  · obtain ⟨rfl, tb, q⟩ := h
    refine ⟨_, PSs.nox (pss_cons (ps_set (i := 0) sc__law_rows_one.nd rfl (by first | exact Or.inl rfl | exact Or.inr rfl) (pe_iE (pe_lst pa_nil)))
      (pss_cons (ps_expr (show PE _ _ (tBM K _ _ _ _) from pe_bm PySem.F.plainAttrs_list PySem.F.slot_list_append PySem.F.type_list_append mt_append (pv 0) (pa_cons (pe_tup (pa_cons (pe_lamV (lamT T B (by decide)) rfl hcv rfl rfl) (pa_cons (pe_iE (pe_lst (pa_cons (pe_lst (pa_cons (pe_tup (pa_cons pe_str (pa_cons (pe_lst (pa_cons pe_int pa_nil)) (pa_cons pe_int (pa_cons pe_int pa_nil))))) (pa_cons (pe_tup (pa_cons pe_str (pa_cons pe_int pa_nil))) pa_nil))) pa_nil))) (pa_cons (pe_iE (pe_lst (pa_cons (pe_lst (pa_cons (pe_tup (pa_cons pe_str (pa_cons (pe_lst (pa_cons pe_int pa_nil)) (pa_cons pe_int (pa_cons pe_int pa_nil))))) (pa_cons (pe_tup (pa_cons pe_str (pa_cons pe_non pa_nil))) pa_nil))) pa_nil))) pa_nil)))) pa_nil)))
      (pss_cons (ps_expr (show PE _ _ (tBM K _ _ _ _) from pe_bm PySem.F.plainAttrs_list PySem.F.slot_list_append PySem.F.type_list_append mt_append (pv 0) (pa_cons (pe_tup (pa_cons (pe_lamV (lamT T B (by decide)) rfl hcv rfl rfl) (pa_cons (pe_iE (pe_lst (pa_cons (pe_lst (pa_cons pe_int (pa_cons pe_int (pa_cons pe_int pa_nil)))) pa_nil))) (pa_cons (pe_iE (pe_lst (pa_cons (pe_lst (pa_cons pe_int (pa_cons pe_int (pa_cons pe_int pa_nil)))) pa_nil))) pa_nil)))) pa_nil)))
      (pss_cons (ps_expr (show PE _ _ (tBM K _ _ _ _) from pe_bm PySem.F.plainAttrs_list PySem.F.slot_list_append PySem.F.type_list_append mt_append (pv 0) (pa_cons (pe_tup (pa_cons (pe_lamV (lamT T B (by decide)) rfl hcv rfl rfl) (pa_cons (pe_iE (pe_lst (pa_cons (pe_lst (pa_cons pe_int (pa_cons pe_int (pa_cons pe_int pa_nil)))) pa_nil))) (pa_cons (pe_iE (pe_lst (pa_cons (pe_lst (pa_cons pe_int (pa_cons pe_int (pa_cons pe_int pa_nil)))) pa_nil))) pa_nil)))) pa_nil)))
      (pss_cons (ps_expr (show PE _ _ (tBM K _ _ _ _) from pe_bm PySem.F.plainAttrs_list PySem.F.slot_list_append PySem.F.type_list_append mt_append (pv 0) (pa_cons (pe_tup (pa_cons (pe_lamV (lamT T B (by decide)) rfl hcv rfl rfl) (pa_cons (pe_iE (pe_lst (pa_cons (pe_lst (pa_cons (pe_lst (pa_cons pe_int pa_nil)) (pa_cons (pe_lst (pa_cons pe_int pa_nil)) (pa_cons (pe_lst (pa_cons pe_int pa_nil)) pa_nil)))) (pa_cons (pe_lst (pa_cons pe_int (pa_cons pe_int (pa_cons pe_int pa_nil)))) pa_nil)))) (pa_cons (pe_iE (pe_lst (pa_cons (pe_lst (pa_cons (pe_lst (pa_cons pe_int pa_nil)) (pa_cons (pe_lst (pa_cons pe_int pa_nil)) (pa_cons (pe_lst (pa_cons pe_int pa_nil)) pa_nil)))) (pa_cons (pe_lst (pa_cons pe_int (pa_cons pe_int (pa_cons pe_int pa_nil)))) pa_nil)))) pa_nil)))) pa_nil)))
      (pss_cons (ps_expr (show PE _ _ (tBM K _ _ _ _) from pe_bm PySem.F.plainAttrs_list PySem.F.slot_list_append PySem.F.type_list_append mt_append (pv 0) (pa_cons (pe_tup (pa_cons (pe_lamV (lamT T B (by decide)) rfl hcv rfl rfl) (pa_cons (pe_iE (pe_lst (pa_cons (pe_lst (pa_cons (pe_lst (pa_cons pe_int pa_nil)) (pa_cons (pe_lst (pa_cons pe_int pa_nil)) (pa_cons (pe_lst (pa_cons pe_int pa_nil)) pa_nil)))) (pa_cons (pe_lst (pa_cons pe_int (pa_cons pe_int (pa_cons pe_int pa_nil)))) pa_nil)))) (pa_cons (pe_iE (pe_lst (pa_cons (pe_lst (pa_cons (pe_lst (pa_cons pe_int pa_nil)) (pa_cons (pe_lst (pa_cons pe_int pa_nil)) (pa_cons (pe_lst (pa_cons pe_int pa_nil)) pa_nil)))) (pa_cons (pe_lst (pa_cons pe_int (pa_cons pe_int (pa_cons pe_int pa_nil)))) pa_nil)))) pa_nil)))) pa_nil)))
      (pss_cons (ps_expr (show PE _ _ (tBM K _ _ _ _) from pe_bm PySem.F.plainAttrs_list PySem.F.slot_list_append PySem.F.type_list_append mt_append (pv 0) (pa_cons (pe_tup (pa_cons (pe_lamV (lamT T B (by decide)) rfl hcv rfl rfl) (pa_cons (pe_iE (pe_lst (pa_cons (pe_lst (pa_cons pe_int (pa_cons pe_int (pa_cons pe_int pa_nil)))) pa_nil))) (pa_cons (pe_iE (pe_lst (pa_cons (pe_lst (pa_cons pe_int (pa_cons pe_int (pa_cons pe_int pa_nil)))) pa_nil))) pa_nil)))) pa_nil)))
      (pss_cons (ps_expr (show PE _ _ (tBM K _ _ _ _) from pe_bm PySem.F.plainAttrs_list PySem.F.slot_list_append PySem.F.type_list_append mt_append (pv 0) (pa_cons (pe_tup (pa_cons (pe_lamV (lamT T B (by decide)) rfl hcv rfl rfl) (pa_cons (pe_iE (pe_lst (pa_cons (pe_lst (pa_cons (pe_lst (pa_cons pe_int pa_nil)) (pa_cons (pe_lst (pa_cons pe_int pa_nil)) (pa_cons (pe_lst (pa_cons pe_int pa_nil)) pa_nil)))) pa_nil))) (pa_cons (pe_iE (pe_lst (pa_cons (pe_lst (pa_cons (pe_lst (pa_cons pe_int pa_nil)) (pa_cons (pe_lst (pa_cons pe_int pa_nil)) (pa_cons (pe_lst (pa_cons pe_int pa_nil)) pa_nil)))) pa_nil))) pa_nil)))) pa_nil)))
      (pss_cons (ps_expr (show PE _ _ (tBM K _ _ _ _) from pe_bm PySem.F.plainAttrs_list PySem.F.slot_list_append PySem.F.type_list_append mt_append (pv 0) (pa_cons (pe_tup (pa_cons (pe_lamV (lamT T B (by decide)) rfl hcv rfl rfl) (pa_cons (pe_iE (pe_lst (pa_cons (pe_lst (pa_cons pe_int (pa_cons pe_int pa_nil))) pa_nil))) (pa_cons (pe_iE (pe_lst (pa_cons (pe_lst (pa_cons pe_int (pa_cons pe_int pa_nil))) pa_nil))) pa_nil)))) pa_nil)))
      (pss_cons (ps_expr (show PE _ _ (tBM K _ _ _ _) from pe_bm PySem.F.plainAttrs_list PySem.F.slot_list_append PySem.F.type_list_append mt_append (pv 0) (pa_cons (pe_tup (pa_cons (pe_lamV (lamT T B (by decide)) rfl hcv rfl rfl) (pa_cons (pe_iE (pe_lst (pa_cons (pe_lst (pa_cons pe_int (pa_cons pe_int (pa_cons pe_int pa_nil)))) pa_nil))) (pa_cons (pe_iE (pe_lst (pa_cons (pe_lst (pa_cons pe_int (pa_cons pe_int (pa_cons pe_int pa_nil)))) pa_nil))) pa_nil)))) pa_nil)))
      (pss_cons (ps_expr (show PE _ _ (tBM K _ _ _ _) from pe_bm PySem.F.plainAttrs_list PySem.F.slot_list_append PySem.F.type_list_append mt_append (pv 0) (pa_cons (pe_tup (pa_cons (pe_lamV (lamT T B (by decide)) rfl hcv rfl rfl) (pa_cons (pe_iE (pe_lst (pa_cons (pe_lst (pa_cons pe_int (pa_cons pe_int (pa_cons pe_int pa_nil)))) pa_nil))) (pa_cons (pe_iE (pe_lst (pa_cons (pe_lst (pa_cons pe_int (pa_cons pe_int (pa_cons pe_int pa_nil)))) pa_nil))) pa_nil)))) pa_nil)))
      (pss_cons (ps_expr (show PE _ _ (tBM K _ _ _ _) from pe_bm PySem.F.plainAttrs_list PySem.F.slot_list_append PySem.F.type_list_append mt_append (pv 0) (pa_cons (pe_tup (pa_cons (pe_lamV (lamT T B (by decide)) rfl hcv rfl rfl) (pa_cons (pe_iE (pe_lst (pa_cons (pe_lst (pa_cons (pe_tup (pa_cons pe_str (pa_cons (pe_lst (pa_cons pe_int pa_nil)) (pa_cons pe_int (pa_cons pe_int pa_nil))))) (pa_cons (pe_tup (pa_cons pe_str (pa_cons pe_int pa_nil))) pa_nil))) pa_nil))) (pa_cons (pe_iE (pe_lst (pa_cons (pe_lst (pa_cons (pe_tup (pa_cons pe_str (pa_cons (pe_lst (pa_cons pe_int pa_nil)) (pa_cons pe_int (pa_cons pe_int pa_nil))))) (pa_cons (pe_tup (pa_cons pe_str (pa_cons pe_non pa_nil))) pa_nil))) pa_nil))) pa_nil)))) pa_nil)))
      (pss_cons (ps_expr (show PE _ _ (tBM K _ _ _ _) from pe_bm PySem.F.plainAttrs_list PySem.F.slot_list_append PySem.F.type_list_append mt_append (pv 0) (pa_cons (pe_tup (pa_cons (pe_lamV (lamT T B (by decide)) rfl hcv rfl rfl) (pa_cons (pe_iE (pe_lst (pa_cons (pe_lst (pa_cons (pe_tup (pa_cons pe_str (pa_cons (pe_lst (pa_cons pe_int pa_nil)) (pa_cons pe_int (pa_cons pe_int pa_nil))))) (pa_cons (pe_tup (pa_cons pe_str (pa_cons pe_non pa_nil))) pa_nil))) pa_nil))) (pa_cons (pe_iE (pe_lst (pa_cons (pe_lst (pa_cons (pe_tup (pa_cons pe_str (pa_cons (pe_lst (pa_cons pe_int pa_nil)) (pa_cons pe_int (pa_cons pe_int pa_nil))))) (pa_cons (pe_tup (pa_cons pe_str (pa_cons pe_int pa_nil))) pa_nil))) pa_nil))) pa_nil)))) pa_nil)))
      (pss_one (ps_ret (pv 0)))))))))))))))), ?_⟩
    refine rd_set0 (iE_of ⟨Nat.zero_le _, fun p np => to_new np fun G0 s0 h0 => ?_⟩)
    have S0 : Rws P w K mg base H p 0 G0 [] := ⟨LamX.ExtN.of (same_offnew s0 np), tb.ext s0, h0, rfl, fun v hv => by cases hv⟩
    dsimp only
    refine rd_row (es := [taleDs [.wish [0] 0 1, .sing (some 0)]]) (fs := [taleDs [.wish [0] 0 1, .sing none]]) rfl S0 (by decide) (lam0 T) ⟨ask_of ([.wish [0] 0 1, .sing (some 0)]) (tl_ok (by decide) (by decide +kernel)), ask_of ([.wish [0] 0 1, .sing none]) (tl_ok (by decide) (by decide +kernel)), by decide +kernel⟩ (fun G => (gw_lst (gx_cons (gw_lst (gx_cons (gw_tup (gx_cons (gw_str (s := "wish")) (gx_cons (gw_lst (gx_cons (gw_int (i := 0)) gx_nil)) (gx_cons (gw_int (i := 0)) (gx_cons (gw_int (i := 1)) gx_nil))))) (gx_cons (gw_tup (gx_cons (gw_str (s := "sing")) (gx_cons (gw_int (i := 0)) gx_nil))) gx_nil))) gx_nil))) (fun G => (gw_lst (gx_cons (gw_lst (gx_cons (gw_tup (gx_cons (gw_str (s := "wish")) (gx_cons (gw_lst (gx_cons (gw_int (i := 0)) gx_nil)) (gx_cons (gw_int (i := 0)) (gx_cons (gw_int (i := 1)) gx_nil))))) (gx_cons (gw_tup (gx_cons (gw_str (s := "sing")) (gx_cons gw_non gx_nil))) gx_nil))) gx_nil))) fun vs1 G1 S1 => ?_
    refine rd_row (es := [intsD [0, 1, 0]]) (fs := [intsD [0, 0, 0]]) rfl S1 (by decide) (lam1 T) ⟨ask_of ([0, 1, 0]) (sg_ok (by decide +kernel)), ask_of ([0, 0, 0]) (sg_ok (by decide +kernel)), by decide +kernel⟩ (fun G => (gw_lst (gx_cons (gw_lst (gx_cons (gw_int (i := 0)) (gx_cons (gw_int (i := 1)) (gx_cons (gw_int (i := 0)) gx_nil)))) gx_nil))) (fun G => (gw_lst (gx_cons (gw_lst (gx_cons (gw_int (i := 0)) (gx_cons (gw_int (i := 0)) (gx_cons (gw_int (i := 0)) gx_nil)))) gx_nil))) fun vs2 G2 S2 => ?_
    refine rd_row (es := [intsD [0, 1, 0]]) (fs := [intsD [1, 0, 1]]) rfl S2 (by decide) (lam2 T) ⟨ask_of ([0, 1, 0]) (⟨sg_ok (by decide +kernel), by decide +kernel⟩), ask_of ([1, 0, 1]) (⟨sg_ok (by decide +kernel), by decide +kernel⟩), by decide +kernel⟩ (fun G => (gw_lst (gx_cons (gw_lst (gx_cons (gw_int (i := 0)) (gx_cons (gw_int (i := 1)) (gx_cons (gw_int (i := 0)) gx_nil)))) gx_nil))) (fun G => (gw_lst (gx_cons (gw_lst (gx_cons (gw_int (i := 1)) (gx_cons (gw_int (i := 0)) (gx_cons (gw_int (i := 1)) gx_nil)))) gx_nil))) fun vs3 G3 S3 => ?_
    refine rd_row (es := [rowsD [[0], [1], [0]], intsD [0, 1, 2]]) (fs := [rowsD [[0], [1], [0]], intsD [0, 2, 1]]) rfl S3 (by decide) (lam3 T) ⟨ask_of (([[0], [1], [0]], [0, 1, 2])) (⟨gr_ok (by decide +kernel), by decide, by decide +kernel⟩), ask_of (([[0], [1], [0]], [0, 2, 1])) (⟨gr_ok (by decide +kernel), by decide, by decide +kernel⟩), by decide +kernel⟩ (fun G => (gw_lst (gx_cons (gw_lst (gx_cons (gw_lst (gx_cons (gw_int (i := 0)) gx_nil)) (gx_cons (gw_lst (gx_cons (gw_int (i := 1)) gx_nil)) (gx_cons (gw_lst (gx_cons (gw_int (i := 0)) gx_nil)) gx_nil)))) (gx_cons (gw_lst (gx_cons (gw_int (i := 0)) (gx_cons (gw_int (i := 1)) (gx_cons (gw_int (i := 2)) gx_nil)))) gx_nil)))) (fun G => (gw_lst (gx_cons (gw_lst (gx_cons (gw_lst (gx_cons (gw_int (i := 0)) gx_nil)) (gx_cons (gw_lst (gx_cons (gw_int (i := 1)) gx_nil)) (gx_cons (gw_lst (gx_cons (gw_int (i := 0)) gx_nil)) gx_nil)))) (gx_cons (gw_lst (gx_cons (gw_int (i := 0)) (gx_cons (gw_int (i := 2)) (gx_cons (gw_int (i := 1)) gx_nil)))) gx_nil)))) fun vs4 G4 S4 => ?_
    refine rd_row (es := [rowsD [[0], [1], [0]], intsD [0, 1, 2]]) (fs := [rowsD [[0], [0], [1]], intsD [0, 1, 2]]) rfl S4 (by decide) (lam4 T) ⟨ask_of (([[0], [1], [0]], [0, 1, 2])) (⟨gr_ok (by decide +kernel), by decide, by decide +kernel⟩), ask_of (([[0], [0], [1]], [0, 1, 2])) (⟨gr_ok (by decide +kernel), by decide, by decide +kernel⟩), by decide +kernel⟩ (fun G => (gw_lst (gx_cons (gw_lst (gx_cons (gw_lst (gx_cons (gw_int (i := 0)) gx_nil)) (gx_cons (gw_lst (gx_cons (gw_int (i := 1)) gx_nil)) (gx_cons (gw_lst (gx_cons (gw_int (i := 0)) gx_nil)) gx_nil)))) (gx_cons (gw_lst (gx_cons (gw_int (i := 0)) (gx_cons (gw_int (i := 1)) (gx_cons (gw_int (i := 2)) gx_nil)))) gx_nil)))) (fun G => (gw_lst (gx_cons (gw_lst (gx_cons (gw_lst (gx_cons (gw_int (i := 0)) gx_nil)) (gx_cons (gw_lst (gx_cons (gw_int (i := 0)) gx_nil)) (gx_cons (gw_lst (gx_cons (gw_int (i := 1)) gx_nil)) gx_nil)))) (gx_cons (gw_lst (gx_cons (gw_int (i := 0)) (gx_cons (gw_int (i := 1)) (gx_cons (gw_int (i := 2)) gx_nil)))) gx_nil)))) fun vs5 G5 S5 => ?_
    refine rd_row (es := [intsD [0, 1, 0]]) (fs := [intsD [0, 0, 0]]) rfl S5 (by decide) (lam5 T) ⟨ask_of ([0, 1, 0]) (sg_ok (by decide +kernel)), ask_of ([0, 0, 0]) (sg_ok (by decide +kernel)), by decide +kernel⟩ (fun G => (gw_lst (gx_cons (gw_lst (gx_cons (gw_int (i := 0)) (gx_cons (gw_int (i := 1)) (gx_cons (gw_int (i := 0)) gx_nil)))) gx_nil))) (fun G => (gw_lst (gx_cons (gw_lst (gx_cons (gw_int (i := 0)) (gx_cons (gw_int (i := 0)) (gx_cons (gw_int (i := 0)) gx_nil)))) gx_nil))) fun vs6 G6 S6 => ?_
    refine rd_row (es := [rowsD [[0], [1], [0]]]) (fs := [rowsD [[0], [0], [0]]]) rfl S6 (by decide) (lam6 T) ⟨ask_of ([[0], [1], [0]]) (⟨gr_ok (by decide +kernel), by decide⟩), ask_of ([[0], [0], [0]]) (⟨gr_ok (by decide +kernel), by decide⟩), by decide +kernel⟩ (fun G => (gw_lst (gx_cons (gw_lst (gx_cons (gw_lst (gx_cons (gw_int (i := 0)) gx_nil)) (gx_cons (gw_lst (gx_cons (gw_int (i := 1)) gx_nil)) (gx_cons (gw_lst (gx_cons (gw_int (i := 0)) gx_nil)) gx_nil)))) gx_nil))) (fun G => (gw_lst (gx_cons (gw_lst (gx_cons (gw_lst (gx_cons (gw_int (i := 0)) gx_nil)) (gx_cons (gw_lst (gx_cons (gw_int (i := 0)) gx_nil)) (gx_cons (gw_lst (gx_cons (gw_int (i := 0)) gx_nil)) gx_nil)))) gx_nil))) fun vs7 G7 S7 => ?_
    refine rd_row (es := [intsD [0, 1]]) (fs := [intsD [0, 2]]) rfl S7 (by decide) (lam7 T) ⟨ask_of ([0, 1]) ((show areSingers _ _ = true by decide +kernel)), ask_of ([0, 2]) ((show areSingers _ _ = true by decide +kernel)), by decide +kernel⟩ (fun G => (gw_lst (gx_cons (gw_lst (gx_cons (gw_int (i := 0)) (gx_cons (gw_int (i := 1)) gx_nil))) gx_nil))) (fun G => (gw_lst (gx_cons (gw_lst (gx_cons (gw_int (i := 0)) (gx_cons (gw_int (i := 2)) gx_nil))) gx_nil))) fun vs8 G8 S8 => ?_
    refine rd_row (es := [intsD [0, 1, 0]]) (fs := [intsD [0, 0, 1]]) rfl S8 (by decide) (lam8 T) ⟨ask_of ([0, 1, 0]) (sg_ok (by decide +kernel)), ask_of ([0, 0, 1]) (sg_ok (by decide +kernel)), by decide +kernel⟩ (fun G => (gw_lst (gx_cons (gw_lst (gx_cons (gw_int (i := 0)) (gx_cons (gw_int (i := 1)) (gx_cons (gw_int (i := 0)) gx_nil)))) gx_nil))) (fun G => (gw_lst (gx_cons (gw_lst (gx_cons (gw_int (i := 0)) (gx_cons (gw_int (i := 0)) (gx_cons (gw_int (i := 1)) gx_nil)))) gx_nil))) fun vs9 G9 S9 => ?_
    refine rd_row (es := [intsD [0, 0, 0]]) (fs := [intsD [0, 1, 0]]) rfl S9 (by decide) (lam9 T) ⟨ask_of ([0, 0, 0]) (sg_ok (by decide +kernel)), ask_of ([0, 1, 0]) (sg_ok (by decide +kernel)), by decide +kernel⟩ (fun G => (gw_lst (gx_cons (gw_lst (gx_cons (gw_int (i := 0)) (gx_cons (gw_int (i := 0)) (gx_cons (gw_int (i := 0)) gx_nil)))) gx_nil))) (fun G => (gw_lst (gx_cons (gw_lst (gx_cons (gw_int (i := 0)) (gx_cons (gw_int (i := 1)) (gx_cons (gw_int (i := 0)) gx_nil)))) gx_nil))) fun vs10 G10 S10 => ?_
    refine rd_row (es := [taleDs [.wish [0] 0 1, .sing (some 0)]]) (fs := [taleDs [.wish [0] 0 1, .sing none]]) rfl S10 (by decide) (lam10 T) ⟨ask_of ([.wish [0] 0 1, .sing (some 0)]) (tl_ok (by decide) (by decide +kernel)), ask_of ([.wish [0] 0 1, .sing none]) (tl_ok (by decide) (by decide +kernel)), by decide +kernel⟩ (fun G => (gw_lst (gx_cons (gw_lst (gx_cons (gw_tup (gx_cons (gw_str (s := "wish")) (gx_cons (gw_lst (gx_cons (gw_int (i := 0)) gx_nil)) (gx_cons (gw_int (i := 0)) (gx_cons (gw_int (i := 1)) gx_nil))))) (gx_cons (gw_tup (gx_cons (gw_str (s := "sing")) (gx_cons (gw_int (i := 0)) gx_nil))) gx_nil))) gx_nil))) (fun G => (gw_lst (gx_cons (gw_lst (gx_cons (gw_tup (gx_cons (gw_str (s := "wish")) (gx_cons (gw_lst (gx_cons (gw_int (i := 0)) gx_nil)) (gx_cons (gw_int (i := 0)) (gx_cons (gw_int (i := 1)) gx_nil))))) (gx_cons (gw_tup (gx_cons (gw_str (s := "sing")) (gx_cons gw_non gx_nil))) gx_nil))) gx_nil))) fun vs11 G11 S11 => ?_
    refine rd_row (es := [taleDs [.wish [0] 0 1, .sing none]]) (fs := [taleDs [.wish [0] 0 1, .sing (some 0)]]) rfl S11 (by decide) (lam11 T) ⟨ask_of ([.wish [0] 0 1, .sing none]) (tl_ok (by decide) (by decide +kernel)), ask_of ([.wish [0] 0 1, .sing (some 0)]) (tl_ok (by decide) (by decide +kernel)), by decide +kernel⟩ (fun G => (gw_lst (gx_cons (gw_lst (gx_cons (gw_tup (gx_cons (gw_str (s := "wish")) (gx_cons (gw_lst (gx_cons (gw_int (i := 0)) gx_nil)) (gx_cons (gw_int (i := 0)) (gx_cons (gw_int (i := 1)) gx_nil))))) (gx_cons (gw_tup (gx_cons (gw_str (s := "sing")) (gx_cons gw_non gx_nil))) gx_nil))) gx_nil))) (fun G => (gw_lst (gx_cons (gw_lst (gx_cons (gw_tup (gx_cons (gw_str (s := "wish")) (gx_cons (gw_lst (gx_cons (gw_int (i := 0)) gx_nil)) (gx_cons (gw_int (i := 0)) (gx_cons (gw_int (i := 1)) gx_nil))))) (gx_cons (gw_tup (gx_cons (gw_str (s := "sing")) (gx_cons (gw_int (i := 0)) gx_nil))) gx_nil))) gx_nil))) fun vs12 G12 S12 => ?_
    exact ⟨_, rfl, q p _ _ np S12⟩
end
end Song

/-! ### L14: the law k14 -/
namespace Song
open PySem L2
def spLawT (K : PySem.W.Frag) : Sp := fun vs H Q _ => ∃ (a : Addr) (ns : List Int), vs = [.ref a] ∧ SqL K H a (ns.map V.int) ∧ Scr ns ∧ LamX.Tabs (TL K) H ∧ ∀ H', Q (.bl true) H'
section
variable {P : Program} {w : World} {K : PySem.W.Frag} {mg : Str → Option Value} {base : Heap}
theorem sc_law : FnScope ["_law_script", "_law_rows", "_law_begin", "_law_ask", "_law_first", "_law_second"] ["_law_script"] (defScope s_law) := ⟨rfl, rfl, rfl, by decide +kernel, rfl, by decide +kernel, by decide +kernel⟩
theorem ok_law0 {fd : FuncData} (T : Tx K mg) (B : ∀ p ∈ tf, LamX.TabB base mg (He.cT K p).1 (He.cT K p).2) (F : FnP K "law" "law" s_law (He.ga K "law") fd) : FnOk P w K mg base CX0 18 (He.ga K "law") fd ["_law_script"] (spLawT K) := by
  refine F.ok (CX := CX0) sc_law (fun vs H Q E h => ?_) (fun cdv A outer s H vs Q E hr h => ?_)
  · obtain ⟨a, ns, rfl, _⟩ := h; rfl
  · obtain ⟨a, ns, rfl, hs, hb, tb, q⟩ := h
    refine ⟨_, PSs.nox (pss_cons (ps_set (i := 0) sc_law.nd rfl (by first | exact Or.inl rfl | exact Or.inr rfl) (pe_slice (show SlR _ (rSlL K) from sl_list) (pv 0) po_none (po_some pe_int)))
      (pss_cons (ps_set (i := 1) sc_law.nd rfl (by first | exact Or.inl rfl | exact Or.inr rfl) (pe_fn0 (fn__law_rows_one T B) (hr.mono (by first | decide | omega)) (by rfl)))
      (pss_cons (ps_set (i := 2) sc_law.nd rfl (by first | exact Or.inl rfl | exact Or.inr rfl) (pe_op op_mod (pe_callB call_abs (by rfl) T.abs (by decide +kernel) (pa_cons (pe_fn (fn__law_cell_at T) (hr.mono (by first | decide | omega)) (by rfl) (pa_cons (pv 0) (pa_cons pe_int pa_nil))) pa_nil)) (pe_callB (show CallR _ _ (rLenQ K) from call_len_seq) (by rfl) T.len (by decide +kernel) (pa_cons (pv 1) pa_nil))))
      (pss_cons (ps_for PassesOwn.never rfl (show PI _ _ _ (iList K _) from pi_list (pe_op op_cat (pe_slice (show SlR _ (rSlL K) from sl_list) (pv 1) (po_some (pv 2)) po_none) (pe_slice (show SlR _ (rSlL K) from sl_list) (pv 1) po_none (po_some (pv 2))))) (show PG _ _ (gTup K _ _) from pg_tup rfl (pgs_cons (pg_name (i := 3) sc_law.nd rfl (by first | exact Or.inl rfl | exact Or.inr rfl)) (pgs_cons (pg_name (i := 4) sc_law.nd rfl (by first | exact Or.inl rfl | exact Or.inr rfl)) (pgs_cons (pg_name (i := 5) sc_law.nd rfl (by first | exact Or.inl rfl | exact Or.inr rfl)) pgs_nil))))
      (pss_one (ps_if (pt_not (pt_val (pe_fn (fn__law_door_right T) (hr.mono (by first | decide | omega)) (by rfl) (pa_cons (pv 3) (pa_cons (pv 4) (pa_cons (pv 5) pa_nil)))))) (pss_one (ps_ret pe_bl)) pss_nil)))
      (pss_one (ps_ret pe_bl)))))), ?_⟩
    refine ⟨_, rfl, _, rfl, a, _, rfl, hs, fun z nz => ?_⟩
    rw [cut63 hb.1]
    refine to_new nz fun H1 s1 hz => ?_
    refine ⟨rfl, tb.ext s1, fun p xs H2 np R => ?_⟩
    have hp := R.at_
    have l12 := R.len
    have hz2 : H2 z = some (.lst (ns.map V.int)) := (off_some (R.ex _ _ hz fun _ z => by cases z)).2
    have pos : (0 : Int) < ((xs.length : Nat) : Int) := by rw [l12]; decide
    refine ⟨_, rfl, z, ns, 0, rfl, SqL.of hz2, by decide, _, rfl, _, rfl, p, _, rfl, .inl (SqL.of hp), _, _, rfl, rfl, pos, ?_⟩
    have cutM : ∀ (x y : Option Int), (∀ v ∈ cutV xs x y, v ∈ xs) ∧ (cutV xs x y).length ≤ 12 := fun x y => by
      unfold cutV
      refine ⟨fun v hv => List.mem_of_mem_drop (List.mem_of_mem_take hv), ?_⟩
      rw [List.length_take, List.length_drop]
      omega
    refine ⟨_, rfl, _, rfl, _, rfl, p, _, rfl, SqL.of hp, fun b7 n7 => to_new n7 fun G7 g7 h7 => ?_⟩
    refine ⟨_, rfl, _, rfl, _, rfl, p, _, rfl, SqL.of (g7 _ _ hp), fun b8 n8 => to_new n8 fun G8 g8 h8 => ?_⟩
    refine ⟨b7, b8, _, _, rfl, rfl, g8 _ _ h7, h8, Nat.le_of_lt (Nat.lt_of_le_of_lt (Nat.add_le_add (cutM _ _).2 (cutM _ _).2) (by decide)), fun a9 n9 => to_new n9 fun G9 g9 h9 => ?_⟩
    have s29 : Same H2 G9 := g7.trans (g8.trans g9)
    obtain ⟨L, h9, hL⟩ : ∃ L, G9 a9 = some (.lst L) ∧ ∀ v ∈ L, v ∈ xs := ⟨_, h9, fun v hv => by
      rcases List.mem_append.mp hv with z | z
      · exact (cutM _ _).1 v z
      · exact (cutM _ _).1 v z⟩
    refine ⟨a9, rfl, ⟨_, SqL.of h9⟩, for_list (K := K) (a := a9) (xs := L) (fun i σ X => ∃ (x2 x3 x4 x5 : Option V), σ = [some (.ref z), some (.ref p), x2, x3, x4, x5] ∧ Same G9 X) ?_ ?_ ?_ ?_⟩
    · exact ⟨_, _, _, _, rfl, Same.refl _⟩
    · rintro i σ X _ ⟨x2, x3, x4, x5, rfl, g⟩
      exact SqL.of (g _ _ h9)
    · rintro i v σ X hv ⟨x2, x3, x4, x5, rfl, g⟩
      have hm : v ∈ xs := hL v (List.mem_of_getElem? hv)
      obtain ⟨t, f, v1, v2, rfl, ht, row⟩ := (R.all v hm).ext (LamX.ExtN.of ((off_le _ _).trans (s29.trans g)))
      refine ⟨t, _, rfl, SqT.of ht, rfl, _, _, rfl, _, _, rfl, _, _, rfl, rfl, ?_⟩
      refine ⟨_, rfl, _, rfl, _, rfl, f, v1, v2, rfl, row, fun X2 x2' => ⟨_, rfl, iteF ?_⟩⟩
      exact ⟨_, _, _, _, rfl, g.trans x2'⟩
    rintro σ X ⟨x2, x3, x4, x5, rfl, g⟩
    exact q X
end
end Song

namespace Song
open PySem L2
def fn : List He.DefD := [d_counts_of, d_bars, d_barring, d_least_between, d_keeps, d_turns_in, d_order_for, d_is_whole, d_are_numbers, d_check_many, d_are_singers, d_check_songs, d_check_groups, d_floor_of, d_round_for, d_in_turn, d_Evening___init__, d_Evening_wish, d_Evening_sing, d_Evening_look_at, d_Evening_withdraw, d_Evening_waits, d_Evening_tale, d_is_part, d_first_wrong, d_Right_shows, d_Wrong___init__, d_Wrong_shows, d_Spaced___init__, d_Spaced_shows, d_Barred___init__, d_Barred_shows, d_spaced, d_least_gap, d_widest, d_all_orders, d_widest_few, d_judged, d__law_cell_at, d__law_copy, d__law_into, d__law_spoil, d__law_door_right, d__law_spaced_twice, d__law_rows_one, d_law]
def fa : List He.Fa := [.glo "counts_of", .glo "bars", .glo "barring", .glo "least_between", .glo "keeps", .glo "turns_in", .glo "order_for", .glo "TurnError", .glo "BadMany", .glo "BadSingers", .glo "BadSong", .glo "BadTale", .glo "BadSongs", .glo "BadGap", .glo "BadOrder", .glo "TooMany", .int "MOST_SINGERS" 6, .int "MOST_OF_SONG" 3, .int "MOST_SONGS" 24, .int "FEW" 5, .glo "is_whole", .glo "are_numbers", .glo "check_many", .glo "are_singers", .glo "check_songs", .glo "check_groups", .glo "floor_of", .glo "round_for", .glo "in_turn", .glo "Evening", .cls "Evening", .mkr "Evening", .meth "Evening" "wish", .meth "Evening" "sing", .meth "Evening" "look_at", .meth "Evening" "withdraw", .meth "Evening" "waits", .meth "Evening" "tale", .noat "Evening" "came", .noat "Evening" "going", .noat "Evening" "last", .noat "Evening" "rounds", .noat "Evening" "waiting", .glo "is_part", .glo "first_wrong", .glo "Answer", .cls "Answer", .glo "Right", .cls "Right", .meth "Right" "shows", .glo "Wrong", .cls "Wrong", .mkr "Wrong", .meth "Wrong" "shows", .noat "Wrong" "place", .glo "Spaced", .cls "Spaced", .mkr "Spaced", .meth "Spaced" "shows", .noat "Spaced" "order", .glo "Barred", .cls "Barred", .mkr "Barred", .meth "Barred" "shows", .noat "Barred" "singers", .glo "spaced", .glo "least_gap", .glo "widest", .glo "all_orders", .glo "widest_few", .int "MOST_PARTS" 30, .glo "judged", .glo "_law_cell_at", .glo "_law_copy", .glo "_law_into", .glo "_law_spoil", .glo "_law_door_right", .glo "_law_spaced_twice", .glo "_law_rows_one", .glo "law", .free "len", .free "isinstance", .free "all", .free "any", .free "range", .free "sorted", .free "set", .free "max", .free "min", .free "list", .free "enumerate", .free "zip", .free "int", .free "bool", .free "tuple", .free "str", .free "dict", .free "abs"]
abbrev R : PySem.W.OpenRow := PySem.W.OpenLaw.row PySem.Challenge.rw_songturns_k14_whole_handed
def ex : List (PySem.W.Frag → Bool) := [fun K => mkB K (He.ga K "Answer"), fun K => mkB K (He.ga K "Right"), fun K => isCB K (He.ga K "Evening"), fun K => decide (PySem.W.kitOne K (.ref (He.ga K "Evening")) (.ref (He.ga K "Right")) = some false), fun K => decide (PySem.W.kitOne K (.ref (He.ga K "Evening")) (.ref (He.ga K "Spaced")) = some false), fun K => isCB K (He.ga K "Answer"), fun K => decide (PySem.W.kitOne K (.ref (He.ga K "Answer")) (.ref (He.ga K "Right")) = some false), fun K => decide (PySem.W.kitOne K (.ref (He.ga K "Answer")) (.ref (He.ga K "Spaced")) = some false), fun K => isCB K (He.ga K "Right"), fun K => decide (PySem.W.kitOne K (.ref (He.ga K "Right")) (.ref (He.ga K "Right")) = some true), fun K => decide (PySem.W.kitOne K (.ref (He.ga K "Right")) (.ref (He.ga K "Spaced")) = some false), fun K => isCB K (He.ga K "Wrong"), fun K => decide (PySem.W.kitOne K (.ref (He.ga K "Wrong")) (.ref (He.ga K "Right")) = some false), fun K => decide (PySem.W.kitOne K (.ref (He.ga K "Wrong")) (.ref (He.ga K "Spaced")) = some false), fun K => isCB K (He.ga K "Spaced"), fun K => decide (PySem.W.kitOne K (.ref (He.ga K "Spaced")) (.ref (He.ga K "Right")) = some false), fun K => decide (PySem.W.kitOne K (.ref (He.ga K "Spaced")) (.ref (He.ga K "Spaced")) = some true), fun K => isCB K (He.ga K "Barred"), fun K => decide (PySem.W.kitOne K (.ref (He.ga K "Barred")) (.ref (He.ga K "Right")) = some false), fun K => decide (PySem.W.kitOne K (.ref (He.ga K "Barred")) (.ref (He.ga K "Spaced")) = some false), fun K => decide ((tf.map fun p => (He.cT K p).2).Nodup)]
abbrev hk : PySem.W.Hook := He.hookX 4 fa fn [] tf (exOk ex)
def ob (s : PySem.W.SharedT) : He.AlX := He.obsX 4 fa fn [] tf (exOk ex) (HandSHeadRun.getT s)
theorem ob_eq (s : PySem.W.SharedT) : ob s = hk.obs s.abs := He.obsX_eq (HandSHeadRun.getT_eq s)
def loose0 : List Str := ["_wall", "__name__", "counts_of", "bars", "barring", "least_between", "keeps", "turns_in", "order_for", "TurnError", "BadMany", "BadSingers", "BadSong", "BadTale", "BadSongs", "BadGap", "BadOrder", "TooMany", "MOST_SINGERS", "MOST_OF_SONG", "MOST_SONGS", "FEW", "is_whole", "are_numbers", "check_many", "are_singers", "check_songs", "check_groups", "floor_of", "round_for"]
def loose1 : List Str := ["in_turn", "Evening", "is_part", "first_wrong", "Answer", "Right", "Wrong", "Spaced", "Barred", "spaced", "least_gap", "widest", "all_orders", "widest_few", "MOST_PARTS", "judged", "_law_cell_at", "_law_copy", "_law_into", "_law_spoil", "_law_door_right", "_law_spaced_twice", "_law_rows_one"]
def loose : List Str := loose0 ++ loose1
theorem tx_of {K : PySem.W.Frag} {h : Heap} {mg : Str → Option Value} (X : K.In h) (G : h.Ns mainGlobals mg) (c : He.SaysD fa fn K) (c2 : exOk ex K = true) : Tx K mg :=
  ⟨He.glo_ok X G (c.fact 0 (f := .glo "counts_of") rfl),
   He.glo_ok X G (c.fact 1 (f := .glo "bars") rfl),
   He.glo_ok X G (c.fact 2 (f := .glo "barring") rfl),
   He.glo_ok X G (c.fact 3 (f := .glo "least_between") rfl),
   He.glo_ok X G (c.fact 4 (f := .glo "keeps") rfl),
   He.glo_ok X G (c.fact 5 (f := .glo "turns_in") rfl),
   He.glo_ok X G (c.fact 6 (f := .glo "order_for") rfl),
   He.glo_ok X G (c.fact 7 (f := .glo "TurnError") rfl),
   He.glo_ok X G (c.fact 8 (f := .glo "BadMany") rfl),
   He.glo_ok X G (c.fact 9 (f := .glo "BadSingers") rfl),
   He.glo_ok X G (c.fact 10 (f := .glo "BadSong") rfl),
   He.glo_ok X G (c.fact 11 (f := .glo "BadTale") rfl),
   He.glo_ok X G (c.fact 12 (f := .glo "BadSongs") rfl),
   He.glo_ok X G (c.fact 13 (f := .glo "BadGap") rfl),
   He.glo_ok X G (c.fact 14 (f := .glo "BadOrder") rfl),
   He.glo_ok X G (c.fact 15 (f := .glo "TooMany") rfl),
   He.int_ok X G (c.fact 16 (f := .int "MOST_SINGERS" 6) rfl),
   He.int_ok X G (c.fact 17 (f := .int "MOST_OF_SONG" 3) rfl),
   He.int_ok X G (c.fact 18 (f := .int "MOST_SONGS" 24) rfl),
   He.int_ok X G (c.fact 19 (f := .int "FEW" 5) rfl),
   He.glo_ok X G (c.fact 20 (f := .glo "is_whole") rfl),
   He.glo_ok X G (c.fact 21 (f := .glo "are_numbers") rfl),
   He.glo_ok X G (c.fact 22 (f := .glo "check_many") rfl),
   He.glo_ok X G (c.fact 23 (f := .glo "are_singers") rfl),
   He.glo_ok X G (c.fact 24 (f := .glo "check_songs") rfl),
   He.glo_ok X G (c.fact 25 (f := .glo "check_groups") rfl),
   He.glo_ok X G (c.fact 26 (f := .glo "floor_of") rfl),
   He.glo_ok X G (c.fact 27 (f := .glo "round_for") rfl),
   He.glo_ok X G (c.fact 28 (f := .glo "in_turn") rfl),
   He.glo_ok X G (c.fact 29 (f := .glo "Evening") rfl),
   He.cls_ok (c.fact 30 (f := .cls "Evening") rfl),
   He.mkr_ok (c.fact 31 (f := .mkr "Evening") rfl),
   He.meth_ok (c.fact 32 (f := .meth "Evening" "wish") rfl),
   He.meth_ok (c.fact 33 (f := .meth "Evening" "sing") rfl),
   He.meth_ok (c.fact 34 (f := .meth "Evening" "look_at") rfl),
   He.meth_ok (c.fact 35 (f := .meth "Evening" "withdraw") rfl),
   He.meth_ok (c.fact 36 (f := .meth "Evening" "waits") rfl),
   He.meth_ok (c.fact 37 (f := .meth "Evening" "tale") rfl),
   He.noat_ok (c.fact 38 (f := .noat "Evening" "came") rfl),
   He.noat_ok (c.fact 39 (f := .noat "Evening" "going") rfl),
   He.noat_ok (c.fact 40 (f := .noat "Evening" "last") rfl),
   He.noat_ok (c.fact 41 (f := .noat "Evening" "rounds") rfl),
   He.noat_ok (c.fact 42 (f := .noat "Evening" "waiting") rfl),
   He.glo_ok X G (c.fact 43 (f := .glo "is_part") rfl),
   He.glo_ok X G (c.fact 44 (f := .glo "first_wrong") rfl),
   He.glo_ok X G (c.fact 45 (f := .glo "Answer") rfl),
   He.cls_ok (c.fact 46 (f := .cls "Answer") rfl),
   He.glo_ok X G (c.fact 47 (f := .glo "Right") rfl),
   He.cls_ok (c.fact 48 (f := .cls "Right") rfl),
   He.meth_ok (c.fact 49 (f := .meth "Right" "shows") rfl),
   He.glo_ok X G (c.fact 50 (f := .glo "Wrong") rfl),
   He.cls_ok (c.fact 51 (f := .cls "Wrong") rfl),
   He.mkr_ok (c.fact 52 (f := .mkr "Wrong") rfl),
   He.meth_ok (c.fact 53 (f := .meth "Wrong" "shows") rfl),
   He.noat_ok (c.fact 54 (f := .noat "Wrong" "place") rfl),
   He.glo_ok X G (c.fact 55 (f := .glo "Spaced") rfl),
   He.cls_ok (c.fact 56 (f := .cls "Spaced") rfl),
   He.mkr_ok (c.fact 57 (f := .mkr "Spaced") rfl),
   He.meth_ok (c.fact 58 (f := .meth "Spaced" "shows") rfl),
   He.noat_ok (c.fact 59 (f := .noat "Spaced" "order") rfl),
   He.glo_ok X G (c.fact 60 (f := .glo "Barred") rfl),
   He.cls_ok (c.fact 61 (f := .cls "Barred") rfl),
   He.mkr_ok (c.fact 62 (f := .mkr "Barred") rfl),
   He.meth_ok (c.fact 63 (f := .meth "Barred" "shows") rfl),
   He.noat_ok (c.fact 64 (f := .noat "Barred" "singers") rfl),
   He.glo_ok X G (c.fact 65 (f := .glo "spaced") rfl),
   He.glo_ok X G (c.fact 66 (f := .glo "least_gap") rfl),
   He.glo_ok X G (c.fact 67 (f := .glo "widest") rfl),
   He.glo_ok X G (c.fact 68 (f := .glo "all_orders") rfl),
   He.glo_ok X G (c.fact 69 (f := .glo "widest_few") rfl),
   He.int_ok X G (c.fact 70 (f := .int "MOST_PARTS" 30) rfl),
   He.glo_ok X G (c.fact 71 (f := .glo "judged") rfl),
   He.glo_ok X G (c.fact 72 (f := .glo "_law_cell_at") rfl),
   He.glo_ok X G (c.fact 73 (f := .glo "_law_copy") rfl),
   He.glo_ok X G (c.fact 74 (f := .glo "_law_into") rfl),
   He.glo_ok X G (c.fact 75 (f := .glo "_law_spoil") rfl),
   He.glo_ok X G (c.fact 76 (f := .glo "_law_door_right") rfl),
   He.glo_ok X G (c.fact 77 (f := .glo "_law_spaced_twice") rfl),
   He.glo_ok X G (c.fact 78 (f := .glo "_law_rows_one") rfl),
   He.glo_ok X G (c.fact 79 (f := .glo "law") rfl),
   He.free_ok X G (c.fact 80 (f := .free "len") rfl),
   He.free_ok X G (c.fact 81 (f := .free "isinstance") rfl),
   He.free_ok X G (c.fact 82 (f := .free "all") rfl),
   He.free_ok X G (c.fact 83 (f := .free "any") rfl),
   He.free_ok X G (c.fact 84 (f := .free "range") rfl),
   He.free_ok X G (c.fact 85 (f := .free "sorted") rfl),
   He.free_ok X G (c.fact 86 (f := .free "set") rfl),
   He.free_ok X G (c.fact 87 (f := .free "max") rfl),
   He.free_ok X G (c.fact 88 (f := .free "min") rfl),
   He.free_ok X G (c.fact 89 (f := .free "list") rfl),
   He.free_ok X G (c.fact 90 (f := .free "enumerate") rfl),
   He.free_ok X G (c.fact 91 (f := .free "zip") rfl),
   He.free_ok X G (c.fact 92 (f := .free "int") rfl),
   He.free_ok X G (c.fact 93 (f := .free "bool") rfl),
   He.free_ok X G (c.fact 94 (f := .free "tuple") rfl),
   He.free_ok X G (c.fact 95 (f := .free "str") rfl),
   He.free_ok X G (c.fact 96 (f := .free "dict") rfl),
   He.free_ok X G (c.fact 97 (f := .free "abs") rfl),
   c.def_ 0 (d := d_counts_of) rfl,
   c.def_ 1 (d := d_bars) rfl,
   c.def_ 2 (d := d_barring) rfl,
   c.def_ 3 (d := d_least_between) rfl,
   c.def_ 4 (d := d_keeps) rfl,
   c.def_ 5 (d := d_turns_in) rfl,
   c.def_ 6 (d := d_order_for) rfl,
   c.def_ 7 (d := d_is_whole) rfl,
   c.def_ 8 (d := d_are_numbers) rfl,
   c.def_ 9 (d := d_check_many) rfl,
   c.def_ 10 (d := d_are_singers) rfl,
   c.def_ 11 (d := d_check_songs) rfl,
   c.def_ 12 (d := d_check_groups) rfl,
   c.def_ 13 (d := d_floor_of) rfl,
   c.def_ 14 (d := d_round_for) rfl,
   c.def_ 15 (d := d_in_turn) rfl,
   c.def_ 16 (d := d_Evening___init__) rfl,
   c.def_ 17 (d := d_Evening_wish) rfl,
   c.def_ 18 (d := d_Evening_sing) rfl,
   c.def_ 19 (d := d_Evening_look_at) rfl,
   c.def_ 20 (d := d_Evening_withdraw) rfl,
   c.def_ 21 (d := d_Evening_waits) rfl,
   c.def_ 22 (d := d_Evening_tale) rfl,
   c.def_ 23 (d := d_is_part) rfl,
   c.def_ 24 (d := d_first_wrong) rfl,
   c.def_ 25 (d := d_Right_shows) rfl,
   c.def_ 26 (d := d_Wrong___init__) rfl,
   c.def_ 27 (d := d_Wrong_shows) rfl,
   c.def_ 28 (d := d_Spaced___init__) rfl,
   c.def_ 29 (d := d_Spaced_shows) rfl,
   c.def_ 30 (d := d_Barred___init__) rfl,
   c.def_ 31 (d := d_Barred_shows) rfl,
   c.def_ 32 (d := d_spaced) rfl,
   c.def_ 33 (d := d_least_gap) rfl,
   c.def_ 34 (d := d_widest) rfl,
   c.def_ 35 (d := d_all_orders) rfl,
   c.def_ 36 (d := d_widest_few) rfl,
   c.def_ 37 (d := d_judged) rfl,
   c.def_ 38 (d := d__law_cell_at) rfl,
   c.def_ 39 (d := d__law_copy) rfl,
   c.def_ 40 (d := d__law_into) rfl,
   c.def_ 41 (d := d__law_spoil) rfl,
   c.def_ 42 (d := d__law_door_right) rfl,
   c.def_ 43 (d := d__law_spaced_twice) rfl,
   c.def_ 44 (d := d__law_rows_one) rfl,
   c.def_ 45 (d := d_law) rfl,
   mkB_ok (exAll 0 c2 rfl),
   mkB_ok (exAll 1 c2 rfl),
   isCB_ok (exAll 2 c2 rfl),
   of_decide_eq_true (exAll 3 c2 rfl),
   of_decide_eq_true (exAll 4 c2 rfl),
   isCB_ok (exAll 5 c2 rfl),
   of_decide_eq_true (exAll 6 c2 rfl),
   of_decide_eq_true (exAll 7 c2 rfl),
   isCB_ok (exAll 8 c2 rfl),
   of_decide_eq_true (exAll 9 c2 rfl),
   of_decide_eq_true (exAll 10 c2 rfl),
   isCB_ok (exAll 11 c2 rfl),
   of_decide_eq_true (exAll 12 c2 rfl),
   of_decide_eq_true (exAll 13 c2 rfl),
   isCB_ok (exAll 14 c2 rfl),
   of_decide_eq_true (exAll 15 c2 rfl),
   of_decide_eq_true (exAll 16 c2 rfl),
   isCB_ok (exAll 17 c2 rfl),
   of_decide_eq_true (exAll 18 c2 rfl),
   of_decide_eq_true (exAll 19 c2 rfl),
   of_decide_eq_true (exAll 20 c2 rfl)⟩
theorem run (w : World) : HandSHeadRun.RunEq R (PySem.W.view R.prog [62]) hk ob 6000 loose w := by
  intro os
  kernel_rfl
end Song

/-! ### EndT: the law's call with tables, the head -/
namespace Song
open PySem L2
theorem factsT {l : PySem.W.OpenLaw} {w : World} {K : PySem.W.Frag} {h : Heap} {mg : Str → Option Value} {f : Addr} (X : K.In h) (G : h.Ns mainGlobals mg) (hfa : mg ("law" : Str) = some (.ref f)) (c : He.SaysX fa fn [] tf (exOk ex) w h K) :
    LamX.LawAtS l w K CX0 18 63 "_law_script" mg f h := by
  have T := tx_of X G c.t.d c.more
  obtain ⟨fd, F⟩ := T.d_law
  have e : He.ga K "law" = f := by
    have z := T.g_law.symm.trans hfa
    injection z with z; injection z
  subst e
  have b := FunD.bindsA (ps := ["_law_script"]) F fun _ _ _ _ _ _ us hl => match us, hl with | [_], _ => rfl
  refine ⟨fd, tf.map (He.cT K), spLawT K, fun p hp => ?_, fun p hp => ?_, fun p hp => ?_, fun s v => b s [v] rfl, fun H a ns hl hz hT hS => ?_, fun base _ _ TB => ?_⟩
  · obtain ⟨q, hq, rfl⟩ := List.mem_map.mp hp
    exact c.empty q hq
  · obtain ⟨q, hq, rfl⟩ := List.mem_map.mp hp
    exact c.out q hq
  · obtain ⟨q, hq, rfl⟩ := List.mem_map.mp hp
    exact PySem.W.codeHd_of_K X (c.hd q hq)
  · refine ⟨a, ns, rfl, hS, ⟨hl, fun z hm => Bits.of_int (hz z hm)⟩, fun p hp => ?_, fun _ => rfl⟩
    obtain ⟨q, hq, rfl⟩ := List.mem_map.mp hp
    exact LamX.TabS.nil (hT _ (List.mem_map.mpr ⟨q, hq, rfl⟩))
  · exact ok_law0 (P := l.prog) (w := w) (base := base) T (fun p hp => TB _ (List.mem_map.mpr ⟨p, hp, rfl⟩)) F
end Song
open PySem PySem.W PySem.Calls PyProof.Rows
set_option maxHeartbeats 0 in
theorem PySem.Challenge.cw_songturns_k14_whole_handed_holds : PySem.Challenge.rw_songturns_k14_whole_handed.Holds := by
  w_on; o_law
  refine HandSHeadRun.head_any (r := OpenLaw.row PySem.Challenge.rw_songturns_k14_whole_handed) (q := view (OpenLaw.row PySem.Challenge.rw_songturns_k14_whole_handed).prog [62]) (H := Song.hk) (ob := Song.ob) (M := 6000) (loose := Song.loose) (d := HandSHeadRun.topDef (OpenLaw.row PySem.Challenge.rw_songturns_k14_whole_handed).prog 62) (kwd := []) Song.ob_eq
    (by kernel_rfl) (fun s => by kernel_rfl) Song.run (by kernel_rfl) (by kernel_rfl) (by kernel_rfl) (by rfl) (by first | assumption | decide +kernel) (by decide +kernel) ⟨rfl, rfl, rfl, rfl, rfl, by decide +kernel⟩ ?hw ?hc
  case hw => w_witness2
  case hc =>
    refine LamX.walk_ofTsE (l := PySem.Challenge.rw_songturns_k14_whole_handed) (n := 63) (k := 18) (x := "_law_script") (CX := fun _ => L2.CX0) rfl (by decide) (by kernel_rfl) ⟨rfl, by decide, by decide⟩ ?F (fun _ _ _ _ _ z => z)
    intro w mg fa h Y G hmg0
    obtain ⟨K, KX, c⟩ := Y
    have hmg : mg ("law" : PySem.Str) = some (.ref fa) := by
      have e : (HandSHeadRun.topDef (OpenLaw.row PySem.Challenge.rw_songturns_k14_whole_handed).prog 62).name = ("law" : PySem.Str) := by kernel_rfl
      rw [← e]
      exact hmg0
    exact ⟨K, KX, Song.factsT (l := PySem.Challenge.rw_songturns_k14_whole_handed) (w := w) KX G hmg c⟩
#print axioms PySem.Challenge.cw_songturns_k14_whole_handed_holds
